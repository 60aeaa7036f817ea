import PyProof.Rows.All
import Wide.All
import OpenK.AllK
import Wide.FinOn
import HandS.ForMost
import HandS.Exc
import HandS.ExcInit
import HandS.DictComp
import HandS.IsInst
import HandS.Wide
import KE.GoesEnum
import HandS.TryOnly
import HandS.TryMany
import HandS.ExcOwn
import HandS.ExcIs
import HandS.ExcField
import HandS.CallSlots
import HandS.WordsExc
import KE.KExcIs
import HandS.TupAny
import HandS.Property
import OpenK.KMeth
import HandS.Deep
import HandS.Style
import HandS.More
import HandS.TupLen
import KE.KDictPairs
import HandS.Star
import HandS.Conv
import HandS.MakeKwOnly
import HandS.IterVal
import HandS.OwnEq
import HandS.Lambda
import OpenK.KOps
import KE.KOwnIter
import PyProof.InstNe
import HandS.DictTup
import HandS.SortRule
import HandS.SortInts
import HandS.RaiseMore
import HandS.Iter
import HandS.TupLe
import HandS.Defaults
import HandS.Ends
import PyProof.RowDictHeap
import PyProof.WalksMore
import PyProof.SumWalkG
import PyProof.Rows.SumGenD
import PySem.Challenge.RW_ownmarks_k82_clashes
import PyProof.ReprBulk
set_option Elab.async false
set_option linter.all false
set_option maxRecDepth 100000
set_option maxHeartbeats 4000000
/-! rules of our own, over the hand layer -/
namespace L2
open PySem PySem.Spec PyProof.Rows

/-! ### either of two rules -/
theorem pe_or2 {X : Cx} {e : Expr} {t u : TE} (h1 : PE X e t) (h2 : PE X e u) : PE X e (fun σ H Q => t σ H Q ∨ u σ H Q) :=
  ⟨fun pins s σ H Q I h => h.elim (h1.run pins s σ H Q I) (h2.run pins s σ H Q I)⟩
theorem pi_or2 {X : Cx} {tg it : Expr} {t u : TI} (h1 : PI X tg it t) (h2 : PI X tg it u) : PI X tg it (fun σ H Q => t σ H Q ∨ u σ H Q) :=
  ⟨fun pins s σ H Q I h => h.elim (h1.run pins s σ H Q I) (h2.run pins s σ H Q I)⟩
theorem OpR.or2 {X : Cx} {f : Value → Value → Sem Value} {r r' : R2} (h : OpR X f r) (h' : OpR X f r') : OpR X f (fun x y H Q => r x y H Q ∨ r' x y H Q) :=
  fun pins s σ H x y v u Q I rx ry q => q.elim (h pins s σ H x y v u Q I rx ry) (h' pins s σ H x y v u Q I rx ry)
theorem CallR.or2 {X : Cx} {f : Value} {r r' : List V → Hp → VK → Prop} (h : CallR X f r) (h' : CallR X f r') : CallR X f (fun xs H Q => r xs H Q ∨ r' xs H Q) :=
  fun pins s σ H xs us Q I rx q => q.elim (h pins s σ H xs us Q I rx) (h' pins s σ H xs us Q I rx)

/-! ### enumerate(v) of what begins -/
/-- the object that counts, over the iterator at it -/
def counter (it : Addr) : Obj := { cls := .type "enumerate", data := .fields #[.none, .bool false, .ref it, rawInt 0, .none, .none] }
def withCounter (h : Heap) (o : Obj) : Heap := (h.push o).push (counter h.objs.size)
theorem withCounter_keeps {h : Heap} {o : Obj} : ∀ b u, h.get? b = some u → (withCounter h o).get? b = some u := fun _ _ k => Heap.get?_push_of_some _ (Heap.get?_push_of_some _ k)
theorem withCounter_enum {h : Heap} {o : Obj} : IsEnum (withCounter h o) (h.objs.size + 1) h.objs.size 0 .none := by
  have last := Heap.get?_push_size (h.push o) (o := counter h.objs.size) rfl
  rwa [Heap.size_push] at last
theorem withCounter_iter {h : Heap} {o : Obj} (f : o.isFreed = false) : (withCounter h o).get? h.objs.size = some o := Heap.get?_push_of_some _ (Heap.get?_push_size _ f)
theorem counts_new {v : Value} {o : Obj} {Hd : Heap → Prop} (B : Begins v o Hd) :
    Meets (Builtin.«enumerate.__new__» ⟨[.type "enumerate", v], []⟩) (fun _ R s => Hd s.heap ∧ R (.ok (.ret (.ref (s.heap.push o).objs.size))) { s with heap := withCounter s.heap o }) := by
  refine .of_wp fun P W A0 R0 s0 hyp => ?_
  cases s0
  rename_i h0 g0 d0 t0 os0
  have known := sub_enumerate
  have begun : ∀ {A1 : Around} {E1 : Value → Shared → Prop} {Q1 : Value → Shared → Prop}, Q1 (.ref h0.objs.size) ⟨h0.push o, g0, d0, t0, os0⟩ → wpAny (model P W) A1 (pyIter v) Q1 E1 ⟨h0, g0, d0, t0, os0⟩ :=
    fun {A1 E1 Q1} q => B.iter P W A1 E1 _ Q1 hyp.1 q
  wp_walk using begun
  refine wpAny_stack_any fun _ => wpAny_pure ?_
  split
  · rename_i cl _ _ _ _ _
    by_cases e : (cl == Value.type "enumerate") = true
    · rw [e]
      wp_walk using begun
      exact ⟨_, rfl, hyp.2⟩
    · rw [Bool.not_eq_true] at e
      rw [e]
      wp_walk using begun
      exact ⟨_, rfl, hyp.2⟩
  · wp_walk using begun
    exact ⟨_, rfl, hyp.2⟩
theorem counts_call {P : Program} {W : World} {A : Around} {E : Value → Shared → Prop} {s : Shared} {v : Value} {o : Obj} {Hd : Heap → Prop} {Q : Value → Shared → Prop} (B : Begins v o Hd) (there : Hd s.heap)
    (k : Q (.ref (s.heap.objs.size + 1)) { s with heap := withCounter s.heap o }) : wpAny (model P W) A (call (.type "enumerate") [v]) Q E s := by
  have top : (s.heap.push o).objs.size = s.heap.objs.size + 1 := Heap.size_push ..
  refine callType_new F.called_enumerate (by decide) (F.typeCall_enumerate_1 v) (F.newCall_enumerate_1 v) (fun x => F.args_object_init_2 x v) F.entry_enumerate_new (counts_new B) ⟨there, ?_⟩
  rw [top]
  exact ⟨⟨_, withCounter_enum, rfl⟩, k⟩

/-! ### a walk by enumerate over a tuple -/
def Itet (K : PySem.W.Frag) (a : Addr) : It :=
  ⟨fun i H => ∃ (xs : List V) (x : V), SqT K H a xs ∧ xs[i]? = some x, fun i H v H' => ∃ T x, v = .ref T ∧ H T = none ∧ H' = upd H T (.tup [.int (i : Nat), x]) ∧ ∀ xs, SqT K H a xs → xs[i]? = some x, fun i H => ∃ xs : List V, SqT K H a xs ∧ xs.length = i⟩
/-- behind i items: the counter at e, the iterator at it, the tuple at a -/
structure Counting (a e it : Addr) (i : Nat) (h : Heap) : Prop where
  cnt : ∃ old, IsEnum h e it (i : Int) old
  itr : h.IsTupleIter it a i
  ne : e ≠ it
theorem Counting.obj {a e it : Addr} {i : Nat} {h : Heap} (c : Counting a e it i h) : ∀ b, b ∈ [e, it] → ∃ o, h.get? b = some o ∧ ∀ v, o.data ≠ .cell v := by
  intro b hb
  rcases List.mem_cons.mp hb with rfl | hb
  · exact c.cnt.elim fun _ k => ⟨_, k, fun _ z => by cases z⟩
  · cases List.mem_singleton.mp hb
    obtain ⟨o, k, _, dt⟩ := c.itr
    exact ⟨o, k, fun _ z => by cases dt.symm.trans z⟩
theorem Counting.keep {a e it : Addr} {i : Nat} {h h' : Heap} (c : Counting a e it i h) (k : ∀ b, b ∈ [e, it] → ∀ o, h.get? b = some o → h'.get? b = some o) : Counting a e it i h' :=
  ⟨c.cnt.elim fun old z => ⟨old, k e List.mem_cons_self _ z⟩, c.itr.at (k it (List.mem_cons_of_mem _ List.mem_cons_self)), c.ne⟩
section
variable {X : Cx} {a e it : Addr} {i : Nat} {pins : List (Addr × Obj)} {s : Shared} {σ : St} {H : Hp} {E : Value → Shared → Prop}
theorem counting_item {elts : List Expr} {kk : Nat} {tpos : Pos} (hae : a ≠ e) (hai : a ≠ it) (calm : X.calm = true) (I : Inv X pins σ H s) (free : ∀ b, b ∈ [e, it] → FpOk X pins H b) (c : Counting a e it i s.heap) (go : (Itet X.K a).go i H) :
    wpAny (model X.prog X.w) X.A (pyNext (.ref e)) (fun r s1 => ∃ u, r = some u ∧ wpAny (model X.prog X.w) X.A (letOwnedTupleGo (.Tuple elts kk tpos) (.ref e) u)
      (fun _ s2 => ∃ x H', Inv X pins σ H' s2 ∧ RelV x u ∧ (Itet X.K a).yld i H x H' ∧ Counting a e it (i + 1) s2.heap ∧ ∀ b, b ∈ [e, it] → H' b = none) E s1) E s := by
  obtain ⟨xs, x, seq, at_⟩ := go
  obtain ⟨vals, same, tup, _⟩ := I.tuple seq
  obtain ⟨w, hw, rw'⟩ := same.get at_
  obtain ⟨old, cnt⟩ := c.cnt
  have inside : i < vals.toArray.size := by simpa using (List.getElem?_eq_some_iff.mp hw).1
  have apart : e ∉ [it, a] := fun z => (List.mem_cons.mp z).elim c.ne fun z => hae (List.mem_singleton.mp z).symm
  refine wpAny_pyNext_enum_itemD (Draws.tuple (prog := X.prog) (w := X.w) (A := X.A.in1) (I.ok.hd calm) it a hai vals.toArray) cnt ⟨c.itr, tup⟩ inside c.ne apart fun y h1 tk drawn out left pair size kept => ?_
  obtain rfl : w = y := Option.some.inj ((show vals.toArray[i]? = some w by simpa using hw).symm.trans drawn)
  refine ⟨_, rfl, wpAny_letOwnedTupleGo_enum (s := { s with heap := h1, toks := tk + 1 }) out fun h2 cnt2 but => ?_⟩
  have low : ∀ b, b ∈ [e, it] → b < s.heap.objs.size := fun b hb => let ⟨_, k, _⟩ := c.obj b hb; Heap.lt_size k
  have pair2 : h2.get? s.heap.objs.size = some { cls := .type "tuple", data := .seq #[.int i tk, w] } := (but.2 _ (Nat.ne_of_gt (low e List.mem_cons_self))).trans pair
  refine ⟨.ref s.heap.objs.size, _, I.turnedNew (ob := .tup [.int (i : Nat), x]) (ch := [e, it]) (fun b o out k => ?_) free (Nat.le_refl _) ⟨(show 2 ≤ sizeLine by decide), [.int i tk, w], .cons ⟨tk, rfl⟩ (.cons rw' .nil), _, pair2, rfl, _, rfl⟩, rfl,
    ⟨_, x, rfl, I.hok.fresh (Nat.le_refl _), rfl, fun ys other => I.tuple_inj seq other ▸ at_⟩, ⟨⟨w, by simpa using cnt2⟩, left.1.at fun o k => (but.2 it c.ne.symm).trans k, c.ne⟩, fun b hb => ?_⟩
  · have be : b ≠ e := fun z => out (z ▸ List.mem_cons_self)
    have bi : b ≠ it := fun z => out (z ▸ List.mem_cons_of_mem _ List.mem_cons_self)
    exact (but.2 b be).trans (kept b o be bi k)
  · rw [upd_ne (Nat.ne_of_lt (low b hb))]
    exact (free b hb).1
theorem counting_done (hai : a ≠ it) (calm : X.calm = true) (I : Inv X pins σ H s) (free : ∀ b, b ∈ [e, it] → FpOk X pins H b) (c : Counting a e it i s.heap) (stop : (Itet X.K a).stop i H) :
    wpAny (model X.prog X.w) X.A (pyNext (.ref e)) (fun r s1 => r = none ∧ Inv X pins σ H s1) E s := by
  obtain ⟨xs, seq, size⟩ := stop
  obtain ⟨vals, same, tup, _⟩ := I.tuple seq
  obtain ⟨old, cnt⟩ := c.cnt
  have all : vals.toArray.size = i := by rw [List.size_toArray, ← same.length, size]
  refine wpAny_pyNext_enum_endD (Draws.tuple (prog := X.prog) (w := X.w) (A := X.A.in1) (I.ok.hd calm) it a hai vals.toArray) cnt ⟨all ▸ c.itr, tup⟩ fun h1 ext => ⟨rfl, ?_⟩
  have f := free it (List.mem_cons_of_mem _ List.mem_cons_self)
  exact I.turned (t' := s.toks) ext f.1 f.2.1 f.2.2.2.1 f.2.2.2.2.1 f.2.2.2.2.2
end
theorem turn_count {P : Program} {w : World} {K : PySem.W.Frag} {elts : List Expr} {kk : Nat} {tpos : Pos} {a e it : Addr} (hae : a ≠ e) (hai : a ≠ it) : Turn P w K (.Tuple elts kk tpos) (Itet K a) [e, it] e (Counting a e it) where
  mem := List.mem_cons_self
  obj := fun _ _ c => c.obj
  keep := fun _ _ _ c k => c.keep k
  item := by
    rintro X rfl rfl rfl calm i pins s σ H E I free c go
    exact counting_item hae hai calm I free c go
  done := by
    rintro X rfl rfl rfl calm i pins s σ H E I free c stop
    exact counting_done hai calm I free c stop
  self := fun _ _ _ _ _ c k => c.cnt.elim fun _ z => wpAny_pyIter_enum z k
def iEnumT (K : PySem.W.Frag) (ta : TA) : TI := fun σ H R => ta σ H fun vs H1 => ∃ a xs, vs = [.ref a] ∧ SqT K H1 a xs ∧ R (Itet K a) H1
theorem pi_enumT {X : Cx} {e : Expr} {ta : TA} {p pos tpos : Pos} {elts : List Expr} {kk : Nat} (hg : Gl X "enumerate") (hm : X.mg "enumerate" = none) (ha : PA X [e] ta) (hs : starEach [e] X.env = [(false, eval e X.env)] := by rfl) :
    PI X (.Tuple elts kk tpos) (.Call (.Name "enumerate" p) [e] [] pos) (iEnumT X.K ta) := ⟨fun pins s σ H R I h =>
  Call_ (ld_blt I hg hm boot_enumerate (PyProof.Rows.callWith_type1 (thn (ha.run pos pins s σ H _ I h) fun us s1 got => by
    obtain ⟨vs, H1, I1, same, a, xs, rfl, seq, q⟩ := got
    obtain ⟨u, rfl, ru⟩ := vals1 same
    cases ru
    obtain ⟨vals, _, tup, _⟩ := I1.tuple seq
    have low : a < s1.heap.objs.size := let ⟨_, k, _⟩ := tup; Heap.lt_size k
    refine counts_call (begins_tuple a vals.toArray) tup (wpAny_pyIter_enum withCounter_enum ?_)
    have new : ∀ b, b ∈ [s1.heap.objs.size + 1, s1.heap.objs.size] → s1.heap.objs.size ≤ b := fun b hb => by
      rcases List.mem_cons.mp hb with rfl | hb
      · exact Nat.le_succ _
      · exact Nat.le_of_eq (List.mem_singleton.mp hb).symm
    exact ⟨_, [s1.heap.objs.size + 1, s1.heap.objs.size], Counting a _ _, Itet X.K a, H1, rfl, I1.kept (t' := s1.toks) withCounter_keeps, turn_count (Nat.ne_of_lt (Nat.lt_succ_of_lt low)) (Nat.ne_of_lt low),
      ⟨⟨_, withCounter_enum⟩, ⟨_, withCounter_iter rfl, rfl, rfl⟩, Nat.succ_ne_self _⟩, fun b hb => I1.fpOk (new b hb) (I1.hok.fresh (new b hb)), q⟩) hs rfl))⟩

/-! ### M.__init__(self, ..), M an own class over ValueError without one of its own -/
structure OInitC (K : PySem.W.Frag) (mg : Str → Option Value) (x : Str) (M : Addr) : Prop where
  gM : mg x = some (.ref M)
  hg : PySem.W.specialIn K (.ref M) "__getattribute__" = some (some (.builtin "type.__getattribute__"))
  hr : PySem.W.readsIn K M (.type "type") = true
  hf : PySem.W.findCls K (.ref M) (.type "type") "__init__" = some (.val (.builtin "ValueError.__init__"))
theorem pe_moinit {X : Cx} {x : Str} {M : Addr} {e : Expr} {es : List Expr} {ta : TA} {p1 p2 pos : Pos} {pl : Sem Bool} (T : OInitC X.K X.mg x M) (hg : Gl X x) (ha : PA X (e :: es) ta)
    (text : eval (.Call (.Attribute (.Name x p1) "__init__" p2) (e :: es) [] pos) X.env = (do
      let c ← eval (.Name x p1) X.env
      standAt p2.atName
      let (g, before) ← holding [c] (getMethod c "__init__" pl)
      callWith pos g before (backTo pos (starEach (e :: es) X.env)) (backToKw pos (keywordEach [] X.env))) := by rfl)
    (name : (x == ("__debug__" : Str)) = false := by decide) (one : starEach (e :: es) X.env = (false, eval e X.env) :: starEach es X.env := by rfl) (rest : (backTo pos (starEach es X.env)).any (·.1) = false := by rfl) :
    PE X (.Call (.Attribute (.Name x p1) "__init__" p2) (e :: es) [] pos) (tVeI X.K ta) := ⟨fun pins s σ H Q I h => by
  have args : wpAny (model X.prog X.w) X.A (callWith pos (Value.builtin "ValueError.__init__") [] (backTo pos (starEach (e :: es) X.env)) (backToKw pos (keywordEach [] X.env))) (EP X pins σ Q) X.xe { s with toks := s.toks + 1 } := by
    refine PyProof.Rows.callWith_method1 (thn (ha.run pos pins _ σ H _ (I.tok _) h) fun us s1 got => ?_) one rest
    obtain ⟨vs, H1, I1, same, a, C, more, rfl, few, ox, at_, q⟩ := got
    cases same with
    | cons first others =>
      cases first
      have := others.length
      exact oinit_ok ox I1 at_ (by rw [sizeLine_eq]; omega) fun s2 J => ⟨.non, H1, J, rfl, q⟩
  exact PySem.W.methodCall_KW (ld_glob I hg T.gM (PySem.W.method_cls I.kIn T.hg (PySem.W.cls_value I.kIn T.hr T.hf (by decide +kernel) args)) name) text⟩
end L2


namespace L2
open PySem PySem.Spec PyProof.Rows
/-- isinstance(e, c), e the caught exception at a that has an own dict -/
def rIsX (K : PySem.W.Frag) (a : Addr) (cls : Value) (d : Option Addr) : List V → Hp → VK → Prop := fun xs H Q => ∃ (D : Addr) (c : V) (cv : Value) (b : Bool) (dd : Addr) (fs : List (Str × V)), xs = [.ref a, c] ∧ cls = .ref D ∧ ExcC K D ∧ d = some dd ∧ H dd = some (.xd fs) ∧ (∀ u, RelV c u → u = cv) ∧ PySem.W.kitOne K (.ref D) cv = some b ∧ Q (.bl b) H
theorem call_isX {X : Cx} {a : Addr} {oe : Obj} {cls : Value} {d : Option Addr} {pn : List (Addr × Obj)} (hz : Zc cls d oe) (hf : ∃ vs, oe.data = .fields vs) : CallR (X.suite a ((a, oe) :: pn)) (.builtin "isinstance") (rIsX X.K a cls d) := by
  rintro pins s σ H _ us Q I same ⟨D, c, cv, b, dd, fs, rfl, rfl, C, rfl, ed, known, answer, q⟩
  obtain ⟨u1, u2, rfl, r1, r2⟩ := vals2 same
  cases r1
  obtain rfl := known u2 r2
  have there := (I.pin (a, oe) (List.mem_append_left _ List.mem_cons_self)).1
  obtain ⟨vs, fields⟩ := hf
  obtain ⟨mA, ns, _⟩ := (show ObjOk X.prog X.w H s.heap dd (.xd fs) from I.hok dd _ ed)
  obtain ⟨od, es, ep, hod, _⟩ := ns
  have inst : PySem.W.InstAt s.heap a oe D (some od) := ⟨there, hz.1, by unfold PySem.W.notCls; rw [fields], by rw [hz.2]; exact hod⟩
  have isClass : (PySem.W.clsIn X.K D).isSome = true := by
    obtain ⟨cd, k, _⟩ := PySem.W.any_some C.hd
    rw [k]
    rfl
  exact PySem.W.kia_one (PySem.W.kitx_exc isClass C.hg C.hk C.hs C.ha C.hn C.ht C.hm) I.kIn inst answer (fun z => by cases z) fun tk => ⟨.bl b, H, I.kept (t' := tk) (fun _ _ k => k), rfl, q⟩

/-! ### C(..) where what is raised is wished for at the caller's slots -/
section
variable {X : Cx} {k : Nat} {f C : Addr} {fd : FuncData} {ps : List Str} {sp : Sp} {E : St → XK} {x : Str} {p pos : Pos} {e : Expr} {es : List Expr} {t : TA}
/-- what is asked of the heap in which the arguments stand: for every new instance, with its own dict, the promise of __init__ -/
def MakeWish (C : Addr) (sp : Sp) (vs : List V) (H : Hp) (Q : VK) (out : XK) : Prop := ∀ o dx, H o = none → H dx = none → dx ≠ o → sp (.ref o :: vs) (upd (upd H dx (.own o)) o (.ins C dx [])) (fun v H2 => v = .non ∧ Q (.ref o) H2) out
theorem made_call {pins : List (Addr × Obj)} {σ : St} {H : Hp} {s : Shared} {Q : VK} {us : List Value} {vs : List V} (M : Mk X.K C f) (F : FnOk X.prog X.w X.K X.mg X.base (L2.CX X.prog X.w) k f fd ps sp) (room : Room (k + 1) X.A) (bd : Binds X.K fd ps [])
    (out : PassesAt (L2.CX X.prog X.w) X σ (E σ)) (I : Inv X pins σ H s) (args : Vals vs us) (wish : MakeWish C sp vs H Q (E σ)) : wpAny (model X.prog X.w) X.A (call (.ref C) us) (EP X pins σ Q) X.xe s := by
  generalize hn : s.heap.objs.size = n at *
  have freeAt : ∀ a, n ≤ a → H a = none := fun a h => I.hok.fresh (hn ▸ h)
  have J := Inv.made (C := C) I
  rw [hn] at J
  have goal := wish (n + 1) n (freeAt _ (Nat.le_succ n)) (freeAt _ (Nat.le_refl n)) (Nat.ne_of_lt (Nat.lt_succ_self n))
  have all : Vals (.ref (n + 1) :: vs) (.ref (n + 1) :: us) := .cons rfl args
  have bound := bd _ (.ref (n + 1) :: us) J.kIn (by rw [List.append_nil, ← all.length]; exact F.len _ _ _ _ goal)
  rw [List.append_nil] at bound
  have body := F.run (X.A.under (.builtin "type.__call__" ⟨.ref C :: us, []⟩)) X.stack _ _ ⟨.ref (n + 1) :: us, []⟩ _ _ _ (E σ) (room.make C us []) (J.env0.make C us []) bound all goal
  refine wpAny_call (make_map I.kIn M.makes M.init (beq_iff_eq.mp M.fn) ?_)
  rw [hn]
  refine codeAny_mono body fun r s' h => ?_
  match r, h with
  | .error er, h => exact out pins _ _ er s' J h
  | .ok (.ret u), h =>
    obtain ⟨v, H', K', same, rfl, q⟩ := J.after h
    exact ⟨same, .ref (n + 1), H', K', rfl, q⟩
def tMakeS (C : Addr) (sp : Sp) (E : St → XK) (t : TA) : TE := fun σ H Q => t σ H fun vs H1 => MakeWish C sp vs H1 Q (E σ)
theorem pe_makeS (M : Mk X.K C f) (F : FnOk X.prog X.w X.K X.mg X.base (L2.CX X.prog X.w) k f fd ps sp) (room : Room (k + 1) X.A) (hg : Gl X x) (hm : X.mg x = some (.ref C)) (bd : Binds X.K fd ps []) (out : ∀ σ, PassesAt (L2.CX X.prog X.w) X σ (E σ))
    (ha : PA X (e :: es) t) (name : (x == ("__debug__" : Str)) = false := by decide) (one : starEach (e :: es) X.env = (false, eval e X.env) :: starEach es X.env := by rfl) (rest : (backTo pos (starEach es X.env)).any (·.1) = false := by rfl) :
    PE X (.Call (.Name x p) (e :: es) [] pos) (tMakeS C sp E t) := ⟨fun pins s σ H Q I h =>
  wpAny_Call_Name_kw (ld_glob I hg hm (PySem.W.callWith_K (h₀ := X.base) I.ok.mod.kin M.kp (thn (ha.run pos pins s σ H _ I h) fun us s1 ⟨vs, H1, J, same, wish⟩ => ⟨J.kIn, made_call M F room bd (out σ) J same wish⟩) one rest) name)⟩
end

/-! ### raise X(y), X an own error that keeps its one field f -/
/-- the promise of its __init__ -/
def spXI (f : Str) (K : PySem.W.Frag) (C : Addr) : Sp := fun vs H Q _ => ∃ (a : Addr) (y : V), vs = [.ref a, y] ∧ H a = some (exo a C none) ∧ ∀ dx, H dx = none → dx ≠ a → Q .non (upd (upd H dx (exd dx [(f, y)])) a (exo a C (some dx)))
theorem mkO_k {f : Str} {K : PySem.W.Frag} {C : Addr} {y : V} {H1 : Hp} {Q : XK} (k : ∀ (d : Addr) (H' : Hp), H1 d = none → Same H1 H' → H' d = some (.xd [(f, y)]) → Q (.ref C) (some d) H') :
    [y].length ≤ 1000 ∧ ∀ a, H1 a = none → spXI f K C (.ref a :: ([y] ++ [])) (upd H1 a (exo a C none))
      (fun v H2 => v = .non ∧ ∃ (d : Addr) (fs : List (Str × V)), H2 a = some (exo a C (some d)) ∧ H2 d = some (exd d fs) ∧ H1 d = none ∧ Q (.ref C) (some d) (upd (del H2 a) d (.xd fs))) (fun _ _ _ => False) := by
  refine ⟨(by show 1 ≤ 1000; decide), fun a ha => ⟨a, y, rfl, upd_same, fun dx hdx hne => ⟨rfl, dx, [(f, y)], upd_same, ?_, ?_, ?_⟩⟩⟩
  · rw [upd_ne hne, upd_same]
  · rw [upd_ne hne] at hdx
    exact hdx
  · have hdx' : H1 dx = none := by
      rw [upd_ne hne] at hdx
      exact hdx
    refine k dx _ hdx' (fun b o e => ?_) upd_same
    have hbd : b ≠ dx := ne_of_none e hdx'
    have hba : b ≠ a := ne_of_none e ha
    rw [upd_ne hbd, del_ne hba, upd_ne hba, upd_ne hbd, upd_ne hba]
    exact e
end L2


/-! The M layer: pure data D, a store of cells, mirrors as shallow functions, one soundness lemma a construct. -/
namespace M
open PySem PySem.Spec PyProof.Rows L2

/-! ### data -/
inductive Tag where
  | non | bl | int | str | lst | tup | dic
  deriving DecidableEq
def Tag.name : Tag → String
  | .non => "NoneType" | .bl => "bool" | .int => "int" | .str => "str" | .lst => "list" | .tup => "tuple" | .dic => "dict"
inductive D where
  | non | bl (b : Bool) | int (i : Int) | str (x : Str) | ty (n : Tag)
  | lst (xs : List D) | tup (xs : List D) | ro (xs : List D)
  | dK (kvs : List (Key × D)) | dT (kvs : List (List Key × D))
  | obj (c : Nat) (fs : List (Str × D))
  | ptr (a : Addr) | cls (c : Nat) | ref (i : Nat)
inductive Cell where
  | lst (xs : List D) | dK (kvs : List (Key × D)) | dT (kvs : List (List Key × D)) | ins (c : Nat) (fs : List (Str × D)) | dead
abbrev Store := List Cell
/-- c: the live cells' addresses by index; h: what is hidden (a comprehension's list while it grows) -/
structure Lv where
  c : List (Option Addr)
  h : List Addr
def Dic (o : HO) : Prop := (∃ kvs, o = .dK kvs) ∨ ∃ kvs, o = .dT kvs
/-- what was there stays; a dict may be frozen -/
def Rl (H H' : Hp) : Prop := ∀ a o, H a = some o → H' a = some o ∨ (Dic o ∧ ∃ ob, H' a = some (.frz ob o))
theorem Rl.of_same {H H' : Hp} (s : Same H H') : Rl H H' := fun a o h => .inl (s a o h)
theorem Rl.stays {H H' : Hp} (s : Rl H H') {a : Addr} {o : HO} (h : H a = some o) (n : ¬ Dic o) : H' a = some o := (s a o h).elim id fun z => absurd z.1 n
theorem Rl.trans {H H1 H2 : Hp} (s : Rl H H1) (t : Rl H1 H2) : Rl H H2 := fun a o h => by
  rcases s a o h with h1 | ⟨d, ob, h1⟩
  · exact t a o h1
  · refine .inr ⟨d, ob, t.stays h1 ?_⟩
    rintro (⟨_, z⟩ | ⟨_, z⟩) <;> cases z
theorem Rl.lst {H H' : Hp} (s : Rl H H') (a : Addr) (vs : List V) (h : H a = some (.lst vs)) : H' a = some (.lst vs) := s.stays h (by rintro (⟨_, z⟩ | ⟨_, z⟩) <;> cases z)
theorem Rl.tup {H H' : Hp} (s : Rl H H') (a : Addr) (vs : List V) (h : H a = some (.tup vs)) : H' a = some (.tup vs) := s.stays h (by rintro (⟨_, z⟩ | ⟨_, z⟩) <;> cases z)
theorem Rl.ins {H H' : Hp} (s : Rl H H') (a C dx : Addr) (fs : List (Str × V)) (h : H a = some (.ins C dx fs)) : H' a = some (.ins C dx fs) := s.stays h (by rintro (⟨_, z⟩ | ⟨_, z⟩) <;> cases z)
theorem Rl.xd {H H' : Hp} (s : Rl H H') (a : Addr) (fs : List (Str × V)) (h : H a = some (.xd fs)) : H' a = some (.xd fs) := s.stays h (by rintro (⟨_, z⟩ | ⟨_, z⟩) <;> cases z)
theorem Rl.frz {H H' : Hp} (s : Rl H H') (a : Addr) (o : Obj) (u : HO) (h : H a = some (.frz o u)) : H' a = some (.frz o u) := s.stays h (by rintro (⟨_, z⟩ | ⟨_, z⟩) <;> cases z)
theorem Rl.rd {H H' : Hp} (s : Rl H H') (a : Addr) (u : HO) (h : Rd H a u) : Rd H' a u := by
  rcases h with h | ⟨o, h⟩
  · rcases s a u h with q | ⟨_, ob, q⟩
    · exact .inl q
    · exact .inr ⟨ob, q⟩
  · exact .inr ⟨o, s.frz a o u h⟩
/-- the facts of the code, and which class stands behind a number -/
structure Gb where
  K : PySem.W.Frag
  cA : Nat → Addr
/-- .. and what else is known at a point, and stays -/
structure Gm extends Gb where
  P : L2.St → Hp → Prop
  up : ∀ (σ : L2.St) (H H' : Hp), Rl H H' → P σ H → P σ H'
instance : Coe Gm Gb := ⟨Gm.toGb⟩
def Gm.flat (B : Gb) : Gm := ⟨B, fun _ _ => True, fun _ _ _ _ _ => True.intro⟩
def Gm.of (K : PySem.W.Frag) (cA : Nat → Addr) : Gm := Gm.flat ⟨K, cA⟩
/-- what is known hangs on no name -/
def Flat (G : Gm) : Prop := ∀ σ σ' H, G.P σ H → G.P σ' H

/-- the heap without the live cells -/
def off (L : Lv) (H : Hp) : Hp := fun a => if some a ∈ L.c ∨ a ∈ L.h then none else H a
theorem off_some {L : Lv} {H : Hp} {a : Addr} {o : HO} (h : off L H a = some o) : H a = some o ∧ ¬ (some a ∈ L.c ∨ a ∈ L.h) := by
  unfold off at h
  split at h
  · cases h
  · exact ⟨h, by assumption⟩
theorem off_of {L : Lv} {H : Hp} {a : Addr} {o : HO} (h : H a = some o) (n : ¬ (some a ∈ L.c ∨ a ∈ L.h)) : off L H a = some o := by
  unfold off
  rw [if_neg n]
  exact h

mutual
inductive Da (G : Gb) (H : Hp) : V → D → Prop
  | non : Da G H .non .non
  | bl (b : Bool) : Da G H (.bl b) (.bl b)
  | int (i : Int) : Da G H (.int i) (.int i)
  | str (x : Str) : Da G H (.str x) (.str x)
  | ty (n : Tag) : Da G H (.ty n.name) (.ty n)
  | ptr (a : Addr) : Da G H (.ref a) (.ptr a)
  | cls (c : Nat) : Da G H (.ref (G.cA c)) (.cls c)
  | lst {a : Addr} {vs : List V} {ds : List D} (h : H a = some (.lst vs)) (r : Das G H vs ds) : Da G H (.ref a) (.lst ds)
  | tup {a : Addr} {vs : List V} {ds : List D} (h : H a = some (.tup vs)) (r : Das G H vs ds) : Da G H (.ref a) (.tup ds)
  | ro {a : Addr} {vs : List V} {ds : List D} (h : SqL G.K H a vs) (r : Das G H vs ds) : Da G H (.ref a) (.ro ds)
  | dK {a : Addr} {vs : List (Key × V)} {ds : List (Key × D)} (h : Rd H a (.dK vs)) (r : DasK G H vs ds) : Da G H (.ref a) (.dK ds)
  | dT {a : Addr} {vs : List (List Key × V)} {ds : List (List Key × D)} (h : Rd H a (.dT vs)) (r : DasT G H vs ds) : Da G H (.ref a) (.dT ds)
  | obj {a dx : Addr} {c : Nat} {vs : List (Str × V)} {ds : List (Str × D)} (h : H a = some (.ins (G.cA c) dx vs)) (r : DasF G H vs ds) : Da G H (.ref a) (.obj c ds)
inductive Das (G : Gb) (H : Hp) : List V → List D → Prop
  | nil : Das G H [] []
  | cons {v : V} {vs : List V} {d : D} {ds : List D} (h : Da G H v d) (r : Das G H vs ds) : Das G H (v :: vs) (d :: ds)
inductive DasK (G : Gb) (H : Hp) : List (Key × V) → List (Key × D) → Prop
  | nil : DasK G H [] []
  | cons {k : Key} {v : V} {vs : List (Key × V)} {d : D} {ds : List (Key × D)} (h : Da G H v d) (r : DasK G H vs ds) : DasK G H ((k, v) :: vs) ((k, d) :: ds)
inductive DasT (G : Gb) (H : Hp) : List (List Key × V) → List (List Key × D) → Prop
  | nil : DasT G H [] []
  | cons {k : List Key} {v : V} {vs : List (List Key × V)} {d : D} {ds : List (List Key × D)} (h : Da G H v d) (r : DasT G H vs ds) : DasT G H ((k, v) :: vs) ((k, d) :: ds)
inductive DasF (G : Gb) (H : Hp) : List (Str × V) → List (Str × D) → Prop
  | nil : DasF G H [] []
  | cons {k : Str} {v : V} {vs : List (Str × V)} {d : D} {ds : List (Str × D)} (h : Da G H v d) (r : DasF G H vs ds) : DasF G H ((k, v) :: vs) ((k, d) :: ds)
end

/-- live cells: more, or dead -/
structure Le (L L' : Lv) : Prop where
  len : L.c.length ≤ L'.c.length
  at_ : ∀ (i : Nat) (a : Addr), i < L.c.length → L'.c[i]? = some (some a) → L.c[i]? = some (some a)
theorem Le.refl (L : Lv) : Le L L := ⟨Nat.le_refl _, fun _ _ _ h => h⟩
theorem Le.trans {L L1 L2 : Lv} (a : Le L L1) (b : Le L1 L2) : Le L L2 :=
  ⟨Nat.le_trans a.len b.len, fun i x hi h => a.at_ i x hi (b.at_ i x (Nat.lt_of_lt_of_le hi a.len) h)⟩

section
variable {G : Gb} {L L' : Lv} {H H' : Hp}
theorem Rl.sq {K : PySem.W.Frag} {a : Addr} {xs : List V} (r : Rl H H') (h : SqL K H a xs) : SqL K H' a xs := by
  rcases h with h | h
  · exact .inl (r.rd _ _ h)
  · exact .inr h
mutual
theorem Da.mono (s : Rl H H') : ∀ (d : D) (v : V), Da G H v d → Da G H' v d
  | .non, _, h => by cases h; exact .non
  | .bl _, _, h => by cases h; exact .bl _
  | .int _, _, h => by cases h; exact .int _
  | .str _, _, h => by cases h; exact .str _
  | .ty _, _, h => by cases h; exact .ty _
  | .ptr _, _, h => by cases h; exact .ptr _
  | .cls _, _, h => by cases h; exact .cls _
  | .ref i, _, h => nomatch h
  | .lst ds, _, h => by
    cases h with
    | lst h r => exact .lst (s.lst _ _ h) (Das.mono s ds _ r)
  | .tup ds, _, h => by
    cases h with
    | tup h r => exact .tup (s.tup _ _ h) (Das.mono s ds _ r)
  | .ro ds, _, h => by
    cases h with
    | ro h r => exact .ro (s.sq h) (Das.mono s ds _ r)
  | .dK ds, _, h => by
    cases h with
    | dK h r => exact .dK (s.rd _ _ h) (DasK.mono s ds _ r)
  | .dT ds, _, h => by
    cases h with
    | dT h r => exact .dT (s.rd _ _ h) (DasT.mono s ds _ r)
  | .obj c ds, _, h => by
    cases h with
    | obj h r => exact .obj (s.ins _ _ _ _ h) (DasF.mono s ds _ r)
theorem Das.mono (s : Rl H H') : ∀ (ds : List D) (vs : List V), Das G H vs ds → Das G H' vs ds
  | [], _, h => by cases h; exact .nil
  | d :: ds, _, h => by
    cases h with
    | cons h r => exact .cons (Da.mono s d _ h) (Das.mono s ds _ r)
theorem DasK.mono (s : Rl H H') : ∀ (ds : List (Key × D)) (vs : List (Key × V)), DasK G H vs ds → DasK G H' vs ds
  | [], _, h => by cases h; exact .nil
  | (k, d) :: ds, _, h => by
    cases h with
    | cons h r => exact .cons (Da.mono s d _ h) (DasK.mono s ds _ r)
theorem DasT.mono (s : Rl H H') : ∀ (ds : List (List Key × D)) (vs : List (List Key × V)), DasT G H vs ds → DasT G H' vs ds
  | [], _, h => by cases h; exact .nil
  | (k, d) :: ds, _, h => by
    cases h with
    | cons h r => exact .cons (Da.mono s d _ h) (DasT.mono s ds _ r)
theorem DasF.mono (s : Rl H H') : ∀ (ds : List (Str × D)) (vs : List (Str × V)), DasF G H vs ds → DasF G H' vs ds
  | [], _, h => by cases h; exact .nil
  | (k, d) :: ds, _, h => by
    cases h with
    | cons h r => exact .cons (Da.mono s d _ h) (DasF.mono s ds _ r)
end
theorem Das.length : ∀ {ds : List D} {vs : List V}, Das G H vs ds → vs.length = ds.length
  | [], _, h => by cases h; rfl
  | d :: ds, _, h => by
    cases h with
    | cons h r => simp [Das.length r]
theorem Das.get : ∀ {ds : List D} {vs : List V} {i : Nat} {v : V}, Das G H vs ds → vs[i]? = some v → ∃ d, ds[i]? = some d ∧ Da G H v d
  | [], _, _, _, h, e => by cases h; simp at e
  | d :: ds, _, 0, v, h, e => by
    cases h with
    | cons h r =>
      simp at e
      subst e
      exact ⟨d, rfl, h⟩
  | d :: ds, _, i + 1, v, h, e => by
    cases h with
    | cons h r => exact Das.get (i := i) r (by simpa using e)
theorem Das.getD : ∀ {ds : List D} {vs : List V} {i : Nat} {d : D}, Das G H vs ds → ds[i]? = some d → ∃ v, vs[i]? = some v ∧ Da G H v d
  | [], _, _, _, h, e => by simp at e
  | d :: ds, _, 0, x, h, e => by
    cases h with
    | cons h r =>
      simp at e
      subst e
      exact ⟨_, rfl, h⟩
  | d :: ds, _, i + 1, x, h, e => by
    cases h with
    | cons h r =>
      obtain ⟨v, q, z⟩ := Das.getD (i := i) r (by simpa using e)
      exact ⟨v, by simpa using q, z⟩
theorem Das.append : ∀ {ds es : List D} {vs us : List V}, Das G H vs ds → Das G H us es → Das G H (vs ++ us) (ds ++ es)
  | [], _, _, _, h, g => by cases h; exact g
  | d :: ds, _, _, _, h, g => by
    cases h with
    | cons h r => exact .cons h (Das.append r g)
theorem Das.take : ∀ {ds : List D} {vs : List V} (n : Nat), Das G H vs ds → Das G H (vs.take n) (ds.take n)
  | [], _, n, h => by cases h; simp; exact .nil
  | d :: ds, _, 0, h => .nil
  | d :: ds, _, n + 1, h => by
    cases h with
    | cons h r => exact .cons h (Das.take n r)
theorem Das.drop : ∀ {ds : List D} {vs : List V} (n : Nat), Das G H vs ds → Das G H (vs.drop n) (ds.drop n)
  | [], _, n, h => by cases h; simp; exact .nil
  | d :: ds, _, 0, h => h
  | d :: ds, _, n + 1, h => by
    cases h with
    | cons h r => exact Das.drop n r
theorem Das.erase : ∀ {ds : List D} {vs : List V} (n : Nat), Das G H vs ds → Das G H (vs.eraseIdx n) (ds.eraseIdx n)
  | [], _, n, h => by cases h; simp; exact .nil
  | d :: ds, _, 0, h => by
    cases h with
    | cons h r => exact r
  | d :: ds, _, n + 1, h => by
    cases h with
    | cons h r => exact .cons h (Das.erase n r)
theorem Das.reverse : ∀ {ds : List D} {vs : List V}, Das G H vs ds → Das G H vs.reverse ds.reverse
  | [], _, h => by cases h; exact .nil
  | d :: ds, _, h => by
    cases h with
    | cons h r =>
      rw [List.reverse_cons, List.reverse_cons]
      exact (Das.reverse r).append (.cons h .nil)
theorem Das.ints : ∀ (ns : List Int), Das G H (ns.map V.int) (ns.map D.int)
  | [] => .nil
  | n :: ns => .cons (.int n) (Das.ints ns)
end

/-- what a name or an argument may hold: data, or a live cell -/
inductive Va (G : Gb) (L : Lv) (H : Hp) : V → D → Prop
  | d {v : V} {d : D} (h : Da G H v d) : Va G L H v d
  | ref {a : Addr} {i : Nat} (hi : i < L.c.length) (h : ∀ b, L.c[i]? = some (some b) → a = b) : Va G L H (.ref a) (.ref i)
inductive Vas (G : Gb) (L : Lv) (H : Hp) : List V → List D → Prop
  | nil : Vas G L H [] []
  | cons {v : V} {vs : List V} {d : D} {ds : List D} (h : Va G L H v d) (r : Vas G L H vs ds) : Vas G L H (v :: vs) (d :: ds)
inductive VasF (G : Gb) (L : Lv) (H : Hp) : List (Str × V) → List (Str × D) → Prop
  | nil : VasF G L H [] []
  | cons {k : Str} {v : V} {vs : List (Str × V)} {d : D} {ds : List (Str × D)} (h : Va G L H v d) (r : VasF G L H vs ds) : VasF G L H ((k, v) :: vs) ((k, d) :: ds)
section
variable {G : Gb} {L L' : Lv} {H H' : Hp}
theorem Va.mono (l : Le L L') (s : Rl H H') {v : V} {d : D} (h : Va G L H v d) : Va G L' H' v d := by
  cases h with
  | d h => exact .d (Da.mono s d v h)
  | ref hi h => exact .ref (Nat.lt_of_lt_of_le hi l.len) fun b q => h b (l.at_ _ b hi q)
theorem Vas.mono (l : Le L L') (s : Rl H H') : ∀ {vs : List V} {ds : List D}, Vas G L H vs ds → Vas G L' H' vs ds
  | _, _, .nil => .nil
  | _, _, .cons h r => .cons (h.mono l s) (Vas.mono l s r)
theorem VasF.mono (l : Le L L') (s : Rl H H') : ∀ {vs : List (Str × V)} {ds : List (Str × D)}, VasF G L H vs ds → VasF G L' H' vs ds
  | _, _, .nil => .nil
  | _, _, .cons h r => .cons (h.mono l s) (VasF.mono l s r)
/-- no live cell -/
def isD : D → Bool
  | .ref _ => false
  | _ => true
theorem Va.da {v : V} {d : D} (h : Va G L H v d) (p : isD d = true) : Da G H v d := by
  cases h with
  | d h => exact h
  | ref _ _ => cases p
theorem Vas.das : ∀ {vs : List V} {ds : List D}, Vas G L H vs ds → ds.all isD = true → Das G H vs ds
  | _, _, .nil, _ => .nil
  | _, _, .cons h r, p => by
    rw [List.all_cons, Bool.and_eq_true] at p
    exact .cons (h.da p.1) (Vas.das r p.2)
theorem VasF.das : ∀ {vs : List (Str × V)} {ds : List (Str × D)}, VasF G L H vs ds → (ds.all fun p => isD p.2) = true → DasF G H vs ds
  | _, _, .nil, _ => .nil
  | _, _, .cons h r, p => by
    rw [List.all_cons, Bool.and_eq_true] at p
    exact .cons (h.da p.1) (VasF.das r p.2)
theorem Das.vas : ∀ {ds : List D} {vs : List V}, Das G H vs ds → Vas G L H vs ds
  | [], _, h => by cases h; exact .nil
  | d :: ds, _, h => by
    cases h with
    | cons h r => exact .cons (.d h) (Das.vas r)
theorem DasF.vas : ∀ {ds : List (Str × D)} {vs : List (Str × V)}, DasF G H vs ds → VasF G L H vs ds
  | [], _, h => by cases h; exact .nil
  | (k, d) :: ds, _, h => by
    cases h with
    | cons h r => exact .cons (.d h) (DasF.vas r)
theorem Vas.length : ∀ {vs : List V} {ds : List D}, Vas G L H vs ds → vs.length = ds.length
  | _, _, .nil => rfl
  | _, _, .cons h r => by simp [Vas.length r]
end

/-! ### the store and the heap -/
def CellR (G : Gb) (L : Lv) (H : Hp) : Option Addr → Cell → Prop
  | none, .dead => True
  | some a, .lst ds => ∃ vs, H a = some (.lst vs) ∧ Das G (off L H) vs ds
  | some a, .dK ds => ∃ vs, H a = some (.dK vs) ∧ DasK G (off L H) vs ds
  | some a, .dT ds => ∃ vs, H a = some (.dT vs) ∧ DasT G (off L H) vs ds
  | some a, .ins c ds => ∃ dx vs, H a = some (.ins (G.cA c) dx vs) ∧ VasF G L (off L H) vs ds
  | _, _ => False
/-- what is hidden: there, no tuple -/
def HidOk (o : Option HO) : Prop := o ≠ none ∧ ∀ xs, o ≠ some (.tup xs)
structure Rep (G : Gb) (L : Lv) (st : Store) (H : Hp) : Prop where
  len : L.c.length = st.length
  inj : ∀ (i j : Nat) (a : Addr), L.c[i]? = some (some a) → L.c[j]? = some (some a) → i = j
  cell : ∀ (i : Nat) (x : Option Addr) (c : Cell), L.c[i]? = some x → st[i]? = some c → CellR G L H x c
  hid : ∀ a ∈ L.h, HidOk (H a) ∧ some a ∉ L.c
structure Ev (L : Lv) (H : Hp) (L' : Lv) (H' : Hp) : Prop where
  le : Le L L'
  new : ∀ (i : Nat) (a : Addr), L.c.length ≤ i → L'.c[i]? = some (some a) → H a = none
  same : Rl (off L H) (off L' H')
  there : ∀ a, H' a = none → H a = none
  hh : L'.h = L.h
  keep : ∀ a ∈ L.h, H' a = H a
section
variable {G : Gb} {L L1 L2 : Lv} {H H1 H2 : Hp} {st : Store}
theorem no_at {α : Type} {L : List α} {i : Nat} {x : α} (hi : L.length ≤ i) (h : L[i]? = some x) : False := by
  rw [List.getElem?_eq_none_iff.mpr hi] at h
  cases h
theorem Ev.refl (L : Lv) (H : Hp) : Ev L H L H := ⟨Le.refl L, fun i a hi h => (no_at hi h).elim, Rl.of_same (Same.refl _), fun _ h => h, rfl, fun _ _ => rfl⟩
theorem Ev.trans (a : Ev L H L1 H1) (b : Ev L1 H1 L2 H2) : Ev L H L2 H2 :=
  ⟨a.le.trans b.le, fun i x hi h => by
    by_cases q : i < L1.c.length
    · exact a.new i x hi (b.le.at_ i x q h)
    · exact a.there x (b.new i x (Nat.le_of_not_lt q) h), a.same.trans b.same, fun x h => a.there x (b.there x h), b.hh.trans a.hh, fun x h => (b.keep x (by rw [a.hh]; exact h)).trans (a.keep x h)⟩
theorem Ev.da (e : Ev L H L1 H1) {v : V} {d : D} (h : Da G (off L H) v d) : Da G (off L1 H1) v d := Da.mono (e.same) d v h
theorem Ev.va (e : Ev L H L1 H1) {v : V} {d : D} (h : Va G L (off L H) v d) : Va G L1 (off L1 H1) v d := h.mono e.le (e.same)
theorem Ev.vas (e : Ev L H L1 H1) {v : List V} {d : List D} (h : Vas G L (off L H) v d) : Vas G L1 (off L1 H1) v d := h.mono e.le (e.same)
theorem Ev.das (e : Ev L H L1 H1) {v : List V} {d : List D} (h : Das G (off L H) v d) : Das G (off L1 H1) v d := Das.mono (e.same) d v h
theorem Ev.dasK (e : Ev L H L1 H1) {v : List (Key × V)} {d : List (Key × D)} (h : DasK G (off L H) v d) : DasK G (off L1 H1) v d := DasK.mono (e.same) d v h
theorem Ev.dasT (e : Ev L H L1 H1) {v : List (List Key × V)} {d : List (List Key × D)} (h : DasT G (off L H) v d) : DasT G (off L1 H1) v d := DasT.mono (e.same) d v h
theorem Ev.dasF (e : Ev L H L1 H1) {v : List (Str × V)} {d : List (Str × D)} (h : DasF G (off L H) v d) : DasF G (off L1 H1) v d := DasF.mono (e.same) d v h
theorem mem_live {a : Addr} (h : some a ∈ L.c) : ∃ i : Nat, L.c[i]? = some (some a) := List.mem_iff_getElem?.mp h
theorem Rep.live (R : Rep G L st H) {a : Addr} (h : some a ∈ L.c) : H a ≠ none := by
  obtain ⟨i, hi⟩ := mem_live h
  have hl : i < st.length := by rw [← R.len]; exact (List.getElem?_eq_some_iff.mp hi).1
  have q := R.cell i _ st[i] hi (List.getElem?_eq_getElem hl)
  intro z
  cases e : st[i] <;> rw [e] at q <;> simp only [CellR] at q
  · obtain ⟨vs, q, _⟩ := q; rw [z] at q; cases q
  · obtain ⟨vs, q, _⟩ := q; rw [z] at q; cases q
  · obtain ⟨vs, q, _⟩ := q; rw [z] at q; cases q
  · obtain ⟨dx, vs, q, _⟩ := q; rw [z] at q; cases q
theorem Rep.fresh (R : Rep G L st H) {a : Addr} (h : H a = none) : ¬ (some a ∈ L.c ∨ a ∈ L.h) := fun q => q.elim (fun q => R.live q h) fun q => (R.hid a q).1.1 h
/-- a cell's relation under a step that leaves the live ones -/
theorem CellR.ev (e : Ev L H L1 H1) {x : Option Addr} {c : Cell} (k : ∀ a o, x = some a → H a = some o → H1 a = some o) (h : CellR G L H x c) : CellR G L1 H1 x c := by
  cases x with
  | none => cases c <;> first | exact h | exact h.elim
  | some a =>
    cases c with
    | lst ds => obtain ⟨vs, q, r⟩ := h; exact ⟨vs, k _ _ rfl q, e.das r⟩
    | dK ds => obtain ⟨vs, q, r⟩ := h; exact ⟨vs, k _ _ rfl q, e.dasK r⟩
    | dT ds => obtain ⟨vs, q, r⟩ := h; exact ⟨vs, k _ _ rfl q, e.dasT r⟩
    | ins c ds => obtain ⟨dx, vs, q, r⟩ := h; exact ⟨dx, vs, k _ _ rfl q, r.mono e.le (e.same)⟩
    | dead => exact h.elim
/-- a new object that is no cell -/
theorem Ev.new1 (R : Rep G L st H) {p : Addr} {o : HO} (hp : H p = none) : Ev L H L (upd H p o) :=
  ⟨Le.refl L, fun i a hi h => (no_at hi h).elim, fun b u h => by
    obtain ⟨h1, h2⟩ := off_some h
    exact .inl (off_of (by rw [upd_ne (ne_of_none h1 hp)]; exact h1) h2),
    fun a h => by
    by_cases e : a = p
    · rw [e, upd_same] at h
      cases h
    · rw [upd_ne e] at h
      exact h, rfl, fun a ha => upd_ne fun z => R.fresh hp (.inr (z ▸ ha))⟩
theorem Rep.new1 (R : Rep G L st H) {p : Addr} {o : HO} (hp : H p = none) : Rep G L st (upd H p o) :=
  ⟨R.len, R.inj, fun i x c hx hc => CellR.ev (Ev.new1 R hp) (fun a u ea h => by rw [upd_ne (ne_of_none h hp)]; exact h) (R.cell i x c hx hc), fun a ha => ⟨by rw [(Ev.new1 (o := o) R hp).keep a ha]; exact (R.hid a ha).1, (R.hid a ha).2⟩⟩
theorem Ev.off_new (R : Rep G L st H) {p : Addr} {o : HO} (hp : H p = none) : off L (upd H p o) p = some o := off_of upd_same (R.fresh hp)
end

/-- not by unfolding -/
theorem nr {α : Sort u} {a b : α} (h : a = b) : a = b := h
/-! ### results -/
structure Xn where
  c : Nat
  fs : List (Str × D)
inductive Rs (α : Type) where
  | ok (a : α) | err (x : Xn)
abbrev En := List (Option D)
abbrev ME := En → Store → Option (Rs D × Store)
abbrev MA := En → Store → Option (Rs (List D) × Store)
abbrev MT := En → Store → Option (Rs Bool × Store)
inductive Fl where
  | next | ret (d : D) | brk | cont | err (x : Xn)
abbrev MS := En → Store → Option (Fl × En × Store)
/-- go on with a value -/
def bnd {α β : Type} (m : Option (Rs α × Store)) (k : α → Store → Option (Rs β × Store)) : Option (Rs β × Store) :=
  match m with
  | some (.ok a, st) => k a st
  | some (.err x, st) => some (.err x, st)
  | none => none
@[simp] theorem bnd_ok {α β : Type} {a : α} {st : Store} {k : α → Store → Option (Rs β × Store)} : bnd (some (.ok a, st)) k = k a st := M.nr rfl
@[simp] theorem bnd_err {α β : Type} {x : Xn} {st : Store} {k : α → Store → Option (Rs β × Store)} : bnd (some (.err x, st)) k = some (.err x, st) := M.nr rfl
@[simp] theorem bnd_none {α β : Type} {k : α → Store → Option (Rs β × Store)} : bnd none k = none := M.nr rfl
structure EnvR (G : Gb) (L : Lv) (H : Hp) (σ : L2.St) (env : En) : Prop where
  len : σ.length = env.length
  at_ : ∀ (i : Nat) (d : D), env[i]? = some (some d) → ∃ v, σ[i]? = some (some v) ∧ Va G L H v d
theorem EnvR.ev {G : Gb} {L L1 : Lv} {H H1 : Hp} {σ : L2.St} {env : En} (e : Ev L H L1 H1) (h : EnvR G L (off L H) σ env) : EnvR G L1 (off L1 H1) σ env :=
  ⟨h.len, fun i d q => let ⟨v, q1, q2⟩ := h.at_ i d q; ⟨v, q1, e.va q2⟩⟩
/-- an exception of the own class c, its fields fs -/
def XnR (G : Gb) (H : Hp) (x : Xn) (cls : Value) (dd : Option Addr) : Prop := cls = .ref (G.cA x.c) ∧ ∃ (d : Addr) (vs : List (Str × V)), dd = some d ∧ H d = some (.xd vs) ∧ DasF G H vs x.fs
def ErrP (G : Gb) (L : Lv) (H : Hp) (st' : Store) (x : Xn) (k : Value → Option Addr → Hp → Prop) : Prop :=
  ∀ cls dd L' H', Ev L H L' H' → Rep G L' st' H' → XnR G (off L' H') x cls dd → k cls dd H'
def RPost (G : Gb) (W : WX) (σ : L2.St) (L : Lv) (H : Hp) (st' : Store) (Q : VK) : Rs D → Prop
  | .ok d => ∀ v L' H', Ev L H L' H' → Rep G L' st' H' → Va G L' (off L' H') v d → Q v H'
  | .err x => ErrP G L H st' x fun cls dd H' => W cls dd σ H'
def APost (G : Gb) (W : WX) (σ : L2.St) (L : Lv) (H : Hp) (st' : Store) (Q : List V → Hp → Prop) : Rs (List D) → Prop
  | .ok ds => ∀ vs L' H', Ev L H L' H' → Rep G L' st' H' → Vas G L' (off L' H') vs ds → Q vs H'
  | .err x => ErrP G L H st' x fun cls dd H' => W cls dd σ H'
def TPost (G : Gb) (W : WX) (σ : L2.St) (L : Lv) (H : Hp) (st' : Store) (Q : Bool → Hp → Prop) : Rs Bool → Prop
  | .ok b => ∀ L' H', Ev L H L' H' → Rep G L' st' H' → Q b H'
  | .err x => ErrP G L H st' x fun cls dd H' => W cls dd σ H'
def SPost (G : Gb) (W : WX) (L : Lv) (H : Hp) (env' : En) (st' : Store) (Dn : Ends) : Fl → Prop
  | .next => ∀ σ' L' H', Ev L H L' H' → Rep G L' st' H' → EnvR G L' (off L' H') σ' env' → Dn.nx σ' H'
  | .brk => ∀ σ' L' H', Ev L H L' H' → Rep G L' st' H' → EnvR G L' (off L' H') σ' env' → Dn.bk σ' H'
  | .cont => ∀ σ' L' H', Ev L H L' H' → Rep G L' st' H' → EnvR G L' (off L' H') σ' env' → Dn.ct σ' H'
  | .ret d => ∀ v L' H', Ev L H L' H' → Rep G L' st' H' → Va G L' (off L' H') v d → Dn.rt v H'
  | .err x => ∀ cls dd σ' L' H', Ev L H L' H' → Rep G L' st' H' → EnvR G L' (off L' H') σ' env' → XnR G (off L' H') x cls dd → W cls dd σ' H'
/-- at a point -/
structure At (G : Gm) (L : Lv) (st : Store) (σ : L2.St) (env : En) (H : Hp) : Prop where
  e : EnvR G L (off L H) σ env
  r : Rep G L st H
  p : G.P σ (off L H)
theorem At.ev {G : Gm} {L L1 : Lv} {st st1 : Store} {σ : L2.St} {env : En} {H H1 : Hp} (a : At G L st σ env H) (e : Ev L H L1 H1) (r : Rep G L1 st1 H1) : At G L1 st1 σ env H1 := ⟨a.e.ev e, r, G.up _ _ _ e.same a.p⟩
theorem At.to {G : Gm} {L L1 : Lv} {st st1 : Store} {σ σ1 : L2.St} {env env1 : En} {H H1 : Hp} (hF : Flat G) (a : At G L st σ env H) (e : Ev L H L1 H1) (r : Rep G L1 st1 H1) (n : EnvR G L1 (off L1 H1) σ1 env1) : At G L1 st1 σ1 env1 H1 := ⟨n, r, G.up _ _ _ e.same (hF _ _ _ a.p)⟩
def tM (G : Gm) (W : WX) (m : ME) : TE := fun σ H Q => ∃ L st env r st', At G L st σ env H ∧ m env st = some (r, st') ∧ RPost G W σ L H st' Q r
def tMA (G : Gm) (W : WX) (m : MA) : TA := fun σ H Q => ∃ L st env r st', At G L st σ env H ∧ m env st = some (r, st') ∧ APost G W σ L H st' Q r
def tMT (G : Gm) (W : WX) (m : MT) : TT := fun σ H Q => ∃ L st env r st', At G L st σ env H ∧ m env st = some (r, st') ∧ TPost G W σ L H st' Q r
def tMS (G : Gm) (W : WX) (m : MS) : TS := fun Dn σ H => ∃ L st env fl env' st', At G L st σ env H ∧ m env st = some (fl, env', st') ∧ SPost G W L H env' st' Dn fl
theorem ErrP.ev {G : Gb} {L L1 : Lv} {H H1 : Hp} {st' : Store} {x : Xn} {k : Value → Option Addr → Hp → Prop} (e : Ev L H L1 H1) (h : ErrP G L H st' x k) : ErrP G L1 H1 st' x k :=
  fun cls dd L' H' e1 r z => h cls dd L' H' (e.trans e1) r z
theorem RPost.ev {G : Gb} {W : WX} {σ : L2.St} {L L1 : Lv} {H H1 : Hp} {st' : Store} {Q : VK} {r : Rs D} (e : Ev L H L1 H1) (h : RPost G W σ L H st' Q r) : RPost G W σ L1 H1 st' Q r := by
  cases r with
  | ok d => exact fun v L' H' e1 => h v L' H' (e.trans e1)
  | err x => exact ErrP.ev e h
theorem APost.ev {G : Gb} {W : WX} {σ : L2.St} {L L1 : Lv} {H H1 : Hp} {st' : Store} {Q : List V → Hp → Prop} {r : Rs (List D)} (e : Ev L H L1 H1) (h : APost G W σ L H st' Q r) : APost G W σ L1 H1 st' Q r := by
  cases r with
  | ok d => exact fun v L' H' e1 => h v L' H' (e.trans e1)
  | err x => exact ErrP.ev e h
theorem TPost.ev {G : Gb} {W : WX} {σ : L2.St} {L L1 : Lv} {H H1 : Hp} {st' : Store} {Q : Bool → Hp → Prop} {r : Rs Bool} (e : Ev L H L1 H1) (h : TPost G W σ L H st' Q r) : TPost G W σ L1 H1 st' Q r := by
  cases r with
  | ok d => exact fun L' H' e1 => h L' H' (e.trans e1)
  | err x => exact ErrP.ev e h
theorem SPost.ev {G : Gb} {W : WX} {L L1 : Lv} {H H1 : Hp} {env' : En} {st' : Store} {Dn : Ends} {fl : Fl} (e : Ev L H L1 H1) (h : SPost G W L H env' st' Dn fl) : SPost G W L1 H1 env' st' Dn fl := by
  cases fl with
  | next => exact fun σ' L' H' e1 => h σ' L' H' (e.trans e1)
  | brk => exact fun σ' L' H' e1 => h σ' L' H' (e.trans e1)
  | cont => exact fun σ' L' H' e1 => h σ' L' H' (e.trans e1)
  | ret d => exact fun v L' H' e1 => h v L' H' (e.trans e1)
  | err x => exact fun cls dd σ' L' H' e1 => h cls dd σ' L' H' (e.trans e1)

/-! ### judgements -/
theorem PEimp {X : Cx} {e : Expr} {t u : TE} (h : PE X e t) (k : ∀ σ H Q, u σ H Q → t σ H Q) : PE X e u := ⟨fun pins s σ H Q I q => h.run pins s σ H Q I (k _ _ _ q)⟩
theorem PTimp {X : Cx} {e : Expr} {t u : TT} (h : PT X e t) (k : ∀ σ H Q, u σ H Q → t σ H Q) : PT X e u := ⟨fun pins s σ H Q I q => h.run pins s σ H Q I (k _ _ _ q)⟩
theorem PWimp {X : Cx} {e : Expr} {t u : TT} (h : PW X e t) (k : ∀ σ H Q, u σ H Q → t σ H Q) : PW X e u := ⟨fun wh pins s σ H Q I q => h.run wh pins s σ H Q I (k _ _ _ q)⟩
theorem PAimp {X : Cx} {e : List Expr} {t u : TA} (h : PA X e t) (k : ∀ σ H Q, u σ H Q → t σ H Q) : PA X e u := ⟨fun pos pins s σ H Q I q => h.run pos pins s σ H Q I (k _ _ _ q)⟩
theorem PSimp {X : Cx} {e : Stmt} {t u : TS} (h : PS X e t) (k : ∀ D σ H, u D σ H → t D σ H) : PS X e u := ⟨fun pins s σ H D I q => h.run pins s σ H D I (k _ _ _ q)⟩
theorem PSsimp {X : Cx} {e : List Stmt} {t u : TS} (h : PSs X e t) (k : ∀ D σ H, u D σ H → t D σ H) : PSs X e u := ⟨fun pins s σ H D I q => h.run pins s σ H D I (k _ _ _ q)⟩
end M


/-! The M layer: expressions, tests, statements, defs. -/
namespace M
open PySem PySem.Spec PyProof.Rows L2

/-! ### taking a bind apart -/
theorem bnd_cases {α β : Type} {m : Option (Rs α × Store)} {k : α → Store → Option (Rs β × Store)} {r : Rs β} {st' : Store} (h : bnd m k = some (r, st')) :
    (∃ a st1, m = some (.ok a, st1) ∧ k a st1 = some (r, st')) ∨ ∃ x, m = some (.err x, st') ∧ r = .err x := by
  cases m with
  | none => cases h
  | some p =>
    obtain ⟨q, st1⟩ := p
    cases q with
    | ok a => exact .inl ⟨a, st1, rfl, h⟩
    | err x =>
      have h' : some (Rs.err x, st1) = some (r, st') := h
      cases h'
      exact .inr ⟨x, rfl, rfl⟩
section
variable {G : Gm} {W : WX} {σ : L2.St} {L : Lv} {H : Hp} {st : Store} {env : En}
/-- an expression is read, then something is done with its value -/
theorem tM_bnd {β : Type} {ma : ME} {k : D → Store → Option (Rs β × Store)} {r : Rs β} {st' : Store} {Q : VK} (a : At G L st σ env H) (h : bnd (ma env st) k = some (r, st'))
    (err : ∀ x, r = .err x → ErrP G L H st' x fun cls dd H' => W cls dd σ H')
    (ok : ∀ d st1 v L1 H1, k d st1 = some (r, st') → Ev L H L1 H1 → At G L1 st1 σ env H1 → Va G L1 (off L1 H1) v d → Q v H1) : tM G W ma σ H Q := by
  rcases bnd_cases h with ⟨d, st1, h1, h2⟩ | ⟨x, h1, rfl⟩
  · exact ⟨L, st, env, _, _, a, h1, fun v L1 H1 e r1 dv => ok d st1 v L1 H1 h2 e (a.ev e r1) dv⟩
  · exact ⟨L, st, env, _, _, a, h1, err x rfl⟩
theorem tMA_bnd {β : Type} {ma : MA} {k : List D → Store → Option (Rs β × Store)} {r : Rs β} {st' : Store} {Q : List V → Hp → Prop} (a : At G L st σ env H) (h : bnd (ma env st) k = some (r, st'))
    (err : ∀ x, r = .err x → ErrP G L H st' x fun cls dd H' => W cls dd σ H')
    (ok : ∀ d st1 v L1 H1, k d st1 = some (r, st') → Ev L H L1 H1 → At G L1 st1 σ env H1 → Vas G L1 (off L1 H1) v d → Q v H1) : tMA G W ma σ H Q := by
  rcases bnd_cases h with ⟨d, st1, h1, h2⟩ | ⟨x, h1, rfl⟩
  · exact ⟨L, st, env, _, _, a, h1, fun v L1 H1 e r1 dv => ok d st1 v L1 H1 h2 e (a.ev e r1) dv⟩
  · exact ⟨L, st, env, _, _, a, h1, err x rfl⟩
theorem tMT_bnd {β : Type} {ma : MT} {k : Bool → Store → Option (Rs β × Store)} {r : Rs β} {st' : Store} {Q : Bool → Hp → Prop} (a : At G L st σ env H) (h : bnd (ma env st) k = some (r, st'))
    (err : ∀ x, r = .err x → ErrP G L H st' x fun cls dd H' => W cls dd σ H')
    (ok : ∀ d st1 L1 H1, k d st1 = some (r, st') → Ev L H L1 H1 → At G L1 st1 σ env H1 → Q d H1) : tMT G W ma σ H Q := by
  rcases bnd_cases h with ⟨d, st1, h1, h2⟩ | ⟨x, h1, rfl⟩
  · exact ⟨L, st, env, _, _, a, h1, fun L1 H1 e r1 => ok d st1 L1 H1 h2 e (a.ev e r1)⟩
  · exact ⟨L, st, env, _, _, a, h1, err x rfl⟩
theorem RPost.err {st' : Store} {Q : VK} {r : Rs D} (p : RPost G W σ L H st' Q r) : ∀ x, r = .err x → ErrP G L H st' x fun cls dd H' => W cls dd σ H' := by
  rintro x rfl
  exact p
theorem APost.err {st' : Store} {Q : List V → Hp → Prop} {r : Rs (List D)} (p : APost G W σ L H st' Q r) : ∀ x, r = .err x → ErrP G L H st' x fun cls dd H' => W cls dd σ H' := by
  rintro x rfl
  exact p
theorem TPost.err {st' : Store} {Q : Bool → Hp → Prop} {r : Rs Bool} (p : TPost G W σ L H st' Q r) : ∀ x, r = .err x → ErrP G L H st' x fun cls dd H' => W cls dd σ H' := by
  rintro x rfl
  exact p
end

/-! ### expressions -/
def mVar (i : Nat) : ME := fun env st => match env[i]? with
  | some (some d) => some (.ok d, st)
  | _ => none
def mC (d : D) : ME := fun _ st => some (.ok d, st)
/-- by values, reading the store -/
def mOp (g : Store → D → D → Option D) (ma mb : ME) : ME := fun env st => bnd (ma env st) fun x st => bnd (mb env st) fun y st => match g st x y with
  | some z => some (.ok z, st)
  | none => none
def mUn (g : Store → D → Option D) (ma : ME) : ME := fun env st => bnd (ma env st) fun x st => match g st x with
  | some z => some (.ok z, st)
  | none => none
def mNil : MA := fun _ st => some (.ok [], st)
def mCons (m : ME) (ms : MA) : MA := fun env st => bnd (m env st) fun d st => bnd (ms env st) fun ds st => some (.ok (d :: ds), st)
/-- a call by values -/
def mCB (g : Store → List D → Option D) (ma : MA) : ME := fun env st => bnd (ma env st) fun xs st => match g st xs with
  | some z => some (.ok z, st)
  | none => none
/-- .. that changes the store -/
def mCBS (g : Store → List D → Option (D × Store)) (ma : MA) : ME := fun env st => bnd (ma env st) fun xs st => match g st xs with
  | some (z, st) => some (.ok z, st)
  | none => none
def R2M (G : Gb) (r : R2) (g : Store → D → D → Option D) : Prop := ∀ (L : Lv) (st : Store) (H : Hp) (x y : V) (d e z : D) (Q : VK), Rep G L st H → Va G L (off L H) x d → Va G L (off L H) y e → g st d e = some z →
  (∀ v L' H', Ev L H L' H' → Rep G L' st H' → Va G L' (off L' H') v z → Q v H') → r x y H Q
def R1M (G : Gb) (r : V → Hp → VK → Prop) (g : Store → D → Option D) : Prop := ∀ (L : Lv) (st : Store) (H : Hp) (x : V) (d z : D) (Q : VK), Rep G L st H → Va G L (off L H) x d → g st d = some z →
  (∀ v L' H', Ev L H L' H' → Rep G L' st H' → Va G L' (off L' H') v z → Q v H') → r x H Q
def RCM (G : Gb) (r : List V → Hp → VK → Prop) (g : Store → List D → Option D) : Prop := ∀ (L : Lv) (st : Store) (H : Hp) (xs : List V) (ds : List D) (z : D) (Q : VK), Rep G L st H → Vas G L (off L H) xs ds → g st ds = some z →
  (∀ v L' H', Ev L H L' H' → Rep G L' st H' → Va G L' (off L' H') v z → Q v H') → r xs H Q
def RCMS (G : Gb) (r : List V → Hp → VK → Prop) (g : Store → List D → Option (D × Store)) : Prop := ∀ (L : Lv) (st st' : Store) (H : Hp) (xs : List V) (ds : List D) (z : D) (Q : VK), Rep G L st H → Vas G L (off L H) xs ds → g st ds = some (z, st') →
  (∀ v L' H', Ev L H L' H' → Rep G L' st' H' → Va G L' (off L' H') v z → Q v H') → r xs H Q
section
variable {G : Gm} {W : WX} {X : Cx} {a b c e : Expr} {es : List Expr} {ta tb tc te : TE} {t u : TT} {tas : TA} {ma mb mc : ME} {mas : MA} {mt mu : MT} {pos : Pos} {r r' : R2} {g g' : Store → D → D → Option D} {σ : L2.St} {H : Hp} {Q : VK}
theorem t_op (hr : R2M G r g) (h : tM G W (mOp g ma mb) σ H Q) : tOp r (tM G W ma) (tM G W mb) σ H Q := by
  obtain ⟨L, st, env, q, st', at_, hm, hp⟩ := h
  refine tM_bnd at_ hm hp.err fun d st1 v L1 H1 h1 e1 a1 dv => ?_
  refine tM_bnd a1 h1 (hp.ev e1).err fun d2 st2 v2 L2' H2 h2 e2 a2 dv2 => ?_
  cases hz : g st2 d d2 with
  | none => rw [hz] at h2; cases h2
  | some z =>
    rw [hz] at h2
    cases h2
    exact hr L2' _ H2 v v2 d d2 z Q a2.r (e2.va dv) dv2 hz fun v3 L3 H3 e3 => hp v3 L3 H3 ((e1.trans e2).trans e3)
theorem t_un {r1 : V → Hp → VK → Prop} {g1 : Store → D → Option D} (hr : R1M G r1 g1) (h : tM G W (mUn g1 ma) σ H Q) : tUn r1 (tM G W ma) σ H Q := by
  obtain ⟨L, st, env, q, st', at_, hm, hp⟩ := h
  refine tM_bnd at_ hm hp.err fun d st1 v L1 H1 h1 e1 a1 dv => ?_
  cases hz : g1 st1 d with
  | none => rw [hz] at h1; cases h1
  | some z =>
    rw [hz] at h1
    cases h1
    exact hr L1 _ H1 v d z Q a1.r dv hz fun v3 L3 H3 e3 => hp v3 L3 H3 (e1.trans e3)
theorem m_var {i : Nat} (h : PE X e (tVar i)) : PE X e (tM G W (mVar i)) := PEimp h fun σ H Q q => by
  obtain ⟨L, st, env, r, st', at_, hm, hp⟩ := q
  unfold mVar at hm
  split at hm
  · rename_i d hd
    cases hm
    obtain ⟨v, hv, dv⟩ := at_.e.at_ i d hd
    exact ⟨v, hv, hp v L H (Ev.refl L H) at_.r dv⟩
  · cases hm
theorem m_c {v : V} {d : D} (h : PE X e (tC v)) (hd : ∀ H, Da G H v d) : PE X e (tM G W (mC d)) := PEimp h fun σ H Q q => by
  obtain ⟨L, st, env, r, st', at_, hm, hp⟩ := q
  cases hm
  exact hp v L H (Ev.refl L H) at_.r (.d (hd _))
theorem m_op {op : Operator} (ho : OpR X (binaryOp op) r) (hr : R2M G r g) (ha : PE X a (tM G W ma)) (hb : PE X b (tM G W mb)) : PE X (.BinOp a op b pos) (tM G W (mOp g ma mb)) :=
  PEimp (pe_op ho ha hb) fun _ _ _ => t_op hr
theorem m_un {op : UnaryOp} {r1 : V → Hp → VK → Prop} {g1 : Store → D → Option D} (ho : UnR X (unaryOp op) r1) (hr : R1M G r1 g1) (ha : PE X a (tM G W ma)) : PE X (.UnaryOp op a pos) (tM G W (mUn g1 ma)) :=
  PEimp (pe_un ho ha) fun _ _ _ => t_un hr
theorem m_cmp {op : CmpOp} (ho : OpR X (compareOp op) r) (hr : R2M G r g) (ha : PE X a (tM G W ma)) (hb : PE X b (tM G W mb)) (hm : behindInMarks op b = false) : PE X (.Compare a [op] [b] pos) (tM G W (mOp g ma mb)) :=
  PEimp (pe_cmpR ho ha hb hm) fun _ _ _ => t_op hr
theorem m_ix {g : Store → D → D → Option D} (hr : IxR X r) (hm : R2M G r g) (ha : PE X a (tM G W ma)) (hb : PE X b (tM G W mb)) (hs : PlainIx b) : PE X (.Subscript a b pos) (tM G W (mOp g ma mb)) :=
  PEimp (pe_ix hr ha hb hs) fun _ _ _ => t_op hm
/-! tests -/
def mVal (m : ME) : MT := fun env st => bnd (m env st) fun d st => match d with
  | .bl k => some (.ok k, st)
  | _ => none
theorem Va.bl_inv {G : Gb} {L : Lv} {v : V} {k : Bool} (h : Va G L H v (.bl k)) : v = .bl k := by
  cases h with
  | d h => cases h; rfl
theorem t_val {Q : Bool → Hp → Prop} (h : tMT G W (mVal ma) σ H Q) : (tM G W ma) σ H fun x H1 => ∃ k, x = .bl k ∧ Q k H1 := by
  obtain ⟨L, st, env, q, st', at_, hm, hp⟩ := h
  refine tM_bnd at_ hm hp.err fun d st1 v L1 H1 h1 e1 a1 dv => ?_
  split at h1
  · cases h1
    exact ⟨_, Va.bl_inv dv, hp L1 H1 e1 a1.r⟩
  · cases h1
theorem m_val (h : PE X e (tM G W ma)) (he : ∀ whole, isTrue e X.env whole = (do let v ← whole; standAt e.pos; holding [v] (truthy v)) := by intro _; rfl) : PT X e (tMT G W (mVal ma)) :=
  PTimp (pt_val h he) fun _ _ _ => t_val
theorem m_tcmp {op : CmpOp} (ho : OpR X (compareOp op) r) (hr : R2M G r g) (ha : PE X a (tM G W ma)) (hb : PE X b (tM G W mb)) (hm : behindInMarks op b = false) : PT X (.Compare a [op] [b] pos) (tMT G W (mVal (mOp g ma mb))) :=
  PTimp (pt_cmpR ho ha hb hm) fun σ H Q q => by
    have q2 := t_val q
    exact t_op hr q2
/-- a op b op' c -/
def mChain (g g' : Store → D → D → Option D) (ma mb mc : ME) : ME := fun env st => bnd (ma env st) fun x st => bnd (mb env st) fun y st => match g st x y with
  | some (.bl true) => bnd (mc env st) fun z st => (match g' st y z with
    | some u => some (.ok u, st)
    | none => none)
  | some (.bl false) => some (.ok (.bl false), st)
  | _ => none
theorem t_chain (hr : R2M G r g) (hr' : R2M G r' g') (h : tM G W (mChain g g' ma mb mc) σ H Q) : tChain r r' (tM G W ma) (tM G W mb) (tM G W mc) σ H Q := by
  obtain ⟨L, st, env, q, st', at_, hm, hp⟩ := h
  refine tM_bnd at_ hm hp.err fun d st1 v L1 H1 h1 e1 a1 dv => ?_
  refine tM_bnd a1 h1 (hp.ev e1).err fun d2 st2 v2 L2' H2 h2 e2 a2 dv2 => ?_
  split at h2
  · rename_i hz
    refine hr L2' st2 H2 v v2 d d2 _ _ a2.r (e2.va dv) dv2 hz fun v3 L3 H3 e3 r3 d3 => ⟨true, Va.bl_inv d3, ?_⟩
    show tM G W mc σ H3 _
    have e13 := (e1.trans e2).trans e3
    refine tM_bnd (a2.ev e3 r3) h2 (hp.ev e13).err fun d4 st4 v4 L4 H4 h4 e4 a4 dv4 => ?_
    cases hz' : g' st4 d2 d4 with
    | none => rw [hz'] at h4; cases h4
    | some z =>
      rw [hz'] at h4
      cases h4
      exact hr' L4 _ H4 v2 v4 d2 d4 z Q a4.r (e4.va (e3.va dv2)) dv4 hz' fun v5 L5 H5 e5 => hp v5 L5 H5 ((e13.trans e4).trans e5)
  · rename_i hz
    cases h2
    refine hr L2' _ H2 v v2 d d2 _ _ a2.r (e2.va dv) dv2 hz fun v3 L3 H3 e3 r3 d3 => ⟨false, Va.bl_inv d3, ?_⟩
    show Q (.bl false) H3
    exact hp _ L3 H3 ((e1.trans e2).trans e3) r3 (.d (.bl false))
  · cases h2
theorem m_chain {op op' : CmpOp} (ho : OpR X (compareOp op) r) (hr : R2M G r g) (ho' : OpR X (compareOp op') r') (hr' : R2M G r' g') (ha : PE X a (tM G W ma)) (hb : PE X b (tM G W mb)) (hc : PE X c (tM G W mc))
    (hm : lastMarks [op, op'] [b, c] = false := by with_unfolding_all rfl) : PE X (.Compare a [op, op'] [b, c] pos) (tM G W (mChain g g' ma mb mc)) :=
  PEimp (pe_chain ho ho' ha hb hc hm) fun _ _ _ => t_chain hr hr'
theorem m_tchain {op op' : CmpOp} (ho : OpR X (compareOp op) r) (hr : R2M G r g) (ho' : OpR X (compareOp op') r') (hr' : R2M G r' g') (ha : PE X a (tM G W ma)) (hb : PE X b (tM G W mb)) (hc : PE X c (tM G W mc))
    (hm : lastMarks [op, op'] [b, c] = false := by with_unfolding_all rfl) : PT X (.Compare a [op, op'] [b, c] pos) (tMT G W (mVal (mChain g g' ma mb mc))) :=
  PTimp (pt_chain ho ho' ha hb hc hm) fun σ H Q q => by
    have q2 := t_val q
    exact t_chain hr hr' q2
/-! and, or, not, if -/
def mAnd (mt mu : MT) : MT := fun env st => bnd (mt env st) fun k st => if k = true then mu env st else some (.ok false, st)
def mOr (mt mu : MT) : MT := fun env st => bnd (mt env st) fun k st => if k = true then some (.ok true, st) else mu env st
def mNot (mt : MT) : MT := fun env st => bnd (mt env st) fun k st => some (.ok (!k), st)
theorem m_and {rest : List Expr} (ha : PT X a (tMT G W mt)) (hb : PW X (.BoolOp .And (b :: rest) pos) (tMT G W mu)) : PW X (.BoolOp .And (a :: b :: rest) pos) (tMT G W (mAnd mt mu)) :=
  PWimp (pw_and ha hb) fun σ H Q q => by
    obtain ⟨L, st, env, q, st', at_, hm, hp⟩ := q
    refine tMT_bnd at_ hm hp.err fun d st1 L1 H1 h1 e1 a1 => ?_
    cases d with
    | true => exact ⟨L1, st1, env, _, _, a1, h1, hp.ev e1⟩
    | false =>
      cases h1
      exact hp L1 H1 e1 a1.r
theorem m_or {rest : List Expr} (ha : PT X a (tMT G W mt)) (hb : PW X (.BoolOp .Or (b :: rest) pos) (tMT G W mu)) : PW X (.BoolOp .Or (a :: b :: rest) pos) (tMT G W (mOr mt mu)) :=
  PWimp (pw_or ha hb) fun σ H Q q => by
    obtain ⟨L, st, env, q, st', at_, hm, hp⟩ := q
    refine tMT_bnd at_ hm hp.err fun d st1 L1 H1 h1 e1 a1 => ?_
    cases d with
    | false => exact ⟨L1, st1, env, _, _, a1, h1, hp.ev e1⟩
    | true =>
      cases h1
      exact hp L1 H1 e1 a1.r
theorem m_not (ha : PT X a (tMT G W mt)) : PT X (.UnaryOp .Not a pos) (tMT G W (mNot mt)) :=
  PTimp (pt_not ha) fun σ H Q q => by
    obtain ⟨L, st, env, q, st', at_, hm, hp⟩ := q
    refine tMT_bnd at_ hm hp.err fun d st1 L1 H1 h1 e1 a1 => ?_
    cases h1
    exact hp L1 H1 e1 a1.r
def mAndV (ma mb : ME) : ME := fun env st => bnd (ma env st) fun d st => match d with
  | .bl true => mb env st
  | .bl false => some (.ok (.bl false), st)
  | _ => none
def mOrV (ma mb : ME) : ME := fun env st => bnd (ma env st) fun d st => match d with
  | .bl false => mb env st
  | .bl true => some (.ok (.bl true), st)
  | _ => none
def mNotV (ma : ME) : ME := fun env st => bnd (ma env st) fun d st => match d with
  | .bl k => some (.ok (.bl (!k)), st)
  | _ => none
theorem m_andV {rest : List Expr} (ha : PE X a (tM G W ma)) (hb : PE X (.BoolOp .And (b :: rest) pos) (tM G W mb)) : PE X (.BoolOp .And (a :: b :: rest) pos) (tM G W (mAndV ma mb)) :=
  PEimp (pe_and ha hb) fun σ H Q q => by
    obtain ⟨L, st, env, q, st', at_, hm, hp⟩ := q
    refine tM_bnd at_ hm hp.err fun d st1 v L1 H1 h1 e1 a1 dv => ?_
    split at h1
    · exact ⟨true, Va.bl_inv dv, L1, st1, env, _, _, a1, h1, hp.ev e1⟩
    · cases h1
      refine ⟨false, Va.bl_inv dv, ?_⟩
      show Q (.bl false) H1
      exact hp _ L1 H1 e1 a1.r (.d (.bl false))
    · cases h1
theorem m_orV {rest : List Expr} (ha : PE X a (tM G W ma)) (hb : PE X (.BoolOp .Or (b :: rest) pos) (tM G W mb)) : PE X (.BoolOp .Or (a :: b :: rest) pos) (tM G W (mOrV ma mb)) :=
  PEimp (pe_or ha hb) fun σ H Q q => by
    obtain ⟨L, st, env, q, st', at_, hm, hp⟩ := q
    refine tM_bnd at_ hm hp.err fun d st1 v L1 H1 h1 e1 a1 dv => ?_
    split at h1
    · exact ⟨false, Va.bl_inv dv, L1, st1, env, _, _, a1, h1, hp.ev e1⟩
    · cases h1
      refine ⟨true, Va.bl_inv dv, ?_⟩
      show Q (.bl true) H1
      exact hp _ L1 H1 e1 a1.r (.d (.bl true))
    · cases h1
theorem m_notV (ha : PE X a (tM G W ma)) : PE X (.UnaryOp .Not a pos) (tM G W (mNotV ma)) :=
  PEimp (pe_not ha) fun σ H Q q => by
    obtain ⟨L, st, env, q, st', at_, hm, hp⟩ := q
    refine tM_bnd at_ hm hp.err fun d st1 v L1 H1 h1 e1 a1 dv => ?_
    split at h1
    · cases h1
      exact ⟨_, Va.bl_inv dv, hp _ L1 H1 e1 a1.r (.d (.bl _))⟩
    · cases h1
theorem m_one {op} (h : PE X a (tM G W ma)) : PE X (.BoolOp op [a] pos) (tM G W ma) := pe_one h
def mIf (mt : MT) (ma mb : ME) : ME := fun env st => bnd (mt env st) fun k st => if k = true then ma env st else mb env st
theorem m_ifExp (hc : PT X c (tMT G W mt)) (ha : PE X a (tM G W ma)) (hb : PE X b (tM G W mb)) : PE X (.IfExp c a b pos) (tM G W (mIf mt ma mb)) :=
  PEimp (pe_ifExp hc ha hb) fun σ H Q q => by
    obtain ⟨L, st, env, q, st', at_, hm, hp⟩ := q
    refine tMT_bnd at_ hm hp.err fun d st1 L1 H1 h1 e1 a1 => ?_
    cases d with
    | true => exact ⟨L1, st1, env, _, _, a1, h1, hp.ev e1⟩
    | false => exact ⟨L1, st1, env, _, _, a1, h1, hp.ev e1⟩
/-! arguments -/
theorem m_nil : PA X [] (tMA G W mNil) := PAimp pa_nil fun σ H Q q => by
  obtain ⟨L, st, env, q, st', at_, hm, hp⟩ := q
  cases hm
  exact hp [] L H (Ev.refl L H) at_.r .nil
theorem t_cons {Q : List V → Hp → Prop} (h : tMA G W (mCons ma mas) σ H Q) : tCons (tM G W ma) (tMA G W mas) σ H Q := by
  obtain ⟨L, st, env, q, st', at_, hm, hp⟩ := h
  refine tM_bnd at_ hm hp.err fun d st1 v L1 H1 h1 e1 a1 dv => ?_
  refine tMA_bnd a1 h1 (hp.ev e1).err fun ds st2 vs L2' H2 h2 e2 a2 dvs => ?_
  cases h2
  exact hp _ L2' H2 (e1.trans e2) a2.r (.cons (e2.va dv) dvs)
theorem m_cons (ha : PE X e (tM G W ma)) (hr : PA X es (tMA G W mas)) (hs : starEach (e :: es) X.env = (false, eval e X.env) :: starEach es X.env := by rfl) : PA X (e :: es) (tMA G W (mCons ma mas)) :=
  PAimp (pa_cons ha hr hs) fun _ _ _ => t_cons
theorem t_cb {rc : List V → Hp → VK → Prop} {gc : Store → List D → Option D} (hr : RCM G rc gc) (h : tM G W (mCB gc mas) σ H Q) : (tMA G W mas) σ H fun vs H1 => rc vs H1 Q := by
  obtain ⟨L, st, env, q, st', at_, hm, hp⟩ := h
  refine tMA_bnd at_ hm hp.err fun ds st1 vs L1 H1 h1 e1 a1 dv => ?_
  cases hz : gc st1 ds with
  | none => rw [hz] at h1; cases h1
  | some z =>
    rw [hz] at h1
    cases h1
    exact hr L1 _ H1 vs ds z Q a1.r dv hz fun v3 L3 H3 e3 => hp v3 L3 H3 (e1.trans e3)
theorem t_cbs {rc : List V → Hp → VK → Prop} {gc : Store → List D → Option (D × Store)} (hr : RCMS G rc gc) (h : tM G W (mCBS gc mas) σ H Q) : (tMA G W mas) σ H fun vs H1 => rc vs H1 Q := by
  obtain ⟨L, st, env, q, st', at_, hm, hp⟩ := h
  refine tMA_bnd at_ hm hp.err fun ds st1 vs L1 H1 h1 e1 a1 dv => ?_
  cases hz : gc st1 ds with
  | none => rw [hz] at h1; cases h1
  | some z =>
    obtain ⟨z, st2⟩ := z
    rw [hz] at h1
    cases h1
    exact hr L1 _ _ H1 vs ds z Q a1.r dv hz fun v3 L3 H3 e3 => hp v3 L3 H3 (e1.trans e3)
section
variable {x : Str} {id : String} {p : Pos} {rc : List V → Hp → VK → Prop} {gc : Store → List D → Option D}
theorem m_callB (hc : CallR X (.builtin id) rc) (hr : RCM G rc gc) (hg : Gl X x) (hm : X.mg x = none) (hv : bootBuiltins x = some (.builtin id)) (ha : PA X (e :: es) (tMA G W mas)) (hn : x ≠ "__name__" := by decide) (hdb : (x == ("__debug__" : Str)) = false := by decide)
    (he : starEach (e :: es) X.env = (false, eval e X.env) :: starEach es X.env := by rfl) (hpl : (backTo pos (starEach es X.env)).any (·.1) = false := by rfl) : PE X (.Call (.Name x p) (e :: es) [] pos) (tM G W (mCB gc mas)) :=
  PEimp (pe_callB hc hg hm hv ha (hn := hn) (hdb := hdb) (he := he) (hpl := hpl)) fun _ _ _ => t_cb hr
theorem m_callTy (hc : CallR X (.type id) rc) (hr : RCM G rc gc) (hg : Gl X x) (hm : X.mg x = none) (hv : bootBuiltins x = some (.type id)) (ha : PA X (e :: es) (tMA G W mas)) (hn : x ≠ "__name__" := by decide) (hdb : (x == ("__debug__" : Str)) = false := by decide)
    (he : starEach (e :: es) X.env = (false, eval e X.env) :: starEach es X.env := by rfl) (hpl : (backTo pos (starEach es X.env)).any (·.1) = false := by rfl) : PE X (.Call (.Name x p) (e :: es) [] pos) (tM G W (mCB gc mas)) :=
  PEimp (pe_callTy hc hg hm hv ha (hn := hn) (hdb := hdb) (he := he) (hpl := hpl)) fun _ _ _ => t_cb hr
end
end
end M


/-! The M layer: statements, targets, loops, comprehensions, defs and calls. -/
namespace M
open PySem PySem.Spec PyProof.Rows L2

def bndS {α : Type} (m : Option (Rs α × Store)) (env : En) (k : α → Store → Option (Fl × En × Store)) : Option (Fl × En × Store) :=
  match m with
  | some (.ok a, st) => k a st
  | some (.err x, st) => some (.err x, env, st)
  | none => none
@[simp] theorem bndS_ok {α : Type} {a : α} {st : Store} {env : En} {k : α → Store → Option (Fl × En × Store)} : bndS (some (.ok a, st)) env k = k a st := M.nr rfl
@[simp] theorem bndS_err {α : Type} {x : Xn} {st : Store} {env : En} {k : α → Store → Option (Fl × En × Store)} : bndS (some (.err x, st)) env k = some (.err x, env, st) := M.nr rfl
@[simp] theorem bndS_none {α : Type} {env : En} {k : α → Store → Option (Fl × En × Store)} : bndS none env k = none := M.nr rfl
theorem bndS_cases {α : Type} {m : Option (Rs α × Store)} {env : En} {k : α → Store → Option (Fl × En × Store)} {fl : Fl} {env' : En} {st' : Store} (h : bndS m env k = some (fl, env', st')) :
    (∃ a st1, m = some (.ok a, st1) ∧ k a st1 = some (fl, env', st')) ∨ ∃ x, m = some (.err x, st') ∧ fl = .err x ∧ env' = env := by
  cases m with
  | none => cases h
  | some p =>
    obtain ⟨q, st1⟩ := p
    cases q with
    | ok a => exact .inl ⟨a, st1, rfl, h⟩
    | err x =>
      have h' : some (Fl.err x, env, st1) = some (fl, env', st') := h
      cases h'
      exact .inr ⟨x, rfl, rfl, rfl⟩
section
variable {G : Gm} {W : WX} {σ : L2.St} {L : Lv} {H : Hp} {st : Store} {env : En}
theorem SPost.err {env' : En} {st' : Store} {Dn : Ends} {fl : Fl} (a : At G L st σ env H) (p : SPost G W L H env' st' Dn fl) : ∀ x, fl = .err x → env' = env → ErrP G L H st' x fun cls dd H' => W cls dd σ H' := by
  rintro x rfl rfl
  exact fun cls dd L' H' e r z => p cls dd σ L' H' e r (a.e.ev e) z
theorem tM_bndS {ma : ME} {k : D → Store → Option (Fl × En × Store)} {fl : Fl} {env' : En} {st' : Store} {Q : VK} (a : At G L st σ env H) (h : bndS (ma env st) env k = some (fl, env', st'))
    (err : ∀ x, fl = .err x → env' = env → ErrP G L H st' x fun cls dd H' => W cls dd σ H')
    (ok : ∀ d st1 v L1 H1, k d st1 = some (fl, env', st') → Ev L H L1 H1 → At G L1 st1 σ env H1 → Va G L1 (off L1 H1) v d → Q v H1) : tM G W ma σ H Q := by
  rcases bndS_cases h with ⟨d, st1, h1, h2⟩ | ⟨x, h1, rfl, rfl⟩
  · exact ⟨L, st, env, _, _, a, h1, fun v L1 H1 e r1 dv => ok d st1 v L1 H1 h2 e (a.ev e r1) dv⟩
  · exact ⟨L, st, env', _, _, a, h1, err x rfl rfl⟩
theorem tMT_bndS {ma : MT} {k : Bool → Store → Option (Fl × En × Store)} {fl : Fl} {env' : En} {st' : Store} {Q : Bool → Hp → Prop} (a : At G L st σ env H) (h : bndS (ma env st) env k = some (fl, env', st'))
    (err : ∀ x, fl = .err x → env' = env → ErrP G L H st' x fun cls dd H' => W cls dd σ H')
    (ok : ∀ d st1 L1 H1, k d st1 = some (fl, env', st') → Ev L H L1 H1 → At G L1 st1 σ env H1 → Q d H1) : tMT G W ma σ H Q := by
  rcases bndS_cases h with ⟨d, st1, h1, h2⟩ | ⟨x, h1, rfl, rfl⟩
  · exact ⟨L, st, env, _, _, a, h1, fun L1 H1 e r1 => ok d st1 L1 H1 h2 e (a.ev e r1)⟩
  · exact ⟨L, st, env', _, _, a, h1, err x rfl rfl⟩
theorem tMA_bndS {ma : MA} {k : List D → Store → Option (Fl × En × Store)} {fl : Fl} {env' : En} {st' : Store} {Q : List V → Hp → Prop} (a : At G L st σ env H) (h : bndS (ma env st) env k = some (fl, env', st'))
    (err : ∀ x, fl = .err x → env' = env → ErrP G L H st' x fun cls dd H' => W cls dd σ H')
    (ok : ∀ d st1 v L1 H1, k d st1 = some (fl, env', st') → Ev L H L1 H1 → At G L1 st1 σ env H1 → Vas G L1 (off L1 H1) v d → Q v H1) : tMA G W ma σ H Q := by
  rcases bndS_cases h with ⟨d, st1, h1, h2⟩ | ⟨x, h1, rfl, rfl⟩
  · exact ⟨L, st, env, _, _, a, h1, fun v L1 H1 e r1 dv => ok d st1 v L1 H1 h2 e (a.ev e r1) dv⟩
  · exact ⟨L, st, env', _, _, a, h1, err x rfl rfl⟩
end

/-! ### blocks -/
def mNext : MS := fun env st => some (.next, env, st)
def mSeq (m k : MS) : MS := fun env st => match m env st with
  | some (.next, env', st') => k env' st'
  | r => r
def mDrop (m : ME) : MS := fun env st => bndS (m env st) env fun _ st => some (.next, env, st)
def mRet (m : ME) : MS := fun env st => bndS (m env st) env fun d st => some (.ret d, env, st)
def mRetN : MS := fun env st => some (.ret .non, env, st)
def mBrk : MS := fun env st => some (.brk, env, st)
def mCont : MS := fun env st => some (.cont, env, st)
def mIfS (mt : MT) (a b : MS) : MS := fun env st => bndS (mt env st) env fun k st => if k = true then a env st else b env st
def mNever : MS := fun _ _ => none
section
variable {G : Gm} {W : WX} {X : Cx} {s : Stmt} {ss : List Stmt} {e c : Expr} {m k : MS} {ma : ME} {mt : MT} {pos : Pos}
theorem ms_nil : PSs X [] (tMS G W mNext) := PSsimp pss_nil fun D σ H q => by
  obtain ⟨L, st, env, fl, env', st', at_, hm, hp⟩ := q
  cases hm
  exact hp σ L H (Ev.refl L H) at_.r at_.e
theorem ms_pass : PS X (.Pass pos) (tMS G W mNext) := PSimp ps_pass fun D σ H q => by
  obtain ⟨L, st, env, fl, env', st', at_, hm, hp⟩ := q
  cases hm
  exact hp σ L H (Ev.refl L H) at_.r at_.e
theorem ms_brk : PS X (.Break pos) (tMS G W mBrk) := PSimp ps_break fun D σ H q => by
  obtain ⟨L, st, env, fl, env', st', at_, hm, hp⟩ := q
  cases hm
  exact hp σ L H (Ev.refl L H) at_.r at_.e
theorem ms_cont : PS X (.Continue pos) (tMS G W mCont) := PSimp ps_continue fun D σ H q => by
  obtain ⟨L, st, env, fl, env', st', at_, hm, hp⟩ := q
  cases hm
  exact hp σ L H (Ev.refl L H) at_.r at_.e
theorem ms_never : PS X s (tMS G W mNever) := PSimp ps_never fun D σ H q => by
  obtain ⟨L, st, env, fl, env', st', at_, hm, hp⟩ := q
  cases hm
theorem t_seq {D : Ends} {σ : L2.St} {H : Hp} (hF : Flat G) (h : tMS G W (mSeq m k) D σ H) : tSeq (tMS G W m) (tMS G W k) D σ H := by
  obtain ⟨L, st, env, fl, env', st', at_, hm, hp⟩ := h
  unfold mSeq at hm
  split at hm
  · rename_i env1 st1 h1
    exact ⟨L, st, env, _, _, _, at_, h1, fun σ1 L1 H1 e1 r1 en1 => ⟨L1, st1, env1, _, _, _, at_.to hF e1 r1 en1, hm, hp.ev e1⟩⟩
  · rename_i hne
    refine ⟨L, st, env, _, _, _, at_, hm, ?_⟩
    cases fl with
    | next => exact (hne env' st' hm).elim
    | brk => exact hp
    | cont => exact hp
    | ret d => exact hp
    | err x => exact hp
theorem ms_cons (h1 : PS X s (tMS G W m)) (h2 : PSs X ss (tMS G W k)) (hF : Flat G := by exact fun _ _ _ h => h) : PSs X (s :: ss) (tMS G W (mSeq m k)) := PSsimp (pss_cons h1 h2) fun _ _ _ => t_seq hF
theorem ms_one (h1 : PS X s (tMS G W m)) : PSs X [s] (tMS G W m) := pss_one h1
theorem ms_expr (he : PE X e (tM G W ma)) (hs : swapsWith e none pos.line X.env = pure false := by rfl) : PS X (.Expr e pos) (tMS G W (mDrop ma)) := PSimp (ps_expr he hs) fun D σ H q => by
  obtain ⟨L, st, env, fl, env', st', at_, hm, hp⟩ := q
  refine tM_bndS at_ hm (hp.err at_) fun d st1 v L1 H1 h1 e1 a1 dv => ?_
  cases h1
  exact hp σ L1 H1 e1 a1.r a1.e
theorem ms_ret (he : PE X e (tM G W ma)) : PS X (.Return (some e) pos) (tMS G W (mRet ma)) := PSimp (ps_ret he) fun D σ H q => by
  obtain ⟨L, st, env, fl, env', st', at_, hm, hp⟩ := q
  refine tM_bndS at_ hm (hp.err at_) fun d st1 v L1 H1 h1 e1 a1 dv => ?_
  cases h1
  exact hp v L1 H1 e1 a1.r dv
theorem ms_retN : PS X (.Return none pos) (tMS G W mRetN) := PSimp ps_retN fun D σ H q => by
  obtain ⟨L, st, env, fl, env', st', at_, hm, hp⟩ := q
  cases hm
  exact hp .non L H (Ev.refl L H) at_.r (.d .non)
theorem ms_if {a b : List Stmt} (hc : PT X c (tMT G W mt)) (ha : PSs X a (tMS G W m)) (hb : PSs X b (tMS G W k)) : PS X (.If c a b pos) (tMS G W (mIfS mt m k)) := PSimp (ps_if hc ha hb) fun D σ H q => by
  obtain ⟨L, st, env, fl, env', st', at_, hm, hp⟩ := q
  refine tMT_bndS at_ hm (hp.err at_) fun d st1 L1 H1 h1 e1 a1 => ?_
  cases d with
  | true => exact ⟨L1, st1, env, _, _, _, a1, h1, hp.ev e1⟩
  | false => exact ⟨L1, st1, env, _, _, _, a1, h1, hp.ev e1⟩
end

/-! ### targets -/
/-- a name's slot, a tuple of names' slots -/
inductive Tg where
  | nm (i : Nat) | tp (is : List Nat)
def setL : List Nat → List D → En → Option En
  | [], [], env => some env
  | i :: is, d :: ds, env => setL is ds (env.set i (some d))
  | _, _, _ => none
def setT : Tg → D → En → Option En
  | .nm i, d, env => some (env.set i (some d))
  | .tp is, .tup ds, env => setL is ds env
  | _, _, _ => none
def Tg.slots : Tg → List Nat
  | .nm i => [i]
  | .tp is => is
structure TgOk (G : Gm) (g : TG) (t : Tg) : Prop where
  run : ∀ (L : Lv) (H : Hp) (st : Store) (v : V) (d : D) (σ : L2.St) (env env' : En) (Q : L2.St → Hp → Prop), At G L st σ env H → Va G L (off L H) v d → setT t d env = some env' →
    (∀ σ', At G L st σ' env' H → (∀ vs, (∀ i ∈ t.slots, i ∈ vs) → wipe σ' vs = wipe σ vs) → Q σ' H) → g v σ H Q
theorem wipe_set {i : Nat} {x : Option V} : ∀ {vs : List Nat} {σ : L2.St}, i ∈ vs → wipe (σ.set i x) vs = wipe σ vs
  | [], σ, h => by cases h
  | v :: vs, σ, h => by
    by_cases e : i ∈ vs
    · show (wipe (σ.set i x) vs).set v none = (wipe σ vs).set v none
      rw [wipe_set e]
    · have e2 : i = v := by
        rcases List.mem_cons.mp h with h | h
        · exact h
        · exact absurd h e
      subst e2
      show (wipe (σ.set i x) vs).set i none = (wipe σ vs).set i none
      have key : ∀ (us : List Nat) (τ : L2.St), (wipe (τ.set i x) us).set i none = (wipe τ us).set i none := by
        intro us
        induction us with
        | nil =>
          intro τ
          show (τ.set i x).set i none = τ.set i none
          rw [List.set_set]
        | cons u us ih =>
          intro τ
          show ((wipe (τ.set i x) us).set u none).set i none = ((wipe τ us).set u none).set i none
          by_cases q : u = i
          · rw [q, List.set_set, List.set_set]
            exact ih τ
          · rw [List.set_comm _ _ q, List.set_comm _ _ q, ih τ]
      exact key vs σ
theorem EnvR.set {G : Gb} {L : Lv} {H : Hp} {σ : L2.St} {env : En} (h : EnvR G L H σ env) (i : Nat) {v : V} {d : D} (hv : Va G L H v d) : EnvR G L H (σ.set i (some v)) (env.set i (some d)) :=
  ⟨by rw [List.length_set, List.length_set]; exact h.len, fun j x q => by
    by_cases e : i = j
    · subst e
      have hi : i < env.length := by
        have := (List.getElem?_eq_some_iff.mp q).1
        rw [List.length_set] at this
        exact this
      rw [List.getElem?_set_self hi] at q
      cases q
      exact ⟨v, List.getElem?_set_self (by rw [h.len]; exact hi), hv⟩
    · rw [List.getElem?_set_ne e] at q
      rw [List.getElem?_set_ne e]
      exact h.at_ j x q⟩
theorem tg_nm {G : Gm} {i : Nat} (hF : Flat G := by exact fun _ _ _ h => h) : TgOk G (gName i) (.nm i) := ⟨fun L H st v d σ env env' Q a dv hs k => by
  cases hs
  exact k _ ⟨a.e.set i dv, a.r, hF _ _ _ a.p⟩ fun vs hi => wipe_set (hi i (List.mem_singleton.mpr rfl))⟩
/-- the chain of names of a tuple target -/
def gNames : List Nat → TGs
  | [] => gNil
  | i :: is => gCons (gName i) (gNames is)
theorem gNames_run {G : Gm} {L : Lv} {H : Hp} {st : Store} {Q : L2.St → Hp → Prop} (hF : Flat G) : ∀ (is : List Nat) (ds : List D) (vs : List V) (σ : L2.St) (env env' : En), At G L st σ env H → Das G (off L H) vs ds → setL is ds env = some env' →
    (∀ σ', At G L st σ' env' H → (∀ us, (∀ i ∈ is, i ∈ us) → wipe σ' us = wipe σ us) → Q σ' H) → gNames is vs σ H Q
  | [], [], _, σ, env, env', a, h, hs, k => by
    cases h
    cases hs
    exact ⟨rfl, k σ a fun _ _ => rfl⟩
  | [], _ :: _, _, _, _, _, _, _, hs, _ => by cases hs
  | _ :: _, [], _, _, _, _, _, _, hs, _ => by cases hs
  | i :: is, d :: ds, _, σ, env, env', a, h, hs, k => by
    cases h with
    | @cons v vs _ _ h r =>
      refine ⟨v, vs, rfl, gNames_run hF is ds vs _ _ _ ⟨a.e.set i (.d h), a.r, hF _ _ _ a.p⟩ r hs fun σ' a' w => k σ' a' fun us hi => ?_⟩
      rw [w us fun j hj => hi j (List.mem_cons_of_mem _ hj), wipe_set (hi i List.mem_cons_self)]
theorem tg_tp {G : Gm} {K : PySem.W.Frag} {n : Nat} {is : List Nat} (hn : is.length = n := by rfl) (hF : Flat G := by exact fun _ _ _ h => h) : TgOk G (gTup K n (gNames is)) (.tp is) := ⟨fun L H st v d σ env env' Q a dv hs k => by
  cases d with
  | tup ds =>
    cases dv with
    | d dv =>
      cases dv with
      | @tup p vs _ h r =>
        have hl : ∀ (is : List Nat) (ds : List D) (env env' : En), setL is ds env = some env' → is.length = ds.length := by
          intro is
          induction is with
          | nil =>
            intro ds env env' h
            cases ds with
            | nil => rfl
            | cons _ _ => cases h
          | cons i is ih =>
            intro ds env env' h
            cases ds with
            | nil => cases h
            | cons d ds => simp [ih ds _ _ h]
        refine ⟨p, vs, rfl, .inl (.inl (off_some h).1), ?_, gNames_run hF is ds vs σ env env' a r hs k⟩
        rw [r.length, ← hl is ds _ _ hs, hn]
  | _ => cases hs⟩

def mAsg (m : ME) (t : Tg) : MS := fun env st => bndS (m env st) env fun d st => match setT t d env with
  | some env' => some (.next, env', st)
  | none => none
section
variable {G : Gm} {W : WX} {X : Cx} {e tg : Expr} {ma : ME} {mas : MA} {pos : Pos} {g : TG} {t : Tg}
theorem t_asg (ht : TgOk G g t) {D : Ends} {σ : L2.St} {H : Hp} (q : tMS G W (mAsg ma t) D σ H) : tAsg (tM G W ma) g D σ H := by
  obtain ⟨L, st, env, fl, env', st', at_, hm, hp⟩ := q
  refine tM_bndS at_ hm (hp.err at_) fun d st1 v L1 H1 h1 e1 a1 dv => ?_
  cases hz : setT t d env with
  | none => rw [hz] at h1; cases h1
  | some env2 =>
    rw [hz] at h1
    cases h1
    exact ht.run L1 H1 st' v d σ env env' _ a1 dv hz fun σ' a' _ => hp σ' L1 H1 e1 a'.r a'.e
theorem ms_set {i : Nat} {x : Str} {pos' : Pos} (hN : X.N.Nodup) (hi : X.N[i]? = some x) (hx : Loc X.env.scope x) (he : PE X e (tM G W ma)) (hs : swapsWith e (some (.Name x pos')) pos.line X.env = pure false := by rfl) (hf : X.fn x = true ∨ X.env.scope.names.lookup x = some .local := by first | exact .inl rfl | exact .inr rfl | assumption) (hF : Flat G := by exact fun _ _ _ h => h) :
    PS X (.Assign [.Name x pos'] e pos) (tMS G W (mAsg ma (.nm i))) := PSimp (ps_set hN hi hx he hs hf) fun _ _ _ => t_asg (tg_nm hF)
theorem ms_asg (he : PE X e (tM G W ma)) (hg : PG X tg g) (ht : TgOk G g t) (hs : swapsWithSole [tg] e pos.line X.env = pure false := by rfl) (hw : swappedStores [tg] e X.env = pure none := by rfl)
    (h1 : (assignEach [tg] X.env).map (·.2) = [assign tg X.env] := by rfl) : PS X (.Assign [tg] e pos) (tMS G W (mAsg ma t)) := PSimp (ps_asg he hg hs hw h1) fun _ _ _ => t_asg ht
/-- a, b = x, y -/
def mPar (i j : Nat) (ma : MA) : MS := fun env st => bndS (ma env st) env fun ds st => match ds with
  | [d, e] => some (.next, (env.set i (some d)).set j (some e), st)
  | _ => none
theorem ms_par {i j : Nat} {x y : Str} {a b : Expr} {px py pt : Pos} {kt k2 pt2} (hc : X.calm = true) (hN : X.N.Nodup) (hi : X.N[i]? = some x) (hj : X.N[j]? = some y) (hij : i ≠ j)
    (hx : X.env.scope.names.lookup x = some .local) (hy : X.env.scope.names.lookup y = some .local) (ha : PA X [a, b] (tMA G W mas))
    (hw : swappedStores [.Tuple [.Name x px, .Name y py] kt pt] (.Tuple [a, b] k2 pt2) X.env = pure (some [x, y]))
    (hs : swapsWithSole [.Tuple [.Name x px, .Name y py] kt pt] (.Tuple [a, b] k2 pt2) pos.line X.env = pure false := by rfl) :
    PS X (.Assign [.Tuple [.Name x px, .Name y py] kt pt] (.Tuple [a, b] k2 pt2) pos) (tMS G W (mPar i j mas)) := PSimp (ps_par hc hN hi hj hij hx hy ha hw hs) fun D σ H q => by
  obtain ⟨L, st, env, fl, env', st', at_, hm, hp⟩ := q
  refine tMA_bndS at_ hm (hp.err at_) fun ds st1 vs L1 H1 h1 e1 a1 dv => ?_
  split at h1
  · cases h1
    cases dv with
    | cons h r =>
      cases r with
      | cons h' r =>
        cases r
        exact ⟨_, _, rfl, hp _ L1 H1 e1 a1.r ((a1.e.set i h).set j h')⟩
  · cases h1
end
end M


/-! The M layer: trimming, walks, loops. -/
namespace M
open PySem PySem.Spec PyProof.Rows L2

/-! ### trimming: cells made since are let go -/
def Lv.trim (L : Lv) (n : Nat) : Lv := ⟨L.c.take n, L.h⟩
def refOk (n : Nat) : D → Bool
  | .ref i => decide (i < n)
  | _ => true
def cellOk (n : Nat) : Cell → Bool
  | .ins _ fs => fs.all fun p => refOk n p.2
  | _ => true
def trimO (n : Nat) : Option D → Option D
  | some (.ref i) => if i < n then some (.ref i) else none
  | o => o
def trimE (n : Nat) (env : En) : En := env.map (trimO n)
section
variable {G : Gb} {L L0 : Lv} {H H0 : Hp} {st : Store} {n : Nat}
theorem trim_same : Same (off L H) (off (L.trim n) H) := fun a o h => by
  obtain ⟨h1, h2⟩ := off_some h
  refine off_of h1 fun z => h2 ?_
  rcases z with z | z
  · exact .inl (List.mem_of_mem_take z)
  · exact .inr z
theorem take_get {α : Type} {l : List α} {i : Nat} {x : α} (h : (l.take n)[i]? = some x) : i < n ∧ l[i]? = some x := by
  have q := (List.getElem?_eq_some_iff.mp h).1
  rw [List.length_take] at q
  have hi : i < n := Nat.lt_of_lt_of_le q (Nat.min_le_left _ _)
  rw [List.getElem?_take, if_pos hi] at h
  exact ⟨hi, h⟩
theorem get_take {α : Type} {l : List α} {i : Nat} {x : α} (hi : i < n) (h : l[i]? = some x) : (l.take n)[i]? = some x := by
  rw [List.getElem?_take, if_pos hi]
  exact h
theorem Va.trim (hn : n ≤ L.c.length) {v : V} {d : D} (h : Va G L (off L H) v d) (k : refOk n d = true) : Va G (L.trim n) (off (L.trim n) H) v d := by
  cases h with
  | d h => exact .d (Da.mono (Rl.of_same trim_same) d v h)
  | @ref a i hi h =>
    have hi2 : i < n := of_decide_eq_true k
    refine .ref ?_ fun b q => h b (take_get q).2
    show i < (L.c.take n).length
    rw [List.length_take]
    exact Nat.lt_min.mpr ⟨hi2, hi⟩
theorem VasF.trim (hn : n ≤ L.c.length) : ∀ {vs : List (Str × V)} {ds : List (Str × D)}, VasF G L (off L H) vs ds → (ds.all fun p => refOk n p.2) = true → VasF G (L.trim n) (off (L.trim n) H) vs ds
  | _, _, .nil, _ => .nil
  | _, _, .cons h r, k => by
    rw [List.all_cons, Bool.and_eq_true] at k
    exact .cons (h.trim hn k.1) (VasF.trim hn r k.2)
theorem Rep.trim (R : Rep G L st H) (hn : n ≤ L.c.length) (k : (st.take n).all (cellOk n) = true) : Rep G (L.trim n) (st.take n) H where
  len := by
    show (L.c.take n).length = (st.take n).length
    rw [List.length_take, List.length_take, R.len]
  inj := fun i j a h1 h2 => R.inj i j a (take_get h1).2 (take_get h2).2
  cell := fun i x c hx hc => by
    have hc2 := (take_get hc).2
    have q := R.cell i x c (take_get hx).2 hc2
    have ck : cellOk n c = true := List.all_eq_true.mp k c (List.mem_of_getElem? hc)
    cases x with
    | none => cases c <;> first | exact q | exact q.elim
    | some a =>
      cases c with
      | lst ds => obtain ⟨vs, q1, r⟩ := q; exact ⟨vs, q1, Das.mono (Rl.of_same trim_same) _ _ r⟩
      | dK ds => obtain ⟨vs, q1, r⟩ := q; exact ⟨vs, q1, DasK.mono (Rl.of_same trim_same) _ _ r⟩
      | dT ds => obtain ⟨vs, q1, r⟩ := q; exact ⟨vs, q1, DasT.mono (Rl.of_same trim_same) _ _ r⟩
      | ins c ds => obtain ⟨dx, vs, q1, r⟩ := q; exact ⟨dx, vs, q1, r.trim hn ck⟩
      | dead => exact q.elim
  hid := fun a ha => ⟨(R.hid a ha).1, fun z => (R.hid a ha).2 (List.mem_of_mem_take z)⟩
theorem Ev.trim (e : Ev L0 H0 L H) (hn : L0.c.length = n) : Ev L0 H0 (L.trim n) H where
  le := ⟨by
    show L0.c.length ≤ (L.c.take n).length
    rw [List.length_take, hn]
    have := e.le.len
    omega, fun i a hi h => e.le.at_ i a hi (take_get h).2⟩
  new := fun i a hi h => absurd (take_get h).1 (by omega)
  same := e.same.trans (Rl.of_same trim_same)
  there := e.there
  hh := e.hh
  keep := e.keep
theorem EnvR.trim {σ : L2.St} {env : En} (hn : n ≤ L.c.length) (h : EnvR G L (off L H) σ env) : EnvR G (L.trim n) (off (L.trim n) H) σ (trimE n env) :=
  ⟨by
    unfold trimE
    rw [List.length_map]
    exact h.len, fun i d q => by
    unfold trimE at q
    rw [List.getElem?_map] at q
    cases e : env[i]? with
    | none => rw [e] at q; cases q
    | some o =>
      rw [e] at q
      have q2 : trimO n o = some d := Option.some.inj q
      cases o with
      | none => cases q2
      | some x =>
        obtain ⟨v, h1, h2⟩ := h.at_ i x e
        cases x with
        | ref j =>
          unfold trimO at q2
          dsimp only at q2
          split at q2
          · rename_i hj
            cases q2
            exact ⟨v, h1, h2.trim hn (decide_eq_true hj)⟩
          · cases q2
        | non => cases q2; exact ⟨v, h1, h2.trim hn rfl⟩
        | bl _ => cases q2; exact ⟨v, h1, h2.trim hn rfl⟩
        | int _ => cases q2; exact ⟨v, h1, h2.trim hn rfl⟩
        | str _ => cases q2; exact ⟨v, h1, h2.trim hn rfl⟩
        | ty _ => cases q2; exact ⟨v, h1, h2.trim hn rfl⟩
        | lst _ => cases q2; exact ⟨v, h1, h2.trim hn rfl⟩
        | tup _ => cases q2; exact ⟨v, h1, h2.trim hn rfl⟩
        | ro _ => cases q2; exact ⟨v, h1, h2.trim hn rfl⟩
        | dK _ => cases q2; exact ⟨v, h1, h2.trim hn rfl⟩
        | dT _ => cases q2; exact ⟨v, h1, h2.trim hn rfl⟩
        | obj _ _ => cases q2; exact ⟨v, h1, h2.trim hn rfl⟩
        | ptr _ => cases q2; exact ⟨v, h1, h2.trim hn rfl⟩
        | cls _ => cases q2; exact ⟨v, h1, h2.trim hn rfl⟩⟩
end

/-! ### walks -/
structure WalkD (G : Gb) (J : It) (ds : List D) (L0 : Lv) (H0 : Hp) : Prop where
  go : ∀ i L H, Rl (off L0 H0) (off L H) → i < ds.length → J.go i H
  yld : ∀ (i : Nat) L H (st : Store) (d : D), Rl (off L0 H0) (off L H) → Rep G L st H → ds[i]? = some d → ∀ x H', J.yld i H x H' → Ev L H L H' ∧ Rep G L st H' ∧ Da G (off L H') x d
  stop : ∀ L H, Rl (off L0 H0) (off L H) → J.stop ds.length H
def tMI (G : Gm) (W : WX) (mi : MA) : TI := fun σ H R => ∃ L st env r st', At G L st σ env H ∧ mi env st = some (r, st') ∧ (match r with
  | .ok ds => ∀ J L1 H1, Ev L H L1 H1 → Rep G L1 st' H1 → WalkD G J ds L1 H1 → R J H1
  | .err x => ErrP G L H st' x fun cls dd H' => W cls dd σ H')
theorem PIimp {X : Cx} {tg it : Expr} {t u : TI} (h : PI X tg it t) (k : ∀ σ H Q, u σ H Q → t σ H Q) : PI X tg it u := ⟨fun pins s σ H R I q => h.run pins s σ H R I (k _ _ _ q)⟩
section
variable {G : Gb} {L : Lv} {H : Hp} {st : Store} {a : Addr} {vs : List V} {ds : List D}
theorem walk_list (h : SqL G.K (off L H) a vs) (r : Das G (off L H) vs ds) : WalkD G (Itl G.K a) ds L H := by
  have sq : ∀ L' H', Rl (off L H) (off L' H') → SqL G.K H' a vs := fun L' H' e => by
    rcases h with h | h
    · rcases h with h | ⟨o, h⟩
      · exact .inl (.inl (off_some (e.lst _ _ h)).1)
      · exact .inl (.inr ⟨o, (off_some (e.frz _ _ _ h)).1⟩)
    · exact .inr h
  refine ⟨fun i L' H' e hi => ?_, fun i L' H' st d e R hd x H2 y => ?_, fun L' H' e => ⟨vs, sq _ _ e, by rw [r.length]; exact Nat.le_refl _⟩⟩
  · have hv : i < vs.length := by rw [r.length]; exact hi
    exact ⟨vs, vs[i], sq _ _ e, List.getElem?_eq_getElem hv⟩
  · obtain ⟨rfl, y⟩ := y
    refine ⟨Ev.refl _ _, R, ?_⟩
    obtain ⟨v, hv, dv⟩ := r.getD hd
    have hx := y vs (sq _ _ e)
    rw [hv] at hx
    cases hx
    exact Da.mono e _ _ dv
theorem walk_tup (h : off L H a = some (.tup vs)) (r : Das G (off L H) vs ds) : WalkD G (Itt G.K a) ds L H := by
  have sq : ∀ L' H', Rl (off L H) (off L' H') → SqT G.K H' a vs := fun L' H' e => .inl (.inl (off_some (e.tup _ _ h)).1)
  refine ⟨fun i L' H' e hi => ?_, fun i L' H' st d e R hd x H2 y => ?_, fun L' H' e => ⟨vs, sq _ _ e, by rw [r.length]; exact Nat.le_refl _⟩⟩
  · have hv : i < vs.length := by rw [r.length]; exact hi
    exact ⟨vs, vs[i], sq _ _ e, List.getElem?_eq_getElem hv⟩
  · obtain ⟨rfl, y⟩ := y
    refine ⟨Ev.refl _ _, R, ?_⟩
    obtain ⟨v, hv, dv⟩ := r.getD hd
    have hx := y vs (sq _ _ e)
    rw [hv] at hx
    cases hx
    exact Da.mono e _ _ dv
def intsFrom (lo : Int) (n : Nat) : List D := (List.range n).map fun i => .int (lo + (i : Nat))
theorem walk_range {lo : Int} {n : Nat} : WalkD G (Itr lo n) (intsFrom lo n) L H := by
  refine ⟨fun i L' H' e hi => ?_, fun i L' H' st d e R hd x H2 y => ?_, fun L' H' e => ?_⟩
  · show i < n
    simpa [intsFrom] using hi
  · obtain ⟨rfl, rfl⟩ := y
    refine ⟨Ev.refl _ _, R, ?_⟩
    unfold intsFrom at hd
    rw [List.getElem?_map] at hd
    cases e2 : (List.range n)[i]? with
    | none => rw [e2] at hd; cases hd
    | some j =>
      rw [e2] at hd
      have hj : j = i := by
        have := List.getElem?_eq_some_iff.mp e2
        obtain ⟨h1, h2⟩ := this
        simpa using h2.symm
      subst hj
      cases hd
      exact .int _
  · simp [intsFrom, Itr]
theorem Da.sq {v : V} (h : Da G H v (.lst ds)) : ∃ a vs, v = .ref a ∧ H a = some (.lst vs) ∧ Das G H vs ds := by
  cases h with
  | lst h r => exact ⟨_, _, rfl, h, r⟩
theorem Va.lst_inv {v : V} (h : Va G L H v (.lst ds)) : ∃ a vs, v = .ref a ∧ H a = some (.lst vs) ∧ Das G H vs ds := by
  cases h with
  | d h => exact h.sq
theorem Va.tup_inv {v : V} (h : Va G L H v (.tup ds)) : ∃ a vs, v = .ref a ∧ H a = some (.tup vs) ∧ Das G H vs ds := by
  cases h with
  | d h =>
    cases h with
    | tup h r => exact ⟨_, _, rfl, h, r⟩
theorem Va.ro_inv {v : V} (h : Va G L H v (.ro ds)) : ∃ a vs, v = .ref a ∧ SqL G.K H a vs ∧ Das G H vs ds := by
  cases h with
  | d h =>
    cases h with
    | ro h r => exact ⟨_, _, rfl, h, r⟩
theorem Va.int_inv {v : V} {i : Int} (h : Va G L H v (.int i)) : v = .int i := by
  cases h with
  | d h => cases h; rfl
theorem Va.str_inv {v : V} {i : Str} (h : Va G L H v (.str i)) : v = .str i := by
  cases h with
  | d h => cases h; rfl
theorem Va.non_inv {v : V} (h : Va G L H v .non) : v = .non := by
  cases h with
  | d h => cases h; rfl
theorem off_sq {K : PySem.W.Frag} {xs : List V} (h : SqL K (off L H) a xs) : SqL K H a xs := by
  rcases h with h | h
  · rcases h with h | ⟨o, h⟩
    · exact .inl (.inl (off_some h).1)
    · exact .inl (.inr ⟨o, (off_some h).1⟩)
  · exact .inr h
end
section
variable {G : Gm} {W : WX} {X : Cx} {tg e l : Expr} {ma : ME} {mas : MA}
/-- for x in a list | a tuple -/
def mItL (m : ME) : MA := fun env st => bnd (m env st) fun d st => match d with
  | .lst ds => some (.ok ds, st)
  | .ro ds => some (.ok ds, st)
  | _ => none
def mItT (m : ME) : MA := fun env st => bnd (m env st) fun d st => match d with
  | .tup ds => some (.ok ds, st)
  | _ => none
theorem bnd_err_of {α β γ : Type} {m : Option (Rs α × Store)} {k : α → Store → Option (Rs β × Store)} {r : Rs β} {st' : Store} (h : bnd m k = some (r, st')) : (∃ a st1, m = some (.ok a, st1) ∧ k a st1 = some (r, st')) ∨ ∃ x, m = some (.err x, st') ∧ r = .err x := bnd_cases h
theorem mi_list (hl : PE X l (tM G W ma)) (hK : G.K = X.K := by rfl) : PI X tg l (tMI G W (mItL ma)) := PIimp (pi_list hl) fun σ H R q => by
  obtain ⟨L, st, env, r, st', at_, hm, hp⟩ := q
  refine tM_bnd at_ hm (by rintro x rfl; exact hp) fun d st1 v L1 H1 h1 e1 a1 dv => ?_
  split at h1
  · cases h1
    obtain ⟨a, vs, rfl, h, rr⟩ := dv.lst_inv
    exact ⟨a, rfl, ⟨vs, .inl (.inl (off_some h).1)⟩, hK ▸ hp _ L1 H1 e1 a1.r (walk_list (G := G) (.inl (.inl h)) rr)⟩
  · cases h1
    obtain ⟨a, vs, rfl, h, rr⟩ := dv.ro_inv
    exact ⟨a, rfl, ⟨vs, hK ▸ off_sq h⟩, hK ▸ hp _ L1 H1 e1 a1.r (walk_list (G := G) h rr)⟩
  · cases h1
theorem mi_tup (hl : PE X l (tM G W ma)) (hK : G.K = X.K := by rfl) : PI X tg l (tMI G W (mItT ma)) := PIimp (pi_tup hl) fun σ H R q => by
  obtain ⟨L, st, env, r, st', at_, hm, hp⟩ := q
  refine tM_bnd at_ hm (by rintro x rfl; exact hp) fun d st1 v L1 H1 h1 e1 a1 dv => ?_
  split at h1
  · cases h1
    obtain ⟨a, vs, rfl, h, rr⟩ := dv.tup_inv
    exact ⟨a, rfl, ⟨vs, .inl (.inl (off_some h).1)⟩, hK ▸ hp _ L1 H1 e1 a1.r (walk_tup (G := G) h rr)⟩
  · cases h1
/-- either -/
def mItS (m : ME) : MA := fun env st => bnd (m env st) fun d st => match d with
  | .lst ds => some (.ok ds, st)
  | .ro ds => some (.ok ds, st)
  | .tup ds => some (.ok ds, st)
  | _ => none
theorem mi_seq (hl : PE X l (tM G W ma)) (hK : G.K = X.K := by rfl) : PI X tg l (tMI G W (mItS ma)) := PIimp (pi_or2 (mi_list hl hK) (mi_tup hl hK)) fun σ H R q => by
  obtain ⟨L, st, env, r, st', at_, hm, hp⟩ := q
  rcases bnd_cases hm with ⟨d, st1, h1, h2⟩ | ⟨x, h1, rfl⟩
  · cases d with
    | lst ds => exact .inl ⟨L, st, env, r, st', at_, by unfold mItL; rw [h1]; exact h2, hp⟩
    | ro ds => exact .inl ⟨L, st, env, r, st', at_, by unfold mItL; rw [h1]; exact h2, hp⟩
    | tup ds => exact .inr ⟨L, st, env, r, st', at_, by unfold mItT; rw [h1]; exact h2, hp⟩
    | _ => cases h2
  · exact .inl ⟨L, st, env, _, st', at_, by unfold mItL; rw [h1]; rfl, hp⟩
/-- range -/
def mRng1 (ma : MA) : MA := fun env st => bnd (ma env st) fun ds st => match ds with
  | [.int j] => if -(2 ^ 62) ≤ j ∧ j < 2 ^ 62 then some (.ok (intsFrom 0 j.toNat), st) else none
  | _ => none
def mRng2 (ma : MA) : MA := fun env st => bnd (ma env st) fun ds st => match ds with
  | [.int i, .int j] => if -(2 ^ 62) ≤ i ∧ i < 2 ^ 62 ∧ -(2 ^ 62) ≤ j ∧ j < 2 ^ 62 then some (.ok (intsFrom i (j - i).toNat), st) else none
  | _ => none
theorem mi_rng1 {a : Expr} {p pos : Pos} (hg : Gl X "range") (hm : X.mg "range" = none) (ha : PA X [a] (tMA G W mas)) (hs : starEach [a] X.env = [(false, eval a X.env)] := by rfl) : PI X tg (.Call (.Name "range" p) [a] [] pos) (tMI G W (mRng1 mas)) :=
  PIimp (pi_range1 hg hm ha hs) fun σ H R q => by
    obtain ⟨L, st, env, r, st', at_, hm, hp⟩ := q
    refine tMA_bnd at_ hm (by rintro x rfl; exact hp) fun d st1 v L1 H1 h1 e1 a1 dv => ?_
    split at h1
    · split at h1
      · rename_i j hj
        cases h1
        cases dv with
        | cons h t =>
          cases t
          cases h.int_inv
          exact ⟨j, rfl, hj.1, hj.2, hp _ L1 H1 e1 a1.r walk_range⟩
      · cases h1
    · cases h1
theorem mi_rng2 {a b : Expr} {p pos : Pos} (hg : Gl X "range") (hm : X.mg "range" = none) (ha : PA X [a, b] (tMA G W mas)) (hs : starEach [a, b] X.env = [(false, eval a X.env), (false, eval b X.env)] := by rfl) (hs2 : starEach [b] X.env = [(false, eval b X.env)] := by rfl) :
    PI X tg (.Call (.Name "range" p) [a, b] [] pos) (tMI G W (mRng2 mas)) :=
  PIimp (pi_range2 hg hm ha hs hs2) fun σ H R q => by
    obtain ⟨L, st, env, r, st', at_, hm, hp⟩ := q
    refine tMA_bnd at_ hm (by rintro x rfl; exact hp) fun d st1 v L1 H1 h1 e1 a1 dv => ?_
    split at h1
    · split at h1
      · rename_i i j hj
        cases h1
        cases dv with
        | cons h t =>
          cases t with
          | cons h' t =>
            cases t
            cases h.int_inv
            cases h'.int_inv
            exact ⟨i, j, rfl, hj, hp _ L1 H1 e1 a1.r walk_range⟩
      · cases h1
    · cases h1
end

/-! ### for -/
def forD (n : Nat) (t : Tg) (body : MS) : List D → En → Store → Option (Fl × En × Store)
  | [], env, st => some (.next, env, st)
  | d :: ds, env, st => match setT t d env with
    | none => none
    | some env1 => match body env1 st with
      | some (.next, env2, st2) => if (st2.take n).all (cellOk n) = true then forD n t body ds (trimE n env2) (st2.take n) else none
      | some (.cont, env2, st2) => if (st2.take n).all (cellOk n) = true then forD n t body ds (trimE n env2) (st2.take n) else none
      | some (.brk, env2, st2) => if (st2.take n).all (cellOk n) = true then some (.next, trimE n env2, st2.take n) else none
      | r => r
def mFor (mi : MA) (t : Tg) (body : MS) : MS := fun env st => bndS (mi env st) env fun ds st => forD st.length t body ds env st
section
variable {G : Gm} {W : WX} {X : Cx} {tg iter : Expr} {body : List Stmt} {mi : MA} {g : TG} {t : Tg} {mb : MS} {pos : Pos}
theorem t_for (hF : Flat G) (ht : TgOk G g t) {D0 : Ends} {σ : L2.St} {H : Hp} (q : tMS G W (mFor mi t mb) D0 σ H) : tFor (tMI G W mi) g (tMS G W mb) D0 σ H := by
  obtain ⟨L, st, env, fl, env', st', at_, hm, hp⟩ := q
  rcases bndS_cases hm with ⟨ds, st1, h1, h2⟩ | ⟨x, h1, rfl, rfl⟩
  · refine ⟨L, st, env, _, st1, at_, h1, fun J L1 H1 e1 r1 wk => ?_⟩
    have hn : L1.c.length = st1.length := r1.len
    refine ⟨fun i m σ' H' => ∃ L2 st2 env2, Ev L1 H1 L2 H' ∧ At G L2 st2 σ' env2 H' ∧ i ≤ ds.length ∧ m = ds.length - i ∧ forD st1.length t mb (ds.drop i) env2 st2 = some (fl, env', st'),
      ⟨ds.length, L1, st1, env, Ev.refl _ _, at_.ev e1 r1, Nat.zero_le _, rfl, h2⟩, ?_⟩
    rintro i m σ2 H2 ⟨L2', st2, env2, e2, a2, hi, rfl, hf⟩
    by_cases hlt : i < ds.length
    · have hd : ds[i]? = some ds[i] := List.getElem?_eq_getElem hlt
      have hdrop : ds.drop i = ds[i] :: ds.drop (i + 1) := List.drop_eq_getElem_cons hlt
      rw [hdrop] at hf
      refine .inr ⟨wk.go i L2' H2 e2.same hlt, fun σ' H' => ∃ L3 st2 env2, Ev L1 H1 L3 H' ∧ At G L3 st2 σ' env2 H' ∧ i + 1 ≤ ds.length ∧ forD st1.length t mb (ds.drop (i + 1)) env2 st2 = some (fl, env', st'),
        fun σ' H' ⟨L3, st3, env3, e3, a3, h3, f3⟩ => ⟨ds.length - (i + 1), by omega, L3, st3, env3, e3, a3, h3, rfl, f3⟩, fun x H3 y => ?_⟩
      obtain ⟨e3, r3, dx⟩ := wk.yld i L2' H2 st2 _ e2.same a2.r hd x H3 y
      have a3 := a2.ev e3 r3
      have e13 := e2.trans e3
      unfold forD at hf
      cases hz : setT t ds[i] env2 with
      | none => rw [hz] at hf; cases hf
      | some env3 =>
        rw [hz] at hf
        dsimp only at hf
        refine ht.run L2' H3 st2 x _ σ2 env2 env3 _ a3 (.d dx) hz fun σ4 a4 _ => ?_
        cases hb : mb env3 st2 with
        | none => rw [hb] at hf; cases hf
        | some p =>
          obtain ⟨fl2, env4, st4⟩ := p
          rw [hb] at hf
          refine ⟨L2', st2, env3, fl2, env4, st4, a4, hb, ?_⟩
          have cont : ∀ (hc : (st4.take st1.length).all (cellOk st1.length) = true) (hg : forD st1.length t mb (ds.drop (i + 1)) (trimE st1.length env4) (st4.take st1.length) = some (fl, env', st')) (σ' : L2.St) (L' : Lv) (H' : Hp), Ev L2' H3 L' H' → Rep G L' st4 H' → EnvR G L' (off L' H') σ' env4 →
              ∃ L3 st2 env2, Ev L1 H1 L3 H' ∧ At G L3 st2 σ' env2 H' ∧ i + 1 ≤ ds.length ∧ forD st1.length t mb (ds.drop (i + 1)) env2 st2 = some (fl, env', st') := fun hc hg σ' L' H' e5 r5 en5 => by
            have ee := e13.trans e5
            have hl : st1.length ≤ L'.c.length := by rw [← hn]; exact ee.le.len
            exact ⟨L'.trim st1.length, _, _, ee.trim hn, (at_.ev e1 r1).to hF (ee.trim hn) (r5.trim hl hc) (en5.trim hl), hlt, hg⟩
          cases fl2 with
          | next =>
            dsimp only at hf
            split at hf
            · rename_i hc
              exact cont hc hf
            · cases hf
          | cont =>
            dsimp only at hf
            split at hf
            · rename_i hc
              exact cont hc hf
            · cases hf
          | brk =>
            dsimp only at hf
            split at hf
            · rename_i hc
              cases hf
              intro σ' L' H' e5 r5 en5
              have ee := e13.trans e5
              have hl : st1.length ≤ L'.c.length := by rw [← hn]; exact ee.le.len
              exact hp σ' (L'.trim st1.length) H' (e1.trans (ee.trim hn)) (r5.trim hl hc) (en5.trim hl)
            · cases hf
          | ret d =>
            cases hf
            exact fun v L' H' e5 r5 dv => hp v L' H' (e1.trans (e13.trans e5)) r5 dv
          | err x =>
            cases hf
            exact fun cls dd σ' L' H' e5 r5 en5 xr => hp cls dd σ' L' H' (e1.trans (e13.trans e5)) r5 en5 xr
    · have hi2 : i = ds.length := by omega
      subst hi2
      rw [List.drop_length] at hf
      cases hf
      exact .inl ⟨wk.stop L2' H2 e2.same, hp σ2 L2' H2 (e1.trans e2) a2.r a2.e⟩
  · exact ⟨L, st, env', _, st', at_, h1, hp.err at_ x rfl rfl⟩
theorem ms_for (hpo : PassesOwn (model X.prog X.w) X.A X.env X.xe) (hc : X.calm = true) (hi : PI X tg iter (tMI G W mi)) (hg : PG X tg g) (ht : TgOk G g t) (hb : PSs X body (tMS G W mb))
    (hs : ∀ x, foldedSetIterable iter X.env x = pure x := by intro _; rfl) (hF : Flat G := by exact fun _ _ _ h => h) : PS X (.For tg iter body [] pos) (tMS G W (mFor mi t mb)) := PSimp (ps_for hpo hc hi hg hb hs) fun _ _ _ => t_for hF ht
end
end M


/-! The M layer: comprehensions, defs, calls. -/
namespace M
open PySem PySem.Spec PyProof.Rows L2

/-! ### hiding -/
section
variable {G : Gb} {L L2' : Lv} {H H2 : Hp} {st : Store} {p : Addr} {o o' : HO}
theorem off_hid (hp : p ∈ L.h) : off L (upd H p o) = off L H := by
  funext a
  unfold off
  by_cases e : a = p
  · subst e
    rw [if_pos (.inr hp), if_pos (.inr hp)]
  · rw [upd_ne e]
def Lv.hide (L : Lv) (p : Addr) : Lv := ⟨L.c, p :: L.h⟩
def Lv.back (L2' L : Lv) : Lv := ⟨L2'.c, L.h⟩
theorem hide_same (hp : H p = none) : Same (off L H) (off (L.hide p) (upd H p o)) := fun a u h => by
  obtain ⟨h1, h2⟩ := off_some h
  have ne : a ≠ p := ne_of_none h1 hp
  refine off_of (by rw [upd_ne ne]; exact h1) fun z => h2 ?_
  rcases z with z | z
  · exact .inl z
  · rcases List.mem_cons.mp z with z | z
    · exact absurd z ne
    · exact .inr z
theorem CellR.same {L1 : Lv} {H1 : Hp} {x : Option Addr} {c : Cell} (s : Same (off L H) (off L1 H1)) (l : L.c = L1.c) (k : ∀ a u, x = some a → H a = some u → H1 a = some u) (h : CellR G L H x c) : CellR G L1 H1 x c := by
  cases x with
  | none => cases c <;> first | exact h | exact h.elim
  | some a =>
    cases c with
    | lst ds => obtain ⟨vs, q, r⟩ := h; exact ⟨vs, k _ _ rfl q, Das.mono (Rl.of_same s) _ _ r⟩
    | dK ds => obtain ⟨vs, q, r⟩ := h; exact ⟨vs, k _ _ rfl q, DasK.mono (Rl.of_same s) _ _ r⟩
    | dT ds => obtain ⟨vs, q, r⟩ := h; exact ⟨vs, k _ _ rfl q, DasT.mono (Rl.of_same s) _ _ r⟩
    | ins c ds => obtain ⟨dx, vs, q, r⟩ := h; exact ⟨dx, vs, k _ _ rfl q, VasF.mono ⟨by rw [l]; exact Nat.le_refl _, fun i a _ z => by rw [l]; exact z⟩ (Rl.of_same s) r⟩
    | dead => exact h.elim
theorem Rep.hide (R : Rep G L st H) (hp : H p = none) (ho : ∀ xs, o ≠ .tup xs := by intro xs z; cases z) : Rep G (L.hide p) st (upd H p o) where
  len := R.len
  inj := R.inj
  cell := fun i x c hx hc => CellR.same (L := L) (H := H) (hide_same hp) rfl (fun a u ea h => by rw [upd_ne (ne_of_none h hp)]; exact h) (R.cell i x c hx hc)
  hid := fun a ha => by
    rcases List.mem_cons.mp ha with e | ha
    · subst e
      exact ⟨(by rw [upd_same]; exact ⟨(fun z => nomatch z), fun xs z => ho xs (Option.some.inj z)⟩), fun z => R.fresh hp (.inl z)⟩
    · have q := R.hid a ha
      have e : a ≠ p := fun e => q.1.1 (by rw [e]; exact hp)
      exact ⟨by rw [upd_ne e]; exact q.1, q.2⟩
theorem Rep.hupd (R : Rep G L st H) (hp : p ∈ L.h) (ho : ∀ xs, o ≠ .tup xs := by intro xs z; cases z) : Rep G L st (upd H p o) where
  len := R.len
  inj := R.inj
  cell := fun i x c hx hc => CellR.same (L := L) (H := H) (by rw [off_hid hp]; exact Same.refl _) rfl (fun a u ea h => by
    have ne : a ≠ p := fun z => (R.hid p hp).2 (by subst ea; rw [← z]; exact List.mem_of_getElem? hx)
    rw [upd_ne ne]
    exact h) (R.cell i x c hx hc)
  hid := fun a ha => by
    have q := R.hid a ha
    by_cases e : a = p
    · exact ⟨by rw [e, upd_same]; exact ⟨(fun z => nomatch z), fun xs z => ho xs (Option.some.inj z)⟩, q.2⟩
    · exact ⟨by rw [upd_ne e]; exact q.1, q.2⟩
/-- both at the start and now the hidden one is another -/
theorem Ev.hupd (e : Ev (L.hide p) (upd H p o) L2' H2) : Ev (L.hide p) (upd H p o') L2' (upd H2 p o') where
  le := e.le
  new := fun i a hi h => by
    have q := e.new i a hi h
    by_cases z : a = p
    · rw [z, upd_same] at q; cases q
    · rw [upd_ne z] at q ⊢; exact q
  same := by
    have h2 : p ∈ L2'.h := by rw [e.hh]; exact List.mem_cons_self
    have h1 : p ∈ (L.hide p).h := List.mem_cons_self
    have q := e.same
    rw [off_hid h1] at q
    rw [off_hid h2, off_hid h1]
    exact q
  there := fun a h => by
    by_cases z : a = p
    · rw [z, upd_same] at h; cases h
    · rw [upd_ne z] at h ⊢
      have := e.there a h
      rw [upd_ne z] at this
      exact this
  hh := e.hh
  keep := fun a ha => by
    by_cases z : a = p
    · rw [z, upd_same, upd_same]
    · rw [upd_ne z, upd_ne z]
      have := e.keep a ha
      rw [upd_ne z] at this
      exact this
theorem back_same (e : Ev (L.hide p) (upd H p o) L2' H2) : Same (off L2' H2) (off (L2'.back L) H2) := fun a u h => by
  obtain ⟨h1, h2⟩ := off_some h
  refine off_of h1 fun z => h2 ?_
  rcases z with z | z
  · exact .inl z
  · exact .inr (by rw [e.hh]; exact List.mem_cons_of_mem _ z)
theorem Ev.back (e : Ev (L.hide p) (upd H p o) L2' H2) (R : Rep G L st H) (hp : H p = none) : Ev L H (L2'.back L) H2 where
  le := ⟨e.le.len, e.le.at_⟩
  new := fun i a hi h => by
    have q := e.new i a hi h
    by_cases z : a = p
    · rw [z]; exact hp
    · rw [upd_ne z] at q; exact q
  same := ((Rl.of_same (hide_same hp)).trans e.same).trans (Rl.of_same (back_same e))
  there := fun a h => by
    have q := e.there a h
    by_cases z : a = p
    · rw [z]; exact hp
    · rw [upd_ne z] at q; exact q
  hh := rfl
  keep := fun a ha => by
    have q := e.keep a (List.mem_cons_of_mem _ ha)
    have z : a ≠ p := fun z => (R.hid a ha).1.1 (by rw [z]; exact hp)
    rw [upd_ne z] at q
    exact q
theorem Rep.back {st2 : Store} (e : Ev (L.hide p) (upd H p o) L2' H2) (R : Rep G L2' st2 H2) : Rep G (L2'.back L) st2 H2 where
  len := R.len
  inj := R.inj
  cell := fun i x c hx hc => CellR.same (L := L2') (H := H2) (back_same e) rfl (fun a u _ h => h) (R.cell i x c hx hc)
  hid := fun a ha => R.hid a (by rw [e.hh]; exact List.mem_cons_of_mem _ ha)
/-- the hidden one comes into sight -/
theorem back_at (e : Ev (L.hide p) (upd H p o) L2' H2) {st2 : Store} (R : Rep G L2' st2 H2) (R0 : Rep G L st H) (hp : H p = none) : off (L2'.back L) H2 p = some o := by
  have h1 : p ∈ (L.hide p).h := List.mem_cons_self
  refine off_of (by rw [e.keep p h1, upd_same]) fun z => ?_
  rcases z with z | z
  · exact (R.hid p (by rw [e.hh]; exact h1)).2 z
  · exact (R0.hid p z).1.1 hp
end

/-! ### list comprehensions -/
def wipeE (env : En) : List Nat → En
  | [] => env
  | v :: vs => (wipeE env vs).set v none
theorem EnvR.unset {G : Gb} {L : Lv} {H : Hp} {σ : L2.St} {env : En} (h : EnvR G L H σ env) (i : Nat) : EnvR G L H (σ.set i none) (env.set i none) :=
  ⟨by rw [List.length_set, List.length_set]; exact h.len, fun j x q => by
    by_cases e : i = j
    · subst e
      have hi : i < env.length := by
        have := (List.getElem?_eq_some_iff.mp q).1
        rw [List.length_set] at this
        exact this
      rw [List.getElem?_set_self hi] at q
      cases q
    · rw [List.getElem?_set_ne e] at q
      rw [List.getElem?_set_ne e]
      exact h.at_ j x q⟩
theorem EnvR.wipe {G : Gb} {L : Lv} {H : Hp} {σ : L2.St} {env : En} (h : EnvR G L H σ env) : ∀ vs : List Nat, EnvR G L H (L2.wipe σ vs) (wipeE env vs)
  | [] => h
  | v :: vs => (EnvR.wipe h vs).unset v
theorem wipe_wipe {σ : L2.St} : ∀ (vs us : List Nat), (∀ i ∈ vs, i ∈ us) → L2.wipe (L2.wipe σ vs) us = L2.wipe σ us
  | [], us, _ => rfl
  | v :: vs, us, h => by
    show L2.wipe ((L2.wipe σ vs).set v none) us = _
    rw [wipe_set (h v List.mem_cons_self), wipe_wipe vs us fun i hi => h i (List.mem_cons_of_mem _ hi)]
def tYesM : MT := fun _ st => some (.ok true, st)
def big : Nat := 1000000
def compD (t : Tg) (mt : MT) (me : ME) (env : En) : List D → Store → Option (List D × Store)
  | [], st => some ([], st)
  | d :: ds, st => match setT t d env with
    | none => none
    | some env1 => match mt env1 st with
      | some (.ok true, st1) => match me env1 st1 with
        | some (.ok y, st2) => if isD y = true then (match compD t mt me env ds st2 with
          | some (ys, st3) => some (y :: ys, st3)
          | none => none) else none
        | _ => none
      | some (.ok false, st1) => compD t mt me env ds st1
      | _ => none
def mLc (mi : MA) (t : Tg) (mt : MT) (me : ME) (vs : List Nat) : ME := fun env st => bnd (mi env st) fun ds st => match compD t mt me (wipeE env vs) ds st with
  | some (ys, st2) => if ys.length ≤ big then some (.ok (.lst ys), st2) else none
  | none => none
section
variable {G : Gm} {W W0 : WX} {X : Cx} {elt tg iter : Expr} {ifs : List Expr} {scope : Scope} {own : List (Str × Nat)} {pos : Pos} {mi : MA} {g : TG} {t : Tg} {mt : MT} {me : ME}
theorem t_lc {vs : List Nat} (hF : Flat G) (ht : TgOk G g t) (hsl : ∀ i ∈ t.slots, i ∈ vs) {σ : L2.St} {H : Hp} {Q : VK} (q : tM G W (mLc mi t mt me vs) σ H Q) : tLc (tMI G W mi) g (tMT G W0 mt) (tM G W0 me) vs σ H Q := by
  obtain ⟨L, st, env, r, st', at_, hm, hp⟩ := q
  rcases bnd_cases hm with ⟨ds, st1, h1, h2⟩ | ⟨x, h1, rfl⟩
  · refine ⟨L, st, env, _, st1, at_, h1, fun J L1 H1 e1 r1 wk p hpn => ?_⟩
    split at h2
    · rename_i ys0 stF hc
      split at h2
      · rename_i hbig
        cases h2
        have a1 := at_.ev e1 r1
        refine ⟨fun i m H' => ∃ L2' st2 acc accD ys, Ev (L1.hide p) (upd H1 p (.lst acc)) L2' H' ∧ Rep G L2' st2 H' ∧ Das G (off L2' H') acc accD ∧ i ≤ ds.length ∧ m = ds.length - i ∧
            compD t mt me (wipeE env vs) (ds.drop i) st2 = some (ys, st') ∧ accD ++ ys = ys0,
          ⟨ds.length, L1.hide p, st1, [], [], ys0, Ev.refl _ _, r1.hide hpn, .nil, Nat.zero_le _, rfl, hc, rfl⟩, ?_⟩
        rintro i m H2 ⟨L2', st2, acc, accD, ys, e2, r2, dacc, hi, rfl, hcc, heq⟩
        have sm := ((Rl.of_same (hide_same (L := L1) hpn)).trans e2.same)
        by_cases hlt : i < ds.length
        · have hd : ds[i]? = some ds[i] := List.getElem?_eq_getElem hlt
          have hdrop : ds.drop i = ds[i] :: ds.drop (i + 1) := List.drop_eq_getElem_cons hlt
          rw [hdrop] at hcc
          refine .inr ⟨wk.go i L2' H2 sm hlt, fun H' => ∃ L3 st3 acc accD ys, Ev (L1.hide p) (upd H1 p (.lst acc)) L3 H' ∧ Rep G L3 st3 H' ∧ Das G (off L3 H') acc accD ∧ i + 1 ≤ ds.length ∧
              compD t mt me (wipeE env vs) (ds.drop (i + 1)) st3 = some (ys, st') ∧ accD ++ ys = ys0,
            fun H' ⟨L3, st3, a3, aD3, y3, x1, x2, x3, x4, x5, x6⟩ => ⟨ds.length - (i + 1), by omega, L3, st3, a3, aD3, y3, x1, x2, x3, x4, rfl, x5, x6⟩, fun x H3 y => ?_⟩
          obtain ⟨e3, r3, dx⟩ := wk.yld i L2' H2 st2 _ sm r2 hd x H3 y
          have e13 := e2.trans e3
          unfold compD at hcc
          cases hz : setT t ds[i] (wipeE env vs) with
          | none => rw [hz] at hcc; cases hcc
          | some env3 =>
            rw [hz] at hcc
            dsimp only at hcc
            have enW : EnvR G L2' (off L2' H3) (L2.wipe σ vs) (wipeE env vs) := EnvR.wipe
              (⟨a1.e.len, fun j d q => by
                obtain ⟨v, q1, q2⟩ := a1.e.at_ j d q
                refine ⟨v, q1, ?_⟩
                exact Va.mono (L := L1) (⟨e13.le.len, e13.le.at_⟩ : Le L1 L2') ((Rl.of_same (hide_same (L := L1) hpn)).trans e13.same) q2⟩) vs
            refine ht.run L2' H3 st2 x _ _ _ env3 _ ⟨enW, r3, G.up _ _ _ ((Rl.of_same (hide_same (L := L1) hpn)).trans e13.same) (hF _ _ _ a1.p)⟩ (.d dx) hz fun σ4 a4 hw => ?_
            refine ⟨by rw [hw vs hsl, wipe_wipe vs vs fun _ h => h], ?_⟩
            cases hb : mt env3 st2 with
            | none => rw [hb] at hcc; cases hcc
            | some q =>
              obtain ⟨rb, st4⟩ := q
              rw [hb] at hcc
              cases rb with
              | err _ => cases hcc
              | ok b =>
                refine ⟨L2', st2, env3, _, st4, a4, hb, fun L4 H4 e4 r4 => ?_⟩
                cases b with
                | false =>
                  dsimp only at hcc
                  rw [if_neg Bool.false_ne_true]
                  exact ⟨L4, st4, acc, accD, ys, e13.trans e4, r4, e4.das (e3.das dacc), hlt, hcc, heq⟩
                | true =>
                  dsimp only at hcc
                  rw [if_pos rfl]
                  cases hv : me env3 st4 with
                  | none => rw [hv] at hcc; cases hcc
                  | some q =>
                    obtain ⟨rv, st5⟩ := q
                    rw [hv] at hcc
                    cases rv with
                    | err _ => cases hcc
                    | ok y =>
                      dsimp only at hcc
                      split at hcc
                      · rename_i hpure
                        split at hcc
                        · rename_i ys5 st6 hc5
                          cases hcc
                          refine ⟨L4, st4, env3, _, st5, a4.ev e4 r4, hv, fun v L5 H5 e5 r5 dv => ?_⟩
                          have e15 := (e13.trans e4).trans e5
                          have h1 : p ∈ (L1.hide p).h := List.mem_cons_self
                          have hp5 : p ∈ L5.h := by rw [e15.hh]; exact h1
                          have hat : H5 p = some (.lst acc) := by rw [e15.keep p h1, upd_same]
                          have dacc5 : Das G (off L5 H5) acc accD := e5.das (e4.das (e3.das dacc))
                          have hlen : acc.length < sizeLine := by
                            have q1 := dacc.length
                            have q2 : accD.length + (y :: ys5).length ≤ big := by rw [← List.length_append, heq]; exact hbig
                            rw [sizeLine_eq]
                            unfold big at q2
                            simp at q2
                            omega
                          refine ⟨acc, hat, hlen, L5, st5, acc ++ [v], accD ++ [y], ys5, e15.hupd, r5.hupd hp5, ?_, hlt, hc5, by rw [List.append_assoc]; exact heq⟩
                          rw [off_hid hp5]
                          exact dacc5.append (.cons (dv.da hpure) .nil)
                        · cases hcc
                      · cases hcc
        · have hi2 : i = ds.length := by omega
          subst hi2
          rw [List.drop_length] at hcc
          cases hcc
          rw [List.append_nil] at heq
          subst heq
          refine .inl ⟨wk.stop L2' H2 sm, ?_⟩
          exact hp _ (L2'.back L1) H2 (e1.trans (e2.back r1 hpn)) (Rep.back e2 r2) (.d (.lst (back_at e2 r2 r1 hpn) (Das.mono (Rl.of_same (back_same e2)) _ _ dacc)))
      · cases h2
    · cases h2
  · exact ⟨L, st, env, _, st', at_, h1, hp⟩
theorem m_lc (hc : X.calm = true) (hN : X.N.Nodup) (hi : PI X tg iter (tMI G W mi)) (ok : BlkOk X.N X.env.scope scope own)
    (hg : ∀ (s : Shared) (H : Hp) (C : Addr) (cl : List (Str × Addr)) (fp : List Addr), PG (X.blk s H scope (compEnvC scope cl C X.env) fp) tg g) (hT : ∀ (s : Shared) (H : Hp) (C : Addr) (cl : List (Str × Addr)) (fp : List Addr), PTs (X.blk s H scope (compEnvC scope cl C X.env) fp) ifs (tMT G W0 mt))
    (he : ∀ (s : Shared) (H : Hp) (C : Addr) (cl : List (Str × Addr)) (fp : List Addr), PE (X.blk s H scope (compEnvC scope cl C X.env) fp) elt (tM G W0 me)) (ht : TgOk G g t) (hsl : ∀ i ∈ t.slots, i ∈ own.map (·.2)) (hs : ∀ x, foldedSetIterable iter X.env x = pure x := by intro _; rfl) (hF : Flat G := by exact fun _ _ _ h => h) :
    PE X (.ListComp elt [⟨tg, iter, ifs, 0⟩] scope pos) (tM G W (mLc mi t mt me (own.map (·.2)))) := PEimp (pe_lc hc hN hi ok hg hT he hs) fun _ _ _ => t_lc hF ht hsl
theorem ms_setLc {i : Nat} {y : Str} {py spos : Pos} (hc : X.calm = true) (hN : X.N.Nodup) (hy : X.N[i]? = some y) (hyl : X.env.scope.names.lookup y = some .local)
    (hsw : swapsWith (.ListComp elt [⟨tg, iter, ifs, 0⟩] scope pos) (some (.Name y py)) spos.line X.env = pure true) (hi : PI X tg iter (tMI G W mi)) (ok : BlkOk X.N X.env.scope scope own)
    (hg : ∀ (s : Shared) (H : Hp) (C : Addr) (cl : List (Str × Addr)) (fp : List Addr), PG (X.blk s H scope (compEnvC scope cl C X.env) fp) tg g) (hT : ∀ (s : Shared) (H : Hp) (C : Addr) (cl : List (Str × Addr)) (fp : List Addr), PTs (X.blk s H scope (compEnvC scope cl C X.env) fp) ifs (tMT G W0 mt))
    (he : ∀ (s : Shared) (H : Hp) (C : Addr) (cl : List (Str × Addr)) (fp : List Addr), PE (X.blk s H scope (compEnvC scope cl C X.env) fp) elt (tM G W0 me)) (ht : TgOk G g t) (hsl : ∀ i ∈ t.slots, i ∈ own.map (·.2)) (hs : ∀ x, foldedSetIterable iter X.env x = pure x := by intro _; rfl) (hF : Flat G := by exact fun _ _ _ h => h) :
    PS X (.Assign [.Name y py] (.ListComp elt [⟨tg, iter, ifs, 0⟩] scope pos) spos) (tMS G W (mAsg (mLc mi t mt me (own.map (·.2))) (.nm i))) :=
  PSimp (ps_setLc hc hN hy hyl hsw hi ok hg hT he hs) fun D σ H q => by
    have q2 := t_asg (G := G) (tg_nm hF) q
    exact t_lc hF ht hsl q2
theorem mts_nil : PTs X [] (tMT G W tYesM) := ⟨fun pins s σ H Q I h => by
  refine pts_nil.run pins s σ H Q I ?_
  obtain ⟨L, st, env, r, st', at_, hm, hp⟩ := h
  cases hm
  exact hp L H (Ev.refl L H) at_.r⟩
theorem mts_one {c : Expr} (h : PT X c (tMT G W mt)) : PTs X [c] (tMT G W mt) := pts_one h
end
end M


/-! The M layer: defs, calls, instances, errors. -/
namespace M
open PySem PySem.Spec PyProof.Rows L2

/-! ### defs -/
abbrev Call := List D → Store → Option (Rs D × Store)
/-- what a def hands back: a cell made since comes as what it holds; cells made since are let go -/
def finD (n : Nat) (d : D) (st : Store) : Option (D × Store) :=
  if (st.take n).all (cellOk n) = true then
    match d with
    | .ref i => if i < n then some (.ref i, st.take n) else match st[i]? with
      | some (.lst ds) => some (.lst ds, st.take n)
      | some (.dK kvs) => some (.dK kvs, st.take n)
      | some (.dT kvs) => some (.dT kvs, st.take n)
      | some (.ins c fs) => if (fs.all fun p => isD p.2) = true then some (.obj c fs, st.take n) else none
      | _ => none
    | d => some (d, st.take n)
  else none
def startE (k : Nat) (ds : List D) : En := ds.map some ++ List.replicate (k - ds.length) none
def mkD (m : MS) (k : Nat) : Call := fun ds st => match m (startE k ds) st with
  | some (.next, _, st') => (match finD st.length .non st' with
    | some (d, st2) => some (.ok d, st2)
    | none => none)
  | some (.ret d, _, st') => (match finD st.length d st' with
    | some (d, st2) => some (.ok d, st2)
    | none => none)
  | some (.err x, _, st') => if (st'.take st.length).all (cellOk st.length) = true then some (.err x, st'.take st.length) else none
  | _ => none
/-- the same, the cells stay -/
def mkK (m : MS) (k : Nat) : Call := fun ds st => match m (startE k ds) st with
  | some (.next, _, st') => some (.ok .non, st')
  | some (.ret d, _, st') => some (.ok d, st')
  | some (.err x, _, st') => some (.err x, st')
  | _ => none
def spM (G : Gb) (c : Call) (n : Nat) : Sp := fun vs H Q E => vs.length = n ∧ ∃ L st ds r st', Rep G L st H ∧ Vas G L (off L H) vs ds ∧ c ds st = some (r, st') ∧ (match r with
  | .ok d => ∀ v L' H', Ev L H L' H' → Rep G L' st' H' → Va G L' (off L' H') v d → Q v H'
  | .err x => ErrP G L H st' x E)
section
variable {G : Gb} {L L0 : Lv} {H H0 : Hp} {st : Store} {n : Nat}
theorem fin_ok {d d' : D} {v : V} {st2 : Store} (R : Rep G L st H) (hv : Va G L (off L H) v d) (hn : n ≤ L.c.length) (h : finD n d st = some (d', st2)) :
    Rep G (L.trim n) st2 H ∧ Va G (L.trim n) (off (L.trim n) H) v d' := by
  unfold finD at h
  split at h
  · rename_i hk
    have rt := R.trim hn hk
    have key : ∀ {d : D}, isD d = true → Va G L (off L H) v d → Va G (L.trim n) (off (L.trim n) H) v d := fun {d} p q => .d (Da.mono (Rl.of_same trim_same) _ _ (q.da p))
    cases d with
    | ref i =>
      dsimp only at h
      split at h
      · rename_i hi
        cases h
        exact ⟨rt, hv.trim hn (decide_eq_true hi)⟩
      · rename_i hi
        cases hv with
        | d h => cases h
        | @ref a _ hil ha =>
          have hil2 : i < st.length := by rw [← R.len]; exact hil
          have hci : st[i]? = some st[i] := List.getElem?_eq_getElem hil2
          have hcl : L.c[i]? = some L.c[i] := List.getElem?_eq_getElem hil
          have cr := R.cell i _ _ hcl hci
          rw [hci] at h
          cases hx : L.c[i] with
          | none =>
            rw [hx] at cr
            cases hs : st[i] <;> rw [hs] at cr h <;> first | exact cr.elim | cases h
          | some b =>
            rw [hx] at cr hcl
            obtain rfl := ha b hcl
            have sight : ∀ {o : HO}, H a = some o → off (L.trim n) H a = some o := fun {o} e => off_of e fun z => by
              rcases z with z | z
              · obtain ⟨j, hj⟩ := mem_live z
                obtain ⟨hj1, hj2⟩ := take_get hj
                have := R.inj i j a hcl hj2
                omega
              · exact (R.hid a z).2 (List.mem_of_getElem? hcl)
            cases hs : st[i] with
            | lst ds =>
              rw [hs] at cr h
              cases h
              obtain ⟨vs, q, r⟩ := cr
              exact ⟨rt, .d (.lst (sight q) (Das.mono (Rl.of_same trim_same) _ _ r))⟩
            | dK ds =>
              rw [hs] at cr h
              cases h
              obtain ⟨vs, q, r⟩ := cr
              exact ⟨rt, .d (.dK (.inl (sight q)) (DasK.mono (Rl.of_same trim_same) _ _ r))⟩
            | dT ds =>
              rw [hs] at cr h
              cases h
              obtain ⟨vs, q, r⟩ := cr
              exact ⟨rt, .d (.dT (.inl (sight q)) (DasT.mono (Rl.of_same trim_same) _ _ r))⟩
            | ins c fs =>
              rw [hs] at cr h
              dsimp only at h
              split at h
              · rename_i hp
                cases h
                obtain ⟨dx, vs, q, r⟩ := cr
                exact ⟨rt, .d (.obj (sight q) (DasF.mono (Rl.of_same trim_same) _ _ (r.das hp)))⟩
              · cases h
            | dead => rw [hs] at h; cases h
    | non => cases h; exact ⟨rt, key rfl hv⟩
    | bl _ => cases h; exact ⟨rt, key rfl hv⟩
    | int _ => cases h; exact ⟨rt, key rfl hv⟩
    | str _ => cases h; exact ⟨rt, key rfl hv⟩
    | ty _ => cases h; exact ⟨rt, key rfl hv⟩
    | lst _ => cases h; exact ⟨rt, key rfl hv⟩
    | tup _ => cases h; exact ⟨rt, key rfl hv⟩
    | ro _ => cases h; exact ⟨rt, key rfl hv⟩
    | dK _ => cases h; exact ⟨rt, key rfl hv⟩
    | dT _ => cases h; exact ⟨rt, key rfl hv⟩
    | obj _ _ => cases h; exact ⟨rt, key rfl hv⟩
    | ptr _ => cases h; exact ⟨rt, key rfl hv⟩
    | cls _ => cases h; exact ⟨rt, key rfl hv⟩
  · cases h
theorem startR {vs : List V} {ds : List D} {N : List Str} (h : Vas G L (off L H) vs ds) : EnvR G L (off L H) (L2.start N vs) (startE N.length ds) := by
  have hl := h.length
  refine ⟨by unfold L2.start startE; simp [hl], fun i d q => ?_⟩
  unfold startE at q
  by_cases hi : i < ds.length
  · rw [List.getElem?_append_left (by simpa using hi), List.getElem?_map] at q
    have key : ∀ {vs : List V} {ds : List D} (i : Nat) (d : D), Vas G L (off L H) vs ds → ds[i]? = some d → ∃ v, vs[i]? = some v ∧ Va G L (off L H) v d := by
      intro vs ds i d r
      induction r generalizing i with
      | nil => intro e; simp at e
      | cons h r ih =>
        intro e
        cases i with
        | zero =>
          simp at e
          subst e
          exact ⟨_, rfl, h⟩
        | succ i =>
          obtain ⟨v, q1, q2⟩ := ih i (by simpa using e)
          exact ⟨v, by simpa using q1, q2⟩
    cases e : ds[i]? with
    | none => rw [e] at q; cases q
    | some x =>
      rw [e] at q
      cases q
      obtain ⟨v, q1, q2⟩ := key i _ h e
      refine ⟨v, ?_, q2⟩
      unfold L2.start
      rw [List.getElem?_append_left (by rw [List.length_map, hl]; exact hi), List.getElem?_map, q1]
      rfl
  · rw [List.getElem?_append_right (by simpa using Nat.le_of_not_lt hi)] at q
    rw [List.getElem?_replicate] at q
    split at q <;> cases q
theorem def_run {m : MS} {N : List Str} {k : Nat} {vs : List V} {Q : VK} {E : XK} (h : spM G (mkD m N.length) k vs H Q E) :
    tMS (Gm.flat G) (fun cls d _ H => E cls d H) m { nx := fun _ H' => Q .non H', rt := Q } (L2.start N vs) H := by
  obtain ⟨_, L, st, ds, r, st', R, va, hc, hp⟩ := h
  unfold mkD at hc
  have a : At (Gm.flat G) L st (L2.start N vs) (startE N.length ds) H := ⟨startR va, R, True.intro⟩
  cases hm : m (startE N.length ds) st with
  | none => rw [hm] at hc; cases hc
  | some q =>
    obtain ⟨fl, env', st1⟩ := q
    rw [hm] at hc
    refine ⟨L, st, _, fl, env', st1, a, hm, ?_⟩
    have hle : ∀ {L' : Lv} {H' : Hp}, Ev L H L' H' → st.length ≤ L'.c.length := fun {L' H'} e => by rw [← R.len]; exact e.le.len
    cases fl with
    | next =>
      intro σ' L' H' e r1 en1
      dsimp only at hc
      split at hc
      · rename_i d st2 hf
        cases hc
        obtain ⟨r2, v2⟩ := fin_ok r1 (.d .non) (hle e) hf
        exact hp _ _ _ (e.trim R.len) r2 v2
      · cases hc
    | ret d =>
      intro v L' H' e r1 dv
      dsimp only at hc
      split at hc
      · rename_i d' st2 hf
        cases hc
        obtain ⟨r2, v2⟩ := fin_ok r1 dv (hle e) hf
        exact hp _ _ _ (e.trim R.len) r2 v2
      · cases hc
    | brk => cases hc
    | cont => cases hc
    | err x =>
      intro cls dd σ' L' H' e r1 en1 xr
      dsimp only at hc
      split at hc
      · rename_i hk
        cases hc
        have xr2 : XnR G (off (L'.trim st.length) H') x cls dd := by
          obtain ⟨z1, d, vs, z2, z3, z4⟩ := xr
          exact ⟨z1, d, vs, z2, trim_same _ _ z3, DasF.mono (Rl.of_same trim_same) _ _ z4⟩
        exact hp cls dd _ _ (e.trim R.len) (r1.trim (hle e) hk) xr2
      · cases hc
theorem def_runK {m : MS} {N : List Str} {k : Nat} {vs : List V} {Q : VK} {E : XK} (h : spM G (mkK m N.length) k vs H Q E) :
    tMS (Gm.flat G) (fun cls d _ H => E cls d H) m { nx := fun _ H' => Q .non H', rt := Q } (L2.start N vs) H := by
  obtain ⟨_, L, st, ds, r, st', R, va, hc, hp⟩ := h
  unfold mkK at hc
  have a : At (Gm.flat G) L st (L2.start N vs) (startE N.length ds) H := ⟨startR va, R, True.intro⟩
  cases hm : m (startE N.length ds) st with
  | none => rw [hm] at hc; cases hc
  | some q =>
    obtain ⟨fl, env', st1⟩ := q
    rw [hm] at hc
    refine ⟨L, st, _, fl, env', st1, a, hm, ?_⟩
    cases fl with
    | next =>
      cases hc
      exact fun σ' L' H' e r1 en1 => hp _ _ _ e r1 (.d .non)
    | ret d =>
      cases hc
      exact fun v L' H' e r1 dv => hp _ _ _ e r1 dv
    | brk => cases hc
    | cont => cases hc
    | err x =>
      cases hc
      exact fun cls dd σ' L' H' e r1 en1 xr => hp cls dd L' H' e r1 xr
end

/-! ### calls -/
def mCall (n : Nat) (c : Call) (ma : MA) : ME := fun env st => bnd (ma env st) fun ds st => if ds.length = n then c ds st else none
section
variable {G : Gm} {W : WX} {σ : L2.St} {L : Lv} {H : Hp} {st : Store} {env : En} {Q : VK}
/-- the promise at the callee -/
theorem sp_of {c : Call} {n : Nat} {vs : List V} {ds : List D} {r : Rs D} {st' : Store} (a : At G L st σ env H) (va : Vas G L (off L H) vs ds) (hn : ds.length = n) (hc : c ds st = some (r, st')) (hp : RPost G W σ L H st' Q r) :
    spM G c n vs H Q (WE W σ) := by
  refine ⟨va.length.trans hn, L, st, ds, r, st', a.r, va, hc, ?_⟩
  cases r with
  | ok d => exact hp
  | err x => exact hp
end
section
variable {X : Cx} {G : Gm} {W : WX} {k n : Nat} {f C : Addr} {fd : FuncData} {ps : List Str} {c : Call} {x : Str} {p pos apos : Pos} {e o : Expr} {es : List Expr} {mas : MA} {mo : ME}
theorem m_call (tk : Takes X W) (F : FnOk X.prog X.w X.K X.mg X.base (L2.CX X.prog X.w) k f fd ps (spM G c n)) (hr : Room k X.A) (hg : Gl X x) (hm : X.mg x = some (.ref f)) (hk : PySem.W.keepIn X.K (.ref f) = true) (hb : Binds X.K fd ps [])
    (ha : PA X (e :: es) (tMA G W mas)) (hdb : (x == ("__debug__" : Str)) = false := by decide) (he : starEach (e :: es) X.env = (false, eval e X.env) :: starEach es X.env := by rfl) (hpl : (backTo pos (starEach es X.env)).any (·.1) = false := by rfl) :
    PE X (.Call (.Name x p) (e :: es) [] pos) (tM G W (mCall n c mas)) :=
  PEimp (pe_callSD F hr hg hm hk hb .nil (fun σ => passAt tk σ) ha hdb he hpl) fun σ H Q q => by
    obtain ⟨L, st, env, r, st', at_, hmm, hp⟩ := q
    refine tMA_bnd at_ hmm hp.err fun ds st1 vs L1 H1 h1 e1 a1 dv => ?_
    split at h1
    · rename_i hn
      rw [List.append_nil]
      exact sp_of a1 dv hn h1 (hp.ev e1)
    · cases h1
/-- a call without arguments, whose errors are not let through here -/
theorem m_call0 (F : FnOk X.prog X.w X.K X.mg X.base (L2.CX X.prog X.w) k f fd ps (spM G c 0)) (hr : Room k X.A) (hg : Gl X x) (hm : X.mg x = some (.ref f)) (hk : PySem.W.keepIn X.K (.ref f) = true) (hb : Binds X.K fd ps [])
    (hdb : (x == ("__debug__" : Str)) = false := by decide) :
    PE X (.Call (.Name x p) [] [] pos) (tM G W (fun env st => match c [] st with
      | some (.ok d, st) => some (.ok d, st)
      | _ => none)) :=
  PEimp (pe_call0 F hr hg hm hk hb .nil passL hdb) fun σ H Q q => by
    obtain ⟨L, st, env, r, st', at_, hmm, hp⟩ := q
    dsimp only at hmm
    split at hmm
    · rename_i d st2 hc
      cases hmm
      show spM G c 0 ([] ++ []) H Q _
      exact ⟨rfl, L, st, [], _, _, at_.r, .nil, hc, hp⟩
    · cases hmm

/-! ### instances -/
/-- C(e, ..): made, then its __init__; it comes as data -/
def mMk (cid n : Nat) (c : Call) (ma : MA) : ME := fun env st => bnd (ma env st) fun ds st => if ds.length + 1 = n then (match c (.ref st.length :: ds) (st ++ [.ins cid []]) with
  | some (.ok .non, st2) => (match finD st.length (.ref st.length) st2 with
    | some (d, st3) => some (.ok d, st3)
    | none => none)
  | some (.err x, st2) => if (st2.take st.length).all (cellOk st.length) = true then some (.err x, st2.take st.length) else none
  | _ => none) else none
def Lv.more (L : Lv) (p : Addr) : Lv := ⟨L.c ++ [some p], L.h⟩
theorem made_ev {G : Gb} {L : Lv} {H : Hp} {st : Store} {cid : Nat} {x dx : Addr} (R : Rep G L st H) (hx : H x = none) (hd : H dx = none) (ne : dx ≠ x) :
    Ev L H (L.more x) (upd (upd H dx (.own x)) x (.ins (G.cA cid) dx [])) ∧ Rep G (L.more x) (st ++ [.ins cid []]) (upd (upd H dx (.own x)) x (.ins (G.cA cid) dx [])) := by
  have nx : ¬ (some x ∈ L.c ∨ x ∈ L.h) := R.fresh hx
  have hup : ∀ b o, H b = some o → (upd (upd H dx (.own x)) x (.ins (G.cA cid) dx [])) b = some o := fun b o e => by
    rw [upd_ne (ne_of_none e hx), upd_ne (ne_of_none e hd)]
    exact e
  have ev : Ev L H (L.more x) (upd (upd H dx (.own x)) x (.ins (G.cA cid) dx [])) :=
    { le := ⟨by show L.c.length ≤ (L.c ++ [some x]).length; simp, fun i a hi h => by
        have h' : (L.c ++ [some x])[i]? = some (some a) := h
        rw [List.getElem?_append_left hi] at h'
        exact h'⟩
      new := fun i a hi h => by
        have h' : (L.c ++ [some x])[i]? = some (some a) := h
        rw [List.getElem?_append_right hi] at h'
        have : a = x := by
          cases hz : i - L.c.length with
          | zero => rw [hz] at h'; simp at h'; exact h'.symm
          | succ j => rw [hz] at h'; simp at h'
        rw [this]
        exact hx
      same := fun b o h => by
        obtain ⟨h1, h2⟩ := off_some h
        refine .inl (off_of (hup b o h1) fun z => ?_)
        rcases z with z | z
        · rcases List.mem_append.mp z with z | z
          · exact h2 (.inl z)
          · have : b = x := Option.some.inj (List.mem_singleton.mp z)
            rw [this, hx] at h1
            cases h1
        · exact h2 (.inr z)
      there := fun a h => by
        cases e : H a with
        | none => rfl
        | some o => rw [hup a o e] at h; cases h
      hh := rfl
      keep := fun a ha => by
        have q := (R.hid a ha).1.1
        cases e : H a with
        | none => exact absurd e q
        | some o => rw [hup a o e] }
  refine ⟨ev, ⟨by show (L.c ++ [some x]).length = _; simp [R.len], fun i j a h1 h2 => ?_, fun i y c h1 h2 => ?_, fun a ha => ⟨by rw [ev.keep a ha]; exact (R.hid a ha).1, fun z => ?_⟩⟩⟩
  · have at_x : ∀ i, (L.c ++ [some x])[i]? = some (some a) → (i < L.c.length ∧ L.c[i]? = some (some a)) ∨ (i = L.c.length ∧ a = x) := fun i h => by
      by_cases hi : i < L.c.length
      · rw [List.getElem?_append_left hi] at h
        exact .inl ⟨hi, h⟩
      · rw [List.getElem?_append_right (Nat.le_of_not_lt hi)] at h
        cases hz : i - L.c.length with
        | zero => rw [hz] at h; simp at h; exact .inr ⟨by omega, h.symm⟩
        | succ j => rw [hz] at h; simp at h
    rcases at_x i h1 with ⟨i1, i2⟩ | ⟨i1, i2⟩
    · rcases at_x j h2 with ⟨j1, j2⟩ | ⟨j1, j2⟩
      · exact R.inj i j a i2 j2
      · subst j2
        exact absurd (.inl (List.mem_of_getElem? i2)) nx
    · rcases at_x j h2 with ⟨j1, j2⟩ | ⟨j1, j2⟩
      · subst i2
        exact absurd (.inl (List.mem_of_getElem? j2)) nx
      · omega
  · have h1' : (L.c ++ [some x])[i]? = some y := h1
    by_cases hi : i < L.c.length
    · rw [List.getElem?_append_left hi] at h1'
      rw [List.getElem?_append_left (by rw [← R.len]; exact hi)] at h2
      exact CellR.ev ev (fun a o _ h => hup a o h) (R.cell i y c h1' h2)
    · rw [List.getElem?_append_right (Nat.le_of_not_lt hi)] at h1'
      rw [List.getElem?_append_right (by rw [← R.len]; exact Nat.le_of_not_lt hi), ← R.len] at h2
      cases hz : i - L.c.length with
      | zero =>
        rw [hz] at h1' h2
        simp at h1' h2
        subst h1' h2
        exact ⟨dx, [], upd_same, .nil⟩
      | succ j => rw [hz] at h1'; simp at h1'
  · rcases List.mem_append.mp z with z | z
    · exact (R.hid a ha).2 z
    · have : a = x := Option.some.inj (List.mem_singleton.mp z)
      exact (R.hid a ha).1.1 (by rw [this]; exact hx)
theorem m_make {cid : Nat} (tk : Takes X W) (Mk1 : Mk X.K (G.cA cid) f) (F : FnOk X.prog X.w X.K X.mg X.base (L2.CX X.prog X.w) k f fd ps (spM G c n)) (hr : Room (k + 1) X.A) (hg : Gl X x) (hm : X.mg x = some (.ref (G.cA cid))) (hb : Binds X.K fd ps [])
    (ha : PA X (e :: es) (tMA G W mas)) (hdb : (x == ("__debug__" : Str)) = false := by decide) (he : starEach (e :: es) X.env = (false, eval e X.env) :: starEach es X.env := by rfl) (hpl : (backTo pos (starEach es X.env)).any (·.1) = false := by rfl) :
    PE X (.Call (.Name x p) (e :: es) [] pos) (tM G W (mMk cid n c mas)) :=
  PEimp (pe_makeS Mk1 F hr hg hm hb (fun σ => passAt tk σ) ha hdb he hpl) fun σ H Q q => by
    obtain ⟨L, st, env, r, st', at_, hmm, hp⟩ := q
    refine tMA_bnd at_ hmm hp.err fun ds st1 vs L1 H1 h1 e1 a1 dv => ?_
    split at h1
    · rename_i hn
      intro y dx hy hdx ne
      obtain ⟨ev, R2⟩ := made_ev (G := G) (cid := cid) a1.r hy hdx ne
      have hlen : L1.c.length = st1.length := a1.r.len
      have hself : Va G (L1.more y) (off (L1.more y) (upd (upd H1 dx (.own y)) y (.ins (G.cA cid) dx []))) (.ref y) (.ref st1.length) := by
        refine .ref (by show st1.length < (L1.c ++ [some y]).length; simp [hlen]) fun b q => ?_
        have q' : (L1.c ++ [some y])[st1.length]? = some (some b) := q
        rw [List.getElem?_append_right (by omega)] at q'
        rw [hlen, Nat.sub_self] at q'
        simp at q'
        exact q'
      have hle : ∀ {L' : Lv} {H' : Hp}, Ev (L1.more y) (upd (upd H1 dx (.own y)) y (.ins (G.cA cid) dx [])) L' H' → st1.length ≤ L'.c.length := fun {L' H'} e => by
        rw [← hlen]
        exact (ev.trans e).le.len
      refine ⟨by simp [dv.length]; exact hn, L1.more y, st1 ++ [.ins cid []], .ref st1.length :: ds, ?_⟩
      cases hc : c (.ref st1.length :: ds) (st1 ++ [.ins cid []]) with
      | none => rw [hc] at h1; cases h1
      | some q =>
        obtain ⟨rr, st2⟩ := q
        rw [hc] at h1
        refine ⟨rr, st2, R2, .cons hself (ev.vas dv), rfl, ?_⟩
        cases rr with
        | ok d =>
          cases d with
          | non =>
            dsimp only at h1
            split at h1
            · rename_i d3 st3 hf
              cases h1
              intro v L' H' e2 r2 dv2
              refine ⟨dv2.non_inv, ?_⟩
              obtain ⟨r3, v3⟩ := fin_ok (v := .ref y) r2 (e2.va hself) (hle e2) hf
              exact hp _ _ _ (e1.trans ((ev.trans e2).trim hlen)) r3 v3
            · cases h1
          | _ => cases h1
        | err z =>
          dsimp only at h1
          split at h1
          · rename_i hk
            cases h1
            intro cls dd L' H' e2 r2 xr
            have xr2 : XnR G (off (L'.trim st1.length) H') z cls dd := by
              obtain ⟨z1, d, vs, z2, z3, z4⟩ := xr
              exact ⟨z1, d, vs, z2, trim_same _ _ z3, DasF.mono (Rl.of_same trim_same) _ _ z4⟩
            exact hp cls dd _ _ (e1.trans ((ev.trans e2).trim hlen)) (r2.trim (hle e2) hk) xr2
          · cases h1
    · cases h1
end
end M


/-! The M layer: operations on values. -/
namespace M
open PySem PySem.Spec PyProof.Rows L2

/-- a live cell as what it holds -/
def rd (st : Store) : D → D
  | .ref i => match st[i]? with
    | some (.lst ds) => .lst ds
    | some (.dK kvs) => .dK kvs
    | some (.dT kvs) => .dT kvs
    | _ => .ref i
  | d => d
section
variable {G : Gb} {L : Lv} {H : Hp} {st : Store}
theorem off_same : Same (off L H) H := fun a o h => (off_some h).1
theorem Va.up {v : V} {d : D} (h : Va G L (off L H) v d) (p : isD d = true) : Da G H v d := Da.mono (Rl.of_same off_same) _ _ (h.da p)
theorem rd_da (R : Rep G L st H) {v : V} {d : D} (h : Va G L (off L H) v d) (p : isD (rd st d) = true) : Da G H v (rd st d) := by
  cases d with
  | ref i =>
    cases h with
    | d h => cases h
    | @ref a _ hi ha =>
      have hi2 : i < st.length := by rw [← R.len]; exact hi
      have hci : st[i]? = some st[i] := List.getElem?_eq_getElem hi2
      have hcl : L.c[i]? = some L.c[i] := List.getElem?_eq_getElem hi
      have cr := R.cell i _ _ hcl hci
      unfold rd at p ⊢
      dsimp only at p ⊢
      rw [hci] at p ⊢
      cases hx : L.c[i] with
      | none =>
        rw [hx] at cr
        cases hs : st[i] <;> rw [hs] at cr p <;> first | exact cr.elim | cases p
      | some b =>
        rw [hx] at cr hcl
        obtain rfl := ha b hcl
        cases hs : st[i] with
        | lst ds => rw [hs] at cr; obtain ⟨vs, q, r⟩ := cr; exact .lst q (Das.mono (Rl.of_same off_same) _ _ r)
        | dK ds => rw [hs] at cr; obtain ⟨vs, q, r⟩ := cr; exact .dK (.inl q) (DasK.mono (Rl.of_same off_same) _ _ r)
        | dT ds => rw [hs] at cr; obtain ⟨vs, q, r⟩ := cr; exact .dT (.inl q) (DasT.mono (Rl.of_same off_same) _ _ r)
        | ins c fs => rw [hs] at p; cases p
        | dead => rw [hs] at cr; exact cr.elim
  | _ => exact h.up rfl
/-- a value of no address -/
theorem r_same {z : V} {d : D} {Q : VK} (hz : Da G (off L H) z d) (R : Rep G L st H) (k : ∀ v L' H', Ev L H L' H' → Rep G L' st H' → Va G L' (off L' H') v d → Q v H') : Q z H := k z L H (Ev.refl L H) R (.d hz)
/-- a new object -/
theorem r_new {p : Addr} {o : HO} {d : D} {Q : VK} (R : Rep G L st H) (hp : H p = none) (hd : Da G (off L (upd H p o)) (.ref p) d) (k : ∀ v L' H', Ev L H L' H' → Rep G L' st H' → Va G L' (off L' H') v d → Q v H') : Q (.ref p) (upd H p o) :=
  k _ L _ (Ev.new1 R hp) (R.new1 hp) (.d hd)
theorem new_same (R : Rep G L st H) {p : Addr} {o : HO} (hp : H p = none) : Rl (off L H) (off L (upd H p o)) := (Ev.new1 R hp).same
end

/-! ### data of the comparisons -/
mutual
def py : D → PyData
  | .non => .none
  | .bl b => .bool b
  | .int i => .int i
  | .str x => .str x
  | .lst xs => .list (pyL xs)
  | .ro xs => .list (pyL xs)
  | .tup xs => .tuple (pyL xs)
  | .dK _ | .dT _ | .obj _ _ | .ptr _ | .cls _ | .ref _ | .ty _ => .none
def pyL : List D → List PyData
  | [] => []
  | x :: xs => py x :: pyL xs
end
def okD : Nat → D → Bool
  | _, .non | _, .bl _ | _, .int _ => true
  | _, .str x => PyData.strOk x
  | n + 1, .lst xs => xs.all (okD n)
  | n + 1, .ro xs => xs.all (okD n)
  | n + 1, .tup xs => xs.all (okD n)
  | _, _ => false
theorem pyL_map : ∀ xs : List D, pyL xs = xs.map py
  | [] => by simp [pyL]
  | x :: xs => by simp [pyL, pyL_map xs]
theorem ok_all {n : Nat} (ih : ∀ d, okD n d = true → (py d).canLay0 = true ∧ (py d).depth ≤ n) : ∀ xs : List D, xs.all (okD n) = true → PyData.canLayAll0 (pyL xs) = true ∧ PyData.depthAll (pyL xs) ≤ n
  | [], _ => by simp [pyL, PyData.canLayAll0, PyData.depthAll]
  | x :: xs, h => by
    rw [List.all_cons, Bool.and_eq_true] at h
    obtain ⟨a, b⟩ := ih x h.1
    obtain ⟨c, d⟩ := ok_all ih xs h.2
    simp only [pyL, PyData.canLayAll0, PyData.depthAll, a, c, Bool.and_self, true_and]
    exact Nat.max_le.mpr ⟨b, d⟩
theorem ok_py : ∀ (n : Nat) (d : D), okD n d = true → (py d).canLay0 = true ∧ (py d).depth ≤ n := by
  intro n
  induction n with
  | zero =>
    intro d h
    cases d <;> simp [okD, py, PyData.canLay0, PyData.depth] at h ⊢
    exact h
  | succ n ih =>
    intro d h
    cases d with
    | lst xs =>
      obtain ⟨a, b⟩ := ok_all ih xs (by simpa [okD] using h)
      simp only [py, PyData.canLay0, PyData.depth]
      exact ⟨a, by omega⟩
    | ro xs =>
      obtain ⟨a, b⟩ := ok_all ih xs (by simpa [okD] using h)
      simp only [py, PyData.canLay0, PyData.depth]
      exact ⟨a, by omega⟩
    | tup xs =>
      obtain ⟨a, b⟩ := ok_all ih xs (by simpa [okD] using h)
      simp only [py, PyData.canLay0, PyData.depth]
      exact ⟨a, by omega⟩
    | str x => simp [okD, py, PyData.canLay0, PyData.depth] at h ⊢; exact h
    | non => simp [py, PyData.canLay0, PyData.depth]
    | bl _ => simp [py, PyData.canLay0, PyData.depth]
    | int _ => simp [py, PyData.canLay0, PyData.depth]
    | _ => simp [okD] at h
mutual
theorem da_dp {G : Gb} {H : Hp} : ∀ (n : Nat) (d : D) (v : V), okD n d = true → Da G H v d → Dp G.K H v (py d)
  | _, .non, _, _, h => by cases h; simp only [py]; exact .non
  | _, .bl _, _, _, h => by cases h; simp only [py]; exact .bl _
  | _, .int _, _, _, h => by cases h; simp only [py]; exact .int _
  | _, .str _, _, _, h => by cases h; simp only [py]; exact .str _
  | n + 1, .lst xs, _, k, h => by
    cases h with
    | lst h r =>
      simp only [py]
      exact .lst (.inl (.inl h)) (das_dp n xs _ (by simpa [okD] using k) r)
  | n + 1, .ro xs, _, k, h => by
    cases h with
    | ro h r =>
      simp only [py]
      exact .lst h (das_dp n xs _ (by simpa [okD] using k) r)
  | n + 1, .tup xs, _, k, h => by
    cases h with
    | tup h r =>
      simp only [py]
      exact .tup (.inl (.inl h)) (das_dp n xs _ (by simpa [okD] using k) r)
  | 0, .lst _, _, k, _ => by simp [okD] at k
  | 0, .ro _, _, k, _ => by simp [okD] at k
  | 0, .tup _, _, k, _ => by simp [okD] at k
  | n, .dK _, _, k, _ => by cases n <;> simp [okD] at k
  | n, .dT _, _, k, _ => by cases n <;> simp [okD] at k
  | n, .obj _ _, _, k, _ => by cases n <;> simp [okD] at k
  | n, .ptr _, _, k, _ => by cases n <;> simp [okD] at k
  | n, .cls _, _, k, _ => by cases n <;> simp [okD] at k
  | n, .ref _, _, k, _ => by cases n <;> simp [okD] at k
  | n, .ty _, _, k, _ => by cases n <;> simp [okD] at k
theorem das_dp {G : Gb} {H : Hp} : ∀ (n : Nat) (ds : List D) (vs : List V), ds.all (okD n) = true → Das G H vs ds → DpAll G.K H vs (pyL ds)
  | _, [], _, _, h => by cases h; simp only [pyL]; exact .nil
  | n, d :: ds, _, k, h => by
    rw [List.all_cons, Bool.and_eq_true] at k
    cases h with
    | cons h r =>
      simp only [pyL]
      exact .cons (da_dp n d _ k.1 h) (das_dp n ds _ k.2 r)
end
theorem ok_isD {n : Nat} {d : D} (h : okD n d = true) : isD d = true := by
  cases d <;> first | rfl | (cases n <;> simp [okD] at h)
/-! == on data -/
mutual
def eqvD : D → D → Bool
  | .non, .non => true
  | .bl a, .bl b => a == b
  | .bl a, .int j => (if a then 1 else 0) == j
  | .int i, .bl b => i == (if b then 1 else 0)
  | .int i, .int j => i == j
  | .str x, .str y => x == y
  | .lst xs, .lst ys => eqvL xs ys
  | .lst xs, .ro ys => eqvL xs ys
  | .ro xs, .lst ys => eqvL xs ys
  | .ro xs, .ro ys => eqvL xs ys
  | .tup xs, .tup ys => eqvL xs ys
  | _, _ => false
def eqvL : List D → List D → Bool
  | [], [] => true
  | x :: xs, y :: ys => eqvD x y && eqvL xs ys
  | _, _ => false
end
theorem eqv_all (ih : ∀ (x y : D), okD n x = true → okD n y = true → PyData.eqv (py x) (py y) = eqvD x y) : ∀ xs ys : List D, xs.all (okD n) = true → ys.all (okD n) = true → PyData.eqvAll (pyL xs) (pyL ys) = eqvL xs ys
  | [], [], _, _ => by simp [pyL, PyData.eqvAll, eqvL]
  | [], _ :: _, _, _ => by simp [pyL, PyData.eqvAll, eqvL]
  | _ :: _, [], _, _ => by simp [pyL, PyData.eqvAll, eqvL]
  | x :: xs, y :: ys, h, k => by
    rw [List.all_cons, Bool.and_eq_true] at h k
    simp only [pyL, PyData.eqvAll, eqvL]
    rw [ih x y h.1 k.1, eqv_all ih xs ys h.2 k.2]
theorem eqv_py : ∀ (n : Nat) (x y : D), okD n x = true → okD n y = true → PyData.eqv (py x) (py y) = eqvD x y := by
  intro n
  induction n with
  | zero =>
    intro x y hx hy
    cases x <;> simp [okD] at hx <;> cases y <;> simp [okD] at hy <;> simp [py, PyData.eqv, eqvD]
  | succ n ih =>
    intro x y hx hy
    cases x <;> simp [okD] at hx <;> cases y <;> simp [okD] at hy <;> simp [py, PyData.eqv, eqvD] <;>
      exact eqv_all ih _ _ (by simpa using hx) (by simpa using hy)
def gEq (st : Store) (x y : D) : Option D := if okD 8 (rd st x) = true ∧ okD 8 (rd st y) = true then some (.bl (eqvD (rd st x) (rd st y))) else none
def gNe (st : Store) (x y : D) : Option D := if okD 8 (rd st x) = true ∧ okD 8 (rd st y) = true then some (.bl (!eqvD (rd st x) (rd st y))) else none
theorem shaped_ok {d : D} (h : okD 8 d = true) : SeqAt.shaped (py d) = true := by
  obtain ⟨a, b⟩ := ok_py 8 d h
  unfold SeqAt.shaped
  rw [a, Bool.true_and]
  exact decide_eq_true (by omega)
theorem r2_eq {G : Gb} : R2M G (rEqD G.K) gEq := fun L st H x y d e z Q R dx dy hz k => by
  unfold gEq at hz
  split at hz
  · rename_i hk
    cases hz
    have a := rd_da R dx (ok_isD hk.1)
    have b := rd_da R dy (ok_isD hk.2)
    refine ⟨_, _, da_dp 8 _ _ hk.1 a, da_dp 8 _ _ hk.2 b, shaped_ok hk.1, shaped_ok hk.2, ?_⟩
    rw [eqv_py 8 _ _ hk.1 hk.2]
    exact r_same (.bl _) R k
  · cases hz
theorem r2_ne {G : Gb} : R2M G (rNeD G.K) gNe := fun L st H x y d e z Q R dx dy hz k => by
  unfold gNe at hz
  split at hz
  · rename_i hk
    cases hz
    have a := rd_da R dx (ok_isD hk.1)
    have b := rd_da R dy (ok_isD hk.2)
    refine ⟨_, _, da_dp 8 _ _ hk.1 a, da_dp 8 _ _ hk.2 b, shaped_ok hk.1, shaped_ok hk.2, ?_⟩
    rw [eqv_py 8 _ _ hk.1 hk.2]
    exact r_same (.bl _) R k
  · cases hz

/-! ### ints -/
def iop (f : Int → Int → D) (_ : Store) (x y : D) : Option D := match x, y with
  | .int i, .int j => some (f i j)
  | _, _ => none
def iopC (C : Int → Int → Prop) [∀ i j, Decidable (C i j)] (f : Int → Int → D) (_ : Store) (x y : D) : Option D := match x, y with
  | .int i, .int j => if C i j then some (f i j) else none
  | _, _ => none
theorem r2_I0 {G : Gb} {g : Int → Int → V} {f : Int → Int → D} (h : ∀ i j H, Da G H (g i j) (f i j)) : R2M G (rI0 g) (iop f) := fun L st H x y d e z Q R dx dy hz k => by
  unfold iop at hz
  split at hz
  · cases hz
    exact ⟨_, _, dx.int_inv, dy.int_inv, r_same (h _ _ _) R k⟩
  · cases hz
theorem r2_I {G : Gb} {C : Int → Int → Prop} [∀ i j, Decidable (C i j)] {g : Int → Int → V} {f : Int → Int → D} (h : ∀ i j H, Da G H (g i j) (f i j)) : R2M G (rI C g) (iopC C f) := fun L st H x y d e z Q R dx dy hz k => by
  unfold iopC at hz
  split at hz
  · split at hz
    · rename_i hc
      cases hz
      exact ⟨_, _, dx.int_inv, dy.int_inv, hc, r_same (h _ _ _) R k⟩
    · cases hz
  · cases hz
instance : ∀ i j, Decidable (CMul i j) := fun i j => by unfold CMul; exact inferInstance
instance : ∀ i j, Decidable (CDiv i j) := fun i j => by unfold CDiv; exact inferInstance
instance : ∀ i j, Decidable (CPow i j) := fun i j => by unfold CPow; exact inferInstance
abbrev gSub := iop fun i j => .int (i - j)
abbrev gMulI := iopC CMul fun i j => .int (i * j)
abbrev gMod := iopC (fun _ j => 0 < j) fun i j => .int (i % j)
abbrev gDiv := iopC CDiv fun i j => .int (i / j)
abbrev gPow := iopC CPow fun i j => .int (i ^ j.toNat)
abbrev gLt := iop fun i j => .bl (decide (i < j))
abbrev gLe := iop fun i j => .bl (decide (i ≤ j))
abbrev gGt := iop fun i j => .bl (decide (j < i))
abbrev gGe := iop fun i j => .bl (decide (j ≤ i))
theorem da_int {G : Gb} (f : Int → Int → Int) : ∀ i j H, Da G H (.int (f i j)) (.int (f i j)) := fun _ _ _ => .int _
theorem da_bl {G : Gb} (f : Int → Int → Bool) : ∀ i j H, Da G H (.bl (f i j)) (.bl (f i j)) := fun _ _ _ => .bl _

/-! ### + -/
def gAdd (st : Store) (x y : D) : Option D := match rd st x, rd st y with
  | .int i, .int j => some (.int (i + j))
  | .str a, .str b => if a.length + b.length ≤ big then some (.str (a ++ b)) else none
  | .lst a, .lst b => if a.length + b.length ≤ big then some (.lst (a ++ b)) else none
  | _, _ => none
def rAdd (K : PySem.W.Frag) : R2 := fun x y H Q => (rI0 (fun i j => .int (i + j)) x y H Q ∨ (∃ i j, x = .str i ∧ y = .str j ∧ i.length + j.length ≤ sizeLine ∧ Q (.str (i ++ j)) H)) ∨ rCat x y H Q
theorem op_addAny {X : Cx} : OpR X (binaryOp .Add) (rAdd X.K) := (op_add.or2 op_add_str).or2 op_cat
theorem Da.int_inv {G : Gb} {H : Hp} {v : V} {i : Int} (h : Da G H v (.int i)) : v = .int i := by cases h; rfl
theorem Da.str_inv {G : Gb} {H : Hp} {v : V} {i : Str} (h : Da G H v (.str i)) : v = .str i := by cases h; rfl
theorem big_line {n : Nat} (h : n ≤ big) : n ≤ sizeLine := by
  rw [sizeLine_eq]
  unfold big at h
  omega
/-- what is read stays read where data are wanted: the parts of a cell as data -/
theorem rd_off {G : Gb} {L : Lv} {H : Hp} {st : Store} (R : Rep G L st H) {v : V} {d : D} (h : Va G L (off L H) v d) {ds : List D} (e : rd st d = .lst ds) : ∃ a vs, v = .ref a ∧ H a = some (.lst vs) ∧ Das G (off L H) vs ds := by
  cases d with
  | ref i =>
    cases h with
    | d h => cases h
    | @ref a _ hi ha =>
      have hi2 : i < st.length := by rw [← R.len]; exact hi
      have hci : st[i]? = some st[i] := List.getElem?_eq_getElem hi2
      have hcl : L.c[i]? = some L.c[i] := List.getElem?_eq_getElem hi
      have cr := R.cell i _ _ hcl hci
      unfold rd at e
      dsimp only at e
      rw [hci] at e
      cases hx : L.c[i] with
      | none =>
        rw [hx] at cr
        cases hs : st[i] <;> rw [hs] at cr e <;> first | exact cr.elim | cases e
      | some b =>
        rw [hx] at cr hcl
        obtain rfl := ha b hcl
        cases hs : st[i] with
        | lst ds' => rw [hs] at cr e; cases e; obtain ⟨vs, q, r⟩ := cr; exact ⟨_, vs, rfl, q, r⟩
        | dK ds => rw [hs] at e; cases e
        | dT ds => rw [hs] at e; cases e
        | ins c fs => rw [hs] at e; cases e
        | dead => rw [hs] at e; cases e
  | lst ds' =>
    cases e
    obtain ⟨a, vs, q1, q2, q3⟩ := h.lst_inv
    exact ⟨a, vs, q1, (off_some q2).1, q3⟩
  | _ => cases e
theorem rd_int {st : Store} {d : D} {i : Int} (e : rd st d = .int i) : d = .int i := by
  cases d with
  | ref j => unfold rd at e; dsimp only at e; split at e <;> cases e
  | _ => exact e
theorem rd_str {st : Store} {d : D} {i : Str} (e : rd st d = .str i) : d = .str i := by
  cases d with
  | ref j => unfold rd at e; dsimp only at e; split at e <;> cases e
  | _ => exact e
theorem r2_add {G : Gb} : R2M G (rAdd G.K) gAdd := fun L st H x y d e z Q R dx dy hz k => by
  unfold gAdd at hz
  split at hz
  · rename_i i j h1 h2
    cases hz
    rw [rd_int h1] at dx
    rw [rd_int h2] at dy
    exact .inl (.inl ⟨_, _, dx.int_inv, dy.int_inv, r_same (.int _) R k⟩)
  · rename_i i j h1 h2
    split at hz
    · rename_i hl
      cases hz
      rw [rd_str h1] at dx
      rw [rd_str h2] at dy
      exact .inl (.inr ⟨_, _, dx.str_inv, dy.str_inv, big_line hl, r_same (.str _) R k⟩)
    · cases hz
  · rename_i xs ys h1 h2
    split at hz
    · rename_i hl
      cases hz
      obtain ⟨a, vs, rfl, q1, r1⟩ := rd_off R dx h1
      obtain ⟨b, us, rfl, q2, r2⟩ := rd_off R dy h2
      refine .inr ⟨a, b, vs, us, rfl, rfl, q1, q2, by rw [r1.length, r2.length]; exact big_line hl, fun p hp => ?_⟩
      exact r_new R hp (.lst (Ev.off_new R hp) (Das.mono (new_same R hp) _ _ (r1.append r2))) k
    · cases hz
  · cases hz

/-! ### displays -/
def mLst (ma : MA) : ME := fun env st => bnd (ma env st) fun ds st => if ds.length ≤ big ∧ ds.all isD = true then some (.ok (.lst ds), st) else none
def mTup (ma : MA) : ME := fun env st => bnd (ma env st) fun ds st => if ds.length ≤ big ∧ ds.all isD = true then some (.ok (.tup ds), st) else none
/-- a list that is to change: a cell -/
def mNew (ma : MA) : ME := fun env st => bnd (ma env st) fun ds st => if ds.length ≤ big ∧ ds.all isD = true then some (.ok (.ref st.length), st ++ [.lst ds]) else none
theorem new_cell {G : Gb} {L : Lv} {H : Hp} {st : Store} {x : Addr} {o : HO} {c : Cell} (R : Rep G L st H) (hx : H x = none) (hc : ∀ L' H', Rl (off L H) (off L' H') → H' x = some o → CellR G L' H' (some x) c) :
    Ev L H (L.more x) (upd H x o) ∧ Rep G (L.more x) (st ++ [c]) (upd H x o) ∧ Va G (L.more x) (off (L.more x) (upd H x o)) (.ref x) (.ref st.length) := by
  have nx : ¬ (some x ∈ L.c ∨ x ∈ L.h) := R.fresh hx
  have hup : ∀ b u, H b = some u → (upd H x o) b = some u := fun b u e => by
    rw [upd_ne (ne_of_none e hx)]
    exact e
  have ev : Ev L H (L.more x) (upd H x o) :=
    { le := ⟨by show L.c.length ≤ (L.c ++ [some x]).length; simp, fun i a hi h => by
        have h' : (L.c ++ [some x])[i]? = some (some a) := h
        rw [List.getElem?_append_left hi] at h'
        exact h'⟩
      new := fun i a hi h => by
        have h' : (L.c ++ [some x])[i]? = some (some a) := h
        rw [List.getElem?_append_right hi] at h'
        have : a = x := by
          cases hz : i - L.c.length with
          | zero => rw [hz] at h'; simp at h'; exact h'.symm
          | succ j => rw [hz] at h'; simp at h'
        rw [this]
        exact hx
      same := fun b u h => by
        obtain ⟨h1, h2⟩ := off_some h
        refine .inl (off_of (hup b u h1) fun z => ?_)
        rcases z with z | z
        · rcases List.mem_append.mp z with z | z
          · exact h2 (.inl z)
          · have : b = x := Option.some.inj (List.mem_singleton.mp z)
            rw [this, hx] at h1
            cases h1
        · exact h2 (.inr z)
      there := fun a h => by
        cases e : H a with
        | none => rfl
        | some u => rw [hup a u e] at h; cases h
      hh := rfl
      keep := fun a ha => by
        have q := (R.hid a ha).1.1
        cases e : H a with
        | none => exact absurd e q
        | some u => rw [hup a u e] }
  refine ⟨ev, ⟨by show (L.c ++ [some x]).length = _; simp [R.len], fun i j a h1 h2 => ?_, fun i y c' h1 h2 => ?_, fun a ha => ⟨by rw [ev.keep a ha]; exact (R.hid a ha).1, fun z => ?_⟩⟩, ?_⟩
  · have at_x : ∀ i, (L.c ++ [some x])[i]? = some (some a) → (i < L.c.length ∧ L.c[i]? = some (some a)) ∨ (i = L.c.length ∧ a = x) := fun i h => by
      by_cases hi : i < L.c.length
      · rw [List.getElem?_append_left hi] at h
        exact .inl ⟨hi, h⟩
      · rw [List.getElem?_append_right (Nat.le_of_not_lt hi)] at h
        cases hz : i - L.c.length with
        | zero => rw [hz] at h; simp at h; exact .inr ⟨by omega, h.symm⟩
        | succ j => rw [hz] at h; simp at h
    rcases at_x i h1 with ⟨i1, i2⟩ | ⟨i1, i2⟩
    · rcases at_x j h2 with ⟨j1, j2⟩ | ⟨j1, j2⟩
      · exact R.inj i j a i2 j2
      · subst j2
        exact absurd (.inl (List.mem_of_getElem? i2)) nx
    · rcases at_x j h2 with ⟨j1, j2⟩ | ⟨j1, j2⟩
      · subst i2
        exact absurd (.inl (List.mem_of_getElem? j2)) nx
      · omega
  · have h1' : (L.c ++ [some x])[i]? = some y := h1
    by_cases hi : i < L.c.length
    · rw [List.getElem?_append_left hi] at h1'
      rw [List.getElem?_append_left (by rw [← R.len]; exact hi)] at h2
      exact CellR.ev ev (fun a u _ h => hup a u h) (R.cell i y c' h1' h2)
    · rw [List.getElem?_append_right (Nat.le_of_not_lt hi)] at h1'
      rw [List.getElem?_append_right (by rw [← R.len]; exact Nat.le_of_not_lt hi), ← R.len] at h2
      cases hz : i - L.c.length with
      | zero =>
        rw [hz] at h1' h2
        simp at h1' h2
        subst h1' h2
        exact hc _ _ ev.same upd_same
      | succ j => rw [hz] at h1'; simp at h1'
  · rcases List.mem_append.mp z with z | z
    · exact (R.hid a ha).2 z
    · have : a = x := Option.some.inj (List.mem_singleton.mp z)
      exact (R.hid a ha).1.1 (by rw [this]; exact hx)
  · refine .ref (by show st.length < (L.c ++ [some x]).length; simp [R.len]) fun b q => ?_
    have q' : (L.c ++ [some x])[st.length]? = some (some b) := q
    rw [List.getElem?_append_right (by rw [R.len]; exact Nat.le_refl _), R.len, Nat.sub_self] at q'
    simp at q'
    exact q'
section
variable {G : Gm} {W : WX} {X : Cx} {es : List Expr} {mas : MA} {pos : Pos}
theorem m_lst (h : PA X es (tMA G W mas)) : PE X (.List es pos) (tM G W (mLst mas)) := PEimp (pe_lst h) fun σ H Q q => by
  obtain ⟨L, st, env, r, st', at_, hm, hp⟩ := q
  refine tMA_bnd at_ hm hp.err fun ds st1 vs L1 H1 h1 e1 a1 dv => ?_
  split at h1
  · rename_i hk
    cases h1
    refine ⟨by rw [dv.length]; exact big_line hk.1, fun p hpn => ?_⟩
    exact r_new a1.r hpn (.lst (Ev.off_new a1.r hpn) (Das.mono (new_same a1.r hpn) _ _ (dv.das hk.2))) fun v L' H' e => hp v L' H' (e1.trans e)
  · cases h1
theorem m_tup {x1} (h : PA X es (tMA G W mas)) : PE X (.Tuple es x1 pos) (tM G W (mTup mas)) := PEimp (pe_tup h) fun σ H Q q => by
  obtain ⟨L, st, env, r, st', at_, hm, hp⟩ := q
  refine tMA_bnd at_ hm hp.err fun ds st1 vs L1 H1 h1 e1 a1 dv => ?_
  split at h1
  · rename_i hk
    cases h1
    refine ⟨by rw [dv.length]; exact big_line hk.1, fun p hpn => ?_⟩
    exact r_new a1.r hpn (.tup (Ev.off_new a1.r hpn) (Das.mono (new_same a1.r hpn) _ _ (dv.das hk.2))) fun v L' H' e => hp v L' H' (e1.trans e)
  · cases h1
theorem m_new (h : PA X es (tMA G W mas)) : PE X (.List es pos) (tM G W (mNew mas)) := PEimp (pe_lst h) fun σ H Q q => by
  obtain ⟨L, st, env, r, st', at_, hm, hp⟩ := q
  refine tMA_bnd at_ hm hp.err fun ds st1 vs L1 H1 h1 e1 a1 dv => ?_
  split at h1
  · rename_i hk
    cases h1
    refine ⟨by rw [dv.length]; exact big_line hk.1, fun p hpn => ?_⟩
    obtain ⟨e2, r2, v2⟩ := new_cell (G := G) (o := .lst vs) (c := .lst ds) a1.r hpn fun L' H' s h => ⟨vs, h, Das.mono s _ _ (dv.das hk.2)⟩
    exact hp _ _ _ (e1.trans e2) r2 v2
  · cases h1
end
end M


/-! The M layer: built-ins, lists that change, fields, errors. -/
namespace M
open PySem PySem.Spec PyProof.Rows L2

/-! ### in, len, all, int, max, min, tuple -/
def gInSign (_ : Store) (x y : D) : Option D := match x, y with
  | .str ⟨⟨[c]⟩⟩, .str z => some (.bl (decide (c ∈ z.cps.toList)))
  | _, _ => none
def rInSign : R2 := fun x y H Q => ∃ (c : Nat) (z : Str), x = .str ⟨#[c]⟩ ∧ y = .str z ∧ Q (.bl (decide (c ∈ z.cps.toList))) H
theorem op_inSign {X : Cx} : OpR X (compareOp .In) rInSign := op_in_sign
theorem r2_inSign {G : Gb} : R2M G rInSign gInSign := fun L st H x y d e z Q R dx dy hz k => by
  unfold gInSign at hz
  split at hz
  · cases hz
    exact ⟨_, _, dx.str_inv, dy.str_inv, r_same (.bl _) R k⟩
  · cases hz
def gLen (st : Store) : List D → Option D
  | [x] => match rd st x with
    | .lst xs => some (.int xs.length)
    | .tup xs => some (.int xs.length)
    | .ro xs => some (.int xs.length)
    | .str a => if a.length ≤ big then some (.int a.length) else none
    | .dK kvs => some (.int kvs.length)
    | _ => none
  | _ => none
theorem DasK.length {G : Gb} {H : Hp} : ∀ {ds : List (Key × D)} {vs : List (Key × V)}, DasK G H vs ds → vs.length = ds.length
  | [], _, h => by cases h; rfl
  | (k, d) :: ds, _, h => by
    cases h with
    | cons h r => simp [DasK.length r]
theorem DasT.length {G : Gb} {H : Hp} : ∀ {ds : List (List Key × D)} {vs : List (List Key × V)}, DasT G H vs ds → vs.length = ds.length
  | [], _, h => by cases h; rfl
  | (k, d) :: ds, _, h => by
    cases h with
    | cons h r => simp [DasT.length r]
theorem call_lenDr {X : Cx} : CallR X (.builtin "len") (fun xs H Q => ∃ a kvs, xs = [V.ref a] ∧ Rd H a (.dK kvs) ∧ Q (.int kvs.length) H) := by
  intro pins s σ H xs us Q I r h
  obtain ⟨a, kvs, rfl, ha, q⟩ := h
  obtain ⟨u, rfl, ru⟩ := vals1 r
  cases ru
  exact d_len I ha fun t s' I' => ⟨.int kvs.length, H, I', ⟨t, rfl⟩, q⟩
def rLen (K : PySem.W.Frag) : List V → Hp → VK → Prop := fun xs H Q => (∃ x n, xs = [x] ∧ LenV K x H n ∧ Q (.int n) H) ∨ ∃ a kvs, xs = [V.ref a] ∧ Rd H a (.dK kvs) ∧ Q (.int kvs.length) H
theorem call_lenAny {X : Cx} : CallR X (.builtin "len") (rLen X.K) := call_len.or2 call_lenDr
theorem Das.one {G : Gb} {L : Lv} {H : Hp} {vs : List V} {d : D} (h : Vas G L H vs [d]) : ∃ v, vs = [v] ∧ Va G L H v d := by
  cases h with
  | cons h r => cases r; exact ⟨_, rfl, h⟩
theorem Das.two {G : Gb} {L : Lv} {H : Hp} {vs : List V} {d e : D} (h : Vas G L H vs [d, e]) : ∃ v w, vs = [v, w] ∧ Va G L H v d ∧ Va G L H w e := by
  cases h with
  | cons h r =>
    cases r with
    | cons h' r => cases r; exact ⟨_, _, rfl, h, h'⟩
theorem rc_len {G : Gb} : RCM G (rLen G.K) gLen := fun L st H xs ds z Q R dv hz k => by
  unfold gLen at hz
  split at hz
  · rename_i x
    obtain ⟨v, rfl, hv⟩ := Das.one dv
    split at hz
    · rename_i ys e
      cases hz
      have a := rd_da R hv (by rw [e]; rfl)
      rw [e] at a
      cases a with
      | lst h r => exact .inl ⟨_, ys.length, rfl, .inl ⟨_, .inl (.inl h), r.length.symm⟩, r_same (.int _) R k⟩
    · rename_i ys e
      cases hz
      have a := rd_da R hv (by rw [e]; rfl)
      rw [e] at a
      cases a with
      | tup h r => exact .inl ⟨_, ys.length, rfl, .inr ⟨_, .inl (.inl h), r.length.symm⟩, r_same (.int _) R k⟩
    · rename_i ys e
      cases hz
      have a := rd_da R hv (by rw [e]; rfl)
      rw [e] at a
      cases a with
      | ro h r => exact .inl ⟨_, ys.length, rfl, .inl ⟨_, h, r.length.symm⟩, r_same (.int _) R k⟩
    · rename_i y e
      split at hz
      · rename_i hl
        cases hz
        rw [rd_str e] at hv
        cases hv.str_inv
        exact .inl ⟨_, y.length, rfl, ⟨big_line hl, rfl⟩, r_same (.int _) R k⟩
      · cases hz
    · rename_i ys e
      cases hz
      have a := rd_da R hv (by rw [e]; rfl)
      rw [e] at a
      cases a with
      | dK h r => exact .inr ⟨_, _, rfl, h, by rw [r.length]; exact r_same (.int _) R k⟩
    · cases hz
  · cases hz
def bls : List D → Option (List Bool)
  | [] => some []
  | .bl b :: r => (bls r).map (b :: ·)
  | _ => none
theorem bls_vs {G : Gb} {H : Hp} : ∀ {ds : List D} {vs : List V} {bs : List Bool}, Das G H vs ds → bls ds = some bs → vs = bs.map V.bl
  | [], _, _, h, e => by cases h; cases e; rfl
  | .bl b :: ds, _, bs, h, e => by
    cases h with
    | cons h r =>
      cases h
      unfold bls at e
      cases hb : bls ds with
      | none => rw [hb] at e; cases e
      | some cs =>
        rw [hb] at e
        cases e
        rw [bls_vs r hb]
        rfl
  | .non :: _, _, _, _, e => by cases e
  | .int _ :: _, _, _, _, e => by cases e
  | .str _ :: _, _, _, _, e => by cases e
  | .ty _ :: _, _, _, _, e => by cases e
  | .lst _ :: _, _, _, _, e => by cases e
  | .tup _ :: _, _, _, _, e => by cases e
  | .ro _ :: _, _, _, _, e => by cases e
  | .dK _ :: _, _, _, _, e => by cases e
  | .dT _ :: _, _, _, _, e => by cases e
  | .obj _ _ :: _, _, _, _, e => by cases e
  | .ptr _ :: _, _, _, _, e => by cases e
  | .cls _ :: _, _, _, _, e => by cases e
  | .ref _ :: _, _, _, _, e => by cases e
def gAll (_ : Store) : List D → Option D
  | [.lst xs] => (bls xs).map fun bs => .bl (bs.all id)
  | _ => none
def gAny (_ : Store) : List D → Option D
  | [.lst xs] => (bls xs).map fun bs => .bl (bs.any id)
  | _ => none
theorem rc_all {G : Gb} : RCM G (rAll G.K) gAll := fun L st H xs ds z Q R dv hz k => by
  unfold gAll at hz
  split at hz
  · rename_i ys
    obtain ⟨v, rfl, hv⟩ := Das.one dv
    cases hb : bls ys with
    | none => rw [hb] at hz; cases hz
    | some bs =>
      rw [hb] at hz
      cases hz
      obtain ⟨a, vs, rfl, h, r⟩ := hv.lst_inv
      rw [bls_vs r hb] at h
      exact ⟨a, bs, rfl, .inl (.inl (off_some h).1), r_same (.bl _) R k⟩
  · cases hz
theorem rc_any {G : Gb} : RCM G (rAny G.K) gAny := fun L st H xs ds z Q R dv hz k => by
  unfold gAny at hz
  split at hz
  · rename_i ys
    obtain ⟨v, rfl, hv⟩ := Das.one dv
    cases hb : bls ys with
    | none => rw [hb] at hz; cases hz
    | some bs =>
      rw [hb] at hz
      cases hz
      obtain ⟨a, vs, rfl, h, r⟩ := hv.lst_inv
      rw [bls_vs r hb] at h
      exact ⟨a, bs, rfl, .inl (.inl (off_some h).1), r_same (.bl _) R k⟩
  · cases hz
def gMax2 (_ : Store) : List D → Option D
  | [.int i, .int j] => some (.int (if j > i then j else i))
  | _ => none
def gMin2 (_ : Store) : List D → Option D
  | [.int i, .int j] => some (.int (if j < i then j else i))
  | _ => none
def rMax2 : List V → Hp → VK → Prop := fun xs H Q => ∃ i j, xs = [.int i, .int j] ∧ Q (.int (if j > i then j else i)) H
def rMin2 : List V → Hp → VK → Prop := fun xs H Q => ∃ i j, xs = [.int i, .int j] ∧ Q (.int (if j < i then j else i)) H
theorem call_mx {X : Cx} (hc : X.calm = true) : CallR X (.builtin "max") rMax2 := call_max2 hc
theorem call_mn {X : Cx} (hc : X.calm = true) : CallR X (.builtin "min") rMin2 := call_min2 hc
theorem rc_max2 {G : Gb} : RCM G rMax2 gMax2 := fun L st H xs ds z Q R dv hz k => by
  unfold gMax2 at hz
  split at hz
  · cases hz
    obtain ⟨v, w, rfl, h1, h2⟩ := Das.two dv
    cases h1.int_inv
    cases h2.int_inv
    exact ⟨_, _, rfl, r_same (.int _) R k⟩
  · cases hz
theorem rc_min2 {G : Gb} : RCM G rMin2 gMin2 := fun L st H xs ds z Q R dv hz k => by
  unfold gMin2 at hz
  split at hz
  · cases hz
    obtain ⟨v, w, rfl, h1, h2⟩ := Das.two dv
    cases h1.int_inv
    cases h2.int_inv
    exact ⟨_, _, rfl, r_same (.int _) R k⟩
  · cases hz
def gInt (_ : Store) : List D → Option D
  | [.int i] => some (.int i)
  | [.bl k] => some (.int (if k then 1 else 0))
  | _ => none
def rInt1 : List V → Hp → VK → Prop := fun xs H Q => (∃ i, xs = [.int i] ∧ Q (.int i) H) ∨ ∃ k, xs = [.bl k] ∧ Q (.int (if k then 1 else 0)) H
theorem call_int {X : Cx} : CallR X (.type "int") rInt1 := call_int1
theorem rc_int {G : Gb} : RCM G rInt1 gInt := fun L st H xs ds z Q R dv hz k => by
  unfold gInt at hz
  split at hz
  · cases hz
    obtain ⟨v, rfl, h1⟩ := Das.one dv
    cases h1.int_inv
    exact .inl ⟨_, rfl, r_same (.int _) R k⟩
  · cases hz
    obtain ⟨v, rfl, h1⟩ := Das.one dv
    cases h1.bl_inv
    exact .inr ⟨_, rfl, r_same (.int _) R k⟩
  · cases hz
/-- tuple(xs), list(xs) -/
def gTuple (st : Store) : List D → Option D
  | [x] => match rd st x with
    | .lst xs => some (.tup xs)
    | .tup xs => some (.tup xs)
    | _ => none
  | _ => none
def rTuple (K : PySem.W.Frag) : List V → Hp → VK → Prop := fun xs H Q => ∃ p ys, xs = [.ref p] ∧ ((SqL K H p ys ∧ ∀ l, H l = none → Q (.ref l) (upd H l (.tup ys))) ∨ (SqT K H p ys ∧ Q (.ref p) H))
theorem call_tuple {X : Cx} : CallR X (.type "tuple") (rTuple X.K) := call_tuple_of
theorem rd_tup {st : Store} {d : D} {i : List D} (e : rd st d = .tup i) : d = .tup i := by
  cases d with
  | ref j => unfold rd at e; dsimp only at e; split at e <;> cases e
  | _ => exact e
theorem rc_tuple {G : Gb} : RCM G (rTuple G.K) gTuple := fun L st H xs ds z Q R dv hz k => by
  unfold gTuple at hz
  split at hz
  · rename_i x
    obtain ⟨v, rfl, hv⟩ := Das.one dv
    split at hz
    · rename_i ys e
      cases hz
      obtain ⟨a, vs, rfl, h, r⟩ := rd_off R hv e
      exact ⟨a, vs, rfl, .inl ⟨.inl (.inl h), fun p hp => r_new R hp (.tup (Ev.off_new R hp) (Das.mono (new_same R hp) _ _ r)) k⟩⟩
    · rename_i ys e
      cases hz
      rw [rd_tup e] at hv
      obtain ⟨a, vs, rfl, h, r⟩ := hv.tup_inv
      exact ⟨a, vs, rfl, .inr ⟨.inl (.inl (off_some h).1), r_same (.tup h r) R k⟩⟩
    · cases hz
  · cases hz
def gList (st : Store) : List D → Option D
  | [x] => match rd st x with
    | .lst xs => some (.lst xs)
    | .tup xs => some (.lst xs)
    | _ => none
  | _ => none
def rList (K : PySem.W.Frag) : List V → Hp → VK → Prop := fun xs H Q => ∃ p ys, xs = [.ref p] ∧ (SqL K H p ys ∨ SqT K H p ys) ∧ ∀ l, H l = none → Q (.ref l) (upd H l (.lst ys))
theorem call_list {X : Cx} : CallR X (.type "list") (rList X.K) := call_list_of
theorem rc_list {G : Gb} : RCM G (rList G.K) gList := fun L st H xs ds z Q R dv hz k => by
  unfold gList at hz
  split at hz
  · rename_i x
    obtain ⟨v, rfl, hv⟩ := Das.one dv
    split at hz
    · rename_i ys e
      cases hz
      obtain ⟨a, vs, rfl, h, r⟩ := rd_off R hv e
      exact ⟨a, vs, rfl, .inl (.inl (.inl h)), fun p hp => r_new R hp (.lst (Ev.off_new R hp) (Das.mono (new_same R hp) _ _ r)) k⟩
    · rename_i ys e
      cases hz
      rw [rd_tup e] at hv
      obtain ⟨a, vs, rfl, h, r⟩ := hv.tup_inv
      exact ⟨a, vs, rfl, .inr (.inl (.inl (off_some h).1)), fun p hp => r_new R hp (.lst (Ev.off_new R hp) (Das.mono (new_same R hp) _ _ r)) k⟩
    · cases hz
  · cases hz

/-! ### items -/
def gIx (st : Store) (x y : D) : Option D := match rd st x, y with
  | .lst xs, .int i => atI xs i
  | .tup xs, .int i => atI xs i
  | .ro xs, .int i => atI xs i
  | _, _ => none
theorem Das.atI {G : Gb} {H : Hp} {vs : List V} {ds : List D} {i : Int} {d : D} (h : Das G H vs ds) (e : L2.atI ds i = some d) : ∃ v, L2.atI vs i = some v ∧ Da G H v d := by
  unfold L2.atI at e ⊢
  rw [h.length]
  cases hn : ixN ds.length i with
  | none => rw [hn] at e; cases e
  | some j =>
    rw [hn] at e
    exact h.getD (i := j) e
def rIx (K : PySem.W.Frag) : R2 := fun x y H Q => rIxL K x y H Q ∨ rIxT K x y H Q
theorem ix_any {X : Cx} : IxR X (rIx X.K) := ix_list.or ix_tup
theorem r2_ix {G : Gb} : R2M G (rIx G.K) gIx := fun L st H x y d e z Q R dx dy hz k => by
  unfold gIx at hz
  split at hz
  · rename_i xs i h1
    obtain ⟨a, vs, rfl, h, r⟩ := rd_off R dx h1
    obtain ⟨v, q1, q2⟩ := r.atI hz
    exact .inl ⟨a, vs, i, v, rfl, dy.int_inv, .inl (.inl h), q1, r_same q2 R k⟩
  · rename_i xs i h1
    rw [rd_tup h1] at dx
    obtain ⟨a, vs, rfl, h, r⟩ := dx.tup_inv
    obtain ⟨v, q1, q2⟩ := r.atI hz
    exact .inr ⟨a, vs, i, v, rfl, dy.int_inv, .inl (.inl (off_some h).1), q1, r_same q2 R k⟩
  · rename_i xs i h1
    have e2 : d = .ro xs := by
      cases d with
      | ref j => unfold rd at h1; dsimp only at h1; split at h1 <;> cases h1
      | _ => exact h1
    subst e2
    obtain ⟨a, vs, rfl, h, r⟩ := dx.ro_inv
    obtain ⟨v, q1, q2⟩ := r.atI hz
    exact .inl ⟨a, vs, i, v, rfl, dy.int_inv, off_sq h, q1, r_same q2 R k⟩
  · cases hz

/-! ### a cell is written -/
theorem cell_write {G : Gb} {L : Lv} {H : Hp} {st : Store} {i : Nat} {a : Addr} {o : HO} {c : Cell} (R : Rep G L st H) (hi : L.c[i]? = some (some a)) (hc : ∀ H', off L H' = off L H → H' a = some o → CellR G L H' (some a) c) :
    Ev L H L (upd H a o) ∧ Rep G L (st.set i c) (upd H a o) := by
  have ha : some a ∈ L.c := List.mem_of_getElem? hi
  have eo : off L (upd H a o) = off L H := by
    funext b
    unfold off
    by_cases e : b = a
    · subst e
      rw [if_pos (.inl ha), if_pos (.inl ha)]
    · rw [upd_ne e]
  have hl : i < st.length := by rw [← R.len]; exact (List.getElem?_eq_some_iff.mp hi).1
  refine ⟨⟨Le.refl L, fun j b hj h => (no_at hj h).elim, by rw [eo]; exact Rl.of_same (Same.refl _), fun b h => ?_, rfl, fun b hb => ?_⟩, ⟨by rw [List.length_set]; exact R.len, R.inj, fun j x c' hx hc' => ?_, fun b hb => ⟨?_, (R.hid b hb).2⟩⟩⟩
  · by_cases e : b = a
    · rw [e, upd_same] at h; cases h
    · rw [upd_ne e] at h; exact h
  · exact upd_ne fun e => (R.hid b hb).2 (e ▸ ha)
  · by_cases e : i = j
    · subst e
      rw [List.getElem?_set_self hl] at hc'
      cases hc'
      rw [hi] at hx
      cases hx
      exact hc _ eo upd_same
    · rw [List.getElem?_set_ne e] at hc'
      refine CellR.same (L := L) (H := H) (by rw [eo]; exact Same.refl _) rfl (fun b u ex h => ?_) (R.cell j x c' hx hc')
      have nb : b ≠ a := fun z => e (R.inj i j a hi (by rw [hx, ex, z]))
      rw [upd_ne nb]
      exact h
  · rw [upd_ne (fun e : b = a => (R.hid b hb).2 (e ▸ ha))]
    exact (R.hid b hb).1
/-- the cell that a value names -/
theorem cell_of {G : Gb} {L : Lv} {H : Hp} {st : Store} {i : Nat} {v : V} {c : Cell} (R : Rep G L st H) (h : Va G L (off L H) v (.ref i)) (hc : st[i]? = some c) (nd : c ≠ .dead) : ∃ a, v = .ref a ∧ L.c[i]? = some (some a) ∧ CellR G L H (some a) c := by
  cases h with
  | d h => cases h
  | @ref a _ hi ha =>
    have hcl : L.c[i]? = some L.c[i] := List.getElem?_eq_getElem hi
    have cr := R.cell i _ _ hcl hc
    cases hx : L.c[i] with
    | none =>
      rw [hx] at cr
      cases c <;> first | exact cr.elim | exact (nd rfl).elim
    | some b =>
      rw [hx] at cr hcl
      obtain rfl := ha b hcl
      exact ⟨_, rfl, hcl, cr⟩
def RMM (G : Gb) (r : V → List V → Hp → VK → Prop) (g : Store → D → List D → Option (D × Store)) : Prop := ∀ (L : Lv) (st st' : Store) (H : Hp) (x : V) (xs : List V) (d : D) (ds : List D) (z : D) (Q : VK), Rep G L st H → Va G L (off L H) x d → Vas G L (off L H) xs ds → g st d ds = some (z, st') →
  (∀ v L' H', Ev L H L' H' → Rep G L' st' H' → Va G L' (off L' H') v z → Q v H') → r x xs H Q
/-- xs.append(e), xs.pop(i): xs a cell -/
def mMet (g : Store → D → List D → Option (D × Store)) (mo : ME) (ma : MA) : ME := fun env st => bnd (mo env st) fun o st => match rd st o with
  | .lst _ => bnd (ma env st) fun ds st => (match g st o ds with
    | some (z, st) => some (.ok z, st)
    | none => none)
  | _ => none
def gAppend (st : Store) (o : D) (ds : List D) : Option (D × Store) := match o, ds with
  | .ref i, [d] => match st[i]? with
    | some (.lst xs) => if xs.length < big ∧ isD d = true then some (.non, st.set i (.lst (xs ++ [d]))) else none
    | _ => none
  | _, _ => none
def gPopAt (st : Store) (o : D) (ds : List D) : Option (D × Store) := match o, ds with
  | .ref i, [.int k] => match st[i]? with
    | some (.lst xs) => if 0 ≤ k ∧ xs.length ≤ big then (match xs[k.toNat]? with
      | some y => some (y, st.set i (.lst (xs.eraseIdx k.toNat)))
      | none => none) else none
    | _ => none
  | _, _ => none
theorem rm_append {G : Gb} : RMM G rAppend gAppend := fun L st st' H x xs d ds z Q R dx dxs hz k => by
  unfold gAppend at hz
  split at hz
  · rename_i i d
    split at hz
    · rename_i ys hc
      split at hz
      · rename_i hk
        cases hz
        obtain ⟨v, rfl, hv⟩ := Das.one dxs
        obtain ⟨a, rfl, hi, cr⟩ := cell_of R dx hc (fun z => nomatch z)
        obtain ⟨vs, q, r⟩ := cr
        have hvs : vs.length < sizeLine := by rw [r.length, sizeLine_eq]; have := hk.1; unfold big at this; omega
        refine ⟨a, vs, v, rfl, rfl, q, hvs, ?_⟩
        obtain ⟨e2, r2⟩ := cell_write (o := .lst (vs ++ [v])) (c := .lst (ys ++ [d])) R hi fun H' eo h => ⟨_, h, by rw [eo]; exact r.append (.cons (hv.da hk.2) .nil)⟩
        exact k _ L _ e2 r2 (.d .non)
      · cases hz
    · cases hz
  · cases hz
theorem rm_popAt {G : Gb} : RMM G rPopAt gPopAt := fun L st st' H x xs d ds z Q R dx dxs hz k => by
  unfold gPopAt at hz
  split at hz
  · rename_i i j
    split at hz
    · rename_i ys hc
      split at hz
      · rename_i hk
        split at hz
        · rename_i y hy
          cases hz
          obtain ⟨v, rfl, hv⟩ := Das.one dxs
          cases hv.int_inv
          obtain ⟨a, rfl, hi, cr⟩ := cell_of R dx hc (fun z => nomatch z)
          obtain ⟨vs, q, r⟩ := cr
          obtain ⟨w, hw, dw⟩ := r.getD hy
          have hjl : j.toNat < ys.length := (List.getElem?_eq_some_iff.mp hy).1
          have hb := hk.2
          unfold big at hb
          have hjl2 : j.toNat < vs.length := by rw [r.length]; exact hjl
          have hs : seqIndex? j vs.length = some j.toNat := by
            unfold seqIndex?
            have h0 : ¬ j < 0 := by omega
            have h1 : j < (vs.length : Int) := by omega
            simp [h0, hk.1, h1]
          refine ⟨a, vs, j, j.toNat, w, rfl, rfl, q, by omega, by omega, hs, hw, ?_⟩
          obtain ⟨e2, r2⟩ := cell_write (o := .lst (vs.eraseIdx j.toNat)) (c := .lst (ys.eraseIdx j.toNat)) R hi fun H' eo h => ⟨_, h, by rw [eo]; exact r.erase _⟩
          exact k _ L _ e2 r2 (.d (e2.da dw))
        · cases hz
      · cases hz
    · cases hz
  · cases hz
section
variable {G : Gm} {W : WX} {X : Cx} {o e : Expr} {es : List Expr} {mo : ME} {mas : MA} {name : Str} {apos cpos : Pos} {id : String} {r : V → List V → Hp → VK → Prop} {g : Store → D → List D → Option (D × Store)}
theorem m_met (slot : Slot "list" name id) (hty : typeOf (.builtin id) = pure (.type "method_descriptor")) (hm : MtR X id r) (hr : RMM G r g) (ho : PE X o (tM G W mo)) (ha : PA X (e :: es) (tMA G W mas))
    (hbase : attributeBase o name X.env (eval o X.env) = eval o X.env := by rfl)
    (hfew : ((backTo cpos (starEach (e :: es) X.env)).all (fun x => !x.1) && (backToKw cpos (keywordEach [] X.env)).all (fun x => x.1.isSome)
      && decide ((e :: es).length + ([] : List Keyword).length + (if ([] : List Keyword).isEmpty then 0 else 1) < 30)) = true := by rfl)
    (hline : (apos.endLine == cpos.line) = true := by rfl) (hs : starEach (e :: es) X.env = (false, eval e X.env) :: starEach es X.env := by rfl) (hplain : (backTo cpos (starEach es X.env)).any (·.1) = false := by rfl) :
    PE X (.Call (.Attribute o name apos) (e :: es) [] cpos) (tM G W (mMet g mo mas)) :=
  PEimp (pe_bm PySem.F.plainAttrs_list slot hty hm ho ha hbase hfew hline hs hplain) fun σ H Q q => by
    obtain ⟨L, st, env, r', st', at_, hmm, hp⟩ := q
    refine tM_bnd at_ hmm hp.err fun d st1 v L1 H1 h1 e1 a1 dv => ?_
    split at h1
    · rename_i ys hy
      have ty : tyV X.K "list" v H1 := by
        obtain ⟨a, vs, rfl, h, _⟩ := rd_off a1.r dv hy
        exact .inl ⟨rfl, vs, .inl (.inl h)⟩
      refine ⟨ty, ?_⟩
      refine tMA_bnd a1 h1 (hp.ev e1).err fun ds st2 vs L2' H2 h2 e2 a2 dvs => ?_
      split at h2
      · rename_i z st3 hg
        cases h2
        exact hr L2' st2 _ H2 v vs d ds z Q a2.r (e2.va dv) dvs hg fun w L3 H3 e3 => hp w L3 H3 ((e1.trans e2).trans e3)
      · cases h2
    · cases h1
end
end M


/-! The M layer: isinstance, fields, enumerate, dict comprehensions, errors. -/
namespace M
open PySem PySem.Spec PyProof.Rows L2

/-! ### isinstance -/
structure KIs (G : Gb) (ids : List Nat) : Prop where
  cl : ∀ c ∈ ids, Cls G.K (G.cA c)
  ha : ∀ c ∈ ids, PySem.W.findIn G.K (.ref (G.cA c)) "__class__" = some (some (.builtin "object.__class__"))
  hm : ∀ c ∈ ids, PySem.W.mroIn G.K (G.cA c) (.type "object") = some true
  hn : PySem.W.specialIn G.K (.builtin "object.__class__") "__get__" = some (some (.builtin "getset_descriptor.__get__"))
  ht : PySem.W.takesIn G.K (.builtin "object.__class__") = some true
  oo : ∀ c ∈ ids, ∀ k ∈ ids, PySem.W.kitOne G.K (.ref (G.cA c)) (.ref (G.cA k)) = some (c == k)
  bo : ∀ (t : Tag), ∀ c ∈ ids, PySem.W.kitOne G.K (.type t.name) (.ref (G.cA c)) = some false
  ob : ∀ c ∈ ids, ∀ (t : Tag), PySem.W.kitOne G.K (.ref (G.cA c)) (.type t.name) = some false
def tag0 : D → Option (Sum Tag Nat)
  | .non => some (.inl .non)
  | .bl _ => some (.inl .bl)
  | .int _ => some (.inl .int)
  | .str _ => some (.inl .str)
  | .lst _ => some (.inl .lst)
  | .tup _ => some (.inl .tup)
  | .dK _ => some (.inl .dic)
  | .dT _ => some (.inl .dic)
  | .obj c _ => some (.inr c)
  | _ => none
def tagD (st : Store) (x : D) : Option (Sum Tag Nat) := tag0 (rd st x)
def isi1 (ids : List Nat) : Sum Tag Nat → D → Option Bool
  | .inl a, .ty b => some (decide (a = b) || (decide (a = .bl) && decide (b = .int)))
  | .inl _, .cls c => if c ∈ ids then some false else none
  | .inr k, .cls c => if k ∈ ids ∧ c ∈ ids then some (k == c) else none
  | .inr k, .ty _ => if k ∈ ids then some false else none
  | _, _ => none
def isiAny (ids : List Nat) (t : Sum Tag Nat) : List D → Option Bool
  | [] => some false
  | c :: cs => match isi1 ids t c, isiAny ids t cs with
    | some a, some b => some (a || b)
    | _, _ => none
def gIsi (ids : List Nat) (st : Store) : List D → Option D
  | [x, c] => match tagD st x with
    | some t => (match c with
      | .tup (c :: cs) => (isiAny ids t (c :: cs)).map .bl
      | c => (isi1 ids t c).map .bl)
    | none => none
  | _ => none
def tagV (G : Gb) : Sum Tag Nat → Value
  | .inl t => .type t.name
  | .inr c => .ref (G.cA c)
theorem kitB_tag : ∀ a b : Tag, kitB a.name b.name = some (decide (a = b) || (decide (a = .bl) && decide (b = .int))) := by
  intro a b
  cases a <;> cases b <;> decide +kernel
/-- a value's type, a locked dict's too -/
def TyM (K : PySem.W.Frag) (H : Hp) (x : V) (t : Value) : Prop := TyX K H x t ∨ ∃ a o kvs, x = .ref a ∧ H a = some (.frz o (.dT kvs)) ∧ t = .type "dict"
theorem kit_ofM {X : Cx} {pins : List (Addr × Obj)} {σ : L2.St} {H : Hp} {s : Shared} {x : V} {u t : Value} (I : Inv X pins σ H s) (rx : RelV x u) (ty : TyM X.K H x t) : ∃ P : Heap → Prop, PySem.W.KitX X.K u t P ∧ P s.heap ∧ u ≠ .builtin "__main__.__loader__#opaque" := by
  rcases ty with ty | ⟨a, o, kvs, rfl, ea, rfl⟩
  · exact kit_of I rx ty
  · cases (show u = Value.ref a from rx)
    obtain ⟨_, _, _, xs, _, ob, es, ep, h1, h2, _⟩ := (show ObjOk X.prog X.w H s.heap a (.frz o (.dT kvs)) from I.hok a _ ea)
    exact ⟨_, PySem.W.kitx_dict, ⟨ob, h1, h2.1⟩, fun z => nomatch z⟩
def rIsiM (K : PySem.W.Frag) : List V → Hp → VK → Prop := fun xs H Q => (∃ (x c : V) (t u : Value) (b : Bool), xs = [x, c] ∧ ClsV c u ∧ TyM K H x t ∧ PySem.W.kitOne K t u = some b ∧ Q (.bl b) H) ∨
  ∃ (x : V) (tp : Addr) (cs : List V) (t : Value) (us : List Value) (b : Bool), xs = [x, .ref tp] ∧ H tp = some (.tup cs) ∧ Paired ClsV cs us ∧ TyM K H x t ∧ PySem.W.kitAny K t us = some b ∧ Q (.bl b) H
theorem call_isiM {X : Cx} : CallR X (.builtin "isinstance") (rIsiM X.K) := by
  rintro pins s σ H _ us Q I same (⟨x, c, t, cv, b, rfl, known, ty, answer, q⟩ | ⟨x, tp, cs, t, ws, b, rfl, at_, known, ty, answer, q⟩)
  all_goals
    obtain ⟨u1, u2, rfl, r1, r2⟩ := vals2 same
    obtain ⟨P, kit, holds, plain⟩ := kit_ofM I r1 ty
    have back : ∀ tk : Nat, EP X pins σ Q (.bool b) { s with toks := tk } := fun tk => ⟨.bl b, H, I.tok tk, rfl, q⟩
  · obtain rfl := known.eq r2
    exact PySem.W.kia_one kit I.kIn holds answer plain back
  · cases r2
    obtain ⟨_, vals, rel, o, get, isTup, size, dt⟩ := (show ObjOk X.prog X.w H s.heap tp (.tup cs) from I.hok tp _ at_)
    obtain rfl := ClsV.all known rel
    cases o
    cases isTup
    cases dt
    exact PySem.W.kia_tup kit I.kIn holds get answer plain back
theorem isi1_ok {G : Gb} {ids : List Nat} (T : KIs G ids) {t : Sum Tag Nat} {c : D} {v : V} {H : Hp} {b : Bool} (h : Da G H v c) (e : isi1 ids t c = some b) : ∃ u, ClsV v u ∧ PySem.W.kitOne G.K (tagV G t) u = some b := by
  cases t with
  | inl a =>
    cases c with
    | ty n =>
      cases h
      cases e
      exact ⟨.type n.name, .ty _, kit_ty (kitB_tag a n)⟩
    | cls k =>
      cases h
      unfold isi1 at e
      dsimp only at e
      split at e
      · rename_i hk
        cases e
        exact ⟨_, .own _, T.bo a k hk⟩
      · cases e
    | _ => cases e
  | inr a =>
    cases c with
    | ty n =>
      cases h
      unfold isi1 at e
      dsimp only at e
      split at e
      · rename_i hk
        cases e
        exact ⟨.type n.name, .ty _, T.ob a hk n⟩
      · cases e
    | cls k =>
      cases h
      unfold isi1 at e
      dsimp only at e
      split at e
      · rename_i hk
        cases e
        exact ⟨_, .own _, T.oo a hk.1 k hk.2⟩
      · cases e
    | _ => cases e
theorem isiAny_ok {G : Gb} {ids : List Nat} (T : KIs G ids) {t : Sum Tag Nat} {H : Hp} {b : Bool} : ∀ {cs : List D} {vs : List V}, Das G H vs cs → isiAny ids t cs = some b → ∃ us, Paired ClsV vs us ∧ PySem.W.kitAny G.K (tagV G t) us = some b
  | [], _, h, e => by
    cases h
    cases e
    exact ⟨[], .nil, kitAny_nil⟩
  | c :: cs, _, h, e => by
    cases h with
    | cons h r =>
      unfold isiAny at e
      cases h1 : isi1 ids t c with
      | none => rw [h1] at e; cases e
      | some k =>
        cases h2 : isiAny ids t cs with
        | none => rw [h1, h2] at e; cases e
        | some k2 =>
          rw [h1, h2] at e
          cases e
          obtain ⟨u, q1, q2⟩ := isi1_ok T h h1
          obtain ⟨us, q3, q4⟩ := isiAny_ok T r h2
          refine ⟨u :: us, .cons q1 q3, kitAny_cons q2 (fun z => ?_) (fun z => ?_)⟩
          · subst z; simpa using q4
          · subst z; rfl
theorem da_tag {G : Gb} {ids : List Nat} (T : KIs G ids) {H : Hp} {v : V} : ∀ {x : D} {t : Sum Tag Nat}, Da G H v x → tag0 x = some t → (∀ c, t = .inr c → c ∈ ids) → TyM G.K H v (tagV G t)
  | .non, _, a, e, _ => by cases e; cases a; exact .inl (.base .non)
  | .bl _, _, a, e, _ => by cases e; cases a; exact .inl (.base (.bl _))
  | .int _, _, a, e, _ => by cases e; cases a; exact .inl (.base (.int _))
  | .str _, _, a, e, _ => by cases e; cases a; exact .inl (.base (.str _))
  | .lst _, _, a, e, _ => by cases e; cases a with | lst h _ => exact .inl (.base (.lst h))
  | .tup _, _, a, e, _ => by cases e; cases a with | tup h _ => exact .inl (.base (.tup h))
  | .dK _, _, a, e, _ => by
    cases e
    cases a with
    | dK h _ => exact h.elim (fun h => .inl (.base (.dK h))) fun ⟨o, h⟩ => .inl (.fDict h)
  | .dT _, _, a, e, _ => by
    cases e
    cases a with
    | dT h _ => exact h.elim (fun h => .inl (.base (.dT h))) fun ⟨o, h⟩ => .inr ⟨_, o, _, rfl, h, rfl⟩
  | .obj c _, _, a, e, hid => by
    cases e
    cases a with
    | obj h _ => exact .inl (.base (.ins h (T.cl _ (hid _ rfl)) (T.ha _ (hid _ rfl)) T.hn T.ht (T.hm _ (hid _ rfl))))
theorem tag0_rd {x : D} {t : Sum Tag Nat} (e : tag0 x = some t) : isD x = true := by cases x <;> first | rfl | cases e
theorem tag_ok {G : Gb} {ids : List Nat} (T : KIs G ids) {L : Lv} {H : Hp} {st : Store} (R : Rep G L st H) {v : V} {x : D} {t : Sum Tag Nat} (h : Va G L (off L H) v x) (e : tagD st x = some t) (hid : ∀ c, t = .inr c → c ∈ ids) : TyM G.K H v (tagV G t) :=
  da_tag T (rd_da R h (tag0_rd e)) e hid
theorem isi1_ids {ids : List Nat} {c : Nat} {d : D} {b : Bool} (e : isi1 ids (.inr c) d = some b) : c ∈ ids := by
  cases d with
  | ty n => unfold isi1 at e; dsimp only at e; split at e <;> first | assumption | cases e
  | cls k => unfold isi1 at e; dsimp only at e; split at e <;> first | exact (by assumption : _ ∧ _).1 | cases e
  | _ => cases e
theorem rc_isi {G : Gb} {ids : List Nat} (T : KIs G ids) : RCM G (rIsiM G.K) (gIsi ids) := fun L st H xs ds z Q R dv hz k => by
  unfold gIsi at hz
  split at hz
  · rename_i x c
    split at hz
    · rename_i t ht
      obtain ⟨v, w, rfl, hv, hw⟩ := Das.two dv
      have one : ∀ {d : D} {b : Bool}, Da G (off L H) w d → isi1 ids t d = some b → Q (.bl b) H → rIsiM G.K [v, w] H Q := fun {d b} hd e q => by
        obtain ⟨u, q1, q2⟩ := isi1_ok T hd e
        exact .inl ⟨v, w, _, u, b, rfl, q1, tag_ok T R hv ht (fun c z => by subst z; exact isi1_ids e), q2, q⟩
      split at hz
      · rename_i c0 cs
        cases hr : isiAny ids t (c0 :: cs) with
        | none => rw [hr] at hz; cases hz
        | some b =>
          rw [hr] at hz
          cases hz
          obtain ⟨a, vs, rfl, h, r⟩ := hw.tup_inv
          obtain ⟨us, q1, q2⟩ := isiAny_ok T r hr
          refine .inr ⟨v, a, vs, _, us, b, rfl, (off_some h).1, q1, ?_, q2, r_same (.bl _) R k⟩
          unfold isiAny at hr
          cases h1 : isi1 ids t c0 with
          | none => rw [h1] at hr; cases hr
          | some k0 => exact tag_ok T R hv ht (fun c' z => by subst z; exact isi1_ids h1)
      · cases hr : isi1 ids t c with
        | none => rw [hr] at hz; cases hz
        | some b =>
          rw [hr] at hz
          cases hz
          cases hw with
          | d hw => exact one hw hr (r_same (.bl _) R k)
          | ref _ _ => cases t <;> cases hr
    · cases hz
  · cases hz
end M


/-! The M layer: fields, item stores, slices, more walks, dicts made. -/
namespace M
open PySem PySem.Spec PyProof.Rows L2

/-! ### fields -/
structure KFl (G : Gb) (f : Str) (ids : List Nat) : Prop where
  cl : ∀ c ∈ ids, Cls G.K (G.cA c)
  no : ∀ c ∈ ids, NoAttr G.K (G.cA c) f
def rFld (K : PySem.W.Frag) (f : Str) : V → Hp → VK → Prop := fun x H1 Q => ∃ a C dx fs v, x = .ref a ∧ H1 a = some (.ins C dx fs) ∧ Cls K C ∧ NoAttr K C f ∧ fs.lookup f = some v ∧ Q v H1
def gFld (ids : List Nat) (f : Str) (st : Store) : D → Option D
  | .obj c fs => if c ∈ ids then fs.lookup f else none
  | .ref i => match st[i]? with
    | some (.ins c fs) => if c ∈ ids then fs.lookup f else none
    | _ => none
  | _ => none
section
variable {G : Gb} {L : Lv} {H : Hp} {f : Str}
theorem DasF.look : ∀ {ds : List (Str × D)} {vs : List (Str × V)} {d : D}, DasF G H vs ds → ds.lookup f = some d → ∃ v, vs.lookup f = some v ∧ Da G H v d
  | [], _, _, h, e => by cases e
  | (k, x) :: ds, _, d, h, e => by
    cases h with
    | @cons _ v vs _ _ h r =>
      rw [List.lookup_cons] at e ⊢
      by_cases q : (f == k) = true
      · rw [q] at e ⊢
        cases e
        exact ⟨_, rfl, h⟩
      · rw [Bool.not_eq_true] at q
        rw [q] at e ⊢
        exact DasF.look r e
theorem VasF.look : ∀ {vs : List (Str × V)} {ds : List (Str × D)} {d : D}, VasF G L H vs ds → ds.lookup f = some d → ∃ v, vs.lookup f = some v ∧ Va G L H v d
  | _, _, _, .nil, e => by cases e
  | _, _, _, @VasF.cons _ _ _ k v vs x ds h r, e => by
    rw [List.lookup_cons] at e ⊢
    by_cases q : (f == k) = true
    · rw [q] at e ⊢
      cases e
      exact ⟨_, rfl, h⟩
    · rw [Bool.not_eq_true] at q
      rw [q] at e ⊢
      exact VasF.look r e
def putFd (f : Str) (d : D) : List (Str × D) → List (Str × D)
  | [] => [(f, d)]
  | (g, x) :: r => if g = f then (g, d) :: r else (g, x) :: putFd f d r
theorem VasF.put {v : V} {d : D} (hv : Va G L H v d) : ∀ {vs : List (Str × V)} {ds : List (Str × D)}, VasF G L H vs ds → VasF G L H (putF f v vs) (putFd f d ds)
  | _, _, .nil => .cons hv .nil
  | _, _, @VasF.cons _ _ _ k w vs x ds h r => by
    unfold putF putFd
    by_cases e : k = f
    · rw [if_pos e, if_pos e]
      exact .cons hv r
    · rw [if_neg e, if_neg e]
      exact .cons h (VasF.put hv r)
theorem VasF.length : ∀ {vs : List (Str × V)} {ds : List (Str × D)}, VasF G L H vs ds → vs.length = ds.length
  | _, _, .nil => rfl
  | _, _, .cons h r => by simp [VasF.length r]
end
theorem r1_fld {G : Gb} {f : Str} {ids : List Nat} (T : KFl G f ids) : R1M G (rFld G.K f) (gFld ids f) := fun L st H x d z Q R dx hz k => by
  unfold gFld at hz
  split at hz
  · rename_i c fs
    split at hz
    · rename_i hc
      cases dx with
      | d h =>
        cases h with
        | obj h r =>
          obtain ⟨v, q1, q2⟩ := DasF.look r hz
          exact ⟨_, _, _, _, v, rfl, (off_some h).1, T.cl _ hc, T.no _ hc, q1, k v L H (Ev.refl _ _) R (.d q2)⟩
    · cases hz
  · rename_i i
    split at hz
    · rename_i c fs hi
      split at hz
      · rename_i hc
        obtain ⟨a, rfl, hL, cr⟩ := cell_of R dx hi (fun z => nomatch z)
        obtain ⟨ddx, vs, q, r⟩ := cr
        obtain ⟨v, q1, q2⟩ := VasF.look r hz
        exact ⟨_, _, _, _, v, rfl, q, T.cl _ hc, T.no _ hc, q1, k v L H (Ev.refl _ _) R q2⟩
      · cases hz
    · cases hz
  · cases hz
def gSFld (ids : List Nat) (f : Str) (st : Store) (o v : D) : Option Store := match o with
  | .ref i => match st[i]? with
    | some (.ins c fs) => if c ∈ ids ∧ fs.length < 1000 then some (st.set i (.ins c (putFd f v fs))) else none
    | _ => none
  | _ => none
/-- o.f = v: v first -/
def mSFld (ids : List Nat) (f : Str) (mo mv : ME) : MS := fun env st => bndS (mv env st) env fun v st => bndS (mo env st) env fun o st => match gSFld ids f st o v with
  | some st => some (.next, env, st)
  | none => none
section
variable {G : Gm} {W : WX} {X : Cx} {o e value : Expr} {f : Str} {pos pos' : Pos} {ids : List Nat} {mo mv me : ME}
theorem m_fld (T : KFl G f ids) (hK : G.K = X.K) (he : PE X e (tM G W me)) (hb : attributeBase e f X.env (eval e X.env) = eval e X.env := by rfl) : PE X (.Attribute e f pos) (tM G W (mUn (gFld ids f) me)) :=
  PEimp (pe_fld he hb) fun σ H Q q => by
    have h := t_un (r1_fld T) q
    rw [hK] at h
    exact h
theorem ms_sfld (T : KFl G f ids) (hK : G.K = X.K) (ho : PE X o (tM G W mo)) (hv : PE X value (tM G W mv)) (hs : swapsWith value (some (.Attribute o f pos')) pos.line X.env = pure false := by rfl) :
    PS X (.Assign [.Attribute o f pos'] value pos) (tMS G W (mSFld ids f mo mv)) := PSimp (ps_fld ho hv hs) fun D σ H q => by
  obtain ⟨L, st, env, fl, env', st', at_, hm, hp⟩ := q
  refine tM_bndS at_ hm (hp.err at_) fun v st1 y L1 H1 h1 e1 a1 dv => ?_
  refine tM_bndS a1 h1 ((hp.ev e1).err a1) fun o st2 x L2 H2 h2 e2 a2 dx => ?_
  split at h2
  · rename_i st3 hg
    cases h2
    unfold gSFld at hg
    split at hg
    · rename_i i
      split at hg
      · rename_i c fs hi
        split at hg
        · rename_i hc
          cases hg
          obtain ⟨a, rfl, hL, cr⟩ := cell_of a2.r dx hi (fun z => nomatch z)
          obtain ⟨ddx, vs, q, r⟩ := cr
          have rr := VasF.put (f := f) (e2.va dv) r
          obtain ⟨e3, r3⟩ := cell_write (o := .ins (G.cA c) ddx (putF f y vs)) (c := .ins c (putFd f v fs)) a2.r hL fun H' eo h => ⟨ddx, _, h, by rw [eo]; exact rr⟩
          refine ⟨a, _, ddx, vs, rfl, q, hK ▸ T.cl _ hc.1, hK ▸ T.no _ hc.1, by rw [r.length]; exact hc.2, ?_⟩
          exact hp _ _ _ ((e1.trans e2).trans e3) r3 (a2.e.ev e3)
        · cases hg
      · cases hg
    · cases hg
  · cases h2

/-! ### item stores on a list cell -/
def gPut (st : Store) (o i v : D) : Option Store := match o, i with
  | .ref j, .int k => match st[j]? with
    | some (.lst xs) => (match ixN xs.length k with
      | some n => if isD v = true then some (st.set j (.lst (xs.set n v))) else none
      | none => none)
    | _ => none
  | _, _ => none
/-- o[i] = v: v first -/
def mPut (mo mi mv : ME) : MS := fun env st => bndS (mv env st) env fun v st => bndS (mo env st) env fun o st => bndS (mi env st) env fun i st => match gPut st o i v with
  | some st => some (.next, env, st)
  | none => none
theorem Das.set {G : Gb} {H : Hp} {v : V} {d : D} (hv : Da G H v d) : ∀ {ds : List D} {vs : List V} (n : Nat), Das G H vs ds → Das G H (vs.set n v) (ds.set n d)
  | [], _, n, h => by cases h; exact .nil
  | x :: ds, _, 0, h => by
    cases h with
    | cons h r => exact .cons hv r
  | x :: ds, _, n + 1, h => by
    cases h with
    | cons h r => exact .cons h (Das.set hv n r)
theorem ms_put {i : Expr} {mi : ME} (hv : PE X value (tM G W mv)) (ho : PE X o (tM G W mo)) (hi : PE X i (tM G W mi))
    (hs : swapsWithSole [.Subscript o i pos'] value pos.line X.env = pure false := by rfl) (hw : swappedStores [.Subscript o i pos'] value X.env = pure none := by rfl)
    (h1 : (assignEach [.Subscript o i pos'] X.env).map (·.2) = [assign (.Subscript o i pos') X.env] := by rfl)
    (ha : ∀ v, assign (.Subscript o i pos') X.env v = (do
      let ov ← holding [v] (eval o X.env)
      let iv ← holding [v, ov] (eval i X.env)
      standAt pos'
      holding [v, ov, iv] (setItem ov iv v)
      release [v, ov, iv] []) := by intro _; rfl) :
    PS X (.Assign [.Subscript o i pos'] value pos) (tMS G W (mPut mo mi mv)) := PSimp (ps_asg hv (pg_sub ho hi set_list ha) hs hw h1) fun D σ H q => by
  obtain ⟨L, st, env, fl, env', st', at_, hm, hp⟩ := q
  refine tM_bndS at_ hm (hp.err at_) fun v st1 y L1 H1 h1 e1 a1 dv => ?_
  refine tM_bndS a1 h1 ((hp.ev e1).err a1) fun o st2 x L2 H2 h2 e2 a2 dx => ?_
  refine tM_bndS a2 h2 (((hp.ev e1).ev e2).err a2) fun i st3 z L3 H3 h3 e3 a3 dz => ?_
  split at h3
  · rename_i st4 hg
    cases h3
    unfold gPut at hg
    split at hg
    · rename_i j k
      split at hg
      · rename_i xs hj
        split at hg
        · rename_i n hn
          split at hg
          · rename_i hpure
            cases hg
            obtain ⟨a, rfl, hL, cr⟩ := cell_of a3.r (e3.va dx) hj (fun z => nomatch z)
            obtain ⟨vs, q, r⟩ := cr
            have rr := Das.set (e3.da ((e2.va dv).da hpure)) n r
            obtain ⟨e4, r4⟩ := cell_write (o := .lst (vs.set n y)) (c := .lst (xs.set n v)) a3.r hL fun H' eo h => ⟨_, h, by rw [eo]; exact rr⟩
            refine ⟨a, vs, k, n, rfl, dz.int_inv, q, by rw [r.length]; exact hn, ?_⟩
            exact hp _ _ _ (((e1.trans e2).trans e3).trans e4) r4 (a3.e.ev e4)
          · cases hg
        · cases hg
      · cases hg
    · cases hg
  · cases h3
end

/-! ### slices -/
def gSlL (lo hi : Option Int) (xs : List D) : List D := (xs.drop (HT.sIx xs.length 0 lo)).take (HT.sIx xs.length xs.length hi - HT.sIx xs.length 0 lo)
/-- a part of a slice -/
abbrev MO := En → Store → Option (Rs (Option Int) × Store)
def moNone : MO := fun _ st => some (.ok none, st)
def moSome (m : ME) : MO := fun env st => bnd (m env st) fun d st => match d with
  | .int i => some (.ok (some i), st)
  | _ => none
def tMO (G : Gm) (W : WX) (m : MO) : TO := fun σ H Q => ∃ L st env r st', At G L st σ env H ∧ m env st = some (r, st') ∧ (match r with
  | .ok o => ∀ L' H', Ev L H L' H' → Rep G L' st' H' → Q o H'
  | .err x => ErrP G L H st' x fun cls dd H' => W cls dd σ H')
theorem POimp {X : Cx} {e : Option Expr} {t u : TO} (h : PO X e t) (k : ∀ σ H Q, u σ H Q → t σ H Q) : PO X e u := ⟨fun pins s σ H Q I q => h.run pins s σ H Q I (k _ _ _ q)⟩
section
variable {G : Gm} {W : WX} {X : Cx} {o e value : Expr} {pos pos' p2 : Pos} {me : ME}
theorem mo_none : PO X none (tMO G W moNone) := POimp po_none fun σ H Q q => by
  obtain ⟨L, st, env, r, st', at_, hm, hp⟩ := q
  cases hm
  exact hp L H (Ev.refl _ _) at_.r
theorem mo_some (h : PE X e (tM G W me)) : PO X (some e) (tMO G W (moSome me)) := POimp (po_some h) fun σ H Q q => by
  obtain ⟨L, st, env, r, st', at_, hm, hp⟩ := q
  refine tM_bnd at_ hm (by rintro x rfl; exact hp) fun d st1 v L1 H1 h1 e1 a1 dv => ?_
  split at h1
  · cases h1
    exact ⟨_, dv.int_inv, hp L1 H1 e1 a1.r⟩
  · cases h1
def gSl (st : Store) (x : D) (lo hi : Option Int) : Option D := match rd st x with
  | .lst xs => some (.lst (gSlL lo hi xs))
  | .ro xs => some (.lst (gSlL lo hi xs))
  | .str z => if z.length ≤ big then some (.str (cutS z lo hi)) else none
  | _ => none
def mSl (me : ME) (ml mh : MO) : ME := fun env st => bnd (me env st) fun x st => bnd (ml env st) fun lo st => bnd (mh env st) fun hi st => match gSl st x lo hi with
  | some z => some (.ok z, st)
  | none => none
theorem tMO_bnd {σ : L2.St} {L : Lv} {H : Hp} {st : Store} {env : En} {β : Type} {ma : MO} {k : Option Int → Store → Option (Rs β × Store)} {r : Rs β} {st' : Store} {Q : Option Int → Hp → Prop} (a : At G L st σ env H) (h : bnd (ma env st) k = some (r, st'))
    (err : ∀ x, r = .err x → ErrP G L H st' x fun cls dd H' => W cls dd σ H')
    (ok : ∀ d st1 L1 H1, k d st1 = some (r, st') → Ev L H L1 H1 → At G L1 st1 σ env H1 → Q d H1) : tMO G W ma σ H Q := by
  rcases bnd_cases h with ⟨d, st1, h1, h2⟩ | ⟨x, h1, rfl⟩
  · exact ⟨L, st, env, _, _, a, h1, fun L1 H1 e r1 => ok d st1 L1 H1 h2 e (a.ev e r1)⟩
  · exact ⟨L, st, env, _, st', a, h1, err x rfl⟩
theorem das_cut {H : Hp} {ds : List D} {vs : List V} (lo hi : Option Int) (r : Das G H vs ds) : Das G H (cutV vs lo hi) (gSlL lo hi ds) := by
  unfold cutV gSlL
  rw [r.length]
  exact (r.drop _).take _
theorem m_sl {lo hi : Option Expr} {ml mh : MO} (hK : G.K = X.K) (he : PE X e (tM G W me)) (hl : PO X lo (tMO G W ml)) (hh : PO X hi (tMO G W mh)) : PE X (.Subscript e (.Slice lo hi none p2) pos) (tM G W (mSl me ml mh)) :=
  PEimp (pe_slice (SlR.or sl_list sl_str) he hl hh) fun σ H Q q => by
    obtain ⟨L, st, env, r, st', at_, hm, hp⟩ := q
    refine tM_bnd at_ hm hp.err fun x st1 v L1 H1 h1 e1 a1 dx => ?_
    refine tMO_bnd a1 h1 (hp.ev e1).err fun lo st2 L2 H2 h2 e2 a2 => ?_
    refine tMO_bnd a2 h2 ((hp.ev e1).ev e2).err fun hi st3 L3 H3 h3 e3 a3 => ?_
    have e13 := (e1.trans e2).trans e3
    split at h3
    · rename_i z hz
      injection h3 with h3
      injection h3 with h3a h3b
      subst h3a
      subst h3b
      unfold gSl at hz
      have dx3 := e3.va (e2.va dx)
      have out : ∀ {a vs xs}, SqL G.K H3 a vs → v = .ref a → Das G (off L3 H3) vs xs → RPost G W σ L H st3 Q (.ok (.lst (gSlL lo hi xs))) → (fun x lo hi H Q => rSlL X.K x lo hi H Q ∨ rSlS x lo hi H Q) v lo hi H3 Q := fun {a vs xs} q ev r hp => by
        subst ev
        refine .inl ⟨a, vs, rfl, hK ▸ q, fun p hpn => ?_⟩
        have e4 := Ev.new1 (G := G) a3.r (o := .lst (cutV vs lo hi)) hpn
        exact hp _ _ _ (e13.trans e4) (Rep.new1 a3.r hpn) (.d (.lst (Ev.off_new a3.r hpn) (e4.das (das_cut lo hi r))))
      split at hz
      · rename_i xs hx
        cases hz
        obtain ⟨a, vs, ev, q, r⟩ := rd_off a3.r dx3 hx
        exact out (.inl (.inl q)) ev r hp
      · rename_i xs hx
        cases hz
        have hx' : x = .ro xs := by
          cases x with
          | ref j => unfold rd at hx; dsimp only at hx; split at hx <;> cases hx
          | _ => exact hx
        subst hx'
        obtain ⟨a, vs, ev, q, r⟩ := dx3.ro_inv
        exact out (off_sq q) ev r hp
      · rename_i z hx
        split at hz
        · rename_i hb
          cases hz
          rw [rd_str hx] at dx3
          refine .inr ⟨z, dx3.str_inv, ?_, hp _ _ _ e13 a3.r (.d (.str _))⟩
          rw [sizeLine_eq]
          unfold big at hb
          omega
        · cases hz
      · cases hz
    · cases h3
end

/-! ### more walks -/
section
variable {G : Gb} {L : Lv} {H : Hp} {st : Store} {a : Addr} {vs : List V} {ds : List D}
def enumD : Nat → List D → List D
  | _, [] => []
  | n, d :: ds => .tup [.int (n : Nat), d] :: enumD (n + 1) ds
theorem enumD_length : ∀ (n : Nat) (ds : List D), (enumD n ds).length = ds.length
  | _, [] => rfl
  | n, d :: ds => by
    show (enumD (n + 1) ds).length + 1 = ds.length + 1
    rw [enumD_length]
theorem enumD_get : ∀ {n i : Nat} {ds : List D} {e : D}, (enumD n ds)[i]? = some e → ∃ d, ds[i]? = some d ∧ e = .tup [.int ((n + i : Nat) : Int), d]
  | _, _, [], _, h => by simp [enumD] at h
  | n, 0, d :: ds, e, h => by
    simp [enumD] at h
    exact ⟨d, rfl, h.symm⟩
  | n, i + 1, d :: ds, e, h => by
    have h' : (enumD (n + 1) ds)[i]? = some e := by simpa [enumD] using h
    obtain ⟨d', q1, q2⟩ := enumD_get h'
    refine ⟨d', by simpa using q1, ?_⟩
    rw [q2]
    have : n + 1 + i = n + (i + 1) := by omega
    rw [this]
theorem pair_new {L' : Lv} {H' : Hp} {st : Store} {T : Addr} {i : Nat} {v : V} {d : D} (R : Rep G L' st H') (hT : H' T = none) (dv : Da G (off L' H') v d) :
    Ev L' H' L' (upd H' T (.tup [.int (i : Nat), v])) ∧ Rep G L' st (upd H' T (.tup [.int (i : Nat), v])) ∧ Da G (off L' (upd H' T (.tup [.int (i : Nat), v]))) (.ref T) (.tup [.int (i : Nat), d]) := by
  have e := Ev.new1 (G := G) R (o := .tup [.int (i : Nat), v]) hT
  exact ⟨e, Rep.new1 R hT, .tup (Ev.off_new R hT) (.cons (.int _) (.cons (e.da dv) .nil))⟩
theorem walk_enumL (h : SqL G.K (off L H) a vs) (r : Das G (off L H) vs ds) : WalkD G (Ite G.K a) (enumD 0 ds) L H := by
  have sq : ∀ L' H', Rl (off L H) (off L' H') → SqL G.K H' a vs := fun L' H' e => by
    rcases h with h | h
    · rcases h with h | ⟨o, h⟩
      · exact .inl (.inl (off_some (e.lst _ _ h)).1)
      · exact .inl (.inr ⟨o, (off_some (e.frz _ _ _ h)).1⟩)
    · exact .inr h
  refine ⟨fun i L' H' e hi => ?_, fun i L' H' st d e R hd x H2 y => ?_, fun L' H' e => ⟨vs, sq _ _ e, by rw [r.length, enumD_length]; exact Nat.le_refl _⟩⟩
  · have hv : i < vs.length := by rw [r.length]; rw [enumD_length] at hi; exact hi
    exact ⟨vs, vs[i], sq _ _ e, List.getElem?_eq_getElem hv⟩
  · obtain ⟨T, x, rfl, hT, rfl, y⟩ := y
    obtain ⟨d', q1, rfl⟩ := enumD_get hd
    obtain ⟨v, hv, dv⟩ := r.getD q1
    have hx := y vs (sq _ _ e)
    rw [hv] at hx
    cases hx
    rw [Nat.zero_add]
    exact pair_new R hT (Da.mono e _ _ dv)
theorem walk_enumT (h : off L H a = some (.tup vs)) (r : Das G (off L H) vs ds) : WalkD G (Itet G.K a) (enumD 0 ds) L H := by
  have sq : ∀ L' H', Rl (off L H) (off L' H') → SqT G.K H' a vs := fun L' H' e => .inl (.inl (off_some (e.tup _ _ h)).1)
  refine ⟨fun i L' H' e hi => ?_, fun i L' H' st d e R hd x H2 y => ?_, fun L' H' e => ⟨vs, sq _ _ e, by rw [r.length, enumD_length]⟩⟩
  · have hv : i < vs.length := by rw [r.length]; rw [enumD_length] at hi; exact hi
    exact ⟨vs, vs[i], sq _ _ e, List.getElem?_eq_getElem hv⟩
  · obtain ⟨T, x, rfl, hT, rfl, y⟩ := y
    obtain ⟨d', q1, rfl⟩ := enumD_get hd
    obtain ⟨v, hv, dv⟩ := r.getD q1
    have hx := y vs (sq _ _ e)
    rw [hv] at hx
    cases hx
    rw [Nat.zero_add]
    exact pair_new R hT (Da.mono e _ _ dv)
def charsD (x : Str) : List D := x.cps.toList.map fun c => .str ⟨#[c]⟩
theorem walk_str {x : Str} : WalkD G (Its x) (charsD x) L H := by
  refine ⟨fun i L' H' e hi => ?_, fun i L' H' st d e R hd v H2 y => ?_, fun L' H' e => ?_⟩
  · show i < x.cps.size
    simpa [charsD] using hi
  · obtain ⟨rfl, c, hc, rfl⟩ := y
    refine ⟨Ev.refl _ _, R, ?_⟩
    unfold charsD at hd
    rw [List.getElem?_map, Array.getElem?_toList, hc] at hd
    cases hd
    exact .str _
  · show x.cps.size ≤ (charsD x).length
    simp [charsD]
end
section
variable {G : Gm} {W : WX} {X : Cx} {tg e l : Expr} {ma : ME} {mas : MA}
def mItStr (m : ME) : MA := fun env st => bnd (m env st) fun d st => match d with
  | .str x => some (.ok (charsD x), st)
  | _ => none
theorem mi_str (hl : PE X l (tM G W ma)) : PI X tg l (tMI G W (mItStr ma)) := PIimp (pi_str hl) fun σ H R q => by
  obtain ⟨L, st, env, r, st', at_, hm, hp⟩ := q
  refine tM_bnd at_ hm (by rintro x rfl; exact hp) fun d st1 v L1 H1 h1 e1 a1 dv => ?_
  split at h1
  · cases h1
    exact ⟨_, dv.str_inv, hp _ L1 H1 e1 a1.r walk_str⟩
  · cases h1
/-- enumerate of a list or a tuple that stays -/
def mEnum (m : ME) : MA := fun env st => bnd (m env st) fun d st => match d with
  | .lst ds => some (.ok (enumD 0 ds), st)
  | .ro ds => some (.ok (enumD 0 ds), st)
  | .tup ds => some (.ok (enumD 0 ds), st)
  | _ => none
theorem mCons1 {env : En} {st st1 : Store} {d : D} (h : ma env st = some (.ok d, st1)) : mCons ma mNil env st = some (.ok [d], st1) := by unfold mCons; rw [h]; rfl
theorem mCons1e {env : En} {st st1 : Store} {x : Xn} (h : ma env st = some (.err x, st1)) : mCons ma mNil env st = some (.err x, st1) := by unfold mCons; rw [h]; rfl
theorem Vas.one_inv {L : Lv} {H : Hp} {vs : List V} {d : D} (h : Vas G L H vs [d]) : ∃ v, vs = [v] ∧ Va G L H v d := by
  cases h with
  | cons h r => cases r; exact ⟨_, rfl, h⟩
theorem mi_enum {p pos tpos : Pos} {elts : List Expr} {kk : Nat} (hg : Gl X "enumerate") (hm : X.mg "enumerate" = none) (hK : G.K = X.K) (he : PE X e (tM G W ma)) (hs : starEach [e] X.env = [(false, eval e X.env)] := by rfl) (hs2 : starEach [e] X.env = (false, eval e X.env) :: starEach [] X.env := by rfl) :
    PI X (.Tuple elts kk tpos) (.Call (.Name "enumerate" p) [e] [] pos) (tMI G W (mEnum ma)) := PIimp (pi_or2 (pi_enum hg hm (m_cons he m_nil hs2) hs) (pi_enumT hg hm (m_cons he m_nil hs2) hs)) fun σ H R q => by
  obtain ⟨L, st, env, r, st', at_, hm, hp⟩ := q
  rcases bnd_cases hm with ⟨d, st1, h1, h2⟩ | ⟨x, h1, rfl⟩
  · cases d with
    | lst ds =>
      cases h2
      refine .inl ⟨L, st, env, .ok [.lst ds], _, at_, mCons1 h1, fun ws L1 H1 e1 r1 dv => ?_⟩
      obtain ⟨v, rfl, dw⟩ := Vas.one_inv dv
      obtain ⟨a, vs, rfl, h, rr⟩ := dw.lst_inv
      exact ⟨a, vs, rfl, .inl (.inl (off_some h).1), hK ▸ hp _ L1 H1 e1 r1 (walk_enumL (G := G) (.inl (.inl h)) rr)⟩
    | ro ds =>
      cases h2
      refine .inl ⟨L, st, env, .ok [.ro ds], _, at_, mCons1 h1, fun ws L1 H1 e1 r1 dv => ?_⟩
      obtain ⟨v, rfl, dw⟩ := Vas.one_inv dv
      obtain ⟨a, vs, rfl, h, rr⟩ := dw.ro_inv
      exact ⟨a, vs, rfl, hK ▸ off_sq h, hK ▸ hp _ L1 H1 e1 r1 (walk_enumL (G := G) h rr)⟩
    | tup ds =>
      cases h2
      refine .inr ⟨L, st, env, .ok [.tup ds], _, at_, mCons1 h1, fun ws L1 H1 e1 r1 dv => ?_⟩
      obtain ⟨v, rfl, dw⟩ := Vas.one_inv dv
      obtain ⟨a, vs, rfl, h, rr⟩ := dw.tup_inv
      exact ⟨a, vs, rfl, .inl (.inl (off_some h).1), hK ▸ hp _ L1 H1 e1 r1 (walk_enumT (G := G) h rr)⟩
    | _ => cases h2
  · exact .inl ⟨L, st, env, .err x, _, at_, mCons1e h1, hp⟩
end
end M


/-! The M layer: dict comprehensions and displays; errors of one's own: made, raised, caught. -/
namespace M
open PySem PySem.Spec PyProof.Rows L2

/-! ### a step that only adds -/
theorem same_ev {G : Gb} {L : Lv} {H H' : Hp} {st : Store} (R : Rep G L st H) (s : Same H H') : Ev L H L H' ∧ Rep G L st H' := by
  have there : ∀ a, H' a = none → H a = none := fun a h => by
    cases e : H a with
    | none => rfl
    | some o => rw [s _ _ e] at h; cases h
  have ev : Ev L H L H' :=
    ⟨Le.refl L, fun i a hi h => (no_at hi h).elim, fun b u h => by
      obtain ⟨h1, h2⟩ := off_some h
      exact .inl (off_of (s _ _ h1) h2), there, rfl, fun a ha => by
      cases e : H a with
      | none => exact absurd e (R.hid a ha).1.1
      | some o => rw [s _ _ e]⟩
  exact ⟨ev, R.len, R.inj, fun i x c hx hc => CellR.ev ev (fun a o _ h => s _ _ h) (R.cell i x c hx hc), fun a ha => ⟨by rw [ev.keep a ha]; exact (R.hid a ha).1, (R.hid a ha).2⟩⟩

/-! ### dicts: keys ints and texts -/
def keyD : D → Option Key
  | .int i => some (.inl i)
  | .str x => some (.inr x)
  | _ => none
theorem keyD_kV {G : Gb} {L : Lv} {H : Hp} {v : V} {d : D} {k : Key} (h : Va G L H v d) (e : keyD d = some k) : v = kV k := by
  cases d with
  | int i => cases e; exact h.int_inv
  | str x => cases e; exact h.str_inv
  | _ => cases e
def putKd {κ : Type} [DecidableEq κ] (kvs : List (κ × D)) (k : κ) (d : D) : List (κ × D) :=
  if (kvs.any fun kv => decide (kv.1 = k)) = true then kvs.map (fun kv => if kv.1 = k then (kv.1, d) else kv) else kvs ++ [(k, d)]
section
variable {G : Gb} {H : Hp}
theorem DasK.any (k : Key) : ∀ {ds : List (Key × D)} {vs : List (Key × V)}, DasK G H vs ds → (vs.any fun kv => decide (kv.1 = k)) = (ds.any fun kv => decide (kv.1 = k))
  | [], _, h => by cases h; rfl
  | (j, d) :: ds, _, h => by
    cases h with
    | cons h r =>
      rw [List.any_cons, List.any_cons, DasK.any k r]
theorem DasK.setAt (k : Key) {v : V} {d : D} (hv : Da G H v d) : ∀ {ds : List (Key × D)} {vs : List (Key × V)}, DasK G H vs ds → DasK G H (vs.map fun kv => if kv.1 = k then (kv.1, v) else kv) (ds.map fun kv => if kv.1 = k then (kv.1, d) else kv)
  | [], _, h => by cases h; exact .nil
  | (j, x) :: ds, _, h => by
    cases h with
    | cons h r =>
      rw [List.map_cons, List.map_cons]
      by_cases e : j = k
      · rw [if_pos e, if_pos e]
        exact .cons hv (DasK.setAt k hv r)
      · rw [if_neg e, if_neg e]
        exact .cons h (DasK.setAt k hv r)
theorem DasK.append : ∀ {ds es : List (Key × D)} {vs us : List (Key × V)}, DasK G H vs ds → DasK G H us es → DasK G H (vs ++ us) (ds ++ es)
  | [], _, _, _, h, g => by cases h; exact g
  | (j, x) :: ds, _, _, _, h, g => by
    cases h with
    | cons h r => exact .cons h (DasK.append r g)
theorem DasK.put (k : Key) {v : V} {d : D} (hv : Da G H v d) {ds : List (Key × D)} {vs : List (Key × V)} (h : DasK G H vs ds) : DasK G H (putK vs k v) (putKd ds k d) := by
  unfold putK putKd
  rw [DasK.any k h]
  split
  · exact DasK.setAt k hv h
  · exact h.append (.cons hv .nil)
theorem DasK.len : ∀ {ds : List (Key × D)} {vs : List (Key × V)}, DasK G H vs ds → vs.length = ds.length
  | [], _, h => by cases h; rfl
  | (j, x) :: ds, _, h => by
    cases h with
    | cons h r => simp [DasK.len r]
end
def compK (t : Tg) (mt : MT) (mk mv : ME) (env : En) : List D → List (Key × D) → Store → Option (List (Key × D) × Store)
  | [], kvs, st => some (kvs, st)
  | d :: ds, kvs, st => match setT t d env with
    | none => none
    | some env1 => match mt env1 st with
      | some (.ok true, st1) => match mk env1 st1 with
        | some (.ok y, st2) => match mv env1 st2 with
          | some (.ok z, st3) => match keyD y with
            | some k => if isD z = true ∧ kvs.length < big then compK t mt mk mv env ds (putKd kvs k z) st3 else none
            | none => none
          | _ => none
        | _ => none
      | some (.ok false, st1) => compK t mt mk mv env ds kvs st1
      | _ => none
def mDc (mi : MA) (t : Tg) (mt : MT) (mk mv : ME) (vs : List Nat) : ME := fun env st => bnd (mi env st) fun ds st => match compK t mt mk mv (wipeE env vs) ds [] st with
  | some (kvs, st2) => some (.ok (.dK kvs), st2)
  | none => none
section
variable {G : Gm} {W W0 : WX} {X : Cx} {kx vx tg iter : Expr} {ifs : List Expr} {scope : Scope} {own : List (Str × Nat)} {pos : Pos} {mi : MA} {g : TG} {t : Tg} {mt : MT} {mk mv : ME}
theorem t_dc {vs : List Nat} (hF : Flat G) (ht : TgOk G g t) (hsl : ∀ i ∈ t.slots, i ∈ vs) {σ : L2.St} {H : Hp} {Q : VK} (q : tM G W (mDc mi t mt mk mv vs) σ H Q) : tDc (tMI G W mi) g (tMT G W0 mt) (tM G W0 mk) (tM G W0 mv) vs σ H Q := by
  obtain ⟨L, st, env, r, st', at_, hm, hp⟩ := q
  rcases bnd_cases hm with ⟨ds, st1, h1, h2⟩ | ⟨x, h1, rfl⟩
  · refine ⟨L, st, env, _, st1, at_, h1, fun J L1 H1 e1 r1 wk p hpn => ?_⟩
    split at h2
    · rename_i kvs0 stF hc
      cases h2
      have a1 := at_.ev e1 r1
      refine ⟨fun i m H' => ∃ L2' st2 acc accD, Ev (L1.hide p) (upd H1 p (.dK acc)) L2' H' ∧ Rep G L2' st2 H' ∧ DasK G (off L2' H') acc accD ∧ i ≤ ds.length ∧ m = ds.length - i ∧
          compK t mt mk mv (wipeE env vs) (ds.drop i) accD st2 = some (kvs0, st'),
        ⟨ds.length, L1.hide p, st1, [], [], Ev.refl _ _, r1.hide hpn, .nil, Nat.zero_le _, rfl, hc⟩, ?_⟩
      rintro i m H2 ⟨L2', st2, acc, accD, e2, r2, dacc, hi, rfl, hcc⟩
      have sm := ((Rl.of_same (hide_same (L := L1) hpn)).trans e2.same)
      by_cases hlt : i < ds.length
      · have hd : ds[i]? = some ds[i] := List.getElem?_eq_getElem hlt
        have hdrop : ds.drop i = ds[i] :: ds.drop (i + 1) := List.drop_eq_getElem_cons hlt
        rw [hdrop] at hcc
        refine .inr ⟨wk.go i L2' H2 sm hlt, fun H' => ∃ L3 st3 acc accD, Ev (L1.hide p) (upd H1 p (.dK acc)) L3 H' ∧ Rep G L3 st3 H' ∧ DasK G (off L3 H') acc accD ∧ i + 1 ≤ ds.length ∧
            compK t mt mk mv (wipeE env vs) (ds.drop (i + 1)) accD st3 = some (kvs0, st'),
          fun H' ⟨L3, st3, a3, aD3, x1, x2, x3, x4, x5⟩ => ⟨ds.length - (i + 1), by omega, L3, st3, a3, aD3, x1, x2, x3, x4, rfl, x5⟩, fun x H3 y => ?_⟩
        obtain ⟨e3, r3, dx⟩ := wk.yld i L2' H2 st2 _ sm r2 hd x H3 y
        have e13 := e2.trans e3
        unfold compK at hcc
        cases hz : setT t ds[i] (wipeE env vs) with
        | none => rw [hz] at hcc; cases hcc
        | some env3 =>
          rw [hz] at hcc
          dsimp only at hcc
          have enW : EnvR G L2' (off L2' H3) (L2.wipe σ vs) (wipeE env vs) := EnvR.wipe
            (⟨a1.e.len, fun j d q => by
              obtain ⟨v, q1, q2⟩ := a1.e.at_ j d q
              refine ⟨v, q1, ?_⟩
              exact Va.mono (L := L1) (⟨e13.le.len, e13.le.at_⟩ : Le L1 L2') ((Rl.of_same (hide_same (L := L1) hpn)).trans e13.same) q2⟩) vs
          refine ht.run L2' H3 st2 x _ _ _ env3 _ ⟨enW, r3, G.up _ _ _ ((Rl.of_same (hide_same (L := L1) hpn)).trans e13.same) (hF _ _ _ a1.p)⟩ (.d dx) hz fun σ4 a4 hw => ?_
          refine ⟨by rw [hw vs hsl, wipe_wipe vs vs fun _ h => h], ?_⟩
          cases hb : mt env3 st2 with
          | none => rw [hb] at hcc; cases hcc
          | some q =>
            obtain ⟨rb, st4⟩ := q
            rw [hb] at hcc
            cases rb with
            | err _ => cases hcc
            | ok b =>
              refine ⟨L2', st2, env3, _, st4, a4, hb, fun L4 H4 e4 r4 => ?_⟩
              cases b with
              | false =>
                dsimp only at hcc
                rw [if_neg Bool.false_ne_true]
                exact ⟨L4, st4, acc, accD, e13.trans e4, r4, e4.dasK (e3.dasK dacc), hlt, hcc⟩
              | true =>
                dsimp only at hcc
                rw [if_pos rfl]
                cases hk : mk env3 st4 with
                | none => rw [hk] at hcc; cases hcc
                | some q =>
                  obtain ⟨rk, st5⟩ := q
                  rw [hk] at hcc
                  cases rk with
                  | err _ => cases hcc
                  | ok yk =>
                    dsimp only at hcc
                    refine ⟨L4, st4, env3, _, st5, a4.ev e4 r4, hk, fun vk L5 H5 e5 r5 dk => ?_⟩
                    cases hv : mv env3 st5 with
                    | none => rw [hv] at hcc; cases hcc
                    | some q =>
                      obtain ⟨rv, st6⟩ := q
                      rw [hv] at hcc
                      cases rv with
                      | err _ => cases hcc
                      | ok yv =>
                        dsimp only at hcc
                        refine ⟨L5, st5, env3, _, st6, (a4.ev e4 r4).ev e5 r5, hv, fun vv L6 H6 e6 r6 dv => ?_⟩
                        cases hkk : keyD yk with
                        | none => rw [hkk] at hcc; cases hcc
                        | some k =>
                          rw [hkk] at hcc
                          dsimp only at hcc
                          split at hcc
                          · rename_i hz2
                            have e16 := ((e13.trans e4).trans e5).trans e6
                            have h1 : p ∈ (L1.hide p).h := List.mem_cons_self
                            have hp6 : p ∈ L6.h := by rw [e16.hh]; exact h1
                            have hat : H6 p = some (.dK acc) := by rw [e16.keep p h1, upd_same]
                            have dacc6 : DasK G (off L6 H6) acc accD := e6.dasK (e5.dasK (e4.dasK (e3.dasK dacc)))
                            have hlen : acc.length < sizeLine := by
                              have q1 := dacc.len
                              have q2 := hz2.2
                              rw [sizeLine_eq]
                              unfold big at q2
                              omega
                            refine ⟨acc, k, keyD_kV dk hkk, hat, hlen, L6, st6, putK acc k vv, putKd accD k yv, e16.hupd, r6.hupd hp6, ?_, hlt, hcc⟩
                            rw [off_hid hp6]
                            exact dacc6.put k (dv.da hz2.1)
                          · cases hcc
      · have hi2 : i = ds.length := by omega
        subst hi2
        rw [List.drop_length] at hcc
        cases hcc
        refine .inl ⟨wk.stop L2' H2 sm, ?_⟩
        exact hp _ (L2'.back L1) H2 (e1.trans (e2.back r1 hpn)) (Rep.back e2 r2) (.d (.dK (.inl (back_at e2 r2 r1 hpn)) (DasK.mono (Rl.of_same (back_same e2)) _ _ dacc)))
    · cases h2
  · exact ⟨L, st, env, _, st', at_, h1, hp⟩
theorem m_dc (hc : X.calm = true) (hN : X.N.Nodup) (hi : PI X tg iter (tMI G W mi)) (ok : BlkOk X.N X.env.scope scope own)
    (hg : ∀ (s : Shared) (H : Hp) (C : Addr) (cl : List (Str × Addr)) (fp : List Addr), PG (X.blk s H scope (compEnvC scope cl C X.env) fp) tg g) (hT : ∀ (s : Shared) (H : Hp) (C : Addr) (cl : List (Str × Addr)) (fp : List Addr), PTs (X.blk s H scope (compEnvC scope cl C X.env) fp) ifs (tMT G W0 mt))
    (hk : ∀ (s : Shared) (H : Hp) (C : Addr) (cl : List (Str × Addr)) (fp : List Addr), PE (X.blk s H scope (compEnvC scope cl C X.env) fp) kx (tM G W0 mk))
    (he : ∀ (s : Shared) (H : Hp) (C : Addr) (cl : List (Str × Addr)) (fp : List Addr), PE (X.blk s H scope (compEnvC scope cl C X.env) fp) vx (tM G W0 mv)) (ht : TgOk G g t) (hsl : ∀ i ∈ t.slots, i ∈ own.map (·.2)) (hs : ∀ x, foldedSetIterable iter X.env x = pure x := by intro _; rfl)
    (hF : Flat G := by exact fun _ _ _ h => h) :
    PE X (.DictComp kx vx [⟨tg, iter, ifs, 0⟩] scope pos) (tM G W (mDc mi t mt mk mv (own.map (·.2)))) := PEimp (pe_dc hc hN hi ok hg hT hk he hs) fun _ _ _ => t_dc hF ht hsl
end
/-! displays -/
/-- {} that stays empty -/
def mDNil : ME := fun _ st => some (.ok (.dK []), st)
/-- {} as a cell -/
def mDNew : ME := fun _ st => some (.ok (.ref st.length), st ++ [.dK []])
def mPairs : List (ME × ME) → En → Store → Option (Rs (List (Key × D)) × Store)
  | [], _, st => some (.ok [], st)
  | (mk, mv) :: r, env, st => bnd (mk env st) fun y st => bnd (mv env st) fun z st => match keyD y with
    | some k => if isD z = true then bnd (mPairs r env st) fun kvs st => some (.ok ((k, z) :: kvs), st) else none
    | none => none
def mergeD (kvs more : List (Key × D)) : List (Key × D) := more.foldl (fun acc kv => putKd acc kv.1 kv.2) kvs
def mDisp (ps : List (ME × ME)) : ME := fun env st => bnd (mPairs ps env st) fun kvs st => some (.ok (.dK (mergeD [] kvs)), st)
section
variable {G : Gm} {W : WX} {X : Cx} {pos : Pos}
theorem m_dnil : PE X (.Dict [] [] pos) (tM G W mDNil) := PEimp pe_dnewK fun σ H Q q => by
  obtain ⟨L, st, env, r, st', at_, hm, hp⟩ := q
  cases hm
  exact fun p hpn => hp _ _ _ (Ev.new1 (G := G) at_.r hpn) (Rep.new1 at_.r hpn) (.d (.dK (.inl (Ev.off_new at_.r hpn)) .nil))
theorem m_dnew : PE X (.Dict [] [] pos) (tM G W mDNew) := PEimp pe_dnewK fun σ H Q q => by
  obtain ⟨L, st, env, r, st', at_, hm, hp⟩ := q
  cases hm
  refine fun p hpn => ?_
  obtain ⟨e2, r2, v2⟩ := new_cell (G := G) (o := .dK []) (c := .dK []) at_.r hpn fun L' H' s h => ⟨[], h, .nil⟩
  exact hp _ _ _ e2 r2 v2
theorem DasK.merge {G : Gb} {H : Hp} : ∀ {es : List (Key × D)} {us : List (Key × V)} {ds : List (Key × D)} {vs : List (Key × V)}, DasK G H us es → DasK G H vs ds → DasK G H (mergeK vs us) (mergeD ds es)
  | [], _, _, _, h, g => by cases h; exact g
  | (k, d) :: es, _, ds, vs, h, g => by
    cases h with
    | @cons _ v us _ _ h r => exact (show DasK G H (mergeK (putK vs k v) us) (mergeD (putKd ds k d) es) from DasK.merge r (DasK.put k h g))
end

/-! ### an error of one's own: its __init__ -/
section
variable {P : Program} {w : World} {K : PySem.W.Frag} {mg : Str → Option Value} {base : Heap} {X : Cx}
def tEInit (K : PySem.W.Frag) (f m : Str) : TS := tSeq (tDrop (tVeI K (tCons (tVar 0) (tCons (tC (.str m)) tNil)))) (tOst K f (tVar 0) (tVar 1))
theorem pure_einit {f m self : Str} {C : Addr} (T : OexC K C) (no : PySem.W.findIn K (.ref C) f = some none) (vs : List V) (H : Hp) (Q : VK) (E : XK) (h : spXI f K C vs H Q E) :
    tEInit K f m { nx := fun _ H' => Q .non H', rt := Q } (start [self, f] vs) H := by
  obtain ⟨a, y, rfl, ea, q⟩ := h
  refine ⟨_, rfl, a, C, [.str m], rfl, by show 1 ≤ 1000; decide, T, ea, ?_⟩
  exact ⟨_, rfl, _, rfl, a, C, rfl, T, no, .inl ⟨ea, fun dx h1 h2 => q dx h1 h2⟩⟩
end

/-! ### raised -/
def mRaise (c : Nat) (f : Str) (me : ME) : MS := fun env st => bndS (me env st) env fun d st => if isD d = true then some (.err ⟨c, [(f, d)]⟩, env, st) else none
section
variable {G : Gm} {W : WX} {X : Cx} {e : Expr} {me : ME} {pos pos2 p : Pos} {x f : Str} {c k : Nat} {fI : Addr} {fd : FuncData} {ps : List Str}
theorem ms_raise (hc : X.calm = true) (tk : Takes X W) (T : OexC X.K (G.cA c)) (iC : PySem.W.findIn X.K (.ref (G.cA c)) "__init__" = some (some (.ref fI))) (tI : PySem.W.typeIn X.K (.ref fI) = some (.type "function"))
    (F1 : FnOk X.prog X.w X.K X.mg X.base (L2.CX X.prog X.w) k fI fd ps (spXI f X.K (G.cA c))) (hr : Room (k + 1) X.A) (hb : Binds X.K fd ps []) (hg : Gl X x) (hm : X.mg x = some (.ref (G.cA c))) (he : PE X e (tM G W me))
    (hdb : (x == ("__debug__" : Str)) = false := by decide) (hs : starEach (e :: []) X.env = (false, eval e X.env) :: starEach [] X.env := by rfl) (hpl : (backTo pos (starEach [] X.env)).any (·.1) = false := by rfl) :
    PS X (.Raise (some (.Call (.Name x p) [e] [] pos)) none pos2) (tMS G W (mRaise c f me)) :=
  PSimp (ps_raise hc tk (pmk_oex T iC tI F1 hr hb .nil passL hg hm (m_cons he m_nil hs) hdb hs hpl)) fun D σ H q => by
    obtain ⟨L, st, env, fl, env', st', at_, hm, hp⟩ := q
    rcases bndS_cases hm with ⟨d, st1, h1, h2⟩ | ⟨x, h1, rfl, rfl⟩
    · refine ⟨L, st, env, _, st1, at_, mCons1 h1, fun vs L1 H1 e1 r1 dv => ?_⟩
      obtain ⟨v, rfl, dw⟩ := Vas.one_inv dv
      split at h2
      · rename_i hpure
        cases h2
        refine mkO_k (f := f) (K := X.K) (C := G.cA c) (y := v) (Q := fun cls d H' => W cls d σ H') fun d' H' hd' hs' hx' => ?_
        obtain ⟨e2, r2⟩ := same_ev r1 hs'
        have hn : ¬ (some d' ∈ L1.c ∨ d' ∈ L1.h) := r1.fresh hd'
        exact hp _ _ _ L1 H' (e1.trans e2) r2 (at_.e.ev (e1.trans e2)) ⟨rfl, d', _, rfl, off_of hx' hn, .cons (e2.da (dw.da hpure)) .nil⟩
      · cases h2
    · refine ⟨L, st, _, _, _, at_, mCons1e h1, fun cls dd L1 H1 e1 r1 xr => ?_⟩
      exact hp cls dd σ L1 H1 e1 r1 (at_.e.ev e1) xr
end

/-! ### caught -/
def Gx (G : Gm) (i : Nat) (a : Addr) (cls : Value) (d : Option Addr) (x : Xn) : Gm :=
  ⟨G.toGb, fun σ H => G.P σ H ∧ σ[i]? = some (some (.ref a)) ∧ XnR G.toGb H x cls d, fun σ H H' s ⟨h1, h2, h3⟩ => ⟨G.up _ _ _ s h1, h2, by
    obtain ⟨z1, e, vs, z2, z3, z4⟩ := h3
    exact ⟨z1, e, vs, z2, s.xd _ _ z3, DasF.mono s _ _ z4⟩⟩⟩
def W0 : WX := fun _ _ _ _ => False
/-- try: mb, except the classes that hit names, as slot i: mx -/
def mTry (mb : MS) (ids : List Nat) (hit : Nat → Bool) (i : Nat) (mx : Xn → MS) : MS := fun env st => match mb env st with
  | some (.err x, env1, st1) => if x.c ∈ ids ∧ i < env1.length then (if hit x.c = true then (match mx x (env1.set i none) st1 with
    | some (.err _, _, _) => none
    | some (.ret d, env2, st2) => some (.ret d, env2, st2)
    | some (fl, env2, st2) => some (fl, env2.set i none, st2)
    | none => none) else some (.err x, env1, st1)) else none
  | r => r
def tsX (G : Gm) (mx : Xn → MS) (i : Nat) (a : Addr) (cls : Value) (d : Option Addr) : TS := fun D σ H => ∃ x, tMS (Gx G i a cls d x) W0 (mx x) D σ H
section
variable {G : Gm} {W : WX} {X : Cx} {x n : Str} {c : Value} {i : Nat} {body suite : List Stmt} {b₀ : Stmt} {np pos pos' : Pos} {mb : MS} {mx : Xn → MS} {ids : List Nat} {hit : Nat → Bool}
theorem EnvR.other {G : Gb} {L : Lv} {H : Hp} {σ : L2.St} {env : En} (h : EnvR G L H σ env) (i : Nat) (o : Option V) : EnvR G L H (σ.set i o) (env.set i none) :=
  ⟨by rw [List.length_set, List.length_set]; exact h.len, fun j x q => by
    by_cases e : i = j
    · subst e
      have hi : i < env.length := by
        have := (List.getElem?_eq_some_iff.mp q).1
        rw [List.length_set] at this
        exact this
      rw [List.getElem?_set_self hi] at q
      cases q
    · rw [List.getElem?_set_ne e] at q
      rw [List.getElem?_set_ne e]
      exact h.at_ j x q⟩
theorem t_try {K : PySem.W.Frag} (hK : ∀ k ∈ ids, PySem.W.exmOne K (.ref (G.cA k)) c = some (hit k)) (hF : Flat G) {D : Ends} {σ : L2.St} {H : Hp} (q : tMS G W (mTry mb ids hit i mx) D σ H) : tMS G (wAs K c i (tsX G mx i) W D) mb D σ H := by
  obtain ⟨L, st, env, fl, env', st', at_, hm, hp⟩ := q
  unfold mTry at hm
  cases hb : mb env st with
  | none => rw [hb] at hm; cases hm
  | some p =>
    obtain ⟨fl1, env1, st1⟩ := p
    rw [hb] at hm
    refine ⟨L, st, env, fl1, env1, st1, at_, hb, ?_⟩
    cases fl1 with
    | next => cases hm; exact hp
    | brk => cases hm; exact hp
    | cont => cases hm; exact hp
    | ret d => cases hm; exact hp
    | err x =>
      dsimp only at hm
      split at hm
      · rename_i hx
        intro cls dd σ' L' H' e1 r1 en1 xr
        obtain rfl := xr.1
        refine ⟨hit x.c, hK _ hx.1, fun ht a ha => ?_, fun ht => ?_⟩
        · rw [if_pos ht] at hm
          have lenσ : i < σ'.length := by rw [en1.len]; exact hx.2
          have a1 : At (Gx G i a (.ref (G.cA x.c)) dd x) L' st1 (σ'.set i (some (.ref a))) (env1.set i none) H' :=
            ⟨en1.other i _, r1, hF _ _ _ (G.up _ _ _ e1.same at_.p), List.getElem?_set_self lenσ, xr⟩
          cases hs : mx x (env1.set i none) st1 with
          | none => rw [hs] at hm; cases hm
          | some p =>
            obtain ⟨fl2, env2, st2⟩ := p
            rw [hs] at hm
            refine ⟨x, L', st1, _, fl2, env2, st2, a1, hs, ?_⟩
            cases fl2 with
            | err _ => cases hm
            | ret d =>
              cases hm
              exact fun v L2 H2 e2 r2 dv => hp v L2 H2 (e1.trans e2) r2 dv
            | next =>
              cases hm
              exact fun σ2 L2 H2 e2 r2 en2 => hp _ L2 H2 (e1.trans e2) r2 (en2.other i none)
            | brk =>
              cases hm
              exact fun σ2 L2 H2 e2 r2 en2 => hp _ L2 H2 (e1.trans e2) r2 (en2.other i none)
            | cont =>
              cases hm
              exact fun σ2 L2 H2 e2 r2 en2 => hp _ L2 H2 (e1.trans e2) r2 (en2.other i none)
        · rw [if_neg (by rw [ht]; exact Bool.false_ne_true)] at hm
          cases hm
          exact hp _ dd σ' L' H' e1 r1 en1 xr
      · cases hm
theorem ms_try (hK : ∀ k ∈ ids, PySem.W.exmOne X.K (.ref (G.cA k)) c = some (hit k)) (hs : X.stack = X.env :: X.outer) (hf : X.env.frame = some X.env.locals) (hN : X.N.Nodup) (hi : X.N[i]? = some n) (hln : X.env.kindOf n = some .local) (hc : Names X x c) (tk : Takes X W)
    (hb : ∀ (W : WX) (pn : List (Addr × Obj)) (xe : Value → Shared → Prop), Takes (X.tr pn xe) W → PassesOwn (model X.prog X.w) X.A X.env xe → PSs (X.tr pn xe) body (tMS G W mb))
    (hsu : ∀ (a : Addr) (oe : Obj) (cls : Value) (d : Option Addr) (pn : List (Addr × Obj)) (z : Xn), Zc cls d oe → (∃ vs, oe.data = .fields vs) → PSs (X.suite a ((a, oe) :: pn)) (b₀ :: suite) (tMS (Gx G i a cls d z) W0 (mx z)))
    (hF : Flat G := by exact fun _ _ _ h => h) :
    PS X (.Try body [.ExceptHandler (some (.Name x np)) (some n) (b₀ :: suite) pos'] [] [] pos) (tMS G W (mTry mb ids hit i mx)) :=
  PSimp (ps_try_as (tb := fun W => tMS G W mb) (ts := tsX G mx i) hs hf hN hi hln hc tk hb fun a oe cls d pn hz hf' => ⟨fun pins s σ H D I ⟨z, h⟩ => (hsu a oe cls d pn z hz hf').run pins s σ H D I h⟩) fun D σ H q => t_try hK hF q
/-! in the suite: e.f, isinstance(e, C) -/
def mXf (z : Xn) (k : Nat) (f : Str) : ME := fun _ st => if z.c = k then (match z.fs.lookup f with
  | some d => some (.ok d, st)
  | none => none) else none
theorem m_xf {a : Addr} {oe : Obj} {cls : Value} {d : Option Addr} {pn : List (Addr × Obj)} {z : Xn} {k : Nat} {f : Str} {W : WX} (T : XfC X.K (G.cA k)) (hno : PySem.W.findIn X.K (.ref (G.cA k)) f = some none) (hz : Zc cls d oe) (hf : ∃ vs, oe.data = .fields vs) {e : Expr}
    (he : PE (X.suite a ((a, oe) :: pn)) e (tVar i)) (hb : attributeBase e f X.env (eval e X.env) = eval e X.env := by rfl) :
    PE (X.suite a ((a, oe) :: pn)) (.Attribute e f pos) (tM (Gx G i a cls d z) W (mXf z k f)) := PEimp (pe_xf T hno hz hf he hb) fun σ H Q q => by
  obtain ⟨L, st, env, r, st', at_, hm, hp⟩ := q
  obtain ⟨p1, p2, p3⟩ := at_.p
  unfold mXf at hm
  split at hm
  · rename_i hk
    split at hm
    · rename_i dv hl
      cases hm
      obtain ⟨z1, dd, vs, rfl, z3, z4⟩ := p3
      obtain ⟨v, q1, q2⟩ := DasF.look z4 hl
      exact ⟨_, p2, rfl, by rw [z1, hk], dd, vs, v, rfl, (off_some z3).1, q1, hp v L H (Ev.refl _ _) at_.r (.d q2)⟩
    · cases hm
  · cases hm
def mXis (z : Xn) (k : Nat) (b : Bool) : ME := fun _ st => if z.c = k then some (.ok (.bl b), st) else none
theorem m_xis {a : Addr} {oe : Obj} {cls : Value} {d : Option Addr} {pn : List (Addr × Obj)} {z : Xn} {k k2 : Nat} {b : Bool} {W : WX} (T : ExcC X.K (G.cA k)) (hk : PySem.W.kitOne X.K (.ref (G.cA k)) (.ref (G.cA k2)) = some b) (hz : Zc cls d oe) (hf : ∃ vs, oe.data = .fields vs) {e y : Expr} {p : Pos}
    (hg : Gl (X.suite a ((a, oe) :: pn)) "isinstance") (hm : X.mg "isinstance" = none)
    (he : PE (X.suite a ((a, oe) :: pn)) e (tVar i)) (hy : PE (X.suite a ((a, oe) :: pn)) y (tC (.ref (G.cA k2))))
    (h1 : starEach (e :: [y]) X.env = (false, eval e X.env) :: starEach [y] X.env := by rfl) (h2 : starEach (y :: []) X.env = (false, eval y X.env) :: starEach [] X.env := by rfl) (hpl : (backTo pos (starEach [y] X.env)).any (·.1) = false := by rfl) :
    PE (X.suite a ((a, oe) :: pn)) (.Call (.Name "isinstance" p) [e, y] [] pos) (tM (Gx G i a cls d z) W (mXis z k b)) :=
  PEimp (pe_callB (call_isX hz hf) hg hm boot_isinstance (pa_cons he (pa_cons hy pa_nil h2) h1) (he := h1) (hpl := hpl)) fun σ H Q q => by
    obtain ⟨L, st, env, r, st', at_, hmm, hp⟩ := q
    obtain ⟨p1, p2, p3⟩ := at_.p
    unfold mXis at hmm
    split at hmm
    · rename_i hkk
      cases hmm
      obtain ⟨z1, dd, vs, rfl, z3, z4⟩ := p3
      rw [hkk] at z1
      exact ⟨_, p2, G.cA k, .ref (G.cA k2), .ref (G.cA k2), b, dd, vs, rfl, z1, T, rfl, (off_some z3).1, fun u hu => hu, hk, hp _ L H (Ev.refl _ _) at_.r (.d (.bl b))⟩
    · cases hmm
end
end M


/-! The M layer: displays of dicts. -/
namespace M
open PySem PySem.Spec PyProof.Rows L2
def mPairs2 : List (ME × ME) → En → Store → Option (List (Key × D) × Store)
  | [], _, st => some ([], st)
  | (mk, mv) :: r, env, st => match mk env st with
    | some (.ok y, st1) => match mv env st1 with
      | some (.ok z, st2) => match keyD y with
        | some k => if isD z = true then (match mPairs2 r env st2 with
          | some (kvs, st3) => some ((k, z) :: kvs, st3)
          | none => none) else none
        | none => none
      | _ => none
    | _ => none
def mDisp2 (ps : List (ME × ME)) : ME := fun env st => match mPairs2 ps env st with
  | some (kvs, st) => if kvs.length ≤ 15 then some (.ok (.dK (mergeD [] kvs)), st) else none
  | none => none
section
variable {G : Gm} {W : WX} {X : Cx} {pos : Pos}
theorem At.hide {L : Lv} {st : Store} {σ : L2.St} {env : En} {H : Hp} {p : Addr} {o : HO} (a : At G L st σ env H) (hpn : H p = none) (ho : ∀ xs, o ≠ .tup xs := by intro xs z; cases z) : At G (L.hide p) st σ env (upd H p o) :=
  ⟨⟨a.e.len, fun j d q => by
    obtain ⟨v, q1, q2⟩ := a.e.at_ j d q
    exact ⟨v, q1, Va.mono (L := L) (⟨Nat.le_refl _, fun _ _ _ h => h⟩ : Le L (L.hide p)) (Rl.of_same (hide_same (L := L) hpn)) q2⟩⟩, a.r.hide hpn ho, G.up _ _ _ (Rl.of_same (hide_same (L := L) hpn)) a.p⟩
theorem t_pairs {σ : L2.St} {env : En} : ∀ (ps : List (ME × ME)) (L : Lv) (st st' : Store) (H : Hp) (kvs : List (Key × D)) (Q : List (V × V) → Hp → Prop), At G L st σ env H → mPairs2 ps env st = some (kvs, st') →
    (∀ us L' H', Ev L H L' H' → Rep G L' st' H' → DasK G (off L' H') us kvs → Q (us.map fun kv => (kV kv.1, kv.2)) H') → tPairs (ps.map fun p => (tM G W p.1, tM G W p.2)) σ H Q
  | [], L, st, st', H, kvs, Q, a, h, k => by
    cases h
    exact k [] L H (Ev.refl _ _) a.r .nil
  | (mk, mv) :: r, L, st, st', H, kvs, Q, a, h, k => by
    unfold mPairs2 at h
    cases hk : mk env st with
    | none => rw [hk] at h; cases h
    | some q =>
      obtain ⟨rk, st1⟩ := q
      rw [hk] at h
      cases rk with
      | err _ => cases h
      | ok y =>
        dsimp only at h
        refine ⟨L, st, env, _, st1, a, hk, fun vy L1 H1 e1 r1 dy => ?_⟩
        cases hv : mv env st1 with
        | none => rw [hv] at h; cases h
        | some q =>
          obtain ⟨rv, st2⟩ := q
          rw [hv] at h
          cases rv with
          | err _ => cases h
          | ok z =>
            dsimp only at h
            refine ⟨L1, st1, env, _, st2, a.ev e1 r1, hv, fun vz L2 H2 e2 r2 dz => ?_⟩
            cases hkk : keyD y with
            | none => rw [hkk] at h; cases h
            | some kk =>
              rw [hkk] at h
              dsimp only at h
              split at h
              · rename_i hp
                cases hr : mPairs2 r env st2 with
                | none => rw [hr] at h; cases h
                | some q =>
                  obtain ⟨more, st3⟩ := q
                  rw [hr] at h
                  cases h
                  refine t_pairs r L2 st2 st' H2 more _ ((a.ev e1 r1).ev e2 r2) hr fun us L3 H3 e3 r3 d3 => ?_
                  have hkv := keyD_kV dy hkk
                  subst hkv
                  exact k ((kk, vz) :: us) L3 H3 ((e1.trans e2).trans e3) r3 (.cons (e3.da (dz.da hp)) d3)
              · cases h
theorem m_disp {keys : List (Option Expr)} {values : List Expr} {ps : List (ME × ME)} (h : PPs X pos keys values (ps.map fun p => (tM G W p.1, tM G W p.2))) (hall : keys.all (·.isSome) = true) (hl : keys.length = values.length) (h0 : keys ≠ [])
    (h15 : keys.length ≤ 15) : PE X (.Dict keys values pos) (tM G W (mDisp2 ps)) := PEimp (pe_disp h hall hl h0 h15) fun σ H Q q => by
  obtain ⟨L, st, env, r, st', at_, hm, hp⟩ := q
  unfold mDisp2 at hm
  cases hr : mPairs2 ps env st with
  | none => rw [hr] at hm; cases hm
  | some q =>
    obtain ⟨kvs, st2⟩ := q
    rw [hr] at hm
    dsimp only at hm
    split at hm
    · rename_i hlen
      cases hm
      refine fun p hpn => t_pairs ps _ st _ _ kvs _ (at_.hide hpn) hr fun us L2 H2 e2 r2 d2 => ?_
      have h1 : p ∈ (L.hide p).h := List.mem_cons_self
      have hp2 : p ∈ L2.h := by rw [e2.hh]; exact h1
      have hat : H2 p = some (.dK []) := by rw [e2.keep p h1, upd_same]
      refine ⟨hat, us, rfl, by rw [d2.len]; exact hlen, ?_⟩
      have e3 := Ev.hupd (o' := .dK (mergeK [] us)) e2
      have r3 := r2.hupd (o := .dK (mergeK [] us)) hp2
      refine hp _ _ _ (e3.back at_.r hpn) (Rep.back e3 r3) (.d (.dK (.inl (back_at e3 r3 at_.r hpn)) ?_))
      refine DasK.mono (Rl.of_same (back_same e3)) _ _ ?_
      rw [off_hid hp2]
      exact DasK.merge d2 .nil
    · cases hm
theorem mp_nil : PPs X pos [] [] (([] : List (ME × ME)).map fun p => (tM G W p.1, tM G W p.2)) := pps_nil
theorem mp_cons {k v : Expr} {ks : List (Option Expr)} {vs : List Expr} {mk mv : ME} {ps : List (ME × ME)} (hk : PE X k (tM G W mk)) (hv : PE X v (tM G W mv)) (hr : PPs X pos ks vs (ps.map fun p => (tM G W p.1, tM G W p.2))) :
    PPs X pos (some k :: ks) (v :: vs) (((mk, mv) :: ps).map fun p => (tM G W p.1, tM G W p.2)) := pps_cons hk hv hr
end

/-! ### odds and ends -/
def gNeg (_ : Store) (x : D) : Option D := match x with
  | .int i => some (.int (-i))
  | _ => none
theorem r1_neg {G : Gb} : R1M G (rU fun i => .int (-i)) gNeg := fun L st H x d z Q R dx hz k => by
  unfold gNeg at hz
  split at hz
  · cases hz
    exact ⟨_, dx.int_inv, r_same (.int _) R k⟩
  · cases hz
theorem hu64 {k : Nat} {A : Around} (r : Room k A) : A.units + 64 < cLine := r.units
theorem all_cons {α : Type} {P : α → Prop} {a : α} {as : List α} (h : P a) (r : ∀ x ∈ as, P x) : ∀ x ∈ a :: as, P x := fun x hx => (List.mem_cons.mp hx).elim (fun e => e ▸ h) (r x)
theorem own_noCX {P : Program} {w : World} {st : List Env} {H : Hp} {s : Shared} {e : Value} {s' : Shared} (h : L2.CX P w st H s (fun _ _ _ => False) e s') : False := by
  obtain ⟨_, _, _, _, _, _, _, _, _, _, _, _, z⟩ := h
  exact z
/-- the promise of a law -/
def spLaw (K : PySem.W.Frag) : Sp := fun vs H Q _ => ∃ (a : Addr) (ns : List Int), vs = [.ref a] ∧ SqL K H a (ns.map V.int) ∧ ns.length ≤ 63 ∧ ∀ H', Q (.bl true) H'
theorem law_okM {P : Program} {w : World} {K : PySem.W.Frag} {mg : Str → Option Value} {base : Heap} {B : Gb} {k : Nat} {f : Addr} {fd : FuncData} {ps : List Str} {c : Call} (hB : B.K = K) (hc : ∀ ns : List Int, ns.length ≤ 63 → ∃ st, c [.ro (ns.map D.int)] [] = some (.ok (.bl true), st))
    (F : FnOk P w K mg base (L2.CX P w) k f fd ps (spM B c 1)) : FnOk P w K mg base (L2.CX P w) k f fd ps (spLaw K) := F.imp fun vs H Q E h => by
  obtain ⟨a, ns, rfl, hS, hl, q⟩ := h
  obtain ⟨st, hst⟩ := hc ns hl
  have eo : off ⟨[], []⟩ H = H := by
    funext b
    unfold off
    rw [if_neg]
    rintro (z | z) <;> cases z
  refine ⟨rfl, ⟨[], []⟩, [], [.ro (ns.map D.int)], _, st, ⟨rfl, fun i j a h => ?_, fun i x c h => ?_, fun a h => by cases h⟩, .cons (.d ?_) .nil, hst, fun v L' H' e r va => ?_⟩
  · simp at h
  · simp at h
  · rw [eo]
    exact .ro (hB ▸ hS) (Das.ints ns)
  · cases va.bl_inv
    exact q H'
theorem walkM {l : PySem.W.OpenLaw} {q : Program} {loose : List Str} {XP : (Str → Option Value) → Heap → Prop} {YP : World → Heap → Prop} {d : DefRec} {K : Params → PySem.W.Frag} (k : Nat) (x : Str) (hn : l.most = some 63) (hdf : d.params.defaults = []) (hr : Room k callerA)
    (hY : ∀ (w : World) (h : Heap), YP w h → (K w.params).In h)
    (F : ∀ (w : World) (mg : Str → Option Value) (fa : Addr) (h : Heap), (K w.params).In h → h.Ns mainGlobals mg → mg d.name = some (.ref fa) →
      ∃ fd : FuncData, (∀ (s : Shared) (u : Value), BindsTo s fd ⟨[u], []⟩ [(x, u)]) ∧ ∀ base : Heap, (K w.params).In base → base.Ns mainGlobals mg → FnOk l.prog w (K w.params) mg base (L2.CX l.prog w) k fa fd [x] (spLaw (K w.params))) :
    PySem.W.WalkO q loose XP YP l.row.toRowW d [] (fun f vs => PySem.call f vs) :=
  L2.walk_of (n := 63) (CX := fun w => L2.CX l.prog w) (sp := fun w => spLaw (K w.params)) hn (by decide) hdf hr hY F (fun _ _ a ns hl _ hS => ⟨a, ns, rfl, hS, hl, fun _ => rfl⟩) fun _ _ _ _ _ z => own_noCX z
theorem own_kit {K : PySem.W.Frag} {C C2 : Addr} {b : Bool} (ic : PySem.W.isClsIn K C2 = true) (ty : PySem.W.typeIn K (.ref C2) = some (.type "type")) (h : PySem.W.subIn K (.ref C) (.ref C2) = some b) (ne : b = true ∨ C ≠ C2) : PySem.W.kitOne K (.ref C) (.ref C2) = some b := by
  have e1 : ((PySem.W.clsIn K C2).isSome && PySem.W.typeIn K (.ref C2) == some (.type "type")) = true := by
    have ic' : (PySem.W.clsIn K C2).isSome = true := ic
    rw [ic', ty] <;> rfl
  have e2 : PySem.W.kitCls K (.ref C) (.ref C2) = some b := by
    show (if ((PySem.W.clsIn K C2).isSome && PySem.W.typeIn K (.ref C2) == some (.type "type")) = true then PySem.W.subIn K (.ref C) (.ref C2) else none) = some b
    rw [if_pos e1]
    exact h
  unfold PySem.W.kitOne
  split
  · rename_i e
    rcases ne with rfl | ne
    · rfl
    · exact absurd (Value.ref.inj (beq_iff_eq.mp e)) ne
  · exact e2
end M


/-! The M layer: mirrors reckoned with. -/
namespace M
open PySem PySem.Spec PyProof.Rows L2

/-! ### rows of a reckoning -/
section
variable {env env1 env2 : En} {st st1 st2 : Store} {ma mb mc : ME} {mas mbs : MA} {mt mu : MT} {m k : MS} {d e z : D} {ds : List D} {b : Bool}
theorem v_var {i : Nat} (h : env[i]? = some (some d)) : mVar i env st = some (.ok d, st) := by unfold mVar; rw [h]
theorem v_op {g : Store → D → D → Option D} (h1 : ma env st = some (.ok d, st1)) (h2 : mb env st1 = some (.ok e, st2)) (h : g st2 d e = some z) : mOp g ma mb env st = some (.ok z, st2) := by
  unfold mOp; rw [h1, bnd_ok, h2, bnd_ok, h]
theorem v_un {g : Store → D → Option D} (h1 : ma env st = some (.ok d, st1)) (h : g st1 d = some z) : mUn g ma env st = some (.ok z, st1) := by
  unfold mUn; rw [h1, bnd_ok, h]
theorem v_cons (h1 : ma env st = some (.ok d, st1)) (h2 : mas env st1 = some (.ok ds, st2)) : mCons ma mas env st = some (.ok (d :: ds), st2) := by
  unfold mCons; rw [h1, bnd_ok, h2, bnd_ok]
theorem v_cb {g : Store → List D → Option D} (h1 : mas env st = some (.ok ds, st1)) (h : g st1 ds = some z) : mCB g mas env st = some (.ok z, st1) := by
  unfold mCB; rw [h1, bnd_ok, h]
theorem v_call {n : Nat} {c : Call} (h1 : mas env st = some (.ok ds, st1)) (hn : ds.length = n) {r : Option (Rs D × Store)} (h : c ds st1 = r) : mCall n c mas env st = r := by
  unfold mCall; rw [h1, bnd_ok, if_pos hn, h]
theorem v_val (h : ma env st = some (.ok (.bl b), st1)) : mVal ma env st = some (.ok b, st1) := by
  unfold mVal; rw [h, bnd_ok]
theorem v_not (h : mt env st = some (.ok b, st1)) : mNot mt env st = some (.ok (!b), st1) := by
  unfold mNot; rw [h, bnd_ok]
theorem v_orT (h : mt env st = some (.ok true, st1)) : mOr mt mu env st = some (.ok true, st1) := by
  unfold mOr; rw [h, bnd_ok, if_pos rfl]
theorem v_orF (h : mt env st = some (.ok false, st1)) : mOr mt mu env st = mu env st1 := by
  unfold mOr; rw [h, bnd_ok, if_neg Bool.false_ne_true]
theorem v_andF (h : mt env st = some (.ok false, st1)) : mAnd mt mu env st = some (.ok false, st1) := by
  unfold mAnd; rw [h, bnd_ok, if_neg Bool.false_ne_true]
theorem v_andT (h : mt env st = some (.ok true, st1)) : mAnd mt mu env st = mu env st1 := by
  unfold mAnd; rw [h, bnd_ok, if_pos rfl]
theorem v_andVF (h : ma env st = some (.ok (.bl false), st1)) : mAndV ma mb env st = some (.ok (.bl false), st1) := by
  unfold mAndV; rw [h, bnd_ok]
theorem v_andVT (h : ma env st = some (.ok (.bl true), st1)) : mAndV ma mb env st = mb env st1 := by
  unfold mAndV; rw [h, bnd_ok]
theorem v_seq (h : m env st = some (.next, env1, st1)) : mSeq m k env st = k env1 st1 := by
  unfold mSeq; rw [h]
theorem v_ret (h : ma env st = some (.ok d, st1)) : mRet ma env st = some (.ret d, env, st1) := by
  unfold mRet; rw [h, bndS_ok]
theorem v_asg {i : Nat} (h : ma env st = some (.ok d, st1)) : mAsg ma (.nm i) env st = some (.next, env.set i (some d), st1) := by
  unfold mAsg; rw [h, bndS_ok]; rfl
theorem v_par {i j : Nat} (h : mas env st = some (.ok [d, e], st1)) : mPar i j mas env st = some (.next, (env.set i (some d)).set j (some e), st1) := by
  unfold mPar; rw [h, bndS_ok]
theorem v_ifT (h : mt env st = some (.ok true, st1)) : mIfS mt m k env st = m env st1 := by
  unfold mIfS; rw [h, bndS_ok, if_pos rfl]
theorem v_ifF (h : mt env st = some (.ok false, st1)) : mIfS mt m k env st = k env st1 := by
  unfold mIfS; rw [h, bndS_ok, if_neg Bool.false_ne_true]
theorem v_lst (h : mas env st = some (.ok ds, st1)) (hk : ds.length ≤ big ∧ ds.all isD = true) : mLst mas env st = some (.ok (.lst ds), st1) := by
  unfold mLst; rw [h, bnd_ok, if_pos hk]
theorem v_drop (h : ma env st = some (.ok d, st1)) : mDrop ma env st = some (.next, env, st1) := by
  unfold mDrop; rw [h, bndS_ok]
theorem v_dropE {x : Xn} (h : ma env st = some (.err x, st1)) : mDrop ma env st = some (.err x, env, st1) := by
  unfold mDrop; rw [h, bndS_err]
end

/-! ### loops -/
theorem forD_inv {n : Nat} {t : Tg} {body : MS} (I : Nat → En → Store → Prop) : ∀ (ds : List D) (i : Nat) (env : En) (st : Store), I i env st →
    (∀ (j : Nat) (d : D) (env : En) (st : Store), ds[j]? = some d → I (i + j) env st → ∃ env1 env2 st2, setT t d env = some env1 ∧ body env1 st = some (.next, env2, st2) ∧ (st2.take n).all (cellOk n) = true ∧ I (i + j + 1) (trimE n env2) (st2.take n)) →
    ∃ env' st', forD n t body ds env st = some (.next, env', st') ∧ I (i + ds.length) env' st'
  | [], i, env, st, h, _ => ⟨env, st, rfl, h⟩
  | d :: ds, i, env, st, h, k => by
    obtain ⟨env1, env2, st2, h1, h2, h3, h4⟩ := k 0 d env st rfl h
    obtain ⟨env', st', h5, h6⟩ := forD_inv I ds (i + 1) (trimE n env2) (st2.take n) h4 fun j d' env st e I' => by
      have e' : i + 1 + j = i + (j + 1) := by omega
      rw [e'] at I' ⊢
      exact k (j + 1) d' env st e I'
    refine ⟨env', st', ?_, ?_⟩
    · unfold forD
      rw [h1]
      dsimp only
      rw [h2]
      dsimp only
      rw [if_pos h3, h5]
    · have e' : i + (d :: ds).length = i + 1 + ds.length := by simp; omega
      rw [e']
      exact h6
/-- a loop whose turns change nothing but the name -/
theorem v_for {mi : MA} {t : Tg} {body : MS} {env env' : En} {st st1 st' : Store} {ds : List D} {fl : Fl} (h : mi env st = some (.ok ds, st1)) (k : forD st1.length t body ds env st1 = some (fl, env', st')) : mFor mi t body env st = some (fl, env', st') := by
  unfold mFor; rw [h, bndS_ok, k]

/-! ### comprehensions -/
theorem compD_map {i : Nat} {env : En} {st : Store} {me : ME} (f : D → D) : ∀ ds : List D, (∀ d ∈ ds, me (env.set i (some d)) st = some (.ok (f d), st) ∧ isD (f d) = true) → compD (.nm i) tYesM me env ds st = some (ds.map f, st)
  | [], _ => rfl
  | d :: ds, h => by
    obtain ⟨h1, h2⟩ := h d List.mem_cons_self
    unfold compD
    show (match me (env.set i (some d)) st with
      | some (.ok y, st2) => if isD y = true then (match compD (.nm i) tYesM me env ds st2 with
        | some (ys, st3) => some (y :: ys, st3)
        | none => none) else none
      | _ => none) = _
    rw [h1]
    dsimp only
    rw [if_pos h2, compD_map f ds fun d hd => h d (List.mem_cons_of_mem _ hd)]
    rfl
theorem v_lc {mi : MA} {i : Nat} {me : ME} {env : En} {st st1 : Store} {ds : List D} {vs : List Nat} (f : D → D) (h : mi env st = some (.ok ds, st1)) (hl : ds.length ≤ big)
    (k : ∀ d ∈ ds, me ((wipeE env vs).set i (some d)) st1 = some (.ok (f d), st1) ∧ isD (f d) = true) : mLc mi (.nm i) tYesM me vs env st = some (.ok (.lst (ds.map f)), st1) := by
  unfold mLc
  rw [h, bnd_ok, compD_map f ds k]
  dsimp only
  rw [if_pos (by simpa using hl)]
theorem bls_map (f : D → Bool) : ∀ ds : List D, bls (ds.map fun d => .bl (f d)) = some (ds.map f)
  | [] => rfl
  | d :: ds => by
    show (bls (ds.map fun d => .bl (f d))).map (f d :: ·) = _
    rw [bls_map f ds]
    rfl
theorem gAll_map (f : D → Bool) (st : Store) (ds : List D) : gAll st [.lst (ds.map fun d => .bl (f d))] = some (.bl (ds.all f)) := by
  show (bls (ds.map fun d => .bl (f d))).map (fun bs => D.bl (bs.all id)) = _
  rw [bls_map]
  simp [List.all_map]
theorem putKd_length {κ : Type} [DecidableEq κ] (kvs : List (κ × D)) (k : κ) (d : D) : (putKd kvs k d).length ≤ kvs.length + 1 := by
  unfold putKd
  split
  · simp
  · simp
def foldK (kf : D → Key) (vf : D → D) (ds : List D) (kvs : List (Key × D)) : List (Key × D) := ds.foldl (fun acc d => putKd acc (kf d) (vf d)) kvs
theorem compK_fold {t : Tg} {env : En} {st : Store} {mk mv : ME} (kf : D → Key) (kd vf : D → D) : ∀ (ds : List D) (kvs : List (Key × D)), kvs.length + ds.length ≤ big →
    (∀ d ∈ ds, ∃ env1, setT t d env = some env1 ∧ mk env1 st = some (.ok (kd d), st) ∧ mv env1 st = some (.ok (vf d), st) ∧ keyD (kd d) = some (kf d) ∧ isD (vf d) = true) →
    compK t tYesM mk mv env ds kvs st = some (foldK kf vf ds kvs, st)
  | [], kvs, _, _ => rfl
  | d :: ds, kvs, hl, h => by
    obtain ⟨env1, h1, h2, h3, h4, h5⟩ := h d List.mem_cons_self
    have hl2 : kvs.length < big := by simp at hl; omega
    unfold compK
    rw [h1]
    show (match mk env1 st with
      | some (.ok y, st2) => match mv env1 st2 with
        | some (.ok z, st3) => match keyD y with
          | some k => if isD z = true ∧ kvs.length < big then compK t tYesM mk mv env ds (putKd kvs k z) st3 else none
          | none => none
        | _ => none
      | _ => none) = _
    rw [h2]
    dsimp only
    rw [h3]
    dsimp only
    rw [h4]
    dsimp only
    rw [if_pos ⟨h5, hl2⟩]
    have hp := putKd_length kvs (kf d) (vf d)
    rw [compK_fold kf kd vf ds (putKd kvs (kf d) (vf d)) (by simp at hl; omega) fun d hd => h d (List.mem_cons_of_mem _ hd)]
    rfl

theorem v_between {mb : ME} {env : En} {st st1 : Store} {a n c : Int} (h : mb env st = some (.ok (.int n), st1)) : mChain gLe gLe (mC (.int a)) mb (mC (.int c)) env st = some (.ok (.bl (decide (a ≤ n) && decide (n ≤ c))), st1) := by
  unfold mChain
  show bnd (mb env st) _ = _
  rw [h, bnd_ok]
  by_cases q : a ≤ n
  · have e : gLe st1 (.int a) (.int n) = some (.bl true) := by
      show some (D.bl (decide (a ≤ n))) = _
      rw [decide_eq_true q]
    rw [e, decide_eq_true q]
    rfl
  · have e : gLe st1 (.int a) (.int n) = some (.bl false) := by
      show some (D.bl (decide (a ≤ n))) = _
      rw [decide_eq_false q]
    rw [e, decide_eq_false q]
    rfl
/-- a store of lists alone -/
def Plain (st : Store) : Prop := ∀ c ∈ st, ∃ xs, c = .lst xs
theorem Plain.ok {st : Store} (h : Plain st) (n : Nat) : st.all (cellOk n) = true := List.all_eq_true.mpr fun c hc => by
  obtain ⟨xs, rfl⟩ := h c hc
  rfl
theorem fin_data {st : Store} {d : D} (h : st.all (cellOk st.length) = true) (hd : isD d = true) : finD st.length d st = some (d, st) := by
  unfold finD
  rw [List.take_length, if_pos h]
  cases d <;> first | rfl | cases hd
/-- a def that leaves the store as it was -/
theorem mkD_ret {m : MS} {k : Nat} {ds : List D} {st : Store} {d : D} {env' : En} (h : m (startE k ds) st = some (.ret d, env', st)) (hs : st.all (cellOk st.length) = true) (hd : isD d = true) : mkD m k ds st = some (.ok d, st) := by
  unfold mkD
  rw [h]
  dsimp only
  rw [fin_data hs hd]
theorem mkD_err {m : MS} {k : Nat} {ds : List D} {st : Store} {x : Xn} {env' : En} (h : m (startE k ds) st = some (.err x, env', st)) (hs : st.all (cellOk st.length) = true) : mkD m k ds st = some (.err x, st) := by
  unfold mkD
  rw [h]
  dsimp only
  rw [List.take_length, if_pos hs]
theorem Plain.more {st : Store} (h : Plain st) (n c : Nat) : (st ++ [Cell.ins c []]).all (cellOk n) = true := by
  rw [List.all_append, h.ok n]; rfl
theorem get_last {st : Store} {c : Cell} : (st ++ [c])[st.length]? = some c := by simp
theorem set_last {st : Store} {c e : Cell} : (st ++ [c]).set st.length e = st ++ [e] := by simp
theorem take_more {st : Store} {c : Cell} : (st ++ [c]).take st.length = st := by simp
theorem v_new {env : En} {st st1 : Store} {mas : MA} {ds : List D} (h : mas env st = some (.ok ds, st1)) (hk : ds.length ≤ big ∧ ds.all isD = true) : mNew mas env st = some (.ok (.ref st1.length), st1 ++ [.lst ds]) := by
  unfold mNew; rw [h, bnd_ok, if_pos hk]
theorem len_big {α : Type} {l : List α} {n : Nat} (e : l.length = n) (h : n ≤ 1000 := by decide) : l.length ≤ big := by
  unfold big
  omega
theorem fin_ref {n i : Nat} {st : Store} {ds : List D} (h : (st.take n).all (cellOk n) = true) (hi : n ≤ i) (hc : st[i]? = some (.lst ds)) : finD n (.ref i) st = some (.lst ds, st.take n) := by
  unfold finD
  rw [if_pos h]
  dsimp only
  rw [if_neg (Nat.not_lt.mpr hi), hc]
/-- a def that hands back a list that it made -/
theorem mkD_new {m : MS} {k i : Nat} {ds xs : List D} {st st' st2 : Store} {env' : En} (h : m (startE k ds) st = some (.ret (.ref i), env', st')) (hs : st'.take st.length = st2) (hp : Plain st2) (hi : st.length ≤ i) (hc : st'[i]? = some (.lst xs)) : mkD m k ds st = some (.ok (.lst xs), st2) := by
  unfold mkD
  rw [h]
  dsimp only
  rw [fin_ref (by rw [hs]; exact hp.ok _) hi hc, hs]
end M


/-! The M layer: dicts walked, properties, methods, own `in`. -/
namespace M
open PySem PySem.Spec PyProof.Rows L2

/-! ### a dict frozen for good -/
theorem Dic.mut {u : HO} (h : Dic u) : Mut (some u) := by
  rcases h with ⟨_, rfl⟩ | ⟨_, rfl⟩ <;> exact True.intro
theorem lock_ev {G : Gb} {L : Lv} {H : Hp} {st : Store} {d : Addr} {u : HO} {od : Obj} (R : Rep G L st H) (h : off L H d = some u) (hu : Dic u) : Ev L H L (upd H d (.frz od u)) ∧ Rep G L st (upd H d (.frz od u)) ∧ off L (upd H d (.frz od u)) d = some (.frz od u) := by
  obtain ⟨h1, h2⟩ := off_some h
  have ne : ∀ {a : Addr}, (some a ∈ L.c ∨ a ∈ L.h) → a ≠ d := fun {a} z e => h2 (e ▸ z)
  have ev : Ev L H L (upd H d (.frz od u)) :=
    ⟨Le.refl L, fun i a hi h => (no_at hi h).elim, fun b o hb => by
      obtain ⟨b1, b2⟩ := off_some hb
      by_cases e : b = d
      · subst e
        rw [h1] at b1
        cases b1
        exact .inr ⟨hu, od, off_of upd_same b2⟩
      · exact .inl (off_of (by rw [upd_ne e]; exact b1) b2), fun a ha => by
      by_cases e : a = d
      · rw [e, upd_same] at ha; cases ha
      · rw [upd_ne e] at ha; exact ha, rfl, fun a ha => upd_ne (ne (.inr ha))⟩
  exact ⟨ev, ⟨R.len, R.inj, fun i x c hx hc => CellR.ev ev (fun a o ea q => by
    rw [upd_ne (ne (.inl (by rw [ea] at hx; exact List.mem_of_getElem? hx)))]
    exact q) (R.cell i x c hx hc), fun a ha => ⟨by rw [ev.keep a ha]; exact (R.hid a ha).1, (R.hid a ha).2⟩⟩, off_of upd_same h2⟩
/-- a dict's value, the dict frozen from now on -/
def tFz (te : TE) : TE := fun σ H Q => te σ H fun x H1 => ∃ d, x = .ref d ∧ ((∃ o u, H1 d = some (.frz o u) ∧ Q x H1) ∨ ∃ u, H1 d = some u ∧ Dic u ∧ ∀ od, Q x (upd H1 d (.frz od u)))
theorem pe_fz {X : Cx} {e : Expr} {te : TE} (he : PE X e te) : PE X e (tFz te) := ⟨fun pins s σ H Q I h => thn (he.run pins s σ H _ I h) fun u s1 ⟨x, H1, I1, rx, d, ex, q⟩ => by
  rcases q with ⟨o, u', hd, q⟩ | ⟨u', hd, hu, q⟩
  · exact ⟨x, H1, I1, rx, q⟩
  · obtain ⟨od, I2⟩ := I1.lock hd hu.mut
    exact ⟨x, _, I2, rx, q od⟩⟩
def kD : Key → D
  | .inl i => .int i
  | .inr x => .str x
theorem kD_da {G : Gb} {H : Hp} : ∀ k : Key, Da G H (kV k) (kD k)
  | .inl i => .int i
  | .inr x => .str x
theorem kD_das {G : Gb} {H : Hp} : ∀ ks : List Key, Das G H (ks.map kV) (ks.map kD)
  | [] => .nil
  | k :: ks => .cons (kD_da k) (kD_das ks)
def keysK (kvs : List (Key × D)) : List D := kvs.map fun p => kD p.1
def keysT (kvs : List (List Key × D)) : List D := kvs.map fun p => .tup (p.1.map kD)
section
variable {G : Gb} {L : Lv} {H : Hp} {d : Addr} {o : Obj}
theorem DasK.getK : ∀ {ds : List (Key × D)} {vs : List (Key × V)} {i : Nat} {k : Key} {v : V}, DasK G H vs ds → vs[i]? = some (k, v) → ∃ x, ds[i]? = some (k, x) ∧ Da G H v x
  | [], _, i, _, _, h, e => by cases h; simp at e
  | (j, x) :: ds, _, 0, k, v, h, e => by
    cases h with
    | cons h r =>
      simp at e
      obtain ⟨rfl, rfl⟩ := e
      exact ⟨x, rfl, h⟩
  | (j, x) :: ds, _, i + 1, k, v, h, e => by
    cases h with
    | cons h r => exact DasK.getK (i := i) r (by simpa using e)
theorem DasT.getT : ∀ {ds : List (List Key × D)} {vs : List (List Key × V)} {i : Nat} {k : List Key} {v : V}, DasT G H vs ds → vs[i]? = some (k, v) → ∃ x, ds[i]? = some (k, x) ∧ Da G H v x
  | [], _, i, _, _, h, e => by cases h; simp at e
  | (j, x) :: ds, _, 0, k, v, h, e => by
    cases h with
    | cons h r =>
      simp at e
      obtain ⟨rfl, rfl⟩ := e
      exact ⟨x, rfl, h⟩
  | (j, x) :: ds, _, i + 1, k, v, h, e => by
    cases h with
    | cons h r => exact DasT.getT (i := i) r (by simpa using e)
theorem walk_keysK {kvs : List (Key × V)} {ds : List (Key × D)} (h : off L H d = some (.frz o (.dK kvs))) (r : DasK G (off L H) kvs ds) : WalkD G (Itk d o kvs) (keysK ds) L H := by
  have at_ : ∀ L' H', Rl (off L H) (off L' H') → H' d = some (.frz o (.dK kvs)) := fun L' H' e => (off_some (e.frz _ _ _ h)).1
  have hl : (keysK ds).length = kvs.length := by unfold keysK; rw [List.length_map, r.len]
  refine ⟨fun i L' H' e hi => ⟨at_ _ _ e, by rw [← hl]; exact hi⟩, fun i L' H' st x e R hd v H2 y => ?_, fun L' H' e => ⟨at_ _ _ e, by rw [hl]; exact Nat.le_refl _⟩⟩
  obtain ⟨rfl, k, v', hk, rfl⟩ := y
  obtain ⟨x', q1, q2⟩ := DasK.getK r hk
  unfold keysK at hd
  rw [List.getElem?_map, q1] at hd
  cases hd
  exact ⟨Ev.refl _ _, R, kD_da k⟩
theorem walk_keysTD {kvs : List (List Key × V)} {ds : List (List Key × D)} (h : off L H d = some (.frz o (.dT kvs))) (r : DasT G (off L H) kvs ds) : WalkD G (Itkt d o kvs) (keysT ds) L H := by
  have at_ : ∀ L' H', Rl (off L H) (off L' H') → H' d = some (.frz o (.dT kvs)) := fun L' H' e => (off_some (e.frz _ _ _ h)).1
  have hl : (keysT ds).length = kvs.length := by unfold keysT; rw [List.length_map, r.length]
  refine ⟨fun i L' H' e hi => ⟨at_ _ _ e, by rw [← hl]; exact hi⟩, fun i L' H' st x e R hd v H2 y => ?_, fun L' H' e => ⟨at_ _ _ e, by rw [hl]; exact Nat.le_refl _⟩⟩
  obtain ⟨rfl, k, v', q, hk, rfl, hq⟩ := y
  obtain ⟨x', q1, q2⟩ := DasT.getT r hk
  unfold keysT at hd
  rw [List.getElem?_map, q1] at hd
  cases hd
  refine ⟨Ev.refl _ _, R, .tup (off_of hq ?_) (kD_das k)⟩
  rintro (z | z)
  · obtain ⟨j, hj⟩ := mem_live z
    have hl : j < st.length := by rw [← R.len]; exact (List.getElem?_eq_some_iff.mp hj).1
    have cr := R.cell j _ st[j] hj (List.getElem?_eq_getElem hl)
    cases e : st[j] <;> rw [e] at cr <;> simp only [CellR] at cr
    · obtain ⟨vs, q3, _⟩ := cr; rw [hq] at q3; cases q3
    · obtain ⟨vs, q3, _⟩ := cr; rw [hq] at q3; cases q3
    · obtain ⟨vs, q3, _⟩ := cr; rw [hq] at q3; cases q3
    · obtain ⟨dx, vs, q3, _⟩ := cr; rw [hq] at q3; cases q3
  · exact (R.hid q z).1.2 _ hq
end
section
variable {G : Gm} {W : WX} {X : Cx} {tg e : Expr} {ma : ME}
/-- for k in a dict -/
def mItD (m : ME) : MA := fun env st => bnd (m env st) fun d st => match d with
  | .dK kvs => some (.ok (keysK kvs), st)
  | .dT kvs => some (.ok (keysT kvs), st)
  | _ => none
theorem mi_dict (he : PE X e (tM G W ma)) : PI X tg e (tMI G W (mItD ma)) := PIimp (pi_keys (pe_fz he)) fun σ H R q => by
  obtain ⟨L, st, env, r, st', at_, hm, hp⟩ := q
  refine tM_bnd at_ hm (by rintro x rfl; exact hp) fun d st1 v L1 H1 h1 e1 a1 dv => ?_
  split at h1
  · rename_i kvs
    cases h1
    cases dv with
    | d dv =>
      cases dv with
      | @dK a vs _ h r =>
        rcases h with h | ⟨o, h⟩
        · refine ⟨a, rfl, .inr ⟨_, (off_some h).1, .inl ⟨_, rfl⟩, fun od => ?_⟩⟩
          obtain ⟨e2, r2, h2⟩ := lock_ev (od := od) a1.r h (.inl ⟨_, rfl⟩)
          exact ⟨a, od, rfl, .inl ⟨vs, upd_same, hp _ L1 _ (e1.trans e2) r2 (walk_keysK (G := G) h2 (e2.dasK r))⟩⟩
        · exact ⟨a, rfl, .inl ⟨o, _, (off_some h).1, a, o, rfl, .inl ⟨vs, (off_some h).1, hp _ L1 H1 e1 a1.r (walk_keysK (G := G) h r)⟩⟩⟩
  · rename_i kvs
    cases h1
    cases dv with
    | d dv =>
      cases dv with
      | @dT a vs _ h r =>
        rcases h with h | ⟨o, h⟩
        · refine ⟨a, rfl, .inr ⟨_, (off_some h).1, .inr ⟨_, rfl⟩, fun od => ?_⟩⟩
          obtain ⟨e2, r2, h2⟩ := lock_ev (od := od) a1.r h (.inr ⟨_, rfl⟩)
          exact ⟨a, od, rfl, .inr ⟨vs, upd_same, hp _ L1 _ (e1.trans e2) r2 (walk_keysTD (G := G) h2 (e2.dasT r))⟩⟩
        · exact ⟨a, rfl, .inl ⟨o, _, (off_some h).1, a, o, rfl, .inr ⟨vs, (off_some h).1, hp _ L1 H1 e1 a1.r (walk_keysTD (G := G) h r)⟩⟩⟩
  · cases h1
end
end M


/-! The M layer: objects of one's own: methods, properties, `in`. -/
namespace M
open PySem PySem.Spec PyProof.Rows L2
/-- the class and the fields of what a value names -/
def objF (st : Store) : D → Option (Nat × List (Str × D))
  | .obj c fs => some (c, fs)
  | .ref i => match st[i]? with
    | some (.ins c fs) => some (c, fs)
    | _ => none
  | _ => none
theorem DasF.none {G : Gb} {H : Hp} {f : Str} : ∀ {ds : List (Str × D)} {vs : List (Str × V)}, DasF G H vs ds → ds.lookup f = none → vs.lookup f = none
  | [], _, h, _ => by cases h; rfl
  | (k, x) :: ds, _, h, e => by
    cases h with
    | cons h r =>
      rw [List.lookup_cons] at e ⊢
      by_cases q : (f == k) = true
      · rw [q] at e; cases e
      · rw [Bool.not_eq_true] at q
        rw [q] at e ⊢
        exact DasF.none r e
theorem VasF.none {G : Gb} {L : Lv} {H : Hp} {f : Str} : ∀ {vs : List (Str × V)} {ds : List (Str × D)}, VasF G L H vs ds → ds.lookup f = none → vs.lookup f = none
  | _, _, .nil, _ => rfl
  | _, _, @VasF.cons _ _ _ k v vs x ds h r, e => by
    rw [List.lookup_cons] at e ⊢
    by_cases q : (f == k) = true
    · rw [q] at e; cases e
    · rw [Bool.not_eq_true] at q
      rw [q] at e ⊢
      exact VasF.none r e
theorem obj_at {G : Gb} {L : Lv} {H : Hp} {st : Store} {v : V} {o : D} {c : Nat} {fs : List (Str × D)} (R : Rep G L st H) (h : Va G L (off L H) v o) (e : objF st o = some (c, fs)) :
    ∃ a dx vs, v = .ref a ∧ H a = some (.ins (G.cA c) dx vs) ∧ ∀ f, fs.lookup f = none → vs.lookup f = none := by
  unfold objF at e
  split at e
  · cases e
    cases h with
    | d h =>
      cases h with
      | obj h r => exact ⟨_, _, _, rfl, (off_some h).1, fun f => DasF.none r⟩
  · rename_i i
    split at e
    · rename_i c' fs' hi
      cases e
      obtain ⟨a, rfl, hL, cr⟩ := cell_of R h hi (fun z => nomatch z)
      obtain ⟨dx, vs, q, r⟩ := cr
      exact ⟨a, dx, vs, rfl, q, fun f => VasF.none r⟩
    · cases e
  · cases e
/-! ### methods -/
def mMth (cid : Nat) (m : Str) (n : Nat) (c : Call) (mo : ME) (ma : MA) : ME := fun env st => bnd (mo env st) fun o st => match objF st o with
  | some (k, fs) => if k = cid ∧ fs.lookup m = none then bnd (ma env st) fun ds st => if ds.length + 1 = n then c (o :: ds) st else none else none
  | none => none
def tMethS (C : Addr) (m : Str) (sp : Sp) (E : L2.St → XK) (ta : TE) (t : TA) : TE := fun σ H Q => ta σ H fun x H1 => ∃ a dx fs, x = .ref a ∧ H1 a = some (.ins C dx fs) ∧ fs.lookup m = none ∧ t σ H1 fun vs H2 => sp (x :: vs) H2 Q (E σ)
section
variable {X : Cx} {CX : CXT} {k : Nat} {C f : Addr} {fd : FuncData} {ps : List Str} {sp : Sp} {E : L2.St → XK} {m : Str} {apos pos : Pos} {o e : Expr} {es : List Expr} {ta : TE} {t : TA}
theorem pe_methM {pl : Sem Bool} (he : PE X o ta) (c : Cls X.K C) (hm : Meth X.K C m f) (F : FnOk X.prog X.w X.K X.mg X.base CX k f fd ps sp) (hr : Room k X.A) (hb : Binds X.K fd ps []) (hx : ∀ σ, PassesAt CX X σ (E σ)) (ha : PA X (e :: es) t)
    (h1 : starEach (e :: es) X.env = (false, eval e X.env) :: starEach es X.env := by rfl) (h2 : (backTo pos (starEach es X.env)).any (·.1) = false := by rfl)
    (h3 : eval (.Call (.Attribute o m apos) (e :: es) [] pos) X.env = (do
      let w ← eval o X.env
      standAt apos.atName
      let (g, first) ← holding [w] (getMethod w m pl)
      callWith pos g first (backTo pos (starEach (e :: es) X.env)) (backToKw pos (keywordEach [] X.env))) := by rfl) :
    PE X (.Call (.Attribute o m apos) (e :: es) [] pos) (tMethS C m sp E ta t) := by
  refine ⟨fun pins s σ H Q I h => ?_⟩
  refine PySem.W.methodCall_KW (pl := pl) (thn (he.run pins s σ H _ I h) fun u s1 ⟨x, H1, I1, rx, a, dx, fs, ex, ea, l, q⟩ => ?_) h3
  subst ex
  obtain rfl : u = Value.ref a := rx
  refine getmeth_ok I1 ea c hm l (PySem.W.callWith_K (first := [.ref a]) (h₀ := X.base) I.ok.mod.kin hm.kp (thn (ha.run pos pins s1 σ H1 _ I1 q) fun us s2 ⟨vs, H2, I2, r, q2⟩ => ⟨I2.kIn, ?_⟩) h1 h2)
  exact run_fnS (us := .ref a :: us) (vs := .ref a :: vs) F hr hb (hx σ) I2 (.cons rfl r) q2
theorem pe_methM0 {pl : Sem Bool} (he : PE X o ta) (c : Cls X.K C) (hm : Meth X.K C m f) (F : FnOk X.prog X.w X.K X.mg X.base CX k f fd ps sp) (hr : Room k X.A) (hb : Binds X.K fd ps []) (hx : ∀ σ, PassesAt CX X σ (E σ))
    (h3 : eval (.Call (.Attribute o m apos) [] [] pos) X.env = (do
      let w ← eval o X.env
      standAt apos.atName
      let (g, first) ← holding [w] (getMethod w m pl)
      callWith pos g first (backTo pos (starEach [] X.env)) (backToKw pos (keywordEach [] X.env))) := by rfl) :
    PE X (.Call (.Attribute o m apos) [] [] pos) (tMethS C m sp E ta tNil) := by
  refine ⟨fun pins s σ H Q I h => ?_⟩
  refine PySem.W.methodCall_KW (pl := pl) (thn (he.run pins s σ H _ I h) fun u s1 ⟨x, H1, I1, rx, a, dx, fs, ex, ea, l, q⟩ => ?_) h3
  subst ex
  obtain rfl : u = Value.ref a := rx
  exact getmeth_ok I1 ea c hm l (PySem.W.callWith_K0 (first := [.ref a]) I1.kIn hm.kp (run_fnS (us := [.ref a]) (vs := [.ref a]) F hr hb (hx σ) I1 (.cons rfl .nil) q))
end
section
variable {X : Cx} {G : Gm} {W : WX} {k n cid : Nat} {f p : Addr} {fd : FuncData} {ps : List Str} {c : Call} {m : Str} {apos pos : Pos} {o e : Expr} {es : List Expr} {mo : ME} {mas : MA}
theorem t_mth {σ : L2.St} {H : Hp} {Q : VK} (q : tM G W (mMth cid m n c mo mas) σ H Q) : tMethS (G.cA cid) m (spM G.toGb c n) (WE W) (tM G W mo) (tMA G W mas) σ H Q := by
  obtain ⟨L, st, env, r, st', at_, hmm, hp⟩ := q
  refine tM_bnd at_ hmm hp.err fun d st1 v L1 H1 h1 e1 a1 dv => ?_
  split at h1
  · rename_i kk fs hob
    split at h1
    · rename_i hk
      obtain ⟨rfl, hk2⟩ := hk
      obtain ⟨a, dx, vs, rfl, ha, hno⟩ := obj_at a1.r dv hob
      refine ⟨a, dx, vs, rfl, ha, hno _ hk2, ?_⟩
      refine tMA_bnd a1 h1 (hp.ev e1).err fun ds st2 us L2 H2 h2 e2 a2 du => ?_
      split at h2
      · rename_i hn
        have hv : Vas G.toGb L2 (off L2 H2) (.ref a :: us) (d :: ds) := .cons (e2.va dv) du
        exact sp_of a2 hv hn h2 ((hp.ev e1).ev e2)
      · cases h2
    · cases h1
  · cases h1
theorem m_meth (tk : Takes X W) (hK : G.K = X.K) (cl : Cls X.K (G.cA cid)) (hm : Meth X.K (G.cA cid) m f) (F : FnOk X.prog X.w X.K X.mg X.base (L2.CX X.prog X.w) k f fd ps (spM G.toGb c n)) (hr : Room k X.A) (hb : Binds X.K fd ps [])
    (ho : PE X o (tM G W mo)) (ha : PA X (e :: es) (tMA G W mas)) {pl : Sem Bool}
    (h1 : starEach (e :: es) X.env = (false, eval e X.env) :: starEach es X.env := by rfl) (h2 : (backTo pos (starEach es X.env)).any (·.1) = false := by rfl)
    (h3 : eval (.Call (.Attribute o m apos) (e :: es) [] pos) X.env = (do
      let w ← eval o X.env
      standAt apos.atName
      let (g, first) ← holding [w] (getMethod w m pl)
      callWith pos g first (backTo pos (starEach (e :: es) X.env)) (backToKw pos (keywordEach [] X.env))) := by rfl) :
    PE X (.Call (.Attribute o m apos) (e :: es) [] pos) (tM G W (mMth cid m n c mo mas)) :=
  PEimp (pe_methM ho cl hm F hr hb (fun σ => passAt tk σ) ha h1 h2 h3) fun σ H Q q => t_mth q
theorem m_meth0 (tk : Takes X W) (hK : G.K = X.K) (cl : Cls X.K (G.cA cid)) (hm : Meth X.K (G.cA cid) m f) (F : FnOk X.prog X.w X.K X.mg X.base (L2.CX X.prog X.w) k f fd ps (spM G.toGb c n)) (hr : Room k X.A) (hb : Binds X.K fd ps [])
    (ho : PE X o (tM G W mo)) {pl : Sem Bool}
    (h3 : eval (.Call (.Attribute o m apos) [] [] pos) X.env = (do
      let w ← eval o X.env
      standAt apos.atName
      let (g, first) ← holding [w] (getMethod w m pl)
      callWith pos g first (backTo pos (starEach [] X.env)) (backToKw pos (keywordEach [] X.env))) := by rfl) :
    PE X (.Call (.Attribute o m apos) [] [] pos) (tM G W (mMth cid m n c mo mNil)) :=
  PEimp (pe_methM0 ho cl hm F hr hb (fun σ => passAt tk σ) h3) fun σ H Q q => by
    obtain ⟨L, st, env, r, st', at_, hmm, hp⟩ := q
    refine tM_bnd at_ hmm hp.err fun d st1 v L1 H1 h1 e1 a1 dv => ?_
    split at h1
    · rename_i kk fs hob
      split at h1
      · rename_i hk
        obtain ⟨rfl, hk2⟩ := hk
        obtain ⟨a, dx, vs, rfl, ha, hno⟩ := obj_at a1.r dv hob
        refine ⟨a, dx, vs, rfl, ha, hno _ hk2, ?_⟩
        have h2 : (if ([] : List D).length + 1 = n then c [d] st1 else none) = some (r, st') := h1
        split at h2
        · rename_i hn
          exact sp_of a1 (va := .cons dv .nil) hn h2 (hp.ev e1)
        · cases h2
      · cases h1
    · cases h1
/-! ### properties -/
def mProp (cid : Nat) (c : Call) (mo : ME) : ME := fun env st => bnd (mo env st) fun o st => match objF st o with
  | some (k, _) => if k = cid then (match c [o] st with
    | some (.ok d, st) => some (.ok d, st)
    | _ => none) else none
  | none => none
theorem m_prop (cl : Cls X.K (G.cA cid)) (hp : PropOf X.K (G.cA cid) m p f) (F : FnOk X.prog X.w X.K X.mg X.base (L2.CX X.prog X.w) k f fd ps (spM G.toGb c 1)) (hr : Room (k + 1) X.A) (hb : Binds X.K fd ps []) (ho : PE X o (tM G W mo))
    (h3 : attributeBase o m X.env (eval o X.env) = eval o X.env := by rfl) : PE X (.Attribute o m pos) (tM G W (mProp cid c mo)) :=
  PEimp (pe_prop ho cl hp F hr hb .nil passL h3) fun σ H Q q => by
    obtain ⟨L, st, env, r, st', at_, hmm, hpp⟩ := q
    refine tM_bnd at_ hmm hpp.err fun d st1 v L1 H1 h1 e1 a1 dv => ?_
    split at h1
    · rename_i kk fs hob
      split at h1
      · rename_i hk
        subst hk
        obtain ⟨a, dx, vs, rfl, ha, hno⟩ := obj_at a1.r dv hob
        refine ⟨a, dx, vs, rfl, ha, ?_⟩
        split at h1
        · rename_i z st2 hc
          cases h1
          exact ⟨rfl, L1, st1, [d], .ok z, _, a1.r, .cons dv .nil, hc, fun v L' H' e r va => hpp v L' H' (e1.trans e) r va⟩
        · cases h1
      · cases h1
    · cases h1
end
/-! ### x in o, o's class with __contains__ -/
section
variable {M : Model} {A : Around} {E : Value → Shared → Prop} {s : Shared} {K : PySem.W.Frag} {x C f : Addr} {ox : Obj} {od : Option Obj} {v : Value}
theorem own_has {Q : Bool → Shared → Prop} (X : K.In s.heap) (I : PySem.W.InstAt s.heap x ox C od) (hs : PySem.W.findIn K (.ref C) "__contains__" = some (some (.ref f))) (hf : PySem.W.isFn K (.ref f) = true)
    (h : wpAny M A (call (.ref f) [.ref x, v]) (fun r s' => wpAny M A (truthy r) Q E s') E s) : wpAny M A (contains (.ref x) v) Q E s := by
  unfold contains
  refine wpAny_holding (wpAny_bind (wpAny_bind (I.type.here ((PySem.W.looks_findIn X hs).here ?_))))
  rw [if_neg (by simp)]
  exact wpAny_bind (PySem.W.unlessNone_K X I hs hf h)
end
def rInO (C : Addr) (sp : Sp) : R2 := fun x y H Q => ∃ a dx fs, y = .ref a ∧ H a = some (.ins C dx fs) ∧ sp [.ref a, x] H (fun v H' => ∃ b, v = .bl b ∧ Q (.bl b) H') E0
def rNotInO (C : Addr) (sp : Sp) : R2 := fun x y H Q => ∃ a dx fs, y = .ref a ∧ H a = some (.ins C dx fs) ∧ sp [.ref a, x] H (fun v H' => ∃ b, v = .bl b ∧ Q (.bl (!b)) H') E0
section
variable {X : Cx} {k : Nat} {C f : Addr} {fd : FuncData} {ps : List Str} {sp : Sp}
theorem has_run {pins : List (Addr × Obj)} {s : Shared} {σ : L2.St} {H : Hp} {x : V} {u : Value} {a dx : Addr} {fs : List (Str × V)} {g : Bool → Bool} {Q : VK} (hm : Meth X.K C "__contains__" f) (F : FnOk X.prog X.w X.K X.mg X.base (L2.CX X.prog X.w) k f fd ps sp) (hr : Room k X.A) (hb : Binds X.K fd ps [])
    (I : Inv X pins σ H s) (rx : RelV x u) (ea : H a = some (.ins C dx fs)) (q : sp [.ref a, x] H (fun v H' => ∃ b, v = .bl b ∧ Q (.bl (g b)) H') E0) :
    wpAny (model X.prog X.w) X.A (contains (.ref a) u) (fun b s' => EP X pins σ Q (.bool (g b)) s') X.xe s := by
  obtain ⟨mA, O, _⟩ := ins_get I.hok ea
  obtain ⟨od, J, _⟩ := O.look
  refine own_has I.kIn J hm.at_ hm.fn (wpAny_mono (run_fn (us := [.ref a, u]) (vs := [.ref a, x]) F hr hb .nil passL I (.cons rfl (.cons rx .nil)) q) (fun r s' hh => ?_) fun _ _ z => z)
  obtain ⟨v, H', I', rv, b, rfl, q'⟩ := hh
  obtain rfl : r = Value.bool b := rv
  exact wpAny_pure ⟨.bl (g b), H', I', rfl, q'⟩
theorem op_inO (hm : Meth X.K C "__contains__" f) (F : FnOk X.prog X.w X.K X.mg X.base (L2.CX X.prog X.w) k f fd ps sp) (hr : Room k X.A) (hb : Binds X.K fd ps []) : OpR X (compareOp .In) (rInO C sp) := by
  intro pins s σ H x y v u Q I rx ry h
  obtain ⟨a, dx, fs, rfl, ea, q⟩ := h
  obtain rfl : u = Value.ref a := ry
  exact wpAny_bind (wpAny_mono (has_run (g := fun b => b) hm F hr hb I rx ea q) (fun b s' z => wpAny_pure z) fun _ _ z => z)
theorem op_notInO (hm : Meth X.K C "__contains__" f) (F : FnOk X.prog X.w X.K X.mg X.base (L2.CX X.prog X.w) k f fd ps sp) (hr : Room k X.A) (hb : Binds X.K fd ps []) : OpR X (compareOp .NotIn) (rNotInO C sp) := by
  intro pins s σ H x y v u Q I rx ry h
  obtain ⟨a, dx, fs, rfl, ea, q⟩ := h
  obtain rfl : u = Value.ref a := ry
  exact wpAny_bind (wpAny_mono (has_run (g := fun b => !b) hm F hr hb I rx ea q) (fun b s' z => wpAny_pure z) fun _ _ z => z)
end
/-- an operator that may change the store -/
def mOpS (g : Store → D → D → Option (D × Store)) (ma mb : ME) : ME := fun env st => bnd (ma env st) fun x st => bnd (mb env st) fun y st => match g st x y with
  | some (z, st) => some (.ok z, st)
  | none => none
def R2MS (G : Gb) (r : R2) (g : Store → D → D → Option (D × Store)) : Prop := ∀ (L : Lv) (st st' : Store) (H : Hp) (x y : V) (d e z : D) (Q : VK), Rep G L st H → Va G L (off L H) x d → Va G L (off L H) y e → g st d e = some (z, st') →
  (∀ v L' H', Ev L H L' H' → Rep G L' st' H' → Va G L' (off L' H') v z → Q v H') → r x y H Q
def gInO (cid : Nat) (c : Call) (neg : Bool) (st : Store) (x y : D) : Option (D × Store) := match objF st y with
  | some (k, _) => if k = cid then (match c [y, x] st with
    | some (.ok (.bl b), st) => some (.bl (b != neg), st)
    | _ => none) else none
  | none => none
theorem r2_inO {G : Gb} {cid : Nat} {c : Call} : R2MS G (rInO (G.cA cid) (spM G c 2)) (gInO cid c false) := fun L st st' H x y d e z Q R dx dy hz k => by
  unfold gInO at hz
  split at hz
  · rename_i kk fs hob
    split at hz
    · rename_i hk
      subst hk
      split at hz
      · rename_i b st2 hc
        cases hz
        obtain ⟨a, ddx, vs, rfl, ha, _⟩ := obj_at R dy hob
        refine ⟨a, ddx, vs, rfl, ha, rfl, L, st, [e, d], .ok (.bl b), _, R, .cons dy (.cons dx .nil), hc, fun v L' H' e r va => ⟨b, va.bl_inv, k _ L' H' e r (.d ?_)⟩⟩
        rw [Bool.bne_false]
        exact .bl b
      · cases hz
    · cases hz
  · cases hz
theorem r2_notInO {G : Gb} {cid : Nat} {c : Call} : R2MS G (rNotInO (G.cA cid) (spM G c 2)) (gInO cid c true) := fun L st st' H x y d e z Q R dx dy hz k => by
  unfold gInO at hz
  split at hz
  · rename_i kk fs hob
    split at hz
    · rename_i hk
      subst hk
      split at hz
      · rename_i b st2 hc
        cases hz
        obtain ⟨a, ddx, vs, rfl, ha, _⟩ := obj_at R dy hob
        refine ⟨a, ddx, vs, rfl, ha, rfl, L, st, [e, d], .ok (.bl b), _, R, .cons dy (.cons dx .nil), hc, fun v L' H' e r va => ⟨b, va.bl_inv, k _ L' H' e r (.d ?_)⟩⟩
        rw [Bool.bne_true]
        exact .bl _
      · cases hz
    · cases hz
  · cases hz
section
variable {X : Cx} {G : Gm} {W : WX} {a b : Expr} {pos : Pos} {op : CmpOp} {r : R2} {g : Store → D → D → Option (D × Store)} {ma mb : ME}
theorem t_opS {σ : L2.St} {H : Hp} {Q : VK} (hr : R2MS G.toGb r g) (h : tM G W (mOpS g ma mb) σ H Q) : tOp r (tM G W ma) (tM G W mb) σ H Q := by
  obtain ⟨L, st, env, rr, st', at_, hm, hp⟩ := h
  refine tM_bnd at_ hm hp.err fun d st1 v L1 H1 h1 e1 a1 dv => ?_
  refine tM_bnd a1 h1 (hp.ev e1).err fun e st2 u L2 H2 h2 e2 a2 du => ?_
  split at h2
  · rename_i z st3 hz
    cases h2
    exact hr L2 st2 _ H2 v u d e z Q a2.r (e2.va dv) du hz fun v' L' H' e3 r3 va => hp v' L' H' ((e1.trans e2).trans e3) r3 va
  · cases h2
theorem m_cmpS (ho : OpR X (compareOp op) r) (hr : R2MS G.toGb r g) (ha : PE X a (tM G W ma)) (hb : PE X b (tM G W mb)) (hm : behindInMarks op b = false) : PE X (.Compare a [op] [b] pos) (tM G W (mOpS g ma mb)) :=
  PEimp (pe_cmpR ho ha hb hm) fun σ H Q q => t_opS hr q
theorem m_tcmpS (ho : OpR X (compareOp op) r) (hr : R2MS G.toGb r g) (ha : PE X a (tM G W ma)) (hb : PE X b (tM G W mb)) (hm : behindInMarks op b = false) : PT X (.Compare a [op] [b] pos) (tMT G W (mVal (mOpS g ma mb))) :=
  PTimp (pt_cmpR ho ha hb hm) fun σ H Q q => by
    have h := t_val q
    have h2 := t_opS (G := G) (W := W) hr h
    exact h2
end
end M


/-! The M layer: in, is None, sum, max, dict reads. -/
namespace M
open PySem PySem.Spec PyProof.Rows L2
theorem eqv_any (d : D) (hd : okD 8 d = true) : ∀ ds : List D, ds.all (okD 7) = true → (pyL ds).any (fun z => z.eqv (py d)) = ds.any fun z => eqvD z d
  | [], _ => by simp [pyL]
  | x :: xs, h => by
    rw [List.all_cons, Bool.and_eq_true] at h
    have up : ∀ (n : Nat) (y : D), okD n y = true → okD (n + 1) y = true := by
      intro n
      induction n with
      | zero => intro y hy; cases y <;> simp [okD] at hy ⊢ <;> exact hy
      | succ n ih =>
        intro y hy
        cases y <;> simp [okD] at hy ⊢ <;> first | exact hy | exact fun z hz => ih z (hy z hz)
    simp only [pyL, List.any_cons]
    rw [eqv_py 8 x d (up 7 x h.1) hd, eqv_any d hd xs h.2]
/-- x in a list -/
def gInD (neg : Bool) (st : Store) (x y : D) : Option D := match rd st y with
  | .lst ds => if okD 8 (rd st x) = true ∧ okD 8 (.lst ds) = true then some (.bl ((ds.any fun z => eqvD z (rd st x)) != neg)) else none
  | _ => none
theorem r2_inD {G : Gb} : R2M G (rInD G.K) (gInD false) := fun L st H x y d e z Q R dx dy hz k => by
  unfold gInD at hz
  split at hz
  · rename_i ds hds
    split at hz
    · rename_i hk
      cases hz
      have a := rd_da R dx (ok_isD hk.1)
      have b := rd_da R dy (by rw [hds]; rfl)
      rw [hds] at b
      refine ⟨py (rd st d), pyL ds, da_dp 8 _ _ hk.1 a, da_dp 8 _ _ hk.2 b, shaped_ok hk.1, shaped_ok hk.2, ?_⟩
      rw [eqv_any _ hk.1 ds (by simpa [okD] using hk.2)]
      rw [Bool.bne_false] at k
      exact r_same (.bl _) R k
    · cases hz
  · cases hz
theorem r2_notInD {G : Gb} : R2M G (rNotInD G.K) (gInD true) := fun L st H x y d e z Q R dx dy hz k => by
  unfold gInD at hz
  split at hz
  · rename_i ds hds
    split at hz
    · rename_i hk
      cases hz
      have a := rd_da R dx (ok_isD hk.1)
      have b := rd_da R dy (by rw [hds]; rfl)
      rw [hds] at b
      refine ⟨py (rd st d), pyL ds, da_dp 8 _ _ hk.1 a, da_dp 8 _ _ hk.2 b, shaped_ok hk.1, shaped_ok hk.2, ?_⟩
      rw [eqv_any _ hk.1 ds (by simpa [okD] using hk.2)]
      rw [Bool.bne_true] at k
      exact r_same (.bl _) R k
    · cases hz
  · cases hz
/-! is None -/
def isNon : D → Bool
  | .non => true
  | _ => false
def gIsN (neg : Bool) (st : Store) (x y : D) : Option D := match y with
  | .non => some (.bl (isNon x != neg))
  | _ => none
theorem Va.isNon {G : Gb} {L : Lv} {H : Hp} {v : V} {d : D} (h : Va G L H v d) : decide (v = .non) = isNon d := by
  cases h with
  | d h => cases h <;> rfl
  | ref _ _ => rfl
theorem r2_isN {G : Gb} : R2M G (fun x y H Q => y = .non ∧ Q (.bl (decide (x = .non))) H) (gIsN false) := fun L st H x y d e z Q R dx dy hz k => by
  unfold gIsN at hz
  split at hz
  · cases hz
    refine ⟨dy.non_inv, ?_⟩
    rw [dx.isNon]
    rw [Bool.bne_false] at k
    exact r_same (.bl _) R k
  · cases hz
theorem r2_notN {G : Gb} : R2M G (fun x y H Q => y = .non ∧ Q (.bl (!decide (x = .non))) H) (gIsN true) := fun L st H x y d e z Q R dx dy hz k => by
  unfold gIsN at hz
  split at hz
  · cases hz
    refine ⟨dy.non_inv, ?_⟩
    rw [dx.isNon]
    rw [Bool.bne_true] at k
    exact r_same (.bl _) R k
  · cases hz
/-! sum, max of a list of ints -/
def intsD : List D → Option (List Int)
  | [] => some []
  | .int i :: r => (intsD r).map (i :: ·)
  | _ => none
theorem intsD_vs {G : Gb} {H : Hp} : ∀ (ds : List D) (vs : List V) (ns : List Int), Das G H vs ds → intsD ds = some ns → vs = ns.map V.int
  | [], _, _, h, e => by cases h; cases e; rfl
  | d :: ds, _, ns, h, e => by
    cases d with
    | int i =>
      cases h with
      | cons h r =>
        cases h
        unfold intsD at e
        cases q : intsD ds with
        | none => rw [q] at e; cases e
        | some ms =>
          rw [q] at e
          cases e
          rw [intsD_vs ds _ ms r q]
          rfl
    | _ => cases e
def gSum (st : Store) : List D → Option D
  | [x] => match rd st x with
    | .lst ds => (intsD ds).map fun ns => .int ns.sum
    | _ => none
  | _ => none
theorem rc_sum {G : Gb} : RCM G (rSum G.K) gSum := fun L st H xs ds z Q R dv hz k => by
  unfold gSum at hz
  split at hz
  · rename_i x
    obtain ⟨v, rfl, hv⟩ := Das.one dv
    split at hz
    · rename_i es hes
      cases q : intsD es with
      | none => rw [q] at hz; cases hz
      | some ns =>
        rw [q] at hz
        cases hz
        obtain ⟨a, vs, rfl, ha, r⟩ := rd_off R hv hes
        obtain rfl := intsD_vs es vs ns r q
        exact ⟨a, ns, rfl, .inl (.inl ha), r_same (.int _) R k⟩
    · cases hz
  · cases hz
def maxI : Int → List Int → Int
  | m, [] => m
  | m, n :: r => maxI (if n > m then n else m) r
theorem maxI_le : ∀ (r : List Int) (m : Int), m ≤ maxI m r ∧ ∀ n ∈ r, n ≤ maxI m r
  | [], m => ⟨Int.le_refl _, fun _ h => nomatch h⟩
  | n :: r, m => by
    obtain ⟨h1, h2⟩ := maxI_le r (if n > m then n else m)
    have b : m ≤ (if n > m then n else m) ∧ n ≤ (if n > m then n else m) := by split <;> omega
    refine ⟨Int.le_trans b.1 h1, fun x hx => ?_⟩
    rcases List.mem_cons.mp hx with rfl | hx
    · exact Int.le_trans b.2 h1
    · exact h2 x hx
theorem maxI_mem : ∀ (r : List Int) (m : Int), maxI m r = m ∨ maxI m r ∈ r
  | [], m => .inl rfl
  | n :: r, m => by
    rcases maxI_mem r (if n > m then n else m) with h | h
    · show maxI (if n > m then n else m) r = m ∨ maxI (if n > m then n else m) r ∈ n :: r
      rw [h]
      split
      · exact .inr List.mem_cons_self
      · exact .inl rfl
    · exact .inr (List.mem_cons_of_mem _ h)
def gMaxL (st : Store) : List D → Option D
  | [x] => match rd st x with
    | .lst ds => match intsD ds with
      | some (n :: r) => some (.int (maxI n r))
      | _ => none
    | _ => none
  | _ => none
theorem rc_maxL {G : Gb} : RCM G (rMax G.K) gMaxL := fun L st H xs ds z Q R dv hz k => by
  unfold gMaxL at hz
  split at hz
  · rename_i x
    obtain ⟨v, rfl, hv⟩ := Das.one dv
    split at hz
    · rename_i es hes
      split at hz
      · rename_i n r q
        cases hz
        obtain ⟨a, vs, rfl, ha, rr⟩ := rd_off R hv hes
        obtain rfl := intsD_vs es vs _ rr q
        refine ⟨a, n :: r, rfl, .inl (.inl ha), Nat.succ_pos _, fun m hm hy => ?_⟩
        have e : m = maxI n r := by
          have h1 : m ≤ maxI n r := by
            rcases List.mem_cons.mp hm with rfl | hm
            · exact (maxI_le r m).1
            · exact (maxI_le r n).2 m hm
          have h2 : maxI n r ≤ m := by
            rcases maxI_mem r n with q2 | q2
            · rw [q2]; exact hy n List.mem_cons_self
            · exact hy _ (List.mem_cons_of_mem _ q2)
          omega
        subst e
        exact r_same (.int _) R k
      · cases hz
    · cases hz
  · cases hz
/-! ### d[k] of a dict -/
def valKd {κ : Type} [DecidableEq κ] (kvs : List (κ × D)) (k : κ) : Option D := (kvs.find? fun kv => decide (kv.1 = k)).map (·.2)
section
variable {G : Gb} {H : Hp}
theorem DasK.val (k : Key) : ∀ {ds : List (Key × D)} {vs : List (Key × V)} {d : D}, DasK G H vs ds → valKd ds k = some d → ∃ v, valV vs k = some v ∧ Da G H v d
  | [], _, _, h, e => by cases e
  | (j, x) :: ds, _, d, h, e => by
    cases h with
    | @cons _ v vs _ _ h r =>
      by_cases q : j = k
      · unfold valKd at e
        rw [List.find?_cons_of_pos (by simpa using q)] at e
        cases e
        exact ⟨v, valV_pos q, h⟩
      · unfold valKd at e
        rw [List.find?_cons_of_neg (by simpa using q)] at e
        obtain ⟨u, h1, h2⟩ := DasK.val k r e
        exact ⟨u, by rw [valV_neg q]; exact h1, h2⟩
theorem DasT.val (k : List Key) : ∀ {ds : List (List Key × D)} {vs : List (List Key × V)} {d : D}, DasT G H vs ds → valKd ds k = some d → ∃ v, valV vs k = some v ∧ Da G H v d
  | [], _, _, h, e => by cases e
  | (j, x) :: ds, _, d, h, e => by
    cases h with
    | @cons _ v vs _ _ h r =>
      by_cases q : j = k
      · unfold valKd at e
        rw [List.find?_cons_of_pos (by simpa using q)] at e
        cases e
        exact ⟨v, valV_pos q, h⟩
      · unfold valKd at e
        rw [List.find?_cons_of_neg (by simpa using q)] at e
        obtain ⟨u, h1, h2⟩ := DasT.val k r e
        exact ⟨u, by rw [valV_neg q]; exact h1, h2⟩
end
def keysD : List D → Option (List Key)
  | [] => some []
  | d :: ds => match keyD d, keysD ds with
    | some k, some ks => some (k :: ks)
    | _, _ => none
theorem keysD_vs {G : Gb} {H : Hp} : ∀ (ds : List D) (vs : List V) (ks : List Key), Das G H vs ds → keysD ds = some ks → vs = ks.map kV
  | [], _, _, h, e => by cases h; cases e; rfl
  | d :: ds, _, ks, h, e => by
    cases h with
    | cons h r =>
      unfold keysD at e
      cases q1 : keyD d with
      | none => rw [q1] at e; cases e
      | some k =>
        cases q2 : keysD ds with
        | none => rw [q1, q2] at e; cases e
        | some ks2 =>
          rw [q1, q2] at e
          cases e
          rw [keyD_kV (L := ⟨[], []⟩) (.d h) q1, keysD_vs ds _ ks2 r q2]
          rfl
def gDGet (st : Store) (x y : D) : Option D := match x with
  | .dK kvs => (keyD y).bind (valKd kvs)
  | .dT kvs => match y with
    | .tup ks => (keysD ks).bind (valKd kvs)
    | _ => none
  | _ => none
section
variable {G : Gm} {W : WX} {X : Cx} {o i : Expr} {pos : Pos} {mo mi : ME}
theorem m_dget (hu : X.A.units + 1 < cLine) (ho : PE X o (tM G W mo)) (hi : PE X i (tM G W mi)) (hs : NoSl i) : PE X (.Subscript o i pos) (tM G W (mOp gDGet mo mi)) :=
  PEimp (pe_dget hu ho hi hs) fun σ H Q q => by
    obtain ⟨L, st, env, r, st', at_, hm, hp⟩ := q
    refine tM_bnd at_ hm hp.err fun d st1 v L1 H1 h1 e1 a1 dv => ?_
    refine tM_bnd a1 h1 (hp.ev e1).err fun k st2 u L2 H2 h2 e2 a2 du => ?_
    split at h2
    · rename_i z hz
      injection h2 with h2
      injection h2 with hA hB
      subst hA
      subst hB
      unfold gDGet at hz
      split at hz
      · rename_i kvs
        cases q : keyD k with
        | none => rw [q] at hz; cases hz
        | some kk =>
          rw [q] at hz
          have dv2 := e2.va dv
          cases dv2 with
          | d dv2 =>
            cases dv2 with
            | @dK a vs _ h r =>
              obtain ⟨w, w1, w2⟩ := DasK.val kk r hz
              exact ⟨a, w, rfl, .inl ⟨vs, kk, h.elim (fun h => .inl (off_some h).1) fun ⟨ob, h⟩ => .inr ⟨ob, (off_some h).1⟩, keyD_kV du q, w1.symm⟩, hp w L2 H2 (e1.trans e2) a2.r (.d w2)⟩
      · rename_i kvs
        split at hz
        · rename_i ks
          cases q : keysD ks with
          | none => rw [q] at hz; cases hz
          | some kk =>
            rw [q] at hz
            have dv2 := e2.va dv
            obtain ⟨b, us, rfl, hb, rb⟩ := du.tup_inv
            obtain rfl := keysD_vs ks us kk rb q
            cases dv2 with
            | d dv2 =>
              cases dv2 with
              | @dT a vs _ h r =>
                obtain ⟨w, w1, w2⟩ := DasT.val kk r hz
                exact ⟨a, w, rfl, .inr ⟨vs, kk, b, h.elim (fun h => .inl (off_some h).1) fun ⟨ob, h⟩ => .inr ⟨ob, (off_some h).1⟩, rfl, (off_some hb).1, w1.symm⟩, hp w L2 H2 (e1.trans e2) a2.r (.d w2)⟩
        · cases hz
      · cases hz
    · cases h2
end
end M


/-! The M layer: list.index, xs[::-1]. -/
namespace M
open PySem PySem.Spec PyProof.Rows L2
/-- the first place of what is equal -/
def placeD (d : D) : List D → Nat → Option Nat
  | [], _ => none
  | x :: xs, i => if eqvD x d = true then some i else placeD d xs (i + 1)
theorem okUp : ∀ (n : Nat) (y : D), okD n y = true → okD (n + 1) y = true
  | 0, y, hy => by cases y <;> simp [okD] at hy ⊢ <;> exact hy
  | n + 1, y, hy => by cases y <;> simp [okD] at hy ⊢ <;> first | exact hy | exact fun z hz => okUp n z (hy z hz)
theorem placeD_at {d : D} (hd : okD 8 d = true) : ∀ (ds : List D) (i j : Nat), ds.all (okD 7) = true → placeD d ds i = some j →
    ∃ m z, j = i + m ∧ (pyL ds)[m]? = some z ∧ z.eqv (py d) = true ∧ ∀ (k : Nat) (z' : PyData), k < m → (pyL ds)[k]? = some z' → z'.eqv (py d) = false
  | [], _, _, _, e => by cases e
  | x :: xs, i, j, hk, e => by
    rw [List.all_cons, Bool.and_eq_true] at hk
    have here := eqv_py 8 x d (okUp 7 x hk.1) hd
    unfold placeD at e
    split at e
    · rename_i q
      cases e
      exact ⟨0, py x, rfl, by simp [pyL], here.trans q, fun _ _ h => absurd h (Nat.not_lt_zero _)⟩
    · rename_i q
      obtain ⟨m, z, rfl, h1, h2, h3⟩ := placeD_at hd xs (i + 1) j hk.2 e
      refine ⟨m + 1, z, by omega, by simpa [pyL] using h1, h2, fun k z' hkm hz => ?_⟩
      cases k with
      | zero =>
        simp [pyL] at hz
        subst hz
        rw [here]
        simpa using q
      | succ k => exact h3 k z' (by omega) (by simpa [pyL] using hz)
def gIndexD (st : Store) (o : D) (ds : List D) : Option (D × Store) := match rd st o, ds with
  | .lst xs, [d] => if okD 8 (.lst xs) = true ∧ okD 8 (rd st d) = true then (placeD (rd st d) xs 0).map fun j => (.int (j : Nat), st) else none
  | _, _ => none
theorem rm_index {G : Gb} : RMM G (rIndexD G.K) gIndexD := fun L st st' H x xs d ds z Q R dx dxs hz k => by
  unfold gIndexD at hz
  split at hz
  · rename_i ys y hys
    split at hz
    · rename_i hk
      cases q : placeD (rd st y) ys 0 with
      | none => rw [q] at hz; cases hz
      | some j =>
        rw [q] at hz
        cases hz
        obtain ⟨v, rfl, hv⟩ := Das.one dxs
        have a := rd_da R dx (by rw [hys]; rfl)
        rw [hys] at a
        have b := rd_da R hv (ok_isD hk.2)
        obtain ⟨m, w, e, h1, h2, h3⟩ := placeD_at hk.2 ys 0 j (by simpa [okD] using hk.1) q
        obtain rfl : j = m := by omega
        obtain ⟨p, vs, rfl, _, _⟩ := a.sq
        exact ⟨p, v, py (rd st y), pyL ys, j, w, rfl, rfl, da_dp 8 _ _ hk.1 a, da_dp 8 _ _ hk.2 b, shaped_ok hk.1, shaped_ok hk.2, h1, h2, h3, r_same (.int _) R k⟩
    · cases hz
  · cases hz
def mRev (m : ME) : ME := fun env st => bnd (m env st) fun d st => match rd st d with
  | .lst xs => some (.ok (.lst xs.reverse), st)
  | _ => none
section
variable {G : Gm} {W : WX} {X : Cx} {e : Expr} {me : ME} {k : Nat} {p1 p2 p3 pos : Pos}
theorem m_rev (he : PE X e (tM G W me)) : PE X (.Subscript e (.Slice none none (some (.UnaryOp .USub (.Constant (.int 1) k p1) p2)) p3) pos) (tM G W (mRev me)) := PEimp (pe_revL he) fun σ H Q q => by
  obtain ⟨L, st, env, r, st', at_, hm, hp⟩ := q
  refine tM_bnd at_ hm hp.err fun d st1 v L1 H1 h1 e1 a1 dv => ?_
  split at h1
  · rename_i xs hx
    cases h1
    obtain ⟨a, vs, rfl, ha, rr⟩ := rd_off a1.r dv hx
    refine ⟨a, vs, rfl, .inl (.inl ha), fun p hpn => ?_⟩
    have e2 := Ev.new1 (G := G) a1.r (o := .lst vs.reverse) hpn
    exact hp _ _ _ (e1.trans e2) (Rep.new1 a1.r hpn) (.d (.lst (Ev.off_new a1.r hpn) (e2.das rr.reverse)))
  · cases h1
end
theorem hu65 {k : Nat} {A : Around} (r : Room k A) : A.units + 65 < cLine := by have := r.un; omega
/-! ### isinstance of own classes: the facts -/
theorem kit_tagCls {K : PySem.W.Frag} {C : Addr} {T : String} (ic : PySem.W.isClsIn K C = true) (ty : PySem.W.typeIn K (.ref C) = some (.type "type")) (h : PySem.W.subIn K (.type T) (.ref C) = some false) : PySem.W.kitOne K (.type T) (.ref C) = some false := by
  have e : ((PySem.W.clsIn K C).isSome && PySem.W.typeIn K (.ref C) == some (.type "type")) = true := by
    rw [show (PySem.W.clsIn K C).isSome = true from ic, ty]
    rfl
  show (if ((PySem.W.clsIn K C).isSome && PySem.W.typeIn K (.ref C) == some (.type "type")) = true then PySem.W.subIn K (.type T) (.ref C) else none) = some false
  rw [if_pos e, h]
theorem kit_clsTag {K : PySem.W.Frag} {C : Addr} {T : String} (m : PySem.W.kitMeta T = true) (h : PySem.W.subIn K (.ref C) (.type T) = some false) : PySem.W.kitOne K (.ref C) (.type T) = some false := by
  show (if PySem.W.kitMeta T = true then PySem.W.subIn K (.ref C) (.type T) else none) = some false
  rw [if_pos m, h]
/-- what is known of one class for isinstance -/
structure KOne (K : PySem.W.Frag) (C : Addr) : Prop where
  cl : Cls K C
  ha : PySem.W.findIn K (.ref C) "__class__" = some (some (.builtin "object.__class__"))
  hm : PySem.W.mroIn K C (.type "object") = some true
  bo : ∀ t : Tag, PySem.W.kitOne K (.type t.name) (.ref C) = some false
  ob : ∀ t : Tag, PySem.W.kitOne K (.ref C) (.type t.name) = some false
theorem kOne_of {K : PySem.W.Frag} {C : Addr} (cl : Cls K C) (ha : PySem.W.findIn K (.ref C) "__class__" = some (some (.builtin "object.__class__"))) (hm : PySem.W.mroIn K C (.type "object") = some true)
    (ic : PySem.W.isClsIn K C = true) (ty : PySem.W.typeIn K (.ref C) = some (.type "type"))
    (b1 : PySem.W.subIn K (.type "NoneType") (.ref C) = some false) (b2 : PySem.W.subIn K (.type "bool") (.ref C) = some false) (b3 : PySem.W.subIn K (.type "int") (.ref C) = some false) (b4 : PySem.W.subIn K (.type "str") (.ref C) = some false)
    (b5 : PySem.W.subIn K (.type "list") (.ref C) = some false) (b6 : PySem.W.subIn K (.type "tuple") (.ref C) = some false) (b7 : PySem.W.subIn K (.type "dict") (.ref C) = some false)
    (c1 : PySem.W.subIn K (.ref C) (.type "NoneType") = some false) (c2 : PySem.W.subIn K (.ref C) (.type "bool") = some false) (c3 : PySem.W.subIn K (.ref C) (.type "int") = some false) (c4 : PySem.W.subIn K (.ref C) (.type "str") = some false)
    (c5 : PySem.W.subIn K (.ref C) (.type "list") = some false) (c6 : PySem.W.subIn K (.ref C) (.type "tuple") = some false) (c7 : PySem.W.subIn K (.ref C) (.type "dict") = some false) : KOne K C :=
  ⟨cl, ha, hm, fun t => by cases t <;> exact kit_tagCls ic ty (by assumption), fun t => by cases t <;> exact kit_clsTag (by decide +kernel) (by assumption)⟩
end M


/-! The M layer: list(d), dict(d) of dicts whose keys are ints and texts. -/
namespace M
open PySem PySem.Spec PyProof.Rows L2
theorem keysK_das {G : Gb} {H : Hp} : ∀ {ds : List (Key × D)} {vs : List (Key × V)}, DasK G H vs ds → Das G H (vs.map fun kv => kV kv.1) (keysK ds)
  | [], _, h => by cases h; exact .nil
  | (k, x) :: ds, _, h => by
    cases h with
    | cons h r => exact .cons (kD_da k) (keysK_das r)
def rListD : List V → Hp → VK → Prop := fun xs H Q => ∃ (a : Addr) (kvs : List (Key × V)), xs = [.ref a] ∧ Rd H a (.dK kvs) ∧ ∀ p, H p = none → Q (.ref p) (upd H p (.lst (kvs.map fun kv => kV kv.1)))
theorem call_listK {X : Cx} (hc : X.calm = true) : CallR X (.type "list") rListD := call_listD hc
def gListD (_ : Store) : List D → Option D
  | [.dK kvs] => some (.lst (keysK kvs))
  | _ => none
theorem Va.dK_inv {G : Gb} {L : Lv} {H : Hp} {v : V} {kvs : List (Key × D)} (h : Va G L H v (.dK kvs)) : ∃ a vs, v = .ref a ∧ Rd H a (.dK vs) ∧ DasK G H vs kvs := by
  cases h with
  | d h =>
    cases h with
    | dK h r => exact ⟨_, _, rfl, h, r⟩
theorem rd_see {L : Lv} {H : Hp} {a : Addr} {u : HO} (h : Rd (off L H) a u) : Rd H a u := h.elim (fun h => .inl (off_some h).1) fun ⟨o, h⟩ => .inr ⟨o, (off_some h).1⟩
theorem rc_listD {G : Gb} : RCM G rListD gListD := fun L st H xs ds z Q R dv hz k => by
  unfold gListD at hz
  split at hz
  · rename_i kvs
    cases hz
    obtain ⟨v, rfl, hv⟩ := Das.one dv
    obtain ⟨a, vs, rfl, h, r⟩ := hv.dK_inv
    refine ⟨a, vs, rfl, rd_see h, fun p hp => ?_⟩
    exact r_new R hp (.lst (Ev.off_new R hp) (Das.mono (new_same R hp) _ _ (keysK_das r))) k
  · cases hz
def rDictD : List V → Hp → VK → Prop := fun xs H Q => ∃ (a : Addr) (kvs : List (Key × V)), xs = [.ref a] ∧ Rd H a (.dK kvs) ∧ ∀ p, H p = none → Q (.ref p) (upd H p (.dK kvs))
theorem call_dictK {X : Cx} : CallR X (.type "dict") rDictD := call_dictD
def gDictD (_ : Store) : List D → Option D
  | [.dK kvs] => some (.dK kvs)
  | _ => none
theorem rc_dictD {G : Gb} : RCM G rDictD gDictD := fun L st H xs ds z Q R dv hz k => by
  unfold gDictD at hz
  split at hz
  · rename_i kvs
    cases hz
    obtain ⟨v, rfl, hv⟩ := Das.one dv
    obtain ⟨a, vs, rfl, h, r⟩ := hv.dK_inv
    refine ⟨a, vs, rfl, rd_see h, fun p hp => ?_⟩
    exact r_new R hp (.dK (.inl (Ev.off_new R hp)) (DasK.mono (new_same R hp) _ _ r)) k
  · cases hz
end M


/-! The M layer: list comprehensions of two clauses. -/
namespace M
open PySem PySem.Spec PyProof.Rows L2
def comp2D (t : Tg) (mt : MT) (mi1 : MA) (t1 : Tg) (mt1 : MT) (me : ME) (vs1 : List Nat) (env : En) : List D → Store → Option (List D × Store)
  | [], st => some ([], st)
  | d :: ds, st => match setT t d env with
    | none => none
    | some env1 => match mt env1 st with
      | some (.ok true, st1) => match mi1 env1 st1 with
        | some (.ok ds1, st2) => match compD t1 mt1 me (wipeE env1 vs1) ds1 st2 with
          | some (zs, st3) => match comp2D t mt mi1 t1 mt1 me vs1 env ds st3 with
            | some (ys, st4) => some (zs ++ ys, st4)
            | none => none
          | none => none
        | _ => none
      | some (.ok false, st1) => comp2D t mt mi1 t1 mt1 me vs1 env ds st1
      | _ => none
def mLc2 (mi : MA) (t : Tg) (mt : MT) (mi1 : MA) (t1 : Tg) (mt1 : MT) (me : ME) (vs vs1 : List Nat) : ME := fun env st => bnd (mi env st) fun ds st => match comp2D t mt mi1 t1 mt1 me vs1 (wipeE env vs) ds st with
  | some (ys, st2) => if ys.length ≤ big then some (.ok (.lst ys), st2) else none
  | none => none
section
variable {G : Gm} {W W0 : WX} {X : Cx} {elt tg iter tg1 iter1 : Expr} {ifs ifs1 : List Expr} {scope : Scope} {own : List (Str × Nat)} {pos : Pos} {mi mi1 : MA} {g g1 : TG} {t t1 : Tg} {mt mt1 : MT} {me : ME}
/-- the inner loop, from a point at which p holds what is gathered -/
theorem t_inner {vs1 : List Nat} (hF : Flat G) (ht1 : TgOk G g1 t1) (hsl1 : ∀ i ∈ t1.slots, i ∈ vs1) {σ0 σ2 : L2.St} {env1 : En} {L1 L5 : Lv} {H1 H5 : Hp} {p : Addr} {J1 : It} {ds1 ys0 rest : List D} {st5 stE : Store} {Nx : Hp → Prop} {acc0 : List V} {accD0 zs0 : List D}
    (P1 : G.P σ0 (off L1 H1)) (hpn : H1 p = none) (wk : WalkD G J1 ds1 L5 H5)
    (done : ∀ L H acc accD, Ev (L1.hide p) (upd H1 p (.lst acc)) L H → Rep G L stE H → Das G (off L H) acc accD → accD ++ rest = ys0 → Nx H)
    (hbig : ys0.length ≤ big) (e0 : Ev (L1.hide p) (upd H1 p (.lst acc0)) L5 H5) (r0 : Rep G L5 st5 H5) (en0 : EnvR G L5 (off L5 H5) σ2 env1) (d0 : Das G (off L5 H5) acc0 accD0)
    (c0 : compD t1 mt1 me (wipeE env1 vs1) ds1 st5 = some (zs0, stE)) (h0 : accD0 ++ (zs0 ++ rest) = ys0) :
    ∃ W1 : Nat → Nat → Hp → Prop, (∃ m, W1 0 m H5) ∧ ∀ (j k : Nat) (H : Hp), W1 j k H → J1.stop j H ∧ Nx H ∨ J1.go j H ∧ ∃ Nx1 : Hp → Prop, (∀ H', Nx1 H' → ∃ k', k' < k ∧ W1 (j + 1) k' H') ∧
      ∀ x H', J1.yld j H x H' → g1 x (L2.wipe σ2 vs1) H' fun σ3 H5 => L2.wipe σ3 vs1 = L2.wipe σ2 vs1 ∧ (tMT G W0 mt1) σ3 H5 fun b H6 => if b = true then (tM G W0 me) σ3 H6 fun y H7 => ∃ acc, H7 p = some (.lst acc) ∧ acc.length < sizeLine ∧ Nx1 (upd H7 p (.lst (acc ++ [y]))) else Nx1 H6 := by
  have inh : p ∈ (L1.hide p).h := List.mem_cons_self
  let At1 : Nat → Hp → Prop := fun j H => ∃ L st acc accD zs, Ev (L1.hide p) (upd H1 p (.lst acc)) L H ∧ Rep G L st H ∧ EnvR G L (off L H) σ2 env1 ∧ Rl (off L5 H5) (off L H) ∧ Das G (off L H) acc accD ∧ compD t1 mt1 me (wipeE env1 vs1) (ds1.drop j) st = some (zs, stE) ∧ accD ++ (zs ++ rest) = ys0
  refine ⟨fun j k H => j ≤ ds1.length ∧ k = ds1.length - j ∧ At1 j H, ⟨ds1.length, Nat.zero_le _, rfl, L5, st5, acc0, accD0, zs0, e0, r0, en0, Rl.of_same (Same.refl _), d0, c0, h0⟩, ?_⟩
  rintro j k H ⟨hj, rfl, L, st, acc, accD, zs, e, r, en, rl, da, hc, heq⟩
  by_cases hlt : j < ds1.length
  · have hd : ds1[j]? = some ds1[j] := List.getElem?_eq_getElem hlt
    rw [List.drop_eq_getElem_cons hlt] at hc
    refine .inr ⟨wk.go j L H rl hlt, fun H' => At1 (j + 1) H', fun H' a => ⟨ds1.length - (j + 1), by omega, hlt, rfl, a⟩, fun x H' y => ?_⟩
    obtain ⟨e2, r2, dx⟩ := wk.yld j L H st _ rl r hd x H' y
    have e02 := e.trans e2
    unfold compD at hc
    cases hz : setT t1 ds1[j] (wipeE env1 vs1) with
    | none => rw [hz] at hc; cases hc
    | some env3 =>
      rw [hz] at hc
      dsimp only at hc
      have en2 : EnvR G L (off L H') σ2 env1 := en.ev e2
      have pp : ∀ τ, G.P τ (off L H') := fun τ => hF _ _ _ (G.up _ _ _ ((Rl.of_same (hide_same (L := L1) hpn)).trans e02.same) P1)
      refine ht1.run L H' st x _ _ _ env3 _ ⟨en2.wipe vs1, r2, pp _⟩ (.d dx) hz fun σ4 a4 hw => ⟨by rw [hw vs1 hsl1, wipe_wipe vs1 vs1 fun _ h => h], ?_⟩
      cases hb : mt1 env3 st with
      | none => rw [hb] at hc; cases hc
      | some q =>
        obtain ⟨rb, st4⟩ := q
        rw [hb] at hc
        cases rb with
        | err _ => cases hc
        | ok b =>
          refine ⟨L, st, env3, _, st4, a4, hb, fun L4 H4 e4 r4 => ?_⟩
          have e24 := e2.trans e4
          cases b with
          | false =>
            dsimp only at hc ⊢
            rw [if_neg Bool.false_ne_true]
            exact ⟨L4, st4, acc, accD, zs, e.trans e24, r4, en.ev e24, rl.trans e24.same, e24.das da, hc, heq⟩
          | true =>
            dsimp only at hc ⊢
            rw [if_pos rfl]
            cases hv : me env3 st4 with
            | none => rw [hv] at hc; cases hc
            | some q =>
              obtain ⟨rv, st6⟩ := q
              rw [hv] at hc
              cases rv with
              | err _ => cases hc
              | ok yD =>
                dsimp only at hc
                split at hc
                · rename_i hpure
                  split at hc
                  · rename_i zs2 stF hc2
                    cases hc
                    refine ⟨L4, st4, env3, _, st6, a4.ev e4 r4, hv, fun v L7 H7 e7 r7 dv => ?_⟩
                    have e27 := e24.trans e7
                    have eall := e.trans e27
                    have hp7 : p ∈ L7.h := by rw [eall.hh]; exact inh
                    have hat : H7 p = some (.lst acc) := by rw [eall.keep p inh, upd_same]
                    have short : acc.length < sizeLine := by
                      have q1 := da.length
                      have q2 := congrArg List.length heq
                      rw [sizeLine_eq]
                      unfold big at hbig
                      simp at q2
                      omega
                    refine ⟨acc, hat, short, L7, st6, acc ++ [v], accD ++ [yD], zs2, eall.hupd, r7.hupd hp7, ?_, ?_, ?_, hc2, by rw [← heq]; simp⟩
                    · rw [off_hid hp7]; exact en.ev e27
                    · rw [off_hid hp7]; exact rl.trans e27.same
                    · rw [off_hid hp7]; exact (e27.das da).append (.cons (dv.da hpure) .nil)
                  · cases hc
                · cases hc
  · obtain rfl : j = ds1.length := by omega
    rw [List.drop_length] at hc
    cases hc
    exact .inl ⟨wk.stop L H rl, done L H acc accD e r da (by simpa using heq)⟩
theorem t_lc2 {vs vs1 : List Nat} (hF : Flat G) (ht : TgOk G g t) (hsl : ∀ i ∈ t.slots, i ∈ vs) (ht1 : TgOk G g1 t1) (hsl1 : ∀ i ∈ t1.slots, i ∈ vs1) {σ : L2.St} {H : Hp} {Q : VK} (q : tM G W (mLc2 mi t mt mi1 t1 mt1 me vs vs1) σ H Q) :
    tLc2 (tMI G W mi) g (tMT G W0 mt) (tMI G W0 mi1) g1 (tMT G W0 mt1) (tM G W0 me) vs vs1 σ H Q := by
  obtain ⟨L, st, env, r, st', at_, hm, hp⟩ := q
  rcases bnd_cases hm with ⟨ds, st1, h1, h2⟩ | ⟨x, h1, rfl⟩
  · refine ⟨L, st, env, _, st1, at_, h1, fun J L1 H1 e1 r1 wk p hpn => ?_⟩
    split at h2
    · rename_i ys0 stF hc
      split at h2
      · rename_i hbig
        cases h2
        have a1 := at_.ev e1 r1
        let At0 : Nat → Hp → Prop := fun i H' => ∃ L2' st2 acc accD ys, Ev (L1.hide p) (upd H1 p (.lst acc)) L2' H' ∧ Rep G L2' st2 H' ∧ Das G (off L2' H') acc accD ∧ comp2D t mt mi1 t1 mt1 me vs1 (wipeE env vs) (ds.drop i) st2 = some (ys, st') ∧ accD ++ ys = ys0
        refine ⟨fun i m H' => i ≤ ds.length ∧ m = ds.length - i ∧ At0 i H', ⟨ds.length, Nat.zero_le _, rfl, L1.hide p, st1, [], [], ys0, Ev.refl _ _, r1.hide hpn, .nil, hc, rfl⟩, ?_⟩
        rintro i m H2 ⟨hi, rfl, L2', st2, acc, accD, ys, e2, r2, dacc, hcc, heq⟩
        have sm := (Rl.of_same (hide_same (L := L1) (o := .lst acc) hpn)).trans e2.same
        by_cases hlt : i < ds.length
        · have hd : ds[i]? = some ds[i] := List.getElem?_eq_getElem hlt
          rw [List.drop_eq_getElem_cons hlt] at hcc
          refine .inr ⟨wk.go i L2' H2 sm hlt, fun H' => At0 (i + 1) H', fun H' a => ⟨ds.length - (i + 1), by omega, hlt, rfl, a⟩, fun x H3 y => ?_⟩
          obtain ⟨e3, r3, dx⟩ := wk.yld i L2' H2 st2 _ sm r2 hd x H3 y
          have e13 := e2.trans e3
          unfold comp2D at hcc
          cases hz : setT t ds[i] (wipeE env vs) with
          | none => rw [hz] at hcc; cases hcc
          | some env3 =>
            rw [hz] at hcc
            dsimp only at hcc
            have seen := (Rl.of_same (hide_same (L := L1) (o := .lst acc) hpn)).trans e13.same
            have en1 : EnvR G L2' (off L2' H3) σ env := ⟨a1.e.len, fun j d q => let ⟨v, q1, q2⟩ := a1.e.at_ j d q; ⟨v, q1, Va.mono (L := L1) (⟨e13.le.len, e13.le.at_⟩ : Le L1 L2') seen q2⟩⟩
            refine ht.run L2' H3 st2 x _ _ _ env3 _ ⟨en1.wipe vs, r3, hF _ _ _ (G.up _ _ _ seen a1.p)⟩ (.d dx) hz fun σ4 a4 hw => ⟨by rw [hw vs hsl, wipe_wipe vs vs fun _ h => h], ?_⟩
            cases hb : mt env3 st2 with
            | none => rw [hb] at hcc; cases hcc
            | some q =>
              obtain ⟨rb, st4⟩ := q
              rw [hb] at hcc
              cases rb with
              | err _ => cases hcc
              | ok b =>
                refine ⟨L2', st2, env3, _, st4, a4, hb, fun L4 H4 e4 r4 => ?_⟩
                cases b with
                | false =>
                  dsimp only at hcc ⊢
                  rw [if_neg Bool.false_ne_true]
                  exact ⟨L4, st4, acc, accD, ys, e13.trans e4, r4, e4.das (e3.das dacc), hcc, heq⟩
                | true =>
                  dsimp only at hcc ⊢
                  rw [if_pos rfl]
                  cases hv : mi1 env3 st4 with
                  | none => rw [hv] at hcc; cases hcc
                  | some q =>
                    obtain ⟨rv, st5⟩ := q
                    rw [hv] at hcc
                    cases rv with
                    | err _ => cases hcc
                    | ok ds1 =>
                      dsimp only at hcc
                      split at hcc
                      · rename_i zs stE hc1
                        split at hcc
                        · rename_i ys2 stG hc2
                          cases hcc
                          have a5 := a4.ev e4 r4
                          refine ⟨L4, st4, env3, _, st5, a5, hv, fun J1 L5 H5 e5 r5 wk1 => ?_⟩
                          have e15 := (e13.trans e4).trans e5
                          exact t_inner (σ0 := σ) hF ht1 hsl1 a1.p hpn wk1 (fun L H acc' accD' eA rA dA hA => ⟨L, stE, acc', accD', ys2, eA, rA, dA, hc2, hA⟩) hbig e15 r5 (a5.e.ev e5) (e5.das (e4.das (e3.das dacc))) hc1 heq
                        · cases hcc
                      · cases hcc
        · obtain rfl : i = ds.length := by omega
          rw [List.drop_length] at hcc
          cases hcc
          rw [List.append_nil] at heq
          subst heq
          exact .inl ⟨wk.stop L2' H2 sm, hp _ (L2'.back L1) H2 (e1.trans (e2.back r1 hpn)) (Rep.back e2 r2) (.d (.lst (back_at e2 r2 r1 hpn) (Das.mono (Rl.of_same (back_same e2)) _ _ dacc)))⟩
      · cases h2
    · cases h2
  · exact ⟨L, st, env, _, st', at_, h1, hp⟩
abbrev InBlk (X : Cx) (scope : Scope) (P : Cx → Prop) : Prop := ∀ (s : Shared) (H : Hp) (C : Addr) (cl : List (Str × Addr)) (fp : List Addr), P (X.blk s H scope (compEnvC scope cl C X.env) fp)
theorem m_lc2 {vs1 : List Nat} (hc : X.calm = true) (hN : X.N.Nodup) (hi : PI X tg iter (tMI G W mi)) (ok : BlkOk X.N X.env.scope scope own) (hv : ∀ i ∈ vs1, i ∈ own.map (·.2)) (hg : InBlk X scope fun Y => PG Y tg g) (hT : InBlk X scope fun Y => PTs Y ifs (tMT G W0 mt))
    (hi1 : InBlk X scope fun Y => PI Y tg1 iter1 (tMI G W0 mi1)) (hg1 : InBlk X scope fun Y => PG Y tg1 g1) (hT1 : InBlk X scope fun Y => PTs Y ifs1 (tMT G W0 mt1)) (he : InBlk X scope fun Y => PE Y elt (tM G W0 me))
    (ht : TgOk G g t) (hsl : ∀ i ∈ t.slots, i ∈ own.map (·.2)) (ht1 : TgOk G g1 t1) (hsl1 : ∀ i ∈ t1.slots, i ∈ vs1)
    (f1 : ∀ x, foldedSetIterable iter X.env x = pure x := by intro _; rfl) (f2 : ∀ env x, foldedSetIterable iter1 env x = pure x := by intro _ _; rfl) (hF : Flat G := by exact fun _ _ _ h => h) :
    PE X (.ListComp elt [⟨tg, iter, ifs, 0⟩, ⟨tg1, iter1, ifs1, 0⟩] scope pos) (tM G W (mLc2 mi t mt mi1 t1 mt1 me (own.map (·.2)) vs1)) :=
  PEimp (pe_lc2 hc hN hi ok hv hg hT hi1 hg1 hT1 he f1 f2) fun _ _ _ => t_lc2 hF ht hsl ht1 hsl1
end
end M


/-! The M layer: k in a dict. -/
namespace M
open PySem PySem.Spec PyProof.Rows L2
theorem DasK.isSome {G : Gb} {H : Hp} (k : Key) : ∀ {ds : List (Key × D)} {vs : List (Key × V)}, DasK G H vs ds → (valV vs k).isSome = (valKd ds k).isSome
  | [], _, h => by cases h; rfl
  | (j, x) :: ds, _, h => by
    cases h with
    | cons h r =>
      by_cases q : j = k
      · rw [valV_pos q]
        unfold valKd
        rw [List.find?_cons_of_pos (by simpa using q)]
        rfl
      · rw [valV_neg q, DasK.isSome k r]
        unfold valKd
        rw [List.find?_cons_of_neg (by simpa using q)]
def gDIn (_ : Store) (y x : D) : Option D := match x with
  | .dK kvs => (keyD y).map fun k => .bl (valKd kvs k).isSome
  | _ => none
section
variable {G : Gm} {W : WX} {X : Cx} {o i : Expr} {pos : Pos} {mo mi : ME}
theorem t_din {σ : L2.St} {H : Hp} {Q : VK} (q : tM G W (mOp gDIn mi mo) σ H Q) : tDIn (tM G W mi) (tM G W mo) σ H Q := by
  obtain ⟨L, st, env, r, st', at_, hm, hp⟩ := q
  refine tM_bnd at_ hm hp.err fun y st1 v L1 H1 h1 e1 a1 dv => ?_
  refine tM_bnd a1 h1 (hp.ev e1).err fun x st2 u L2 H2 h2 e2 a2 du => ?_
  split at h2
  · rename_i z hz
    injection h2 with h2
    injection h2 with hA hB
    subst hA
    subst hB
    unfold gDIn at hz
    split at hz
    · rename_i kvs
      cases q : keyD y with
      | none => rw [q] at hz; cases hz
      | some k =>
        rw [q] at hz
        cases hz
        obtain ⟨a, vs, rfl, h, rr⟩ := du.dK_inv
        refine ⟨a, valV vs k, rfl, .inl ⟨vs, k, rd_see h, keyD_kV dv q, rfl⟩, ?_⟩
        rw [rr.isSome k]
        exact hp _ L2 H2 (e1.trans e2) a2.r (.d (.bl _))
    · cases hz
  · cases h2
theorem m_din (hu : X.A.units + 1 < cLine) (hi : PE X i (tM G W mi)) (ho : PE X o (tM G W mo)) (hm : behindInMarks .In o = false := by rfl) : PE X (.Compare i [.In] [o] pos) (tM G W (mOp gDIn mi mo)) :=
  PEimp (pe_cmp (pc_din hu hi ho) hm) fun _ _ _ => t_din
theorem m_tdin (hu : X.A.units + 1 < cLine) (hi : PE X i (tM G W mi)) (ho : PE X o (tM G W mo)) (hm : behindInMarks .In o = false := by rfl) : PT X (.Compare i [.In] [o] pos) (tMT G W (mVal (mOp gDIn mi mo))) :=
  PTimp (pt_cmp (pc_din hu hi ho) hm) fun σ H Q q => by
    have h := t_val q
    exact t_din (G := G) (W := W) h
end
end M


/-! dicts whose keys are tuples: comprehensions, stores, len, list -/
namespace L2
open PySem PySem.Spec PyProof.Rows
section
variable {X : Cx} {pins : List (Addr × Obj)} {σ : St} {H H' : Hp} {s : Shared} {a : Addr} {y v : V} {u r : Value} {E : Value → Shared → Prop} {Q : Unit → Shared → Prop}
/-- the raw store of a comprehension, keys of either kind -/
theorem put_raw (hu : X.A.units + 1 < cLine) (I : Inv X pins σ H s) (g : DPut H a y v H') (ry : RelV y u) (rv : RelV v r) (k : ∀ s', Inv X pins σ H' s' → Q () s') :
    wpAny (model X.prog X.w) X.A (dictSet a u r) Q E s := by
  rcases g with ⟨kvs, key, at_, rfl, room, rfl⟩ | ⟨kvs, key, b, at_, rfl, kt, room, rfl⟩
  · exact d_dictSet I at_ room ry rv k
  · obtain rfl : u = .ref b := ry
    obtain ⟨few, low, rows, rel, dict⟩ := dt_of I.hok at_
    have same := rel.length
    refine wpAny_dictSet_heap (hsz := by omega) (show X.A.units < cLine by omega) (key_of I.hok kt) dict fun h1 dict1 but => k _ ?_
    obtain ⟨ob, es, ep, there, ex, dat, ent, _, nd⟩ := dict1
    have grown := length_putK kvs key v
    refine d_write I (by rw [at_]; trivial) but ⟨ob, there⟩ ⟨by omega, low, _, (rel.put key kt rv).keeps fun c ys ec => ?_, ob, es, ep, there, ex, dat, ent, nd⟩
    rwa [upd_ne (ne_of ec at_ nofun)]
end
/-- {k: v for ..}: the new dict begins as o₀, each turn puts by DPut -/
def tDcP (o₀ : HO) (wi : TI) (g : TG) (tt : TT) (tk tv : TE) (vs : List Nat) : TE := fun σ H Q => wi σ H fun J H1 => ∀ D, H1 D = none → ∃ W : Nat → Nat → Hp → Prop, (∃ m, W 0 m (upd H1 D o₀)) ∧ ∀ i m H, W i m H →
  (J.stop i H ∧ Q (.ref D) H) ∨ (J.go i H ∧ ∃ Nx : Hp → Prop, (∀ H', Nx H' → ∃ m', m' < m ∧ W (i + 1) m' H') ∧ ∀ x H', J.yld i H x H' → g x (wipe σ vs) H' fun σ2 H2 => wipe σ2 vs = wipe σ vs ∧ tt σ2 H2 fun b H3 =>
    if b = true then tk σ2 H3 fun y H4 => tv σ2 H4 fun z H5 => ∃ H6, DPut H5 D y z H6 ∧ Nx H6 else Nx H3)
section
variable {X : Cx} {o₀ : HO} {kx vx tg iter : Expr} {ifs : List Expr} {scope : Scope} {own : List (Str × Nat)} {pos : Pos} {wi : TI} {g : TG} {tt : TT} {tk tv : TE}
/-- the comprehension itself; done: what follows when the dict is whole -/
theorem dcP_core {pins : List (Addr × Obj)} {s : Shared} {σ : St} {H : Hp} {Q : VK} {at_ : Pos} {use : Option (Value → Sem Unit)} {R : Value → Shared → Prop} (hu : X.A.units + 1 < cLine) (fresh : ∀ (Y : Cx) (h : Heap), sysModules < h.objs.size → ∀ H, ObjOk Y.prog Y.w H (h.push { cls := .type "dict", data := .dict #[] }) h.objs.size o₀)
    (calm : X.calm = true) (nd : X.N.Nodup) (I : Inv X pins σ H s) (hi : PI X tg iter wi) (ok : BlkOk X.N X.env.scope scope own)
    (hg : M.InBlk X scope fun Y => PG Y tg g) (ht : M.InBlk X scope fun Y => PTs Y ifs tt) (hk : M.InBlk X scope fun Y => PE Y kx tk) (he : M.InBlk X scope fun Y => PE Y vx tv)
    (hs : ∀ x, foldedSetIterable iter X.env x = pure x) (want : tDcP o₀ wi g tt tk tv (own.map (·.2)) σ H Q)
    (done : ∀ D C s' m H', Inv X pins σ H' s' → Q (.ref D) H' → s'.heap.Ns C m → FpOk X pins H' C → compPost (model X.prog X.w) X.A X.xe use R (.ref D) C (.ok .next) s') :
    wpAny (model X.prog X.w) X.A (comprehension (.DictComp kx vx [⟨tg, iter, ifs, 0⟩] scope pos) scope X.env at_ newDict false (eval iter X.env) use) R X.xe s := by
  have caught : ∀ y ∈ scope.names, y.2 = .free → ∃ c, X.env.cells.lookup y.1 = some c := fun y hy e => (ok.free y hy e).elim (fun z => I.ok.has _ (.inl z)) fun z => I.ok.has _ (.inr z)
  refine wpAny_comprehension_free (use := use) rfl hs (closure_ok caught) ok.kind (fun y hy e => (ok.uniq y hy).trans (congrArg some e)) (thn (hi.run pins s σ H _ I want) fun src sa began => thn began ?_)
  rintro _ sb ⟨it, fp, tn, J, Hb, rfl, Ib, T, at0, free, go⟩
  refine wpAny_newObj_type (newEnv_comp ?_)
  -- the new dict at D, the block's names at C
  let D := sb.heap.objs.size
  obtain ⟨W, ⟨m₀, w₀⟩, turn⟩ := go D (Ib.hok.fresh (Nat.le_refl _))
  let sc : Shared := { sb with heap := sb.heap.push { cls := .type "dict", data := .dict #[] } }
  let Hc := upd Hb D o₀
  let C := sc.heap.objs.size
  have kept : ∀ b u, sb.heap.get? b = some u → sc.heap.get? b = some u := fun _ _ e => Heap.get?_push_of_some _ e
  have Ic : Inv X pins σ Hc sc := Ib.laid (t' := sb.toks) kept (Nat.le_refl _) (fresh X sb.heap Ib.big _)
  have low : ∀ b ∈ fp, b < sb.heap.objs.size := fun b hb => let ⟨_, e, _⟩ := T.obj _ _ at0 b hb; Heap.lt_size e
  have freeC : ∀ b ∈ fp, FpOk X pins Hc b ∧ b < sc.heap.objs.size := fun b hb =>
    ⟨⟨(upd_ne (Nat.ne_of_lt (low b hb))).trans (free b hb).1, (free b hb).2⟩, by rw [Heap.size_push]; exact Nat.lt_succ_of_lt (low b hb)⟩
  have Id := block_start Ic ok nd freeC
  let sd : Shared := { sc with heap := pushCells (sc.heap.push { cls := .type "dict", data := .dict #[] }) scope.names }
  let cl := cellsFrom (C + 1) scope.names (cloFrom X.env.cells scope.names [])
  let B := X.blk sc Hc scope (compEnvC scope cl C X.env) fp
  have atD : tn 0 sd.heap := T.keep _ _ _ at0 fun b _ o e => pushCells_keeps _ _ _ _ (Heap.get?_push_of_some _ (kept b o e))
  have okB : ∀ {σ' : St} {H' : Hp} {s' : Shared}, Inv B [] σ' H' s' → (∀ b ∈ fp, H' b = none) → ∀ b ∈ fp, FpOk B [] H' b := fun J' n b hb =>
    ⟨n b hb, (J'.ok.exf b hb).1, J'.ok.exfs b hb, .inl hb, fun x c e => (J'.ok.exf b hb).2 x c e, fun _ hp => nomatch (show _ ∈ ([] : List (Addr × Obj)) from hp)⟩
  have loop : codeAny (model X.prog X.w) X.A (.compLoop (.DictComp kx vx [⟨tg, iter, ifs, 0⟩] scope pos) 0 (.ref it) (.ref D) (compEnvC scope cl C X.env)) (compPost (model X.prog X.w) X.A X.xe use R (.ref D) C) sd := by
    refine compLoop_anyD (fun n s' => ∃ i H', Inv B [] (wipe σ (own.map (·.2))) H' s' ∧ tn i s'.heap ∧ (∀ b ∈ fp, H' b = none) ∧ W i n H') ?_ m₀ ⟨0, Hc, Id, atD, fun b hb => (freeC b hb).1.1, w₀⟩
    rintro n s5 ⟨i, H5, I5, t5, n5, w5⟩
    rcases turn i n H5 w5 with ⟨stop, fin⟩ | ⟨more, Nx, less, step⟩
    · refine thnF (T.done B rfl rfl rfl calm i [] s5 _ H5 _ I5 (okB I5 n5) t5 stop) ?_
      rintro _ s6 ⟨rfl, I6⟩
      have back : Inv X pins σ H5 s6 := Ic.call' (ch := fp) I6.os I6.base I6.hok I6.bare fun b hb => let ⟨_, f2, _, f4, f5, f6⟩ := (freeC b hb).1; ⟨f4, f2, f5, f6⟩
      obtain ⟨m, ns, _⟩ := I6.loc
      have own0 := Ic.fpOk (Nat.le_refl _) I6.free
      exact done D C s6 m H5 back fin ns own0
    · refine thnF (T.item B rfl rfl rfl calm i [] s5 _ H5 _ I5 (okB I5 n5) t5 more) ?_
      rintro _ s6 ⟨u, rfl, owned⟩
      refine thnF owned ?_
      rintro _ s7 ⟨x, H7, I7, rx, yl, t7, n7⟩
      have pin7 := I7.pinned (okB I7 n7) (T.obj _ _ t7)
      refine thnF ((hg sc Hc C cl fp).run _ s7 _ H7 x u _ pin7 rx (step x H7 yl)) ?_
      rintro _ s8 ⟨σ8, H8, I8, same, q8⟩
      have ends : ∀ {s' : Shared} {H' : Hp}, Inv B ([] ++ pinsAt fp s7.heap) σ8 H' s' → Nx H' → ∃ m, m < n ∧ ∃ i H', Inv B [] (wipe σ (own.map (·.2))) H' s' ∧ tn i s'.heap ∧ (∀ b ∈ fp, H' b = none) ∧ W i m H' := fun {s' H'} J' nx => by
        obtain ⟨m', lt, w'⟩ := less H' nx
        have stays : ∀ b ∈ fp, ∀ o, s7.heap.get? b = some o → s'.heap.get? b = some o ∧ H' b = none := fun b hb o e =>
          (J'.pin (b, o) (List.mem_append_right _ (List.mem_append_right _ (mem_pinsAt hb e)))).imp_right (·.1)
        refine ⟨m', lt, i + 1, H', (J'.unpinned (pins := [])).weak (by rw [← same, wipe_length]) (fun j z e => (wipe_some (same ▸ e)).1), T.keep _ _ _ t7 fun b hb o e => (stays b hb o e).1, fun b hb => ?_, w'⟩
        obtain ⟨o, e, _⟩ := T.obj _ _ t7 b hb
        exact (stays b hb o e).2
      refine thnF ((ht sc Hc C cl fp).run _ s8 σ8 H8 _ I8 q8) ?_
      rintro b s9 ⟨H9, I9, q9⟩
      cases b with
      | false => exact ends I9 (by simpa using q9)
      | true =>
        simp only [if_true] at q9 ⊢
        refine thnF ((hk sc Hc C cl fp).run _ s9 σ8 H9 _ I9 q9) ?_
        rintro ku s10 ⟨kv, H10, I10, rk, q10⟩
        refine thnF ((he sc Hc C cl fp).run _ s10 σ8 H10 _ I10 q10) ?_
        rintro vu s11 ⟨vv, H11, I11, rv, H12, put, nx⟩
        exact put_raw (X := B) hu I11 put rk rv fun s12 I12 => ends I12 nx
  exact codeAny_compStart_dict loop (T.self X.A 0 _ _ _ atD loop)
theorem pe_dcP (hu : X.A.units + 1 < cLine) (fresh : ∀ (Y : Cx) (h : Heap), sysModules < h.objs.size → ∀ H, ObjOk Y.prog Y.w H (h.push { cls := .type "dict", data := .dict #[] }) h.objs.size o₀)
    (hc : X.calm = true) (hN : X.N.Nodup) (hi : PI X tg iter wi) (ok : BlkOk X.N X.env.scope scope own)
    (hg : M.InBlk X scope fun Y => PG Y tg g) (ht : M.InBlk X scope fun Y => PTs Y ifs tt) (hk : M.InBlk X scope fun Y => PE Y kx tk) (he : M.InBlk X scope fun Y => PE Y vx tv)
    (hs : ∀ x, foldedSetIterable iter X.env x = pure x := by intro _; rfl) : PE X (.DictComp kx vx [⟨tg, iter, ifs, 0⟩] scope pos) (tDcP o₀ wi g tt tk tv (own.map (·.2))) := ⟨fun pins s σ H Q I want => by
  rw [arm_eval_DictComp]
  exact dcP_core (use := none) hu fresh hc hN I hi ok hg ht hk he hs want fun D C s' m H' back fin ns out =>
    ⟨m, ns, fun h' but => ⟨.ref D, H', back.turnedL (t' := s'.toks) (ch := [C]) (fun b o apart e => (but.2 b fun z => apart (z ▸ List.mem_cons_self)).trans e) fun b hb => List.mem_singleton.mp hb ▸ out, rfl, fin⟩⟩⟩
/-- stored at once in a name: the block's names go after the store -/
theorem ps_setDcP {i : Nat} {y : Str} {py spos : Pos} (hu : X.A.units + 1 < cLine) (fresh : ∀ (Y : Cx) (h : Heap), sysModules < h.objs.size → ∀ H, ObjOk Y.prog Y.w H (h.push { cls := .type "dict", data := .dict #[] }) h.objs.size o₀)
    (hc : X.calm = true) (hN : X.N.Nodup) (slot : X.N[i]? = some y) (loc : X.env.scope.names.lookup y = some .local) (swaps : swapsWith (.DictComp kx vx [⟨tg, iter, ifs, 0⟩] scope pos) (some (.Name y py)) spos.line X.env = pure true) (hi : PI X tg iter wi) (ok : BlkOk X.N X.env.scope scope own)
    (hg : M.InBlk X scope fun Y => PG Y tg g) (ht : M.InBlk X scope fun Y => PTs Y ifs tt) (hk : M.InBlk X scope fun Y => PE Y kx tk) (he : M.InBlk X scope fun Y => PE Y vx tv)
    (hs : ∀ x, foldedSetIterable iter X.env x = pure x := by intro _; rfl) : PS X (.Assign [.Name y py] (.DictComp kx vx [⟨tg, iter, ifs, 0⟩] scope pos) spos) (tAsg (tDcP o₀ wi g tt tk tv (own.map (·.2))) (gName i)) := ⟨fun pins s σ H D I want => by
  rw [exec_Assign_Name_used _ _ _ _ swaps]
  have put : ∀ p C s' m H', Inv X pins σ H' s' → gName i (.ref p) σ H' D.nx → s'.heap.Ns C m → FpOk X pins H' C →
      wpAny (model X.prog X.w) X.A (assign (.Name y py) X.env (.ref p)) (fun _ s2 => ∃ m, s2.heap.Ns C m ∧ ∀ h', Heap.SameBut C s2.heap h' → SP X pins D .next { s2 with heap := h' }) X.xe s' := fun p C s' m H' J q ns out =>
    wpAny_assign_Name (store_ok2 (v := .ref p) J hN slot (.inl loc) rfl (fun s2 J2 ⟨a, but, which⟩ => by
      have apart : C ≠ a := which.elim (fun z => z ▸ out.2.1) fun z => (out.2.2.2.2.1 y a z).symm
      exact ⟨m, ns.sameBut but apart, fun h' but2 => ⟨_, H', J2.turnedL (t' := s2.toks) (ch := [C]) (fun b o far e => (but2.2 b fun z => far (z ▸ List.mem_cons_self)).trans e) fun b hb => List.mem_singleton.mp hb ▸ out, q⟩⟩) (.inr loc))
  exact wpAny_bind (wpAny_standAt (wpAny_bind (wpAny_bind (thn (dcP_core (use := some (assign (.Name y py) X.env)) (R := fun _ s2 => SP X pins D .next s2) hu fresh hc hN I hi ok hg ht hk he hs want fun p C s' m H' J q ns out => put p C s' m H' J q ns out) fun _ _ z => wpAny_pure (wpAny_pure z)))))⟩
theorem sw_dict {kx vx : Expr} {gs : List Comprehension} {scope : Scope} {pos py : Pos} {y : Str} {l : Nat} {env : Env} (fn : env.scope.kind = .function) (loc : env.scope.names.lookup y = some .local) (line : (py.line == pos.line) = true)
    (own : (scope.names.any fun (n, k) => n == y && (k == .local || k == .cell)) = false) : swapsWith (.DictComp kx vx gs scope pos) (some (.Name y py)) l env = pure true :=
  (show _ = swapsWith (.ListComp kx gs scope pos) (some (.Name y py)) l env from rfl).trans (sw_true fn loc line own)
end
end L2


/-! The M layer: dicts with tuple keys. -/
namespace M
open PySem PySem.Spec PyProof.Rows L2
section
variable {G : Gb} {H : Hp}
theorem DasT.any (k : List Key) : ∀ {ds : List (List Key × D)} {vs : List (List Key × V)}, DasT G H vs ds → (vs.any fun kv => decide (kv.1 = k)) = ds.any fun kv => decide (kv.1 = k)
  | _, _, .nil => rfl
  | _, _, .cons h r => by rw [List.any_cons, List.any_cons, DasT.any k r]
theorem DasT.setAt (k : List Key) {v : V} {d : D} (hv : Da G H v d) : ∀ {ds : List (List Key × D)} {vs : List (List Key × V)}, DasT G H vs ds → DasT G H (vs.map fun kv => if kv.1 = k then (kv.1, v) else kv) (ds.map fun kv => if kv.1 = k then (kv.1, d) else kv)
  | _, _, .nil => .nil
  | _, _, @DasT.cons _ _ j w ws x xs h r => by
    rw [List.map_cons, List.map_cons]
    by_cases e : j = k
    · rw [if_pos e, if_pos e]; exact .cons hv (DasT.setAt k hv r)
    · rw [if_neg e, if_neg e]; exact .cons h (DasT.setAt k hv r)
theorem DasT.append : ∀ {ds es : List (List Key × D)} {vs us : List (List Key × V)}, DasT G H vs ds → DasT G H us es → DasT G H (vs ++ us) (ds ++ es)
  | _, _, _, _, .nil, g => g
  | _, _, _, _, .cons h r, g => .cons h (DasT.append r g)
theorem DasT.put (k : List Key) {v : V} {d : D} (hv : Da G H v d) {ds : List (List Key × D)} {vs : List (List Key × V)} (h : DasT G H vs ds) : DasT G H (putK vs k v) (putKd ds k d) := by
  unfold putK putKd
  rw [DasT.any k h]
  split
  · exact DasT.setAt k hv h
  · exact h.append (.cons hv .nil)
end
/-- a tuple's key -/
def keyT : D → Option (List Key)
  | .tup ks => keysD ks
  | _ => none
theorem keyT_at {G : Gb} {L : Lv} {H : Hp} {v : V} {d : D} {k : List Key} (h : Va G L (off L H) v d) (e : keyT d = some k) : ∃ b, v = .ref b ∧ H b = some (.tup (k.map kV)) := by
  cases d with
  | tup ks =>
    obtain ⟨b, vs, rfl, at_, r⟩ := h.tup_inv
    have q := keysD_vs ks vs k r e
    exact ⟨b, rfl, q ▸ (off_some at_).1⟩
  | _ => cases e
def compT (t : Tg) (mt : MT) (mk mv : ME) (env : En) : List D → List (List Key × D) → Store → Option (List (List Key × D) × Store)
  | [], kvs, st => some (kvs, st)
  | d :: ds, kvs, st => match setT t d env with
    | none => none
    | some env1 => match mt env1 st with
      | some (.ok true, st1) => match mk env1 st1 with
        | some (.ok y, st2) => match mv env1 st2 with
          | some (.ok z, st3) => match keyT y with
            | some k => if isD z = true ∧ kvs.length < big then compT t mt mk mv env ds (putKd kvs k z) st3 else none
            | none => none
          | _ => none
        | _ => none
      | some (.ok false, st1) => compT t mt mk mv env ds kvs st1
      | _ => none
def mDcT (mi : MA) (t : Tg) (mt : MT) (mk mv : ME) (vs : List Nat) : ME := fun env st => bnd (mi env st) fun ds st => match compT t mt mk mv (wipeE env vs) ds [] st with
  | some (kvs, st2) => some (.ok (.dT kvs), st2)
  | none => none
section
variable {G : Gm} {W W0 : WX} {X : Cx} {kx vx tg iter : Expr} {ifs : List Expr} {scope : Scope} {own : List (Str × Nat)} {pos : Pos} {mi : MA} {g : TG} {t : Tg} {mt : MT} {mk mv : ME}
theorem t_dcT {vs : List Nat} (hF : Flat G) (ht : TgOk G g t) (hsl : ∀ i ∈ t.slots, i ∈ vs) {σ : L2.St} {H : Hp} {Q : VK} (q : tM G W (mDcT mi t mt mk mv vs) σ H Q) : tDcP (.dT []) (tMI G W mi) g (tMT G W0 mt) (tM G W0 mk) (tM G W0 mv) vs σ H Q := by
  obtain ⟨L, st, env, r, st', at_, hm, hp⟩ := q
  rcases bnd_cases hm with ⟨ds, st1, h1, h2⟩ | ⟨x, h1, rfl⟩
  · refine ⟨L, st, env, _, st1, at_, h1, fun J L1 H1 e1 r1 wk p hpn => ?_⟩
    split at h2
    · rename_i kvs0 stF hc
      cases h2
      have a1 := at_.ev e1 r1
      have hid := Rl.of_same (hide_same (o := .dT []) (L := L1) hpn)
      let Pt : Nat → Hp → Prop := fun i H' => ∃ L2 st2 acc accD, Ev (L1.hide p) (upd H1 p (.dT acc)) L2 H' ∧ Rep G L2 st2 H' ∧ DasT G (off L2 H') acc accD ∧ i ≤ ds.length ∧ compT t mt mk mv (wipeE env vs) (ds.drop i) accD st2 = some (kvs0, st')
      refine ⟨fun i m H' => Pt i H' ∧ m = ds.length - i, ⟨_, ⟨L1.hide p, st1, [], [], Ev.refl _ _, r1.hide hpn, .nil, Nat.zero_le _, hc⟩, rfl⟩, ?_⟩
      rintro i m H2 ⟨⟨L2, st2, acc, accD, e2, r2, dacc, hi, hcc⟩, rfl⟩
      have sm : Rl (off L1 H1) (off L2 H2) := (Rl.of_same (hide_same (L := L1) hpn)).trans e2.same
      by_cases hlt : i < ds.length
      · rw [List.drop_eq_getElem_cons hlt] at hcc
        refine .inr ⟨wk.go i L2 H2 sm hlt, Pt (i + 1), fun H' z => ⟨_, by omega, z, rfl⟩, fun x H3 y => ?_⟩
        obtain ⟨e3, r3, dx⟩ := wk.yld i L2 H2 st2 _ sm r2 (List.getElem?_eq_getElem hlt) x H3 y
        have e13 := e2.trans e3
        have sm3 : Rl (off L1 H1) (off L2 H3) := (Rl.of_same (hide_same (L := L1) hpn)).trans e13.same
        unfold compT at hcc
        cases hz : setT t ds[i] (wipeE env vs) with
        | none => rw [hz] at hcc; cases hcc
        | some env3 =>
          rw [hz] at hcc
          dsimp only at hcc
          have enW : EnvR G L2 (off L2 H3) (_root_.L2.wipe σ vs) (wipeE env vs) := EnvR.wipe ⟨a1.e.len, fun j d q => by
            obtain ⟨v, q1, q2⟩ := a1.e.at_ j d q
            exact ⟨v, q1, Va.mono (L := L1) ⟨e13.le.len, e13.le.at_⟩ sm3 q2⟩⟩ vs
          refine ht.run L2 H3 st2 x _ _ _ env3 _ ⟨enW, r3, G.up _ _ _ sm3 (hF _ _ _ a1.p)⟩ (.d dx) hz fun σ4 a4 hw => ?_
          refine ⟨by rw [hw vs hsl, wipe_wipe vs vs fun _ h => h], ?_⟩
          cases hb : mt env3 st2 with
          | none => rw [hb] at hcc; cases hcc
          | some q =>
            obtain ⟨rb, st4⟩ := q
            rw [hb] at hcc
            cases rb with
            | err _ => cases hcc
            | ok b =>
              refine ⟨L2, st2, env3, _, st4, a4, hb, fun L4 H4 e4 r4 => ?_⟩
              cases b with
              | false =>
                rw [if_neg Bool.false_ne_true]
                exact ⟨L4, st4, acc, accD, e13.trans e4, r4, e4.dasT (e3.dasT dacc), hlt, hcc⟩
              | true =>
                dsimp only at hcc
                rw [if_pos rfl]
                cases hk : mk env3 st4 with
                | none => rw [hk] at hcc; cases hcc
                | some q =>
                  obtain ⟨rk, st5⟩ := q
                  rw [hk] at hcc
                  cases rk with
                  | err _ => cases hcc
                  | ok yk =>
                    dsimp only at hcc
                    refine ⟨L4, st4, env3, _, st5, a4.ev e4 r4, hk, fun vk L5 H5 e5 r5 dk => ?_⟩
                    cases hv : mv env3 st5 with
                    | none => rw [hv] at hcc; cases hcc
                    | some q =>
                      obtain ⟨rv, st6⟩ := q
                      rw [hv] at hcc
                      cases rv with
                      | err _ => cases hcc
                      | ok yv =>
                        dsimp only at hcc
                        refine ⟨L5, st5, env3, _, st6, (a4.ev e4 r4).ev e5 r5, hv, fun vv L6 H6 e6 r6 dv => ?_⟩
                        cases hkk : keyT yk with
                        | none => rw [hkk] at hcc; cases hcc
                        | some k =>
                          rw [hkk] at hcc
                          dsimp only at hcc
                          split at hcc
                          · rename_i hz2
                            have e16 := ((e13.trans e4).trans e5).trans e6
                            have h1 : p ∈ (L1.hide p).h := List.mem_cons_self
                            have hp6 : p ∈ L6.h := e16.hh ▸ h1
                            have hat : H6 p = some (.dT acc) := by rw [e16.keep p h1, upd_same]
                            have dacc6 : DasT G (off L6 H6) acc accD := e6.dasT (e5.dasT (e4.dasT (e3.dasT dacc)))
                            have hlen : acc.length < sizeLine := by
                              have q1 := dacc.length
                              have q2 := hz2.2
                              rw [sizeLine_eq]
                              unfold big at q2
                              omega
                            obtain ⟨b, rfl, kat⟩ := keyT_at (e6.va dk) hkk
                            refine ⟨_, DPut.t hat kat hlen, L6, st6, putK acc k vv, putKd accD k yv, e16.hupd, r6.hupd hp6, ?_, hlt, hcc⟩
                            rw [off_hid hp6]
                            exact dacc6.put k (dv.da hz2.1)
                          · cases hcc
      · obtain rfl : i = ds.length := by omega
        rw [List.drop_length] at hcc
        cases hcc
        refine .inl ⟨wk.stop L2 H2 sm, ?_⟩
        have at2 := back_at e2 r2 r1 hpn
        exact hp (.ref p) (L2.back L1) H2 (e1.trans (e2.back r1 hpn)) (Rep.back e2 r2) (.d (.dT (.inl at2) (DasT.mono (Rl.of_same (back_same e2)) _ _ dacc)))
    · cases h2
  · exact ⟨L, st, env, _, st', at_, h1, hp⟩
theorem m_dcT (hu : X.A.units + 1 < cLine) (hc : X.calm = true) (hN : X.N.Nodup) (hi : PI X tg iter (tMI G W mi)) (ok : BlkOk X.N X.env.scope scope own)
    (hg : InBlk X scope fun Y => PG Y tg g) (hT : InBlk X scope fun Y => PTs Y ifs (tMT G W0 mt)) (hk : InBlk X scope fun Y => PE Y kx (tM G W0 mk)) (he : InBlk X scope fun Y => PE Y vx (tM G W0 mv))
    (ht : TgOk G g t) (hsl : ∀ i ∈ t.slots, i ∈ own.map (·.2)) (hs : ∀ x, foldedSetIterable iter X.env x = pure x := by intro _; rfl) (hF : Flat G := by exact fun _ _ _ h => h) :
    PE X (.DictComp kx vx [⟨tg, iter, ifs, 0⟩] scope pos) (tM G W (mDcT mi t mt mk mv (own.map (·.2)))) :=
  PEimp (pe_dcP (o₀ := .dT []) hu (fun Y h b H => dt_empty h b) hc hN hi ok hg hT hk he hs) fun σ H Q q => t_dcT hF ht hsl q
theorem ms_setDcT {i : Nat} {y : Str} {py spos : Pos} (hu : X.A.units + 1 < cLine) (hc : X.calm = true) (hN : X.N.Nodup) (slot : X.N[i]? = some y) (loc : X.env.scope.names.lookup y = some .local) (swaps : swapsWith (.DictComp kx vx [⟨tg, iter, ifs, 0⟩] scope pos) (some (.Name y py)) spos.line X.env = pure true)
    (hi : PI X tg iter (tMI G W mi)) (ok : BlkOk X.N X.env.scope scope own) (hg : InBlk X scope fun Y => PG Y tg g) (hT : InBlk X scope fun Y => PTs Y ifs (tMT G W0 mt)) (hk : InBlk X scope fun Y => PE Y kx (tM G W0 mk)) (he : InBlk X scope fun Y => PE Y vx (tM G W0 mv))
    (ht : TgOk G g t) (hsl : ∀ i ∈ t.slots, i ∈ own.map (·.2)) (hs : ∀ x, foldedSetIterable iter X.env x = pure x := by intro _; rfl) (hF : Flat G := by exact fun _ _ _ h => h) :
    PS X (.Assign [.Name y py] (.DictComp kx vx [⟨tg, iter, ifs, 0⟩] scope pos) spos) (tMS G W (mAsg (mDcT mi t mt mk mv (own.map (·.2))) (.nm i))) :=
  PSimp (ps_setDcP (o₀ := .dT []) hu (fun Y h b H => dt_empty h b) hc hN slot loc swaps hi ok hg hT hk he hs) fun _ _ _ q => t_dcT hF ht hsl (t_asg (G := G) (tg_nm hF) q)
end
end M


/-! The M layer: len and list of any dict, in of tuples, stores into dicts, starred items, while, x += e, extend, min. -/
namespace M
open PySem PySem.Spec PyProof.Rows L2
/-! ### len, list -/
def rLenTr : List V → Hp → VK → Prop := fun xs H Q => ∃ (a : Addr) (kvs : List (List Key × V)), xs = [.ref a] ∧ Rd H a (.dT kvs) ∧ Q (.int kvs.length) H
theorem call_lenTr {X : Cx} : CallR X (.builtin "len") rLenTr := by
  rintro pins s σ H _ us Q I same ⟨a, kvs, rfl, at_, q⟩
  obtain ⟨u, rfl, ru⟩ := vals1 same
  obtain rfl : u = .ref a := ru
  obtain ⟨few, low, rows, rel, dict⟩ := dt_rd I.hok at_
  have e : kvs.length = rows.length := Paired.length rel
  refine call_len_dictH low dict (by rw [← e]; have := sizeLine_eq; omega) ⟨.int kvs.length, H, I.tok _, ⟨_, by rw [e]⟩, q⟩
def gLenA (st : Store) : List D → Option D
  | [x] => match rd st x with
    | .dT kvs => some (.int kvs.length)
    | _ => gLen st [x]
  | _ => none
def rLenA (K : PySem.W.Frag) : List V → Hp → VK → Prop := fun xs H Q => rLen K xs H Q ∨ rLenTr xs H Q
theorem call_lenA {X : Cx} : CallR X (.builtin "len") (rLenA X.K) := call_lenAny.or2 call_lenTr
theorem rd_dT {G : Gb} {L : Lv} {H : Hp} {st : Store} (R : Rep G L st H) {v : V} {d : D} (h : Va G L (off L H) v d) {ds : List (List Key × D)} (e : rd st d = .dT ds) : ∃ a vs, v = .ref a ∧ Rd H a (.dT vs) ∧ DasT G (off L H) vs ds := by
  unfold rd at e
  split at e
  · rename_i i
    split at e
    · cases e
    · cases e
    · rename_i kvs hi
      cases e
      obtain ⟨a, rfl, hL, vs, q, r⟩ := cell_of R h hi nofun
      exact ⟨a, vs, rfl, .inl q, r⟩
    · cases e
  · subst e
    cases h with
    | d h => cases h with | dT h r => exact ⟨_, _, rfl, rd_see h, r⟩
theorem rd_dK {G : Gb} {L : Lv} {H : Hp} {st : Store} (R : Rep G L st H) {v : V} {d : D} (h : Va G L (off L H) v d) {ds : List (Key × D)} (e : rd st d = .dK ds) : ∃ a vs, v = .ref a ∧ Rd H a (.dK vs) ∧ DasK G (off L H) vs ds := by
  unfold rd at e
  split at e
  · rename_i i
    split at e
    · cases e
    · rename_i kvs hi
      cases e
      obtain ⟨a, rfl, hL, vs, q, r⟩ := cell_of R h hi nofun
      exact ⟨a, vs, rfl, .inl q, r⟩
    · cases e
    · cases e
  · subst e
    cases h with
    | d h => cases h with | dK h r => exact ⟨_, _, rfl, rd_see h, r⟩
theorem rc_lenA {G : Gb} : RCM G (rLenA G.K) gLenA := fun L st H xs ds z Q R dv hz k => by
  unfold gLenA at hz
  split at hz
  · rename_i x
    split at hz
    · rename_i kvs hk
      cases hz
      obtain ⟨v, rfl, hv⟩ := Das.one dv
      obtain ⟨a, vs, rfl, at_, r⟩ := rd_dT R hv hk
      exact .inr ⟨a, vs, rfl, at_, by rw [r.length]; exact r_same (.int _) R k⟩
    · exact .inl (rc_len L st H _ _ z Q R dv hz k)
  · cases hz
/-- list(d): its keys -/
def keysTD (kvs : List (List Key × D)) : List D := keysT kvs
def rListT : List V → Hp → VK → Prop := fun xs H Q => ∃ d kvs, xs = [V.ref d] ∧ Rd H d (.dT kvs) ∧ ∀ p bs, H p = none → IsKeys H kvs bs → Q (.ref p) (upd H p (.lst (bs.map V.ref)))
theorem call_listT {X : Cx} (hc : X.calm = true) : CallR X (.type "list") rListT := call_list_dT hc
def gListT (st : Store) : List D → Option D
  | [x] => match rd st x with
    | .dT kvs => some (.lst (keysT kvs))
    | .dK kvs => some (.lst (keysK kvs))
    | _ => none
  | _ => none
theorem isKeys_das {G : Gb} {L : Lv} {H : Hp} {st : Store} (R : Rep G L st H) : ∀ {kvs : List (List Key × V)} {bs : List Addr} {ds : List (List Key × D)}, IsKeys H kvs bs → DasT G (off L H) kvs ds → Das G (off L H) (bs.map V.ref) (keysT ds)
  | _, _, _, .nil, .nil => .nil
  | _, _, _, .cons h r, .cons _ t => .cons (.tup (off_of h fun z => z.elim (fun z => by
      obtain ⟨i, hi⟩ := mem_live z
      have hl : i < st.length := by rw [← R.len]; exact (List.getElem?_eq_some_iff.mp hi).1
      have q := R.cell i _ st[i] hi (List.getElem?_eq_getElem hl)
      cases e : st[i] <;> rw [e] at q <;> simp only [CellR] at q
      · obtain ⟨vs, q, _⟩ := q; rw [h] at q; cases q
      · obtain ⟨vs, q, _⟩ := q; rw [h] at q; cases q
      · obtain ⟨vs, q, _⟩ := q; rw [h] at q; cases q
      · obtain ⟨dx, vs, q, _⟩ := q; rw [h] at q; cases q) fun z => (R.hid _ z).1.2 _ h) (kD_das _)) (isKeys_das R r t)
def rListA : List V → Hp → VK → Prop := fun xs H Q => rListD xs H Q ∨ rListT xs H Q
theorem call_listA {X : Cx} (hc : X.calm = true) : CallR X (.type "list") rListA := (call_listK hc).or2 (call_listT hc)
theorem rc_listT {G : Gb} : RCM G rListA gListT := fun L st H xs ds z Q R dv hz k => by
  unfold gListT at hz
  split at hz
  · rename_i x
    obtain ⟨v, rfl, hv⟩ := Das.one dv
    split at hz
    · rename_i kvs hk
      cases hz
      obtain ⟨a, vs, rfl, at_, r⟩ := rd_dT R hv hk
      refine .inr ⟨a, vs, rfl, at_, fun p bs hp hb => ?_⟩
      exact r_new R hp (.lst (Ev.off_new R hp) (Das.mono (new_same R hp) _ _ (isKeys_das R hb r))) k
    · rename_i kvs hk
      cases hz
      obtain ⟨a, vs, rfl, at_, r⟩ := rd_dK R hv hk
      refine .inl ⟨a, vs, rfl, at_, fun p hp => ?_⟩
      exact r_new R hp (.lst (Ev.off_new R hp) (Das.mono (new_same R hp) _ _ (keysK_das r))) k
    · cases hz
  · cases hz
/-! ### x in a list or tuple of flat values -/
def flatD : D → Bool
  | .non | .bl _ | .int _ | .str _ => true
  | _ => false
theorem flat_v {G : Gb} {H : Hp} {v : V} {d : D} (h : Da G H v d) (f : flatD d = true) : flatV v = true := by
  cases h <;> first | rfl | cases f
theorem flat_vs {G : Gb} {H : Hp} : ∀ {ds : List D} {vs : List V}, Das G H vs ds → ds.all flatD = true → vs.all flatV = true
  | _, _, .nil, _ => rfl
  | _, _, .cons h r, f => by
    rw [List.all_cons, Bool.and_eq_true] at f ⊢
    exact ⟨flat_v h f.1, flat_vs r f.2⟩
theorem flat_eq {G : Gb} {H : Hp} {v w : V} {d e : D} (h : Da G H v d) (g : Da G H w e) (f : flatD d = true) (f' : flatD e = true) : eqV v w = eqvD d e := by
  cases h <;> first | (cases f; done) | (cases g <;> first | (cases f'; done) | simp [eqV, eqvD])
theorem flat_in {G : Gb} {H : Hp} {w : V} {e : D} (g : Da G H w e) (f' : flatD e = true) : ∀ {ds : List D} {vs : List V}, Das G H vs ds → ds.all flatD = true → inV w vs = ds.any fun z => eqvD z e
  | _, _, .nil, _ => rfl
  | _, _, .cons h r, f => by
    rw [List.all_cons, Bool.and_eq_true] at f
    show (eqV _ w || inV w _) = _
    rw [flat_eq h g f.1 f', flat_in g f' r f.2, List.any_cons]
def gInF (neg : Bool) (st : Store) (x y : D) : Option D := if flatD x = true then (match rd st y with
    | .lst ds => if ds.all flatD = true then some (.bl ((ds.any fun z => eqvD z x) != neg)) else none
    | .tup ds => if ds.all flatD = true then some (.bl ((ds.any fun z => eqvD z x) != neg)) else none
    | _ => none) else none
theorem op_inF {X : Cx} : OpR X (compareOp .In) (rIn X.K false) := op_in_seq
theorem op_notInF {X : Cx} : OpR X (compareOp .NotIn) (rIn X.K true) := op_notIn_seq
theorem flat_isD {d : D} (f : flatD d = true) : isD d = true := by cases d <;> first | rfl | cases f
theorem r2_inF {G : Gb} {neg : Bool} : R2M G (rIn G.K neg) (gInF neg) := fun L st H x y d e z Q R hx hy hz k => by
  unfold gInF at hz
  split at hz
  · rename_i fd
    have dx := hx.da (flat_isD fd)
    split at hz
    · rename_i ds hr
      split at hz
      · rename_i fs
        cases hz
        obtain ⟨a, vs, rfl, at_, r⟩ := rd_off R hy hr
        refine ⟨a, vs, rfl, .inl (.inl (.inl at_)), flat_v dx fd, flat_vs r fs, ?_⟩
        rw [flat_in dx fd r fs]
        have e : ∀ b : Bool, (if neg = true then !b else b) = (b != neg) := by intro b; cases neg <;> cases b <;> rfl
        rw [e]
        exact r_same (.bl _) R k
      · cases hz
    · rename_i ds hr
      split at hz
      · rename_i fs
        cases hz
        obtain rfl := rd_tup hr
        obtain ⟨a, vs, rfl, at_, r⟩ := hy.tup_inv
        refine ⟨a, vs, rfl, .inr (.inl (.inl (off_some at_).1)), flat_v dx fd, flat_vs r fs, ?_⟩
        rw [flat_in dx fd r fs]
        have e : ∀ b : Bool, (if neg = true then !b else b) = (b != neg) := by intro b; cases neg <;> cases b <;> rfl
        rw [e]
        exact r_same (.bl _) R k
      · cases hz
    · cases hz
  · cases hz
/-! ### d[k] = v -/
def gDPut (st : Store) (o i v : D) : Option Store := match o with
  | .ref j => if isD v = true then (match st[j]? with
    | some (.dK kvs) => match keyD i with
      | some k => if kvs.length < big then some (st.set j (.dK (putKd kvs k v))) else none
      | none => none
    | some (.dT kvs) => match keyT i with
      | some k => if kvs.length < big then some (st.set j (.dT (putKd kvs k v))) else none
      | none => none
    | _ => none) else none
  | _ => none
def mDPut (mo mi mv : ME) : MS := fun env st => bndS (mv env st) env fun v st => bndS (mo env st) env fun o st => bndS (mi env st) env fun i st => match gDPut st o i v with
  | some st => some (.next, env, st)
  | none => none
section
variable {G : Gm} {W : WX} {X : Cx} {o i value : Expr} {mo mi mv : ME} {pos pos' : Pos}
theorem ms_dput (hu : X.A.units + 1 < cLine) (hv : PE X value (tM G W mv)) (ho : PE X o (tM G W mo)) (hi : PE X i (tM G W mi)) (hs : swapsWith value (some (.Subscript o i pos')) pos.line X.env = pure false := by rfl) :
    PS X (.Assign [.Subscript o i pos'] value pos) (tMS G W (mDPut mo mi mv)) := PSimp (ps_dput hu ho hi hv hs) fun D σ H q => by
  obtain ⟨L, st, env, fl, env', st', at_, hm, hp⟩ := q
  refine tM_bndS at_ hm (hp.err at_) fun v st1 y L1 H1 h1 e1 a1 dv => ?_
  refine tM_bndS a1 h1 ((hp.ev e1).err a1) fun o st2 x L2 H2 h2 e2 a2 dx => ?_
  refine tM_bndS a2 h2 (((hp.ev e1).ev e2).err a2) fun i st3 z L3 H3 h3 e3 a3 dz => ?_
  split at h3
  · rename_i st4 hg
    cases h3
    unfold gDPut at hg
    split at hg
    · rename_i j
      split at hg
      · rename_i hd
        split at hg
        · rename_i kvs hj
          split at hg
          · rename_i k hk
            split at hg
            · rename_i few
              cases hg
              obtain ⟨a, rfl, hL, vs, q, r⟩ := cell_of a3.r (e3.va dx) hj nofun
              have rr := DasK.put k (e3.da ((e2.va dv).da hd)) r
              obtain ⟨e4, r4⟩ := cell_write (o := .dK (putK vs k y)) (c := .dK (putKd kvs k v)) a3.r hL fun H' eo h => ⟨_, h, by rw [eo]; exact rr⟩
              refine ⟨a, _, rfl, .inl ⟨vs, k, q, keyD_kV dz hk, by rw [r.len, sizeLine_eq]; unfold big at few; omega, rfl⟩, ?_⟩
              exact hp _ _ _ (((e1.trans e2).trans e3).trans e4) r4 (a3.e.ev e4)
            · cases hg
          · cases hg
        · rename_i kvs hj
          split at hg
          · rename_i k hk
            split at hg
            · rename_i few
              cases hg
              obtain ⟨a, rfl, hL, vs, q, r⟩ := cell_of a3.r (e3.va dx) hj nofun
              have rr := DasT.put k (e3.da ((e2.va dv).da hd)) r
              obtain ⟨e4, r4⟩ := cell_write (o := .dT (putK vs k y)) (c := .dT (putKd kvs k v)) a3.r hL fun H' eo h => ⟨_, h, by rw [eo]; exact rr⟩
              obtain ⟨b, rfl, kat⟩ := keyT_at dz hk
              refine ⟨a, _, rfl, .inr ⟨vs, k, b, q, rfl, kat, by rw [r.length, sizeLine_eq]; unfold big at few; omega, rfl⟩, ?_⟩
              exact hp _ _ _ (((e1.trans e2).trans e3).trans e4) r4 (a3.e.ev e4)
            · cases hg
          · cases hg
        · cases hg
      · cases hg
    · cases hg
  · cases h3
end
/-- {} as a cell that gets tuples as keys -/
def mDNewT : ME := fun _ st => some (.ok (.ref st.length), st ++ [.dT []])
theorem m_dnewT {G : Gm} {W : WX} {X : Cx} {pos : Pos} : PE X (.Dict [] [] pos) (tM G W mDNewT) := PEimp pe_dnewT fun σ H Q q => by
  obtain ⟨L, st, env, r, st', at_, hm, hp⟩ := q
  cases hm
  refine fun p hpn => ?_
  obtain ⟨e1, r1, v1⟩ := new_cell (o := .dT []) (c := .dT []) at_.r hpn fun L' H' _ h => ⟨[], h, .nil⟩
  exact hp _ _ _ e1 r1 v1
/-! ### starred items -/
def mStar (m : ME) (ms : MA) : MA := fun env st => bnd (m env st) fun d st => match rd st d with
  | .lst xs => bnd (ms env st) fun ds st => some (.ok (xs ++ ds), st)
  | .tup xs => bnd (ms env st) fun ds st => some (.ok (xs ++ ds), st)
  | _ => none
theorem Vas.app {G : Gb} {L : Lv} {H : Hp} : ∀ {ds es : List D} {vs us : List V}, Vas G L H vs ds → Vas G L H us es → Vas G L H (vs ++ us) (ds ++ es)
  | _, _, _, _, .nil, g => g
  | _, _, _, _, .cons h r, g => .cons h (Vas.app r g)
theorem m_star {G : Gm} {W : WX} {X : Cx} {e : Expr} {es : List Expr} {p : Pos} {ma : ME} {mas : MA} (hK : G.K = X.K := by rfl) (he : PE X e (tM G W ma)) (hr : PA X es (tMA G W mas)) (hs : starEach (.Starred e p :: es) X.env = (true, eval e X.env) :: starEach es X.env := by rfl) :
    PA X (.Starred e p :: es) (tMA G W (mStar ma mas)) := PAimp (StX.pa_star he hr hs) fun σ H Q q => by
  obtain ⟨L, st, env, r, st', at_, hm, hp⟩ := q
  refine tM_bnd at_ hm hp.err fun d st1 v L1 H1 h1 e1 a1 dv => ?_
  have go : ∀ {xs : List D} {vs : List V}, Das G (off L1 H1) vs xs → bnd (mas env st1) (fun ds st => some (.ok (xs ++ ds), st)) = some (r, st') → (tMA G W mas) σ H1 fun ys H2 => Q (vs ++ ys) H2 := fun {xs vs} dvs h => by
    refine tMA_bnd a1 h (hp.ev e1).err fun ds st2 ys L2 H2 h2 e2 a2 dys => ?_
    cases h2
    exact hp _ L2 H2 (e1.trans e2) a2.r ((e2.das dvs).vas.app dys)
  split at h1
  · rename_i xs hx
    obtain ⟨a, vs, rfl, at2, rr⟩ := rd_off a1.r dv hx
    exact ⟨a, vs, rfl, .inr (.inl (.inl at2)), go rr h1⟩
  · rename_i xs hx
    obtain rfl := rd_tup hx
    obtain ⟨a, vs, rfl, at2, rr⟩ := dv.tup_inv
    exact ⟨a, vs, rfl, .inl (.inl (.inl (off_some at2).1)), go rr h1⟩
  · cases h1
/-! ### while -/
def whileD (n : Nat) (mt : MT) (body : MS) : Nat → En → Store → Option (Fl × En × Store)
  | 0, _, _ => none
  | k + 1, env, st => bndS (mt env st) env fun b st => if b = true then (match body env st with
      | some (.next, env2, st2) => if (st2.take n).all (cellOk n) = true then whileD n mt body k (trimE n env2) (st2.take n) else none
      | some (.cont, env2, st2) => if (st2.take n).all (cellOk n) = true then whileD n mt body k (trimE n env2) (st2.take n) else none
      | some (.brk, env2, st2) => if (st2.take n).all (cellOk n) = true then some (.next, trimE n env2, st2.take n) else none
      | r => r) else some (.next, env, st)
def mWhile (fuel : Nat) (mt : MT) (body : MS) : MS := fun env st => whileD st.length mt body fuel env st
section
variable {G : Gm} {W : WX} {X : Cx} {c : Expr} {body : List Stmt} {mt : MT} {mb : MS} {pos : Pos} {fuel : Nat}
theorem t_while (hF : Flat G) {D0 : Ends} {σ : _root_.L2.St} {H : Hp} (q : tMS G W (mWhile fuel mt mb) D0 σ H) : tWhile (tMT G W mt) (tMS G W mb) D0 σ H := by
  obtain ⟨L, st, env, fl, env', st', at_, hm, hp⟩ := q
  refine ⟨fun m σ' H' => ∃ L2 st2 env2, Ev L H L2 H' ∧ At G L2 st2 σ' env2 H' ∧ whileD st.length mt mb m env2 st2 = some (fl, env', st'), ⟨fuel, L, st, env, Ev.refl _ _, at_, hm⟩, ?_⟩
  rintro m σ2 H2 ⟨L2, st2, env2, e2, a2, hw⟩
  have hn : L.c.length = st.length := at_.r.len
  cases m with
  | zero => cases hw
  | succ k =>
    unfold whileD at hw
    refine tMT_bndS a2 hw ((hp.ev e2).err a2) fun b st3 L3 H3 h3 e3 a3 => ?_
    have e13 := e2.trans e3
    cases b with
    | false =>
      rw [if_neg Bool.false_ne_true] at h3 ⊢
      cases h3
      exact hp _ _ _ e13 a3.r a3.e
    | true =>
      rw [if_pos rfl] at h3 ⊢
      refine ⟨fun σ' H' => ∃ L2 st2 env2, Ev L H L2 H' ∧ At G L2 st2 σ' env2 H' ∧ whileD st.length mt mb k env2 st2 = some (fl, env', st'), fun σ' H' z => ⟨k, Nat.lt_succ_self _, z⟩, ?_⟩
      cases hb : mb env2 st3 with
      | none => rw [hb] at h3; cases h3
      | some p =>
        obtain ⟨fl4, env4, st4⟩ := p
        rw [hb] at h3
        refine ⟨L3, st3, env2, fl4, env4, st4, a3, hb, ?_⟩
        have cont : ∀ (hc : (st4.take st.length).all (cellOk st.length) = true) (hg : whileD st.length mt mb k (trimE st.length env4) (st4.take st.length) = some (fl, env', st')) (σ' : _root_.L2.St) (L' : Lv) (H' : Hp), Ev L3 H3 L' H' → Rep G L' st4 H' → EnvR G L' (off L' H') σ' env4 →
            ∃ L2 st2 env2, Ev L H L2 H' ∧ At G L2 st2 σ' env2 H' ∧ whileD st.length mt mb k env2 st2 = some (fl, env', st') := fun hc hg σ' L' H' e5 r5 en5 => by
          have ee := e13.trans e5
          have hl : st.length ≤ L'.c.length := by rw [← hn]; exact ee.le.len
          exact ⟨L'.trim st.length, _, _, ee.trim hn, at_.to hF (ee.trim hn) (r5.trim hl hc) (en5.trim hl), hg⟩
        cases fl4 with
        | next =>
          dsimp only at h3
          split at h3
          · rename_i hc
            exact cont hc h3
          · cases h3
        | cont =>
          dsimp only at h3
          split at h3
          · rename_i hc
            exact cont hc h3
          · cases h3
        | brk =>
          dsimp only at h3
          split at h3
          · rename_i hc
            cases h3
            intro σ' L' H' e5 r5 en5
            have ee := e13.trans e5
            have hl : st.length ≤ L'.c.length := by rw [← hn]; exact ee.le.len
            exact hp σ' (L'.trim st.length) H' (ee.trim hn) (r5.trim hl hc) (en5.trim hl)
          · cases h3
        | ret d =>
          cases h3
          exact fun v L' H' e5 r5 dv => hp v L' H' (e13.trans e5) r5 dv
        | err x =>
          cases h3
          exact fun cls dd σ' L' H' e5 r5 en5 xr => hp cls dd σ' L' H' (e13.trans e5) r5 en5 xr
theorem ms_while (hp : PassesOwn (model X.prog X.w) X.A X.env X.xe) (hc : PT X c (tMT G W mt)) (hb : PSs X body (tMS G W mb)) (hF : Flat G := by exact fun _ _ _ h => h) : PS X (.While c body [] pos) (tMS G W (mWhile fuel mt mb)) :=
  PSimp (ps_while hp hc hb) fun _ _ _ => t_while hF
end
/-! ### x += e -/
def mAug (f : Int → Int → Int) (i : Nat) (me : ME) : MS := fun env st => match env[i]? with
  | some (some (.int x)) => bndS (me env st) env fun d st => (match d with
    | .int y => some (.next, env.set i (some (.int (f x y))), st)
    | _ => none)
  | _ => none
theorem ms_aug {G : Gm} {W : WX} {X : Cx} {i : Nat} {x : Str} {e : Expr} {me : ME} {op : Operator} {f : Int → Int → Int} {pos' pos : Pos} (ho : PIp X op (ipI f)) (hN : X.N.Nodup) (hi : X.N[i]? = some x) (hx : Loc X.env.scope x) (he : PE X e (tM G W me))
    (hf : X.fn x = true ∨ X.env.scope.names.lookup x = some .local := by exact .inr rfl) (hF : Flat G := by exact fun _ _ _ h => h) : PS X (.AugAssign (.Name x pos') op e pos) (tMS G W (mAug f i me)) := PSimp (ps_aug hN hi hx he ho hf) fun D σ H q => by
  obtain ⟨L, st, env, fl, env', st', at_, hm, hp⟩ := q
  unfold mAug at hm
  split at hm
  · rename_i a ha
    obtain ⟨v, hv, dv⟩ := at_.e.at_ i _ ha
    obtain rfl := dv.int_inv
    refine ⟨_, hv, tM_bndS at_ hm (hp.err at_) fun d st1 w L1 H1 h1 e1 a1 dw => ?_⟩
    split at h1
    · rename_i b
      cases h1
      obtain rfl := dw.int_inv
      exact ⟨a, b, rfl, rfl, hp _ L1 H1 e1 a1.r (a1.e.set i (.d (.int _)))⟩
    · cases h1
  · cases hm
/-! ### extend, min -/
def gExtend (st : Store) (o : D) (ds : List D) : Option (D × Store) := match o, ds with
  | .ref i, [d] => match st[i]?, d with
    | some (.lst xs), .lst ys => if xs.length + ys.length ≤ big then some (.non, st.set i (.lst (xs ++ ys))) else none
    | _, _ => none
  | _, _ => none
theorem rm_extend {G : Gb} : RMM G rExtend gExtend := fun L st st' H x xs d ds z Q R dx dv hg k => by
  unfold gExtend at hg
  split at hg
  · rename_i i d
    split at hg
    · rename_i as ys hi
      split at hg
      · rename_i hc
        cases hg
        obtain ⟨v, rfl, hv⟩ := Das.one dv
        obtain ⟨a, rfl, hL, vs, q, r⟩ := cell_of R dx hi nofun
        obtain ⟨b, us, rfl, hb, rr⟩ := hv.lst_inv
        obtain ⟨e4, r4⟩ := cell_write (o := .lst (vs ++ us)) (c := .lst (as ++ ys)) R hL fun H' eo h => ⟨_, h, by rw [eo]; exact r.append rr⟩
        exact ⟨a, b, vs, us, rfl, rfl, q, (off_some hb).1, by rw [r.length, rr.length, sizeLine_eq]; unfold big at hc; omega, k _ _ _ e4 r4 (.d .non)⟩
      · cases hg
    · cases hg
  · cases hg
def minI : Int → List Int → Int
  | m, [] => m
  | m, n :: r => minI (if n < m then n else m) r
theorem minI_le : ∀ (l : List Int) (m : Int), minI m l ≤ m ∧ ∀ n ∈ l, minI m l ≤ n
  | [], m => ⟨Int.le_refl _, nofun⟩
  | n :: r, m => by
    obtain ⟨h1, h2⟩ := minI_le r (if n < m then n else m)
    refine ⟨?_, fun k hk => ?_⟩
    · show minI (if n < m then n else m) r ≤ m
      split at h1 <;> split <;> omega
    · show minI (if n < m then n else m) r ≤ k
      rcases List.mem_cons.mp hk with rfl | hk
      · split at h1 <;> split <;> omega
      · exact h2 k hk
theorem minI_mem : ∀ (l : List Int) (m : Int), minI m l ∈ m :: l
  | [], m => List.mem_cons_self
  | n :: r, m => by
    show minI (if n < m then n else m) r ∈ m :: n :: r
    rcases List.mem_cons.mp (minI_mem r (if n < m then n else m)) with e | e
    · rw [e]
      split
      · exact List.mem_cons_of_mem _ List.mem_cons_self
      · exact List.mem_cons_self
    · exact List.mem_cons_of_mem _ (List.mem_cons_of_mem _ e)
def gMinL (st : Store) : List D → Option D
  | [x] => match rd st x with
    | .lst ds => match intsD ds with
      | some (n :: r) => some (.int (minI n r))
      | _ => none
    | _ => none
  | _ => none
theorem call_mnL {X : Cx} (hc : X.calm = true) : CallR X (.builtin "min") (rMin X.K) := cr_min hc
theorem rc_minL {G : Gb} : RCM G (rMin G.K) gMinL := fun L st H xs ds z Q R dv hz k => by
  unfold gMinL at hz
  split at hz
  · rename_i x
    obtain ⟨v, rfl, hv⟩ := Das.one dv
    split at hz
    · rename_i es hes
      split at hz
      · rename_i n r q
        cases hz
        obtain ⟨a, vs, rfl, ha, rr⟩ := rd_off R hv hes
        obtain rfl := intsD_vs es vs _ rr q
        refine ⟨a, n :: r, rfl, .inl (.inl ha), Nat.succ_pos _, fun m hm hy => ?_⟩
        have h1 := hy _ (minI_mem r n)
        have h2 : minI n r ≤ m := (List.mem_cons.mp hm).elim (fun e => e ▸ (minI_le r n).1) ((minI_le r n).2 m)
        obtain rfl : m = minI n r := by omega
        exact r_same (.int _) R k
      · cases hz
    · cases hz
  · cases hz
end M


/-! The M layer: what is never reached. -/
namespace M
open PySem PySem.Spec PyProof.Rows L2
def mNo {α : Type} : En → Store → Option (Rs α × Store) := fun _ _ => none
section
variable {G : Gm} {W : WX} {X : Cx}
theorem m_no {e : Expr} : PE X e (tM G W mNo) := ⟨fun pins s σ H Q I h => by
  obtain ⟨_, _, _, _, _, _, z, _⟩ := h
  cases z⟩
theorem mt_no {e : Expr} : PT X e (tMT G W mNo) := ⟨fun pins s σ H Q I h => by
  obtain ⟨_, _, _, _, _, _, z, _⟩ := h
  cases z⟩
theorem mi_no {tg e : Expr} : PI X tg e (tMI G W mNo) := ⟨fun pins s σ H Q I h => by
  obtain ⟨_, _, _, _, _, _, z, _⟩ := h
  cases z⟩
theorem mss_never {ss : List Stmt} : PSs X ss (tMS G W mNever) := ⟨fun pins s σ H D I h => by
  obtain ⟨_, _, _, _, _, _, _, z, _⟩ := h
  cases z⟩
end
end M


/-! The M layer: mirrors reckoned with by simp. -/
namespace M
open PySem L2
section
variable {α β : Type} {env env' : En} {st : Store} {d e : D} {c : Prop} [Decidable c]
@[simp] theorem e_var0 {r : En} : mVar 0 (some d :: r) st = some (.ok d, st) := nr rfl
@[simp] theorem e_varS {i : Nat} {x : Option D} {r : En} : mVar (i + 1) (x :: r) st = mVar i r st := nr rfl
@[simp] theorem e_c : mC d env st = some (.ok d, st) := nr rfl
@[simp] theorem e_op {g : Store → D → D → Option D} {ma mb : ME} : mOp g ma mb env st = bnd (ma env st) fun x st => bnd (mb env st) fun y st => (g st x y).elim none fun z => some (.ok z, st) := by
  unfold mOp
  congr 1; funext x st; congr 1; funext y st
  cases g st x y <;> rfl
@[simp] theorem e_un {g : Store → D → Option D} {ma : ME} : mUn g ma env st = bnd (ma env st) fun x st => (g st x).elim none fun z => some (.ok z, st) := by
  unfold mUn
  congr 1; funext x st
  cases g st x <;> rfl
@[simp] theorem e_cb {g : Store → List D → Option D} {ma : MA} : mCB g ma env st = bnd (ma env st) fun x st => (g st x).elim none fun z => some (.ok z, st) := by
  unfold mCB
  congr 1; funext x st
  cases g st x <;> rfl
@[simp] theorem e_nil : mNil env st = some (.ok [], st) := nr rfl
@[simp] theorem e_cons {m : ME} {ms : MA} : mCons m ms env st = bnd (m env st) fun d st => bnd (ms env st) fun ds st => some (.ok (d :: ds), st) := nr rfl
@[simp] theorem e_bnd_ite {x y : Option (Rs α × Store)} {k : α → Store → Option (Rs β × Store)} : bnd (if c then x else y) k = if c then bnd x k else bnd y k := by split <;> rfl
@[simp] theorem e_bndS_ite {x y : Option (Rs α × Store)} {k : α → Store → Option (Fl × En × Store)} : bndS (if c then x else y) env k = if c then bndS x env k else bndS y env k := by split <;> rfl
@[simp] theorem e_ok_ite {a b : α} : (if c then some (Rs.ok a, st) else some (Rs.ok b, st)) = some (Rs.ok (if c then a else b), st) := by split <;> rfl
@[simp] theorem e_bl_ite {a b : Bool} : (if c then D.bl a else D.bl b) = D.bl (if c then a else b) := by split <;> rfl
@[simp] theorem e_int_ite {a b : Int} : (if c then D.int a else D.int b) = D.int (if c then a else b) := by split <;> rfl
def blK (d : D) (k : Bool → Option β) : Option β := match d with
  | .bl b => k b
  | _ => none
@[simp] theorem e_blK {b : Bool} {k : Bool → Option β} : blK (.bl b) k = k b := nr rfl
@[simp] theorem e_val {m : ME} : mVal m env st = bnd (m env st) fun d st => blK d fun k => some (.ok k, st) := by
  exact nr rfl
@[simp] theorem e_and {m k : MT} : mAnd m k env st = bnd (m env st) fun b st => if b = true then k env st else some (.ok false, st) := nr rfl
@[simp] theorem e_or {m k : MT} : mOr m k env st = bnd (m env st) fun b st => if b = true then some (.ok true, st) else k env st := nr rfl
@[simp] theorem e_not {m : MT} : mNot m env st = bnd (m env st) fun b st => some (.ok (!b), st) := nr rfl
@[simp] theorem e_andV {m k : ME} : mAndV m k env st = bnd (m env st) fun d st => blK d fun b => if b = true then k env st else some (.ok (.bl false), st) := by
  unfold mAndV
  congr 1; funext d st
  cases d <;> first | rfl | (rename_i b; cases b <;> rfl)
@[simp] theorem e_orV {m k : ME} : mOrV m k env st = bnd (m env st) fun d st => blK d fun b => if b = true then some (.ok (.bl true), st) else k env st := by
  unfold mOrV
  congr 1; funext d st
  cases d <;> first | rfl | (rename_i b; cases b <;> rfl)
@[simp] theorem e_notV {m : ME} : mNotV m env st = bnd (m env st) fun d st => blK d fun b => some (.ok (.bl (!b)), st) := by
  exact nr rfl
@[simp] theorem e_if {t : MT} {a b : ME} : mIf t a b env st = bnd (t env st) fun k st => if k = true then a env st else b env st := nr rfl
@[simp] theorem e_chain {g g' : Store → D → D → Option D} {ma mb mc : ME} : mChain g g' ma mb mc env st = bnd (ma env st) fun x st => bnd (mb env st) fun y st => (g st x y).elim none fun d => blK d fun b => if b = true then (bnd (mc env st) fun z st => (g' st y z).elim none fun u => some (.ok u, st)) else some (.ok (.bl false), st) := by
  unfold mChain
  congr 1; funext x st; congr 1; funext y st
  cases h : g st x y with
  | none => rfl
  | some d =>
    cases d <;> try rfl
    rename_i b
    cases b
    · rfl
    · show bnd _ _ = bnd _ _
      congr 1; funext z st
      cases g' st y z <;> rfl
@[simp] theorem e_call {n : Nat} {f : Call} {ma : MA} : mCall n f ma env st = bnd (ma env st) fun ds st => if ds.length = n then f ds st else none := nr rfl
@[simp] theorem e_lst {ma : MA} : mLst ma env st = bnd (ma env st) fun ds st => if ds.length ≤ big ∧ ds.all isD = true then some (.ok (.lst ds), st) else none := nr rfl
@[simp] theorem e_tup {ma : MA} : mTup ma env st = bnd (ma env st) fun ds st => if ds.length ≤ big ∧ ds.all isD = true then some (.ok (.tup ds), st) else none := nr rfl
@[simp] theorem e_new {ma : MA} : mNew ma env st = bnd (ma env st) fun ds st => if ds.length ≤ big ∧ ds.all isD = true then some (.ok (.ref st.length), st ++ [.lst ds]) else none := nr rfl
@[simp] theorem e_dnewT : mDNewT env st = some (.ok (.ref st.length), st ++ [.dT []]) := nr rfl
/-! statements -/
def seqK (r : Option (Fl × En × Store)) (k : En → Store → Option (Fl × En × Store)) : Option (Fl × En × Store) := match r with
  | some (.next, env, st) => k env st
  | r => r
@[simp] theorem e_seqN {k : En → Store → Option (Fl × En × Store)} : seqK (some (.next, env, st)) k = k env st := nr rfl
@[simp] theorem e_seqR {k : En → Store → Option (Fl × En × Store)} : seqK (some (.ret d, env, st)) k = some (.ret d, env, st) := nr rfl
@[simp] theorem e_seqE {x : Xn} {k : En → Store → Option (Fl × En × Store)} : seqK (some (.err x, env, st)) k = some (.err x, env, st) := nr rfl
@[simp] theorem e_seq_ite {x y : Option (Fl × En × Store)} {k : En → Store → Option (Fl × En × Store)} : seqK (if c then x else y) k = if c then seqK x k else seqK y k := by split <;> rfl
@[simp] theorem e_seq {m k : MS} : mSeq m k env st = seqK (m env st) k := by
  unfold mSeq seqK
  split <;> first | rfl | simp_all
@[simp] theorem e_next : mNext env st = some (.next, env, st) := nr rfl
@[simp] theorem e_ret {m : ME} : mRet m env st = bndS (m env st) env fun d st => some (.ret d, env, st) := nr rfl
@[simp] theorem e_drop {m : ME} : mDrop m env st = bndS (m env st) env fun _ st => some (.next, env, st) := nr rfl
@[simp] theorem e_ifS {t : MT} {a b : MS} : mIfS t a b env st = bndS (t env st) env fun k st => if k = true then a env st else b env st := nr rfl
@[simp] theorem e_asg {m : ME} {i : Nat} : mAsg m (.nm i) env st = bndS (m env st) env fun d st => some (.next, env.set i (some d), st) := nr rfl
@[simp] theorem e_par {m : MA} {i j : Nat} : mPar i j m env st = bndS (m env st) env fun ds st => match ds with
  | [d, e] => some (.next, (env.set i (some d)).set j (some e), st)
  | _ => none := nr rfl
@[simp] theorem e_aug {f : Int → Int → Int} {i : Nat} {m : ME} {x : Int} (h : env[i]? = some (some (.int x))) : mAug f i m env st = bndS (m env st) env fun d st => (match d with
    | .int y => some (.next, env.set i (some (.int (f x y))), st)
    | _ => none) := by
  unfold mAug
  rw [h] <;> rfl
/-! operations -/
@[simp] theorem e_add {i j : Int} : gAdd st (.int i) (.int j) = some (.int (i + j)) := nr rfl
@[simp] theorem e_addL {a b : List D} (h : a.length + b.length ≤ big) : gAdd st (.lst a) (.lst b) = some (.lst (a ++ b)) := if_pos h
@[simp] theorem e_iop {f : Int → Int → D} {i j : Int} : iop f st (.int i) (.int j) = some (f i j) := nr rfl
@[simp] theorem e_iopC {C : Int → Int → Prop} [∀ i j, Decidable (C i j)] {f : Int → Int → D} {i j : Int} (h : C i j) : iopC C f st (.int i) (.int j) = some (f i j) := if_pos h
@[simp] theorem e_rd_non : rd st .non = .non := nr rfl
@[simp] theorem e_rd_bl {b : Bool} : rd st (.bl b) = .bl b := nr rfl
@[simp] theorem e_rd_int {b : Int} : rd st (.int b) = .int b := nr rfl
@[simp] theorem e_rd_str {b : Str} : rd st (.str b) = .str b := nr rfl
@[simp] theorem e_rd_lst {b : List D} : rd st (.lst b) = .lst b := nr rfl
@[simp] theorem e_rd_ro {b : List D} : rd st (.ro b) = .ro b := nr rfl
@[simp] theorem e_rd_tup {b : List D} : rd st (.tup b) = .tup b := nr rfl
@[simp] theorem e_rd_dK {b : List (Key × D)} : rd st (.dK b) = .dK b := nr rfl
@[simp] theorem e_rd_dT {b : List (List Key × D)} : rd st (.dT b) = .dT b := nr rfl
@[simp] theorem e_rd_obj {k : Nat} {b : List (Str × D)} : rd st (.obj k b) = .obj k b := nr rfl
@[simp] theorem e_len_lst {b : List D} : gLenA st [.lst b] = some (.int b.length) := nr rfl
@[simp] theorem e_len_ro {b : List D} : gLenA st [.ro b] = some (.int b.length) := nr rfl
@[simp] theorem e_len_tup {b : List D} : gLenA st [.tup b] = some (.int b.length) := nr rfl
@[simp] theorem e_len_dK {b : List (Key × D)} : gLenA st [.dK b] = some (.int b.length) := nr rfl
@[simp] theorem e_len_dT {b : List (List Key × D)} : gLenA st [.dT b] = some (.int b.length) := nr rfl
@[simp] theorem e_len_str {b : Str} (h : b.cps.size ≤ big) : gLenA st [.str b] = some (.int b.cps.size) := if_pos h
@[simp] theorem e_int1 {i : Int} : gInt st [.int i] = some (.int i) := nr rfl
@[simp] theorem e_intb {b : Bool} : gInt st [.bl b] = some (.int (if b then 1 else 0)) := nr rfl
@[simp] theorem e_max2 {i j : Int} : gMax2 st [.int i, .int j] = some (.int (if j > i then j else i)) := nr rfl
@[simp] theorem e_min2 {i j : Int} : gMin2 st [.int i, .int j] = some (.int (if j < i then j else i)) := nr rfl
@[simp] theorem e_neg {i : Int} : gNeg st (.int i) = some (.int (-i)) := nr rfl
@[simp] theorem e_isN {n : Bool} {x : D} : gIsN n st x .non = some (.bl (isNon x != n)) := nr rfl
@[simp] theorem e_eqInt {i j : Int} : gEq st (.int i) (.int j) = some (.bl (decide (i = j))) := nr rfl
@[simp] theorem e_neInt {i j : Int} : gNe st (.int i) (.int j) = some (.bl (!decide (i = j))) := nr rfl
@[simp] theorem e_tag_non : tagD st .non = some (.inl .non) := nr rfl
@[simp] theorem e_tag_bl {b : Bool} : tagD st (.bl b) = some (.inl .bl) := nr rfl
@[simp] theorem e_tag_int {b : Int} : tagD st (.int b) = some (.inl .int) := nr rfl
@[simp] theorem e_tag_str {b : Str} : tagD st (.str b) = some (.inl .str) := nr rfl
@[simp] theorem e_tag_lst {b : List D} : tagD st (.lst b) = some (.inl .lst) := nr rfl
@[simp] theorem e_tag_tup {b : List D} : tagD st (.tup b) = some (.inl .tup) := nr rfl
@[simp] theorem e_tag_dK {b : List (Key × D)} : tagD st (.dK b) = some (.inl .dic) := nr rfl
@[simp] theorem e_tag_dT {b : List (List Key × D)} : tagD st (.dT b) = some (.inl .dic) := nr rfl
@[simp] theorem e_tag_obj {k : Nat} {b : List (Str × D)} : tagD st (.obj k b) = some (.inr k) := nr rfl
@[simp] theorem e_isi_ty {ids : List Nat} {x : D} {t : Tag} : gIsi ids st [x, .ty t] = (tagD st x).elim none fun y => (isi1 ids y (.ty t)).map .bl := by
  unfold gIsi
  dsimp only
  cases tagD st x <;> rfl
@[simp] theorem e_isi_cls {ids : List Nat} {x : D} {t : Nat} : gIsi ids st [x, .cls t] = (tagD st x).elim none fun y => (isi1 ids y (.cls t)).map .bl := by
  unfold gIsi
  dsimp only
  cases tagD st x <;> rfl
@[simp] theorem e_isi_tup {ids : List Nat} {x c : D} {cs : List D} : gIsi ids st [x, .tup (c :: cs)] = (tagD st x).elim none fun y => (isiAny ids y (c :: cs)).map .bl := by
  unfold gIsi
  dsimp only
  cases tagD st x <;> rfl
@[simp] theorem e_isi1_bb {ids : List Nat} {a b : Tag} : isi1 ids (.inl a) (.ty b) = some (decide (a = b) || (decide (a = .bl) && decide (b = .int))) := nr rfl
@[simp] theorem e_isi1_bc {ids : List Nat} {a : Tag} {k : Nat} : isi1 ids (.inl a) (.cls k) = if k ∈ ids then some false else none := nr rfl
@[simp] theorem e_isi1_oc {ids : List Nat} {a k : Nat} : isi1 ids (.inr a) (.cls k) = if a ∈ ids ∧ k ∈ ids then some (a == k) else none := nr rfl
@[simp] theorem e_isi1_ob {ids : List Nat} {a : Nat} {t : Tag} : isi1 ids (.inr a) (.ty t) = if a ∈ ids then some false else none := nr rfl
@[simp] theorem e_isiNil {ids : List Nat} {t : Sum Tag Nat} : isiAny ids t [] = some false := nr rfl
@[simp] theorem e_isiCons {ids : List Nat} {t : Sum Tag Nat} {x : D} {xs : List D} : isiAny ids t (x :: xs) = (isi1 ids t x).elim none fun a => (isiAny ids t xs).elim none fun b => some (a || b) := by
  rw [isiAny]
  cases isi1 ids t x <;> cases isiAny ids t xs <;> rfl
@[simp] theorem e_fld_obj {ids : List Nat} {f : Str} {k : Nat} {fs : List (Str × D)} : gFld ids f st (.obj k fs) = if k ∈ ids then fs.lookup f else none := nr rfl
@[simp] theorem e_objF {k : Nat} {fs : List (Str × D)} : objF st (.obj k fs) = some (k, fs) := nr rfl
@[simp] theorem e_mth {cid : Nat} {m : Str} {n : Nat} {f : Call} {mo : ME} {ma : MA} : mMth cid m n f mo ma env st = bnd (mo env st) fun o st => (objF st o).elim none fun p => if p.1 = cid ∧ p.2.lookup m = none then bnd (ma env st) fun ds st => if ds.length + 1 = n then f (o :: ds) st else none else none := by
  unfold mMth
  congr 1; funext o st
  cases objF st o <;> rfl
def okK (r : Option (Rs D × Store)) : Option (Rs D × Store) := match r with
  | some (.ok d, st) => some (.ok d, st)
  | _ => none
@[simp] theorem e_okK : okK (some (.ok d, st)) = some (.ok d, st) := nr rfl
@[simp] theorem e_prop {cid : Nat} {f : Call} {mo : ME} : mProp cid f mo env st = bnd (mo env st) fun o st => (objF st o).elim none fun p => if p.1 = cid then okK (f [o] st) else none := by
  unfold mProp okK
  congr 1; funext o st
  cases objF st o <;> rfl
@[simp] theorem e_opS {g : Store → D → D → Option (D × Store)} {ma mb : ME} : mOpS g ma mb env st = bnd (ma env st) fun x st => bnd (mb env st) fun y st => (g st x y).elim none fun p => some (.ok p.1, p.2) := by
  unfold mOpS
  congr 1; funext x st; congr 1; funext y st
  cases g st x y <;> rfl
def inK (neg : Bool) (r : Option (Rs D × Store)) : Option (D × Store) := match r with
  | some (.ok (.bl b), st) => some (.bl (b != neg), st)
  | _ => none
@[simp] theorem e_inK {neg b : Bool} : inK neg (some (.ok (.bl b), st)) = some (.bl (b != neg), st) := nr rfl
@[simp] theorem e_inO {cid : Nat} {f : Call} {neg : Bool} {x y : D} : gInO cid f neg st x y = (objF st y).elim none fun p => if p.1 = cid then inK neg (f [y, x] st) else none := by
  unfold gInO inK
  cases objF st y <;> rfl
@[simp] theorem e_listK {b : List (Key × D)} : gListT st [.dK b] = some (.lst (keysK b)) := nr rfl
@[simp] theorem e_listT {b : List (List Key × D)} : gListT st [.dT b] = some (.lst (keysT b)) := nr rfl
@[simp] theorem e_elimS {x : α} {k : α → Option β} : (some x).elim none k = k x := nr rfl
@[simp] theorem e_elim_ite {x y : Option α} {k : α → Option β} : (if c then x else y).elim none k = if c then x.elim none k else y.elim none k := by split <;> rfl
@[simp] theorem isD_non : isD .non = true := nr rfl
@[simp] theorem isD_bl {b : Bool} : isD (.bl b) = true := nr rfl
@[simp] theorem isD_int {b : Int} : isD (.int b) = true := nr rfl
@[simp] theorem isD_str {b : Str} : isD (.str b) = true := nr rfl
@[simp] theorem isD_ty {b : Tag} : isD (.ty b) = true := nr rfl
@[simp] theorem isD_lst {b : List D} : isD (.lst b) = true := nr rfl
@[simp] theorem isD_tup {b : List D} : isD (.tup b) = true := nr rfl
@[simp] theorem isD_ro {b : List D} : isD (.ro b) = true := nr rfl
@[simp] theorem isD_dK {b : List (Key × D)} : isD (.dK b) = true := nr rfl
@[simp] theorem isD_dT {b : List (List Key × D)} : isD (.dT b) = true := nr rfl
@[simp] theorem isD_obj {k : Nat} {b : List (Str × D)} : isD (.obj k b) = true := nr rfl
@[simp] theorem isD_cls {k : Nat} : isD (.cls k) = true := nr rfl
@[simp] theorem e_big : big = 1000000 := by decide +kernel
/-! walks -/
def itK (r : Option (Rs D × Store)) (k : D → Option (List D)) : Option (Rs (List D) × Store) := bnd r fun d st => (k d).elim none fun ds => some (.ok ds, st)
@[simp] theorem e_itL {m : ME} : mItL m env st = bnd (m env st) fun d st => (match d with
  | .lst ds => some (.ok ds, st)
  | .ro ds => some (.ok ds, st)
  | _ => none) := nr rfl
@[simp] theorem e_itD {m : ME} : mItD m env st = bnd (m env st) fun d st => (match d with
  | .dK kvs => some (.ok (keysK kvs), st)
  | .dT kvs => some (.ok (keysT kvs), st)
  | _ => none) := nr rfl
@[simp] theorem e_itStr {m : ME} : mItStr m env st = bnd (m env st) fun d st => (match d with
  | .str x => some (.ok (charsD x), st)
  | _ => none) := nr rfl
@[simp] theorem e_enum {m : ME} : mEnum m env st = bnd (m env st) fun d st => (match d with
  | .lst ds => some (.ok (enumD 0 ds), st)
  | .ro ds => some (.ok (enumD 0 ds), st)
  | .tup ds => some (.ok (enumD 0 ds), st)
  | _ => none) := nr rfl
def rngK (d : D) (st : Store) : Option (Rs (List D) × Store) := match d with
  | .int j => if -(2 ^ 62) ≤ j ∧ j < 2 ^ 62 then some (.ok (intsFrom 0 j.toNat), st) else none
  | _ => none
@[simp] theorem e_rng1 {m : ME} : mRng1 (mCons m mNil) env st = bnd (m env st) rngK := by
  unfold mRng1
  rw [e_cons]
  cases m env st with
  | none => rfl
  | some p =>
    obtain ⟨r, st1⟩ := p
    cases r with
    | err x => rfl
    | ok d => rw [bnd_ok, bnd_ok, e_nil, bnd_ok, bnd_ok]; cases d <;> rfl
@[simp] theorem e_rngK {j : Int} (h0 : 0 ≤ j) (h1 : j ≤ 1000000) : rngK (.int j) st = some (.ok ((List.range j.toNat).map fun i => D.int (i : Nat)), st) := by
  unfold rngK
  dsimp only
  rw [if_pos ⟨Int.le_trans (by decide) h0, Int.lt_of_le_of_lt h1 (by decide)⟩]
  unfold intsFrom
  simp
@[simp] theorem e_setN {i : Nat} : setT (.nm i) d env = some (env.set i (some d)) := nr rfl
@[simp] theorem e_setTp {is : List Nat} {ds : List D} : setT (.tp is) (.tup ds) env = setL is ds env := nr rfl
@[simp] theorem e_setL0 : setL [] [] env = some env := nr rfl
@[simp] theorem e_setLS {i : Nat} {is : List Nat} {ds : List D} : setL (i :: is) (d :: ds) env = setL is ds (env.set i (some d)) := nr rfl
@[simp] theorem e_wipe0 : wipeE env [] = env := nr rfl
@[simp] theorem e_wipeS {i : Nat} {is : List Nat} : wipeE env (i :: is) = (wipeE env is).set i none := nr rfl
@[simp] theorem e_yes : tYesM env st = some (.ok true, st) := nr rfl
end
/-! comprehensions whose parts leave the store -/
/-- one item: taken or not -/
def stepD (t : Tg) (mt : MT) (me : ME) (env : En) (st : Store) (d : D) : Option (Option D) := match setT t d env with
  | none => none
  | some env1 => match mt env1 st with
    | some (.ok true, _) => (match me env1 st with
      | some (.ok y, _) => if isD y = true then some (some y) else none
      | _ => none)
    | some (.ok false, _) => some none
    | _ => none
/-- the list comprehension: P says what is taken, g what is told -/
theorem compD_eq {α : Type} {t : Tg} {mt : MT} {me : ME} {env : En} {st : Store} {f : α → D} (P : α → Bool) (g : α → D) : ∀ xs : List α,
    (∀ x ∈ xs, ∃ env1, setT t (f x) env = some env1 ∧ mt env1 st = some (.ok (P x), st) ∧ (P x = true → me env1 st = some (.ok (g x), st) ∧ isD (g x) = true)) →
    compD t mt me env (xs.map f) st = some ((xs.filter P).map g, st)
  | [], _ => rfl
  | x :: xs, h => by
    obtain ⟨env1, h1, h2, h3⟩ := h x List.mem_cons_self
    have ih := compD_eq (t := t) (mt := mt) (me := me) (env := env) (st := st) (f := f) P g xs fun y hy => h y (List.mem_cons_of_mem _ hy)
    rw [List.map_cons]
    unfold compD
    rw [h1]
    dsimp only
    rw [h2]
    cases hp : P x with
    | false =>
      dsimp only
      rw [List.filter_cons_of_neg (by rw [hp]; exact Bool.false_ne_true)]
      exact ih
    | true =>
      obtain ⟨h4, h5⟩ := h3 hp
      dsimp only
      rw [h4]
      dsimp only
      rw [if_pos h5, ih, List.filter_cons_of_pos hp]
      rfl
theorem lc_eq {α : Type} {mi : MA} {t : Tg} {mt : MT} {me : ME} {vs : List Nat} {env : En} {st : Store} (xs : List α) (f : α → D) (P : α → Bool) (g : α → D) (hi : mi env st = some (.ok (xs.map f), st)) (hl : xs.length ≤ 1000000)
    (h : ∀ x ∈ xs, ∃ env1, setT t (f x) (wipeE env vs) = some env1 ∧ mt env1 st = some (.ok (P x), st) ∧ (P x = true → me env1 st = some (.ok (g x), st) ∧ isD (g x) = true)) :
    mLc mi t mt me vs env st = some (.ok (.lst ((xs.filter P).map g)), st) := by
  unfold mLc
  rw [hi, bnd_ok, compD_eq P g xs h]
  dsimp only
  rw [if_pos (by rw [List.length_map]; exact Nat.le_trans (List.length_filter_le _ _) hl)]
/-- without tests -/
theorem lc_map {α : Type} {mi : MA} {t : Tg} {me : ME} {vs : List Nat} {env : En} {st : Store} (xs : List α) (f : α → D) (g : α → D) (hi : mi env st = some (.ok (xs.map f), st)) (hl : xs.length ≤ 1000000)
    (h : ∀ x ∈ xs, ∃ env1, setT t (f x) (wipeE env vs) = some env1 ∧ me env1 st = some (.ok (g x), st) ∧ isD (g x) = true) :
    mLc mi t tYesM me vs env st = some (.ok (.lst (xs.map g)), st) := by
  have e := lc_eq (mt := tYesM) xs f (fun _ => true) g hi hl fun x hx => let ⟨env1, h1, h2, h3⟩ := h x hx; ⟨env1, h1, rfl, fun _ => ⟨h2, h3⟩⟩
  rwa [List.filter_eq_self.mpr fun _ _ => rfl] at e
theorem comp2D_eq {α β : Type} {t t1 : Tg} {mt mt1 : MT} {mi1 : MA} {me : ME} {vs1 : List Nat} {env : En} {st : Store} {f : α → D} (ys : α → List β) (f1 : β → D) (P : α → Bool) (P1 : α → β → Bool) (g : α → β → D) : ∀ xs : List α,
    (∀ x ∈ xs, ∃ env1, setT t (f x) env = some env1 ∧ mt env1 st = some (.ok (P x), st) ∧ (P x = true → mi1 env1 st = some (.ok ((ys x).map f1), st) ∧
      ∀ y ∈ ys x, ∃ env2, setT t1 (f1 y) (wipeE env1 vs1) = some env2 ∧ mt1 env2 st = some (.ok (P1 x y), st) ∧ (P1 x y = true → me env2 st = some (.ok (g x y), st) ∧ isD (g x y) = true))) →
    comp2D t mt mi1 t1 mt1 me vs1 env (xs.map f) st = some ((xs.filter P).flatMap fun x => ((ys x).filter (P1 x)).map (g x), st)
  | [], _ => rfl
  | x :: xs, h => by
    obtain ⟨env1, h1, h2, h3⟩ := h x List.mem_cons_self
    have ih := comp2D_eq (t := t) (mt := mt) (mi1 := mi1) (t1 := t1) (mt1 := mt1) (me := me) (vs1 := vs1) (env := env) (st := st) (f := f) ys f1 P P1 g xs fun y hy => h y (List.mem_cons_of_mem _ hy)
    rw [List.map_cons]
    unfold comp2D
    rw [h1]
    dsimp only
    rw [h2]
    cases hp : P x with
    | false =>
      dsimp only
      rw [List.filter_cons_of_neg (by rw [hp]; exact Bool.false_ne_true)]
      exact ih
    | true =>
      obtain ⟨h4, h5⟩ := h3 hp
      dsimp only
      rw [h4]
      dsimp only
      rw [compD_eq (P1 x) (g x) (ys x) h5]
      dsimp only
      rw [ih, List.filter_cons_of_pos hp]
      rfl
theorem lc2_eq {α β : Type} {mi mi1 : MA} {t t1 : Tg} {mt mt1 : MT} {me : ME} {vs vs1 : List Nat} {env : En} {st : Store} (xs : List α) (f : α → D) (ys : α → List β) (f1 : β → D) (P : α → Bool) (P1 : α → β → Bool) (g : α → β → D)
    (hi : mi env st = some (.ok (xs.map f), st)) (hl : ((xs.filter P).flatMap fun x => ((ys x).filter (P1 x)).map (g x)).length ≤ big)
    (h : ∀ x ∈ xs, ∃ env1, setT t (f x) (wipeE env vs) = some env1 ∧ mt env1 st = some (.ok (P x), st) ∧ (P x = true → mi1 env1 st = some (.ok ((ys x).map f1), st) ∧
      ∀ y ∈ ys x, ∃ env2, setT t1 (f1 y) (wipeE env1 vs1) = some env2 ∧ mt1 env2 st = some (.ok (P1 x y), st) ∧ (P1 x y = true → me env2 st = some (.ok (g x y), st) ∧ isD (g x y) = true))) :
    mLc2 mi t mt mi1 t1 mt1 me vs vs1 env st = some (.ok (.lst ((xs.filter P).flatMap fun x => ((ys x).filter (P1 x)).map (g x))), st) := by
  unfold mLc2
  rw [hi, bnd_ok, comp2D_eq ys f1 P P1 g xs h]
  dsimp only
  rw [if_pos hl]
/-- dict comprehensions, unlike keys -/
theorem putKd_new {κ : Type} [DecidableEq κ] {kvs : List (κ × D)} {k : κ} {d : D} (h : k ∉ kvs.map (·.1)) : putKd kvs k d = kvs ++ [(k, d)] := by
  unfold putKd
  rw [if_neg]
  intro z
  obtain ⟨p, hp, hd⟩ := List.any_eq_true.mp z
  exact h (of_decide_eq_true hd ▸ List.mem_map_of_mem hp)
def foldP {κ : Type} [DecidableEq κ] (l more : List (κ × D)) : List (κ × D) := more.foldl (fun a p => putKd a p.1 p.2) l
theorem foldP_new {κ : Type} [DecidableEq κ] : ∀ (more l : List (κ × D)), ((l ++ more).map (·.1)).Nodup → foldP l more = l ++ more
  | [], l, _ => by simp [foldP]
  | p :: more, l, h => by
    have h' : ((l ++ [p] ++ more).map (·.1)).Nodup := by rw [List.append_assoc]; exact h
    have hn : p.1 ∉ l.map (·.1) := by
      rw [List.map_append, List.nodup_append] at h
      exact fun z => h.2.2 _ z _ (by simp) rfl
    show foldP (putKd l p.1 p.2) more = _
    rw [putKd_new hn, foldP_new more (l ++ [p]) h', List.append_assoc]
    rfl
theorem compK_eq {α : Type} {t : Tg} {mt : MT} {mk mv : ME} {env : En} {st : Store} {f : α → D} (P : α → Bool) (k : α → Key) (g : α → D) : ∀ (xs : List α) (l : List (Key × D)), l.length + xs.length ≤ big →
    (∀ x ∈ xs, ∃ env1, setT t (f x) env = some env1 ∧ mt env1 st = some (.ok (P x), st) ∧ (P x = true → mk env1 st = some (.ok (kD (k x)), st) ∧ mv env1 st = some (.ok (g x), st) ∧ isD (g x) = true)) →
    compK t mt mk mv env (xs.map f) l st = some (foldP l ((xs.filter P).map fun x => (k x, g x)), st)
  | [], _, _, _ => rfl
  | x :: xs, l, hl, h => by
    obtain ⟨env1, h1, h2, h3⟩ := h x List.mem_cons_self
    rw [List.map_cons]
    unfold compK
    rw [h1]
    dsimp only
    rw [h2]
    rw [List.length_cons] at hl
    cases hp : P x with
    | false =>
      dsimp only
      rw [List.filter_cons_of_neg (by rw [hp]; exact Bool.false_ne_true)]
      exact compK_eq P k g xs l (by omega) fun y hy => h y (List.mem_cons_of_mem _ hy)
    | true =>
      obtain ⟨h4, h5, h6⟩ := h3 hp
      dsimp only
      rw [h4]
      dsimp only
      rw [h5]
      dsimp only
      have e : keyD (kD (k x)) = some (k x) := by cases k x <;> rfl
      rw [e]
      dsimp only
      rw [if_pos ⟨h6, by omega⟩]
      have hq := putKd_length l (k x) (g x)
      rw [compK_eq P k g xs _ (by omega) fun y hy => h y (List.mem_cons_of_mem _ hy), List.filter_cons_of_pos hp]
      rfl
theorem keysD_kD : ∀ ks : List Key, keysD (ks.map kD) = some ks
  | [] => rfl
  | k :: ks => by
    have e : keyD (kD k) = some k := by cases k <;> rfl
    rw [List.map_cons]
    unfold keysD
    rw [e, keysD_kD ks]
theorem compT_eq {α : Type} {t : Tg} {mt : MT} {mk mv : ME} {env : En} {st : Store} {f : α → D} (P : α → Bool) (k : α → List Key) (g : α → D) : ∀ (xs : List α) (l : List (List Key × D)), l.length + xs.length ≤ big →
    (∀ x ∈ xs, ∃ env1, setT t (f x) env = some env1 ∧ mt env1 st = some (.ok (P x), st) ∧ (P x = true → mk env1 st = some (.ok (.tup ((k x).map kD)), st) ∧ mv env1 st = some (.ok (g x), st) ∧ isD (g x) = true)) →
    compT t mt mk mv env (xs.map f) l st = some (foldP l ((xs.filter P).map fun x => (k x, g x)), st)
  | [], _, _, _ => rfl
  | x :: xs, l, hl, h => by
    obtain ⟨env1, h1, h2, h3⟩ := h x List.mem_cons_self
    rw [List.map_cons]
    unfold compT
    rw [h1]
    dsimp only
    rw [h2]
    rw [List.length_cons] at hl
    cases hp : P x with
    | false =>
      dsimp only
      rw [List.filter_cons_of_neg (by rw [hp]; exact Bool.false_ne_true)]
      exact compT_eq P k g xs l (by omega) fun y hy => h y (List.mem_cons_of_mem _ hy)
    | true =>
      obtain ⟨h4, h5, h6⟩ := h3 hp
      dsimp only
      rw [h4]
      dsimp only
      rw [h5]
      dsimp only
      have e : keyT (.tup ((k x).map kD)) = some (k x) := keysD_kD _
      rw [e]
      dsimp only
      rw [if_pos ⟨h6, by omega⟩]
      have hq := putKd_length l (k x) (g x)
      rw [compT_eq P k g xs _ (by omega) fun y hy => h y (List.mem_cons_of_mem _ hy), List.filter_cons_of_pos hp]
      rfl
theorem dc_eq {α : Type} {mi : MA} {t : Tg} {mt : MT} {mk mv : ME} {vs : List Nat} {env : En} {st : Store} (xs : List α) (f : α → D) (P : α → Bool) (k : α → Key) (g : α → D) (hi : mi env st = some (.ok (xs.map f), st)) (hl : xs.length ≤ 1000000)
    (h : ∀ x ∈ xs, ∃ env1, setT t (f x) (wipeE env vs) = some env1 ∧ mt env1 st = some (.ok (P x), st) ∧ (P x = true → mk env1 st = some (.ok (kD (k x)), st) ∧ mv env1 st = some (.ok (g x), st) ∧ isD (g x) = true)) :
    mDc mi t mt mk mv vs env st = some (.ok (.dK (foldP [] ((xs.filter P).map fun x => (k x, g x)))), st) := by
  unfold mDc
  rw [hi, bnd_ok, compK_eq P k g xs [] (by simpa using hl) h]
theorem dcT_eq {α : Type} {mi : MA} {t : Tg} {mt : MT} {mk mv : ME} {vs : List Nat} {env : En} {st : Store} (xs : List α) (f : α → D) (P : α → Bool) (k : α → List Key) (g : α → D) (hi : mi env st = some (.ok (xs.map f), st)) (hl : xs.length ≤ 1000000)
    (h : ∀ x ∈ xs, ∃ env1, setT t (f x) (wipeE env vs) = some env1 ∧ mt env1 st = some (.ok (P x), st) ∧ (P x = true → mk env1 st = some (.ok (.tup ((k x).map kD)), st) ∧ mv env1 st = some (.ok (g x), st) ∧ isD (g x) = true)) :
    mDcT mi t mt mk mv vs env st = some (.ok (.dT (foldP [] ((xs.filter P).map fun x => (k x, g x)))), st) := by
  unfold mDcT
  rw [hi, bnd_ok, compT_eq P k g xs [] (by simpa using hl) h]
/-- the store is in order -/
def Ok (st : Store) : Prop := st.all (cellOk st.length) = true
/-- a def that leaves the store -/
theorem fn_ret {m : MS} {k : Nat} {ds : List D} {st : Store} {d : D} {env' : En} (h : m (startE k ds) st = some (.ret d, env', st)) (hs : Ok st) (hd : isD d = true) : mkD m k ds st = some (.ok d, st) := mkD_ret h hs hd
theorem fn_next {m : MS} {k : Nat} {ds : List D} {st : Store} {env' : En} (h : m (startE k ds) st = some (.next, env', st)) (hs : Ok st) : mkD m k ds st = some (.ok .non, st) := by
  unfold mkD
  rw [h]
  dsimp only
  rw [fin_data hs rfl]
/-- .. or leaves more cells, and hands back one of them -/
theorem fn_cell {m : MS} {k i : Nat} {ds : List D} {st st' : Store} {env' : En} {xs : List D} (h : m (startE k ds) st = some (.ret (.ref i), env', st')) (h1 : st'.take st.length = st) (h2 : st'[i]? = some (.lst xs)) (h3 : st.length ≤ i) (hs : Ok st) : mkD m k ds st = some (.ok (.lst xs), st) := by
  unfold mkD
  rw [h]
  dsimp only
  rw [fin_ref (by rw [h1]; exact hs) h3 h2, h1]
/-- .. or a datum -/
theorem fn_more {m : MS} {k : Nat} {ds : List D} {st st' : Store} {env' : En} {d : D} (h : m (startE k ds) st = some (.ret d, env', st')) (h1 : st'.take st.length = st) (hd : isD d = true) (hs : Ok st) : mkD m k ds st = some (.ok d, st) := by
  unfold mkD
  rw [h]
  dsimp only
  unfold finD
  rw [h1, if_pos (show st.all (cellOk st.length) = true from hs)]
  cases d <;> first | rfl | cases hd
end M


/-! The M layer: targets of any form. -/
namespace M
open PySem PySem.Spec PyProof.Rows L2
abbrev MG := D → MS
structure GOk (G : Gm) (X : Cx) (tg : Expr) (m : MG) : Prop where
  ex : ∃ g : TG, PG X tg g ∧ ∀ (L : Lv) (st : Store) (env env' : En) (st' : Store) (σ : L2.St) (H : Hp) (v : V) (d : D) (Q : L2.St → Hp → Prop), At G L st σ env H → Va G L (off L H) v d → m d env st = some (.next, env', st') →
    (∀ σ' L' H', Ev L H L' H' → Rep G L' st' H' → EnvR G L' (off L' H') σ' env' → Q σ' H') → g v σ H Q
def gN (i : Nat) : MG := fun d env st => some (.next, env.set i (some d), st)
def gSubL (mo mi : ME) : MG := fun d env st => bndS (mo env st) env fun o st => bndS (mi env st) env fun i st => match gPut st o i d with
  | some st => some (.next, env, st)
  | none => none
def gSubD (mo mi : ME) : MG := fun d env st => bndS (mo env st) env fun o st => bndS (mi env st) env fun i st => match gDPut st o i d with
  | some st => some (.next, env, st)
  | none => none
def rSetD : TSet := fun o i v H Q => ∃ a H', o = .ref a ∧ DPut H a i v H' ∧ Q H'
theorem set_dict {X : Cx} (hu : X.A.units + 1 < cLine) : PSet X rSetD := by
  intro pins s σ H o i v ov iv u Q I ro ri rv h
  obtain ⟨a, H', rfl, g, q⟩ := h
  obtain rfl : ov = Value.ref a := ro
  exact d_setItem hu I g ri rv fun s4 I4 => ⟨H', I4, q⟩
section
variable {G : Gm} {W : WX} {X : Cx} {o i value e tg : Expr} {mo mi me : ME} {pos pos' : Pos}
theorem go_nm {j : Nat} (h : PG X tg (gName j)) : GOk G X tg (gN j) := ⟨_, h, fun L st env env' st' σ H v d Q a dv hm k => by
  cases hm
  exact k _ L H (Ev.refl L H) a.r (a.e.set j dv)⟩
theorem go_put (ho : PE X o (tM G W mo)) (hi : PE X i (tM G W mi))
    (ha : ∀ v, assign (.Subscript o i pos') X.env v = (do
      let ov ← holding [v] (eval o X.env)
      let iv ← holding [v, ov] (eval i X.env)
      standAt pos'
      holding [v, ov, iv] (setItem ov iv v)
      release [v, ov, iv] []) := by intro _; rfl) : GOk G X (.Subscript o i pos') (gSubL mo mi) := ⟨_, pg_sub ho hi set_list ha, fun L st env env' st' σ H y v Q a dv hm k => by
  refine tM_bndS a hm (fun x e _ => nomatch e) fun o st2 x L2 H2 h2 e2 a2 dx => ?_
  refine tM_bndS a2 h2 (fun x e _ => nomatch e) fun i st3 z L3 H3 h3 e3 a3 dz => ?_
  split at h3
  · rename_i st4 hg
    cases h3
    unfold gPut at hg
    split at hg
    · rename_i j k
      split at hg
      · rename_i xs hj
        split at hg
        · rename_i n hn
          split at hg
          · rename_i hpure
            cases hg
            obtain ⟨a, rfl, hL, cr⟩ := cell_of a3.r (e3.va dx) hj (fun z => nomatch z)
            obtain ⟨vs, q, r⟩ := cr
            have rr := Das.set (e3.da ((e2.va dv).da hpure)) n r
            obtain ⟨e4, r4⟩ := cell_write (o := .lst (vs.set n y)) (c := .lst (xs.set n v)) a3.r hL fun H' eo h => ⟨_, h, by rw [eo]; exact rr⟩
            cases dz with
            | d dz =>
              cases dz
              exact ⟨a, vs, _, n, rfl, rfl, q, by rw [r.length]; exact hn, k _ _ _ ((e2.trans e3).trans e4) r4 (a3.e.ev e4)⟩
          · cases hg
        · cases hg
      · cases hg
    · cases hg
  · cases h3⟩
theorem go_dput (hu : X.A.units + 1 < cLine) (ho : PE X o (tM G W mo)) (hi : PE X i (tM G W mi))
    (ha : ∀ v, assign (.Subscript o i pos') X.env v = (do
      let ov ← holding [v] (eval o X.env)
      let iv ← holding [v, ov] (eval i X.env)
      standAt pos'
      holding [v, ov, iv] (setItem ov iv v)
      release [v, ov, iv] []) := by intro _; rfl) : GOk G X (.Subscript o i pos') (gSubD mo mi) := ⟨_, pg_sub ho hi (set_dict hu) ha, fun L st env env' st' σ H y v Q a dv hm kk => by
  refine tM_bndS a hm (fun x e _ => nomatch e) fun o st2 x L2 H2 h2 e2 a2 dx => ?_
  refine tM_bndS a2 h2 (fun x e _ => nomatch e) fun i st3 z L3 H3 h3 e3 a3 dz => ?_
  split at h3
  · rename_i st4 hg
    cases h3
    unfold gDPut at hg
    split at hg
    · rename_i j
      split at hg
      · rename_i hd
        split at hg
        · rename_i kvs hj
          split at hg
          · rename_i k hk
            split at hg
            · rename_i few
              cases hg
              obtain ⟨a, rfl, hL, vs, q, r⟩ := cell_of a3.r (e3.va dx) hj nofun
              have rr := DasK.put k (e3.da ((e2.va dv).da hd)) r
              obtain ⟨e4, r4⟩ := cell_write (o := .dK (putK vs k y)) (c := .dK (putKd kvs k v)) a3.r hL fun H' eo h => ⟨_, h, by rw [eo]; exact rr⟩
              refine ⟨a, _, rfl, .inl ⟨vs, k, q, keyD_kV dz hk, by rw [r.len, sizeLine_eq]; unfold big at few; omega, rfl⟩, ?_⟩
              exact kk _ _ _ ((e2.trans e3).trans e4) r4 (a3.e.ev e4)
            · cases hg
          · cases hg
        · rename_i kvs hj
          split at hg
          · rename_i k hk
            split at hg
            · rename_i few
              cases hg
              obtain ⟨a, rfl, hL, vs, q, r⟩ := cell_of a3.r (e3.va dx) hj nofun
              have rr := DasT.put k (e3.da ((e2.va dv).da hd)) r
              obtain ⟨e4, r4⟩ := cell_write (o := .dT (putK vs k y)) (c := .dT (putKd kvs k v)) a3.r hL fun H' eo h => ⟨_, h, by rw [eo]; exact rr⟩
              obtain ⟨b, rfl, kat⟩ := keyT_at dz hk
              refine ⟨a, _, rfl, .inr ⟨vs, k, b, q, rfl, kat, by rw [r.length, sizeLine_eq]; unfold big at few; omega, rfl⟩, ?_⟩
              exact kk _ _ _ ((e2.trans e3).trans e4) r4 (a3.e.ev e4)
            · cases hg
          · cases hg
        · cases hg
      · cases hg
    · cases hg
  · cases h3⟩
/-- several targets, one after another -/
def mGs : List MG → List D → MS
  | [], [] => fun env st => some (.next, env, st)
  | m :: ms, d :: ds => fun env st => match m d env st with
    | some (.next, env, st) => mGs ms ds env st
    | _ => none
  | _, _ => fun _ _ => none
structure GsOk (G : Gm) (X : Cx) (ts : List Expr) (ms : List MG) : Prop where
  ex : ∃ g : TGs, PGs X ts g ∧ ∀ (L : Lv) (st : Store) (env env' : En) (st' : Store) (σ : L2.St) (H : Hp) (vs : List V) (ds : List D) (Q : L2.St → Hp → Prop), At G L st σ env H → Das G (off L H) vs ds → mGs ms ds env st = some (.next, env', st') →
    (∀ σ' L' H', Ev L H L' H' → Rep G L' st' H' → EnvR G L' (off L' H') σ' env' → Q σ' H') → g vs σ H Q
theorem gs_nil : GsOk G X [] [] := ⟨_, pgs_nil, fun L st env env' st' σ H vs ds Q a dv hm k => by
  cases ds with
  | nil =>
    cases hm
    cases dv
    exact ⟨rfl, k _ L H (Ev.refl L H) a.r a.e⟩
  | cons d ds => cases hm⟩
theorem gs_cons {t : Expr} {ts : List Expr} {m : MG} {ms : List MG} (h1 : GOk G X t m) (h2 : GsOk G X ts ms) (hs : (assignEach (t :: ts) X.env).map (·.2) = assign t X.env :: (assignEach ts X.env).map (·.2) := by rfl) (hF : Flat G := by exact fun _ _ _ h => h) : GsOk G X (t :: ts) (m :: ms) := by
  obtain ⟨g1, p1, r1⟩ := h1.ex
  obtain ⟨g2, p2, r2⟩ := h2.ex
  refine ⟨_, pgs_cons p1 p2 hs, fun L st env env' st' σ H vs ds Q a dv hm k => ?_⟩
  cases ds with
  | nil => cases hm
  | cons d ds =>
    cases dv with
    | cons h r =>
      unfold mGs at hm
      cases q : m d env st with
      | none => rw [q] at hm; cases hm
      | some x =>
        obtain ⟨fl, env1, st1⟩ := x
        rw [q] at hm
        cases fl <;> first | (cases hm; done) | skip
        refine ⟨_, _, rfl, r1 L st env env1 st1 σ H _ d _ a (.d h) q fun σ1 L1 H1 e1 rp1 en1 => ?_⟩
        exact r2 L1 st1 env1 env' st' σ1 H1 _ ds _ (a.to hF e1 rp1 en1) (e1.das r) hm fun σ' L' H' e2 => k σ' L' H' (e1.trans e2)
/-- a tuple's parts -/
def gTp (ms : List MG) : MG := fun d => match d with
  | .tup ds => mGs ms ds
  | _ => fun _ _ => none
theorem mGs_len : ∀ (ms : List MG) (ds : List D) (env : En) (st : Store) (x : Fl × En × Store), mGs ms ds env st = some x → ms.length = ds.length
  | [], [], _, _, _, _ => rfl
  | [], _ :: _, _, _, _, h => by cases h
  | _ :: _, [], _, _, _, h => by cases h
  | m :: ms, d :: ds, env, st, x, h => by
    unfold mGs at h
    cases q : m d env st with
    | none => rw [q] at h; cases h
    | some y =>
      obtain ⟨fl, env1, st1⟩ := y
      rw [q] at h
      cases fl <;> first | (cases h; done) | skip
      simp [mGs_len ms ds _ _ _ h]
theorem go_tup {es : List Expr} {k : Nat} {ms : List MG} (hc : X.calm = true) (h : GsOk G X es ms) (hn : (assignEach es X.env).length = ms.length := by rfl) (hst : (assignEach es X.env).findIdx? (·.1) = none := by rfl) : GOk G X (.Tuple es k pos) (gTp ms) := by
  obtain ⟨g, p, r⟩ := h.ex
  refine ⟨_, pg_tup hc p hn hst, fun L st env env' st' σ H v d Q a dv hm kk => ?_⟩
  cases d with
  | tup ds =>
    cases dv with
    | d dv =>
      cases dv with
      | @tup p vs _ h rr =>
        exact ⟨p, vs, rfl, .inl (.inl (off_some h).1), by rw [rr.length, mGs_len _ _ _ _ _ hm], r L st env env' st' σ H vs ds Q a rr hm kk⟩
  | _ => cases hm
/-- target = value -/
def mAsgG (me : ME) (m : MG) : MS := fun env st => bndS (me env st) env fun d st => match m d env st with
  | some (.next, env, st) => some (.next, env, st)
  | _ => none
theorem ms_asgG {m : MG} (he : PE X e (tM G W me)) (hg : GOk G X tg m) (hs : swapsWithSole [tg] e pos.line X.env = pure false := by rfl) (hw : swappedStores [tg] e X.env = pure none := by rfl)
    (h1 : (assignEach [tg] X.env).map (·.2) = [assign tg X.env] := by rfl) : PS X (.Assign [tg] e pos) (tMS G W (mAsgG me m)) := by
  obtain ⟨g, p, r⟩ := hg.ex
  refine PSimp (ps_asg he p hs hw h1) fun D σ H q => ?_
  obtain ⟨L, st, env, fl, env', st', at_, hm, hp⟩ := q
  refine tM_bndS at_ hm (hp.err at_) fun d st1 v L1 H1 h1 e1 a1 dv => ?_
  split at h1
  · rename_i env2 st2 q
    cases h1
    exact r L1 st1 env _ _ σ H1 v d _ a1 dv q fun σ' L' H' e2 => hp σ' L' H' (e1.trans e2)
  · cases h1
end
end M


/-! The M layer: C(e, k = v, ..) with all parameters given; dicts as cells. -/
namespace M
open PySem PySem.Spec PyProof.Rows L2
def mApp (ma mk : MA) : MA := fun env st => bnd (ma env st) fun ds st => bnd (mk env st) fun es st => some (.ok (ds ++ es), st)
section
variable {X : Cx} {G : Gm} {W : WX} {k n i j : Nat} {f C : Addr} {fd : FuncData} {ps ks : List Str} {c : Call} {x : Str} {p pos apos kpos : Pos} {e o : Expr} {es : List Expr} {kws : List Keyword} {ma mas mk : MA} {me mo : ME} {nm : Option Str}
theorem mk_nil : PK X [] (tMA G W mNil) := ⟨fun pos pins s σ H Q I q => pk_nil.run pos pins s σ H Q I (by
  obtain ⟨L, st, env, q, st', at_, hm, hp⟩ := q
  cases hm
  exact hp [] L H (Ev.refl L H) at_.r .nil)⟩
theorem mk_cons (ha : PE X e (tM G W me)) (hr : PK X kws (tMA G W mk)) : PK X (⟨nm, e, kpos⟩ :: kws) (tMA G W (mCons me mk)) := ⟨fun pos pins s σ H Q I q => (pk_cons ha hr).run pos pins s σ H Q I (t_cons q)⟩
/-- the made one: as in m_make -/
theorem wish_of {cid n : Nat} {c : Call} {L1 : Lv} {H1 : Hp} {st1 : Store} {σ : L2.St} {env : En} {vs : List V} {ds : List D} {r : Rs D} {st' : Store} {Q : VK} (a1 : At G L1 st1 σ env H1) (dv : Vas G L1 (off L1 H1) vs ds) (h1 : (if ds.length + 1 = n then (match c (.ref st1.length :: ds) (st1 ++ [.ins cid []]) with
  | some (.ok .non, st2) => (match finD st1.length (.ref st1.length) st2 with
    | some (d, st3) => some (Rs.ok d, st3)
    | none => none)
  | some (.err x, st2) => if (st2.take st1.length).all (cellOk st1.length) = true then some (.err x, st2.take st1.length) else none
  | _ => none) else none) = some (r, st')) (hp : RPost G W σ L1 H1 st' Q r) : MakeWish (G.cA cid) (spM G c n) vs H1 Q (WE W σ) := by
    split at h1
    · rename_i hn
      intro y dx hy hdx ne
      obtain ⟨ev, R2⟩ := made_ev (G := G) (cid := cid) a1.r hy hdx ne
      have hlen : L1.c.length = st1.length := a1.r.len
      have hself : Va G (L1.more y) (off (L1.more y) (upd (upd H1 dx (.own y)) y (.ins (G.cA cid) dx []))) (.ref y) (.ref st1.length) := by
        refine .ref (by show st1.length < (L1.c ++ [some y]).length; simp [hlen]) fun b q => ?_
        have q' : (L1.c ++ [some y])[st1.length]? = some (some b) := q
        rw [List.getElem?_append_right (by omega)] at q'
        rw [hlen, Nat.sub_self] at q'
        simp at q'
        exact q'
      have hle : ∀ {L' : Lv} {H' : Hp}, Ev (L1.more y) (upd (upd H1 dx (.own y)) y (.ins (G.cA cid) dx [])) L' H' → st1.length ≤ L'.c.length := fun {L' H'} e => by
        rw [← hlen]
        exact (ev.trans e).le.len
      refine ⟨by simp [dv.length]; exact hn, L1.more y, st1 ++ [.ins cid []], .ref st1.length :: ds, ?_⟩
      cases hc : c (.ref st1.length :: ds) (st1 ++ [.ins cid []]) with
      | none => rw [hc] at h1; cases h1
      | some q =>
        obtain ⟨rr, st2⟩ := q
        rw [hc] at h1
        refine ⟨rr, st2, R2, .cons hself (ev.vas dv), rfl, ?_⟩
        cases rr with
        | ok d =>
          cases d with
          | non =>
            dsimp only at h1
            split at h1
            · rename_i d3 st3 hf
              cases h1
              intro v L' H' e2 r2 dv2
              refine ⟨dv2.non_inv, ?_⟩
              obtain ⟨r3, v3⟩ := fin_ok (v := .ref y) r2 (e2.va hself) (hle e2) hf
              exact hp _ _ _ ((ev.trans e2).trim hlen) r3 v3
            · cases h1
          | _ => cases h1
        | err z =>
          dsimp only at h1
          split at h1
          · rename_i hk
            cases h1
            intro cls dd L' H' e2 r2 xr
            have xr2 : XnR G (off (L'.trim st1.length) H') z cls dd := by
              obtain ⟨z1, d, vs, z2, z3, z4⟩ := xr
              exact ⟨z1, d, vs, z2, trim_same _ _ z3, DasF.mono (Rl.of_same trim_same) _ _ z4⟩
            exact hp cls dd _ _ ((ev.trans e2).trim hlen) (r2.trim (hle e2) hk) xr2
          · cases h1
    · cases h1
/-- C(e, .., k = v, ..), all parameters given, in their order: i ahead, the others by name -/
def mMkK (i j cid : Nat) (c : Call) (ma mk : MA) : ME := fun env st => bnd (ma env st) fun ds st => bnd (mk env st) fun es st => if ds.length = i ∧ es.length = j then mMk cid (i + j + 1) c (fun _ st => some (.ok (ds ++ es), st)) env st else none
theorem m_makeK {cid : Nat} {E : XK} (tk : Takes X W) (hW : ∀ σ, WE W σ = E) (Mk1 : Mk X.K (G.cA cid) f) (F : FnOk X.prog X.w X.K X.mg X.base (L2.CX X.prog X.w) k f fd ps (spM G c (i + j + 1))) (hr : Room (k + 1) X.A) (hg : Gl X x) (hm : X.mg x = some (.ref (G.cA cid)))
    (hb : KBn X.K fd ps (i + 1) ks (fun us ws => us ++ ws) (fun us ws => us ++ ws)) (hj : ks.length = j) (ha : PA X (e :: es) (tMA G W ma)) (hkw : PK X kws (tMA G W mk))
    (all : (backToKw pos (keywordEach kws X.env)).all (·.1.isSome) = true := by rfl) (named : (backToKw pos (keywordEach kws X.env)).filterMap (·.1) = ks := by rfl) (ndb : (x == ("__debug__" : Str)) = false := by decide)
    (first : starEach (e :: es) X.env = (false, eval e X.env) :: starEach es X.env := by rfl) (plain : ((backTo pos (starEach (e :: es) X.env)).any (·.1) || (backToKw pos (keywordEach kws X.env)).any (·.1.isNone)) = false := by rfl) :
    PE X (.Call (.Name x p) (e :: es) kws pos) (tM G W (mMkK i j cid c ma mk)) :=
  PEimp (pe_makeK Mk1 F hr hg hm hb (E := E) (passes_call (E := E) tk fun cls d σ H h => by rw [← hW σ] at h; exact h) ha hkw all named ndb first plain) fun σ H Q q => by
    obtain ⟨L, st, env, r, st', at_, hmm, hp⟩ := q
    refine tMA_bnd at_ hmm hp.err fun ds st1 vs L1 H1 h1 e1 a1 dv => ?_
    refine tMA_bnd a1 h1 (hp.ev e1).err fun es st2 us L2' H2 h2 e2 a2 du => ?_
    split at h2
    · rename_i hl
      have w := wish_of a2 ((e2.vas dv).app du) h2 ((hp.ev e1).ev e2)
      rw [hW σ] at w
      exact ⟨by rw [dv.length]; exact hl.1, by rw [du.length, hj]; exact hl.2, w⟩
    · cases h2
end
end M


/-! The M layer: dict displays and dict(pairs) as cells; written tuples of texts. -/
namespace M
open PySem PySem.Spec PyProof.Rows L2
/-! ### a hidden object becomes a live cell -/
section
variable {G : Gb} {L L2' : Lv} {H H2 : Hp} {st st2 : Store} {p : Addr} {o : HO} {c : Cell}
def Lv.show (L2' L : Lv) (p : Addr) : Lv := ⟨L2'.c ++ [some p], L.h⟩
theorem off_show (hh : L2'.h = p :: L.h) : off (L2'.show L p) H2 = off L2' H2 := by
  funext a
  unfold off
  have e : (some a ∈ (L2'.show L p).c ∨ a ∈ (L2'.show L p).h) ↔ (some a ∈ L2'.c ∨ a ∈ L2'.h) := by
    rw [hh]
    show (some a ∈ L2'.c ++ [some p] ∨ a ∈ L.h) ↔ _
    rw [List.mem_append, List.mem_singleton, List.mem_cons, Option.some.injEq, or_assoc]
  by_cases q : some a ∈ L2'.c ∨ a ∈ L2'.h
  · rw [if_pos q, if_pos (e.mpr q)]
  · rw [if_neg q, if_neg fun z => q (e.mp z)]
theorem le_show : Le L2' (L2'.show L p) := ⟨by show L2'.c.length ≤ (L2'.c ++ [some p]).length; simp, fun i a hi h => by
  have h' : (L2'.c ++ [some p])[i]? = some (some a) := h
  rwa [List.getElem?_append_left hi] at h'⟩
theorem show_at {i : Nat} {x : Option Addr} (h : (L2'.show L p).c[i]? = some x) : (i < L2'.c.length ∧ L2'.c[i]? = some x) ∨ (i = L2'.c.length ∧ x = some p) := by
  have h' : (L2'.c ++ [some p])[i]? = some x := h
  by_cases hi : i < L2'.c.length
  · rw [List.getElem?_append_left hi] at h'
    exact .inl ⟨hi, h'⟩
  · rw [List.getElem?_append_right (Nat.le_of_not_lt hi)] at h'
    cases hz : i - L2'.c.length with
    | zero => rw [hz] at h'; simp at h'; exact .inr ⟨by omega, h'.symm⟩
    | succ j => rw [hz] at h'; simp at h'
theorem CellR.show (hh : L2'.h = p :: L.h) {x : Option Addr} {c : Cell} (h : CellR G L2' H2 x c) : CellR G (L2'.show L p) H2 x c := by
  cases x with
  | none => cases c <;> first | exact h | exact h.elim
  | some a =>
    cases c with
    | lst ds => obtain ⟨vs, q, r⟩ := h; exact ⟨vs, q, by rw [off_show hh]; exact r⟩
    | dK ds => obtain ⟨vs, q, r⟩ := h; exact ⟨vs, q, by rw [off_show hh]; exact r⟩
    | dT ds => obtain ⟨vs, q, r⟩ := h; exact ⟨vs, q, by rw [off_show hh]; exact r⟩
    | ins c ds => obtain ⟨dx, vs, q, r⟩ := h; exact ⟨dx, vs, q, by rw [off_show hh]; exact r.mono le_show (Rl.of_same (Same.refl _))⟩
    | dead => exact h.elim
theorem show_ok (e : Ev (L.hide p) (upd H p o) L2' H2) (R2 : Rep G L2' st2 H2) (R : Rep G L st H) (hp : H p = none) (hc : CellR G L2' H2 (some p) c) :
    Ev L H (L2'.show L p) H2 ∧ Rep G (L2'.show L p) (st2 ++ [c]) H2 ∧ Va G (L2'.show L p) (off (L2'.show L p) H2) (.ref p) (.ref st2.length) := by
  have hh : L2'.h = p :: L.h := e.hh
  have hm : p ∈ L2'.h := by rw [hh]; exact List.mem_cons_self
  have hn : some p ∉ L2'.c := (R2.hid p hm).2
  refine ⟨⟨⟨Nat.le_trans e.le.len le_show.len, fun i a hi h => e.le.at_ i a hi (le_show.at_ i a (Nat.lt_of_lt_of_le hi e.le.len) h)⟩, fun i a hi h => ?_, ?_, fun a h => ?_, rfl, fun a ha => ?_⟩, ⟨?_, fun i j a h1 h2 => ?_, fun i x c' h1 h2 => ?_, fun a ha => ?_⟩, ?_⟩
  · rcases show_at h with ⟨_, h⟩ | ⟨_, h⟩
    · have q := e.new i a hi h
      by_cases z : a = p
      · rw [z]; exact hp
      · rwa [upd_ne z] at q
    · cases h
      exact hp
  · have q := (Rl.of_same (hide_same (L := L) (o := o) hp)).trans e.same
    rw [off_show hh]
    exact q
  · have q := e.there a h
    by_cases z : a = p
    · rw [z]; exact hp
    · rwa [upd_ne z] at q
  · have q := e.keep a (List.mem_cons_of_mem _ ha)
    have z : a ≠ p := fun z => (R.hid a ha).1.1 (by rw [z]; exact hp)
    rwa [upd_ne z] at q
  · show (L2'.c ++ [some p]).length = (st2 ++ [c]).length
    simp [R2.len]
  · rcases show_at h1 with ⟨i1, i2⟩ | ⟨i1, i2⟩
    · rcases show_at h2 with ⟨j1, j2⟩ | ⟨j1, j2⟩
      · exact R2.inj i j a i2 j2
      · cases j2
        exact absurd (List.mem_of_getElem? i2) hn
    · rcases show_at h2 with ⟨j1, j2⟩ | ⟨j1, j2⟩
      · cases i2
        exact absurd (List.mem_of_getElem? j2) hn
      · omega
  · rcases show_at h1 with ⟨i1, i2⟩ | ⟨i1, i2⟩
    · rw [List.getElem?_append_left (by rw [← R2.len]; exact i1)] at h2
      exact (R2.cell i x c' i2 h2).show hh
    · rw [i1, R2.len, List.getElem?_append_right (Nat.le_refl _), Nat.sub_self] at h2
      cases h2
      subst i2
      exact hc.show hh
  · have q := R2.hid a (by rw [hh]; exact List.mem_cons_of_mem _ ha)
    refine ⟨q.1, fun z => ?_⟩
    rcases List.mem_append.mp z with z | z
    · exact q.2 z
    · have z2 : a = p := Option.some.inj (List.mem_singleton.mp z)
      exact (R.hid a ha).1.1 (by rw [z2]; exact hp)
  · refine .ref (by show st2.length < (L2'.c ++ [some p]).length; simp [R2.len]) fun b q => ?_
    rcases show_at q with ⟨i1, _⟩ | ⟨_, i2⟩
    · rw [R2.len] at i1
      omega
    · exact (Option.some.inj i2).symm
end
/-! ### {k: v, ..} as a cell -/
def mDispC (ps : List (ME × ME)) : ME := fun env st => match mPairs2 ps env st with
  | some (kvs, st) => if kvs.length ≤ 15 then some (.ok (.ref st.length), st ++ [.dK (mergeD [] kvs)]) else none
  | none => none
section
variable {G : Gm} {W : WX} {X : Cx} {pos : Pos}
theorem m_dispC {keys : List (Option Expr)} {values : List Expr} {ps : List (ME × ME)} (h : PPs X pos keys values (ps.map fun p => (tM G W p.1, tM G W p.2))) (hall : keys.all (·.isSome) = true) (hl : keys.length = values.length) (h0 : keys ≠ [])
    (h15 : keys.length ≤ 15) : PE X (.Dict keys values pos) (tM G W (mDispC ps)) := PEimp (pe_disp h hall hl h0 h15) fun σ H Q q => by
  obtain ⟨L, st, env, r, st', at_, hm, hp⟩ := q
  unfold mDispC at hm
  cases hr : mPairs2 ps env st with
  | none => rw [hr] at hm; cases hm
  | some q =>
    obtain ⟨kvs, st2⟩ := q
    rw [hr] at hm
    dsimp only at hm
    split at hm
    · rename_i hlen
      cases hm
      refine fun p hpn => t_pairs ps _ st _ _ kvs _ (at_.hide hpn) hr fun us L2 H2 e2 r2 d2 => ?_
      have h1 : p ∈ (L.hide p).h := List.mem_cons_self
      have hp2 : p ∈ L2.h := by rw [e2.hh]; exact h1
      have hat : H2 p = some (.dK []) := by rw [e2.keep p h1, upd_same]
      refine ⟨hat, us, rfl, by rw [d2.len]; exact hlen, ?_⟩
      have e3 := Ev.hupd (o' := .dK (mergeK [] us)) e2
      have r3 := r2.hupd (o := .dK (mergeK [] us)) hp2
      obtain ⟨e4, r4, v4⟩ := show_ok (c := .dK (mergeD [] kvs)) e3 r3 at_.r hpn ⟨mergeK [] us, upd_same, by rw [off_hid hp2]; exact DasK.merge d2 .nil⟩
      exact hp _ _ _ e4 r4 v4
    · cases hm
end
/-! ### dict([(k, v), ..]) as a cell -/
def pairsKD : List D → Option (List (Key × D))
  | [] => some []
  | .tup [k, d] :: r => match keyD k, pairsKD r with
    | some k, some l => some ((k, d) :: l)
    | _, _ => none
  | _ => none
theorem pairs_das {G : Gb} {K : PySem.W.Frag} {H : Hp} : ∀ {ds : List D} {vs : List V} {kvs : List (Key × D)}, Das G H vs ds → pairsKD ds = some kvs → ∃ (ps : List Addr) (us : List (Key × V)), vs = ps.map V.ref ∧ Paired (fun p kv => H p = some (.tup [kV kv.1, kv.2])) ps us ∧ DasK G H us kvs
  | [], _, _, h, e => by
    cases h
    cases e
    exact ⟨[], [], rfl, .nil, .nil⟩
  | x :: ds, _, kvs, h, e => by
    cases h with
    | @cons v vs _ _ h r =>
      unfold pairsKD at e
      split at e
      · rename_i hx; cases hx
      · rename_i k d rest hx
        cases hx
        cases hk : keyD k with
        | none => rw [hk] at e; cases e
        | some kk =>
          cases hr : pairsKD ds with
          | none => rw [hk, hr] at e; cases e
          | some l =>
            rw [hk, hr] at e
            cases e
            cases h with
            | @tup a us _ q rr =>
              cases rr with
              | @cons v1 _ _ _ d1 rr =>
                cases rr with
                | @cons v2 _ _ _ d2 rr =>
                  cases rr
                  obtain ⟨ps, us, rfl, p1, p2⟩ := pairs_das (K := K) r hr
                  have ek := keyD_kV (L := ⟨[], []⟩) (.d d1) hk
                  subst ek
                  exact ⟨a :: ps, (kk, v2) :: us, rfl, .cons q p1, .cons d2 p2⟩
      · cases e
def rDictP (K : PySem.W.Frag) : List V → Hp → VK → Prop := fun xs H Q => ∃ (a : Addr) (ps : List Addr) (kvs : List (Key × V)), xs = [.ref a] ∧ SqL K H a (ps.map V.ref) ∧ Paired (fun p kv => SqT K H p [kV kv.1, kv.2]) ps kvs ∧
    ∀ p, H p = none → Q (.ref p) (upd H p (.dK (mergeK [] kvs)))
def gDictC (st : Store) : List D → Option (D × Store)
  | [.lst ds] => match pairsKD ds with
    | some kvs => some (.ref st.length, st ++ [.dK (mergeD [] kvs)])
    | none => none
  | _ => none
theorem Paired.imp {α β : Type} {F F' : α → β → Prop} (h : ∀ a b, F a b → F' a b) : ∀ {l : List α} {m : List β}, Paired F l m → Paired F' l m
  | _, _, .nil => .nil
  | _, _, .cons a b => .cons (h _ _ a) (Paired.imp h b)
theorem Va.lst_inv2 {G : Gb} {L : Lv} {H : Hp} {v : V} {ds : List D} (h : Va G L H v (.lst ds)) : ∃ a vs, v = .ref a ∧ H a = some (.lst vs) ∧ Das G H vs ds := by
  cases h with
  | d h =>
    cases h with
    | lst h r => exact ⟨_, _, rfl, h, r⟩
theorem rc_dictC {G : Gb} : RCMS G (rDictP G.K) gDictC := fun L st st' H xs ds z Q R dv hz k => by
  unfold gDictC at hz
  split at hz
  · rename_i ds
    cases hp : pairsKD ds with
    | none => rw [hp] at hz; cases hz
    | some kvs =>
      rw [hp] at hz
      cases hz
      obtain ⟨v, rfl, hv⟩ := Das.one dv
      obtain ⟨a, vs, rfl, h, r⟩ := hv.lst_inv2
      obtain ⟨ps, us, rfl, p1, p2⟩ := pairs_das (K := G.K) r hp
      refine ⟨a, ps, us, rfl, .inl (.inl (off_some h).1), Paired.imp (fun p kv q => .inl (.inl (off_some q).1)) p1, fun p hpn => ?_⟩
      obtain ⟨e1, r1, v1⟩ := new_cell (o := .dK (mergeK [] us)) (c := .dK (mergeD [] kvs)) R hpn fun L' H' s h => ⟨_, h, DasK.merge (DasK.mono s _ _ p2) .nil⟩
      exact k _ _ _ e1 r1 v1
  · cases hz
section
variable {X : Cx} {G : Gm} {W : WX} {x id : Str} {rc : List V → Hp → VK → Prop} {gc : Store → List D → Option (D × Store)} {e : Expr} {es : List Expr} {p pos : Pos} {mas : MA}
theorem m_callTyS {id : String} (hc : CallR X (.type id) rc) (hr : RCMS G rc gc) (hg : Gl X x) (hm : X.mg x = none) (hv : bootBuiltins x = some (.type id)) (ha : PA X (e :: es) (tMA G W mas)) (hn : x ≠ "__name__" := by decide) (hdb : (x == ("__debug__" : Str)) = false := by decide)
    (he : starEach (e :: es) X.env = (false, eval e X.env) :: starEach es X.env := by rfl) (hpl : (backTo pos (starEach es X.env)).any (·.1) = false := by rfl) : PE X (.Call (.Name x p) (e :: es) [] pos) (tM G W (mCBS gc mas)) :=
  PEimp (pe_callTy hc hg hm hv ha (hn := hn) (hdb := hdb) (he := he) (hpl := hpl)) fun _ _ _ => t_cbs hr
end
/-! ### written tuples of texts: named by numbers, as classes are -/
/-- what stands at a number -/
structure KTab (G : Gb) (tab : List (Nat × List Str)) : Prop where
  at_ : ∀ k xs, tab.lookup k = some xs → ∀ H, SqT G.K H (G.cA k) (xs.map V.str)
def gInC (tab : List (Nat × List Str)) (neg : Bool) (_ : Store) (x y : D) : Option D := match x, y with
  | .str s, .cls k => match tab.lookup k with
    | some xs => some (.bl ((xs.any fun z => z == s) != neg))
    | none => none
  | _, _ => none
theorem in_strs {s : Str} : ∀ xs : List Str, inV (.str s) (xs.map V.str) = xs.any fun z => z == s
  | [] => rfl
  | x :: xs => by
    show (eqV (.str x) (.str s) || inV (.str s) (xs.map V.str)) = _
    rw [in_strs xs, List.any_cons]
    congr 1
theorem Va.cls_inv {G : Gb} {L : Lv} {H : Hp} {v : V} {k : Nat} (h : Va G L H v (.cls k)) : v = .ref (G.cA k) := by
  cases h with
  | d h => cases h; rfl
theorem r2_inC {G : Gb} {tab : List (Nat × List Str)} {neg : Bool} (T : KTab G tab) : R2M G (rIn G.K neg) (gInC tab neg) := fun L st H x y d e z Q R hx hy hz k => by
  unfold gInC at hz
  split at hz
  · rename_i s c
    split at hz
    · rename_i xs hl
      cases hz
      obtain rfl := hx.str_inv
      obtain rfl := hy.cls_inv
      refine ⟨_, xs.map V.str, rfl, .inr (T.at_ _ _ hl H), rfl, ?_, ?_⟩
      · rw [List.all_map]
        exact List.all_eq_true.mpr fun _ _ => rfl
      · rw [in_strs]
        have e : ∀ b : Bool, (if neg = true then !b else b) = (b != neg) := by intro b; cases neg <;> cases b <;> rfl
        rw [e]
        exact r_same (.bl _) R k
    · cases hz
  · cases hz
end M


/-! Own __len__ and __iter__ (iter of a dict that is kept in a field). -/
namespace L2
open PySem PySem.Spec PyProof.Rows
/-! ### len(o), o's class with __len__ -/
def rLenO (C : Addr) (sp : Sp) : List V → Hp → VK → Prop := fun vs H Q => ∃ a dx fs, vs = [.ref a] ∧ H a = some (.ins C dx fs) ∧ sp [.ref a] H (fun v H' => ∃ n : Int, v = .int n ∧ (0 ≤ n ∧ n < 2 ^ 63) ∧ Q (.int n) H') (fun _ _ _ => False)
section
variable {X : Cx} {k : Nat} {C f : Addr} {fd : FuncData} {ps : List Str} {sp : Sp}
theorem call_lenO (meth : Meth X.K C "__len__" f) (F : FnOk X.prog X.w X.K X.mg X.base (L2.CX X.prog X.w) k f fd ps sp) (room : Room (k + 1) X.A) (bd : Binds X.K fd ps []) : CallR X (.builtin "len") (rLenO C sp) :=
  fun pins s σ H vs us Q I same wish => by
    rcases wish with ⟨a, dx, fs, rfl, here, wish⟩
    cases Vals.ref1 same
    have ⟨_, looked, _⟩ := ins_get I.hok here
    have ⟨_, inst, _⟩ := looked.look
    have ⟨_, frame⟩ := I.fr
    have bound : BindsTo s fd ⟨[.ref a], []⟩ (ps.zip [.ref a]) := bd s [.ref a] I.kIn (F.len _ _ _ _ wish)
    refine PySem.W.len_K frame I.ok.mod.kin inst meth.at_ meth.fn (wpAny_call (codeAny_mono (F.run X.A.in1 X.stack s H ⟨[.ref a], []⟩ [.ref a] [.ref a] _ _ room.in1 I.env0.in1 bound (.cons rfl .nil) wish) fun r s' h => ?_))
    match r, h with
    | .error er, h => exact passL pins σ H s er s' I h
    | .ok (.ret u), h =>
      obtain ⟨v, H', J, isV, n, rfl, fits, q⟩ := I.after h
      obtain ⟨t, rfl⟩ := isV
      exact ⟨fits, .int n, H', J.kept (t' := s'.toks + 1) fun _ _ e => e, ⟨_, rfl⟩, q⟩
end
/-! ### iter(d) -/
/-- a keys' iterator at its start -/
def kObj (d : Addr) (n ep : Nat) : Obj := { cls := .type "dict_keyiterator", data := .fields #[.ref d, .int 0 0, .int n 0, .int ep 0] }
def KItO (d it : Addr) (n ep : Nat) : HO := .ext fun h => h.get? it = some (kObj d n ep)
/-- the locked dict at d, so many keys -/
def Lck (H : Hp) (d : Addr) (od : Obj) (n : Nat) : Prop := (∃ kvs : List (Key × V), H d = some (.frz od (.dK kvs)) ∧ kvs.length = n) ∨ ∃ kvs : List (List Key × V), H d = some (.frz od (.dT kvs)) ∧ kvs.length = n
theorem Lck.obj {X : Cx} {pins : List (Addr × Obj)} {σ : St} {H : Hp} {s : Shared} {d : Addr} {od : Obj} {n : Nat} (I : Inv X pins σ H s) (h : Lck H d od n) :
    ∃ es ep, (d == sysModules) = false ∧ s.heap.get? d = some od ∧ od.ExactDict ∧ od.data = .dict es ep ∧ es.size = n := by
  rcases h with ⟨_, at_, rfl⟩ | ⟨_, at_, rfl⟩
  · have ⟨a, b, c, es, ep, _, e, f, _⟩ := I.frzK at_
    exact ⟨es, ep, a, b, c, e, f⟩
  · have ⟨a, b, c, es, ep, e, f, _⟩ := I.frzT at_
    exact ⟨es, ep, a, b, c, e, f⟩
/-- young: from n0 on -/
def KIts (n0 : Nat) (d : Addr) (od : Obj) (n : Nat) (H : Hp) (Q : VK) : Prop := Lck H d od n ∧ ∀ it es ep, od.data = .dict es ep → H it = none → n0 ≤ it → Q (.ref it) (upd H it (KItO d it n ep))
def rIterK (n0 : Nat) : List V → Hp → VK → Prop := fun vs H Q => ∃ d od n, vs = [.ref d] ∧ KIts n0 d od n H Q
theorem call_iterK {X : Cx} : CallR X (.builtin "iter") (rIterK X.s_0.heap.objs.size) := fun pins s σ H vs us Q I same wish => by
  rcases wish with ⟨d, od, n, rfl, locked, wish⟩
  cases Vals.ref1 same
  have ⟨es, ep, a, b, c, e, f⟩ := locked.obj I
  refine Calls.call_function_entry (by decide +kernel) (by decide +kernel) PySem.W.kdk_entry_iter (PySem.W.kdk_args_iter _) ?_
  refine wpAny_bind (wpAny_of_eq (a := [Value.ref d]) (by first | rfl | kernel_rfl!) (wpAny_bind (iter_keys a b c e (wpAny_pure ⟨_, rfl, .ref s.heap.objs.size, _, ?_, rfl, wish _ es ep e (I.hok.fresh (Nat.le_refl _)) I.sz⟩))))
  have new : (s.heap.push (kObj d n ep)).get? s.heap.objs.size = some (kObj d n ep) := Heap.get?_push_size _ rfl
  rw [f]
  exact I.laid (t' := s.toks) (fun _ _ q => Heap.get?_push_of_some _ q) (Nat.le_refl _) ⟨new, ⟨_, new⟩, fun _ _ q k => k _ q⟩
/-! ### o's class with __iter__: iter(self.f) -/
section
variable {P : Program} {w : World} {K : PySem.W.Frag} {mg : Str → Option Value} {base : Heap}
/-- what its body reads -/
theorem itr_read {X : Cx} {f slf : Str} {p1 p2 p3 p4 p5 : Pos} (free : X.mg "iter" = none) (hg : Gl X "iter") (he : PE X (.Name slf p2) (tVar 0)) (hb : attributeBase (.Name slf p2) f X.env (eval (.Name slf p2) X.env) = eval (.Name slf p2) X.env)
    (one : starEach [.Attribute (.Name slf p2) f p3] X.env = (false, eval (.Attribute (.Name slf p2) f p3) X.env) :: starEach [] X.env) (few : (backTo p4 (starEach [] X.env)).any (·.1) = false) :
    PSs X [.Return (some (.Call (.Name "iter" p1) [.Attribute (.Name slf p2) f p3] [] p4)) p5] (tRet (tCB (rIterK X.s_0.heap.objs.size) (tCons (tFld X.K (tVar 0) f) tNil))) :=
  pss_one (ps_ret (pe_callB call_iterK hg free (by decide +kernel) (pa_cons (pe_fld he hb) pa_nil one) (he := one) (hpl := few)))
end
/-- the object's dict -/
def OwnD (R : It → Hp → Prop) (d : Addr) (od : Obj) (H : Hp) : Prop := (∃ kvs, H d = some (.frz od (.dK kvs)) ∧ R (Itk d od kvs) H) ∨ ∃ kvs, H d = some (.frz od (.dT kvs)) ∧ R (Itkt d od kvs) H
def iOwn (C : Addr) (f : Str) (te : TE) : TI := fun σ H R => te σ H fun x H1 => ∃ a dx fs d, x = .ref a ∧ H1 a = some (.ins C dx fs) ∧ fs.lookup f = some (.ref d) ∧ ((∃ od, OwnD R d od H1) ∨ ∃ u, H1 d = some u ∧ Mut (some u) ∧ d ≠ a ∧ ∀ od, OwnD R d od (upd H1 d (.frz od u)))
/-- such an __iter__, called -/
structure ItrOk (P : Program) (w : World) (K : PySem.W.Frag) (mg : Str → Option Value) (base : Heap) (C : Addr) (f : Str) (fa : Addr) : Prop where
  run : ∀ (A : Around) (outer : List Env) (s : Shared) (H : Hp) (a dx : Addr) (fs : List (Str × V)) (d : Addr) (od : Obj) (n : Nat) (Q : VK) (E : XK), Room 2 A → Env0 P w K mg base A outer s H → H a = some (.ins C dx fs) → fs.lookup f = some (.ref d) → KIts s.heap.objs.size d od n H Q →
    codeAny (model P w) A (.call (.ref fa) ⟨[.ref a], []⟩) (CR (L2.CX P w) outer P w H s Q E) s
theorem ItrOk.of {P : Program} {w : World} {K : PySem.W.Frag} {mg : Str → Option Value} {base : Heap} {C fa : Addr} {f qual slf : Str} {st : Stmt} {fd : FuncData} {N : List Str} (F : Fun K "__iter__" qual st fa fd) (S : FnScope N [slf] (defScope st)) (bd : Binds K fd [slf] []) (cls : Cls K C) (no : NoAttr K C f)
    (rd : ∀ (cdv : Value) (A : Around) (outer : List Env) (s : Shared) (H : Hp) (E : XK), PSs (cxOf (L2.CX P w) P w K mg base N qual (defScope st) fa cdv A outer s H E) (defBody st) (tRet (tCB (rIterK s.heap.objs.size) (tCons (tFld K (tVar 0) f) tNil)))) : ItrOk P w K mg base C f fa :=
  ⟨fun A outer s H a dx fs d od n Q E room e0 here look its => by
    obtain ⟨oc, o2, kV, doc, pm, an, cdv, ct, osl, rfl, at_, code⟩ := F.ex
    have bound := bd s [.ref a] (e0.mod.kin.keeps fun b o e => (e0.bs b o e).1) rfl
    exact LamX.run_ofS at_ code S room e0 bound (.cons (a := V.ref a) (b := Value.ref a) rfl .nil) rfl fun _ => ⟨_, rd cdv A outer s H E, .ref a, rfl, a, C, dx, fs, .ref d, rfl, here, cls, no, look, d, od, n, rfl, its⟩⟩
section
variable {X : Cx} {tg e : Expr} {te : TE} {C fa : Addr} {f : Str}
theorem pi_own (T : ItrOk X.prog X.w X.K X.mg X.base C f fa) (meth : Meth X.K C "__iter__" fa) (room : Room 2 X.A) (he : PE X e te) : PI X tg e (iOwn C f te) := ⟨fun pins s σ H R I h => thn (he.run pins s σ H _ I h) fun u s1 got => by
  obtain ⟨x, H1, I1, same, a, dx, fs, d, rfl, here, look, rest⟩ := got
  obtain rfl : u = Value.ref a := same
  have key : ∀ (H2 : Hp) (od : Obj), Inv X pins σ H2 s1 → H2 a = some (.ins C dx fs) → OwnD R d od H2 → wpAny (model X.prog X.w) X.A (pyIter (.ref a)) (PIE X pins σ tg R) X.xe s1 := fun H2 od J here own => by
    obtain ⟨n, W, locked, walked, turns⟩ : ∃ n W, Lck H2 d od n ∧ R W H2 ∧ ∀ it es ep, od.data = .dict es ep → Turn X.prog X.w X.K tg W [it] it (fun i h => h.IsKeyIter it d i n ep) := by
      rcases own with ⟨kvs, at_, r⟩ | ⟨kvs, at_, r⟩
      · exact ⟨_, _, .inl ⟨kvs, at_, rfl⟩, r, fun it es ep ed => turn_keys it ed⟩
      · exact ⟨_, _, .inr ⟨kvs, at_, rfl⟩, r, fun it es ep ed => turn_keysT it ed⟩
    have ⟨_, looked, _⟩ := ins_get J.hok here
    have ⟨_, inst, _⟩ := looked.look
    have ⟨_, frame⟩ := J.fr
    let Q : VK := fun v H' => ∃ it es ep, v = .ref it ∧ od.data = .dict es ep ∧ H2 it = none ∧ s1.heap.objs.size ≤ it ∧ H' = upd H2 it (KItO d it n ep)
    have ran := T.run X.A X.stack s1 H2 a dx fs d od n Q (fun _ _ _ => False) room J.env0 here look ⟨locked, fun it es ep ed free young => ⟨it, es, ep, rfl, ed, free, young, rfl⟩⟩
    refine PySem.W.owit_iter frame J.ok.mod.kin inst meth.at_ meth.fn (wpAny_call (codeAny_mono ran fun r s' h => ?_))
    match r, h with
    | .error er, h => exact passL pins σ H2 s1 er s' J h
    | .ok (.ret v), h =>
      obtain ⟨w, H', J', isV, it, es, ep, rfl, ed, free, young, rfl⟩ := J.after h
      obtain rfl : v = Value.ref it := isV
      have mine : (upd H2 it (KItO d it n ep)) it = some (KItO d it n ep) := upd_same
      have obj : s'.heap.get? it = some (kObj d n ep) := (J'.hok it _ mine).1
      have J2 := ItX.inv_drop J' mine
      have fp := ItX.inv_fp J' mine (Nat.le_trans J.sz young)
      rw [ItX.dropH_upd free] at J2 fp
      refine wpAny_specialOf (name := Str.ofString "__next__") (T := "dict_keyiterator") ⟨_, obj, rfl⟩ F.slot_dict_keyiterator_next.lookup ?_
      exact ⟨it, [it], _, W, H2, rfl, J2, turns it es ep ed, ⟨_, obj, rfl, rfl⟩, fun b hb => by rw [List.mem_singleton.mp hb]; exact fp, walked⟩
  rcases rest with ⟨od, own⟩ | ⟨u, at_, chg, ne, own⟩
  · exact key H1 od I1 here own
  · obtain ⟨od, I2⟩ := I1.lock at_ chg
    exact key _ od I2 (by rw [upd_ne (Ne.symm ne)]; exact here) (own od)⟩
end
end L2


/-! The M layer: own objects walked, their own len. -/
namespace M
open PySem PySem.Spec PyProof.Rows L2
section
variable {G : Gm} {W : WX} {X : Cx} {tg e : Expr} {ma : ME} {fa : Addr} {f : Str} {cid : Nat}
/-- for k in an own object whose __iter__ is iter(self.f) -/
def mItO (cid : Nat) (f : Str) (m : ME) : MA := fun env st => bnd (m env st) fun d st => match d with
  | .obj c fs => if c = cid then (match fs.lookup f with
    | some (.dK kvs) => some (.ok (keysK kvs), st)
    | some (.dT kvs) => some (.ok (keysT kvs), st)
    | _ => none) else none
  | _ => none
theorem mi_own (T : ItrOk X.prog X.w X.K X.mg X.base (G.cA cid) f fa) (meth : Meth X.K (G.cA cid) "__iter__" fa) (room : Room 2 X.A) (he : PE X e (tM G W ma)) : PI X tg e (tMI G W (mItO cid f ma)) := PIimp (pi_own T meth room he) fun σ H R q => by
  obtain ⟨L, st, env, r, st', at_, hm, hp⟩ := q
  refine tM_bnd at_ hm (by rintro x rfl; exact hp) fun d st1 v L1 H1 h1 e1 a1 dv => ?_
  split at h1
  · rename_i c fs
    split at h1
    · rename_i hc
      subst hc
      cases dv with
      | d dv =>
        cases dv with
        | @obj a dx _ vs _ h rr =>
          split at h1
          · rename_i kvs hl
            cases h1
            obtain ⟨w, look, dw⟩ := DasF.look rr hl
            cases dw with
            | @dK b us _ hd r =>
              refine ⟨a, dx, vs, b, rfl, (off_some h).1, look, ?_⟩
              rcases hd with hd | ⟨o, hd⟩
              · refine .inr ⟨_, (off_some hd).1, Dic.mut (.inl ⟨_, rfl⟩), ne_of (off_some hd).1 (off_some h).1 nofun, fun od => ?_⟩
                obtain ⟨e2, r2, h2⟩ := lock_ev (od := od) a1.r hd (.inl ⟨_, rfl⟩)
                exact .inl ⟨us, upd_same, hp _ L1 _ (e1.trans e2) r2 (walk_keysK (G := G) h2 (e2.dasK r))⟩
              · exact .inl ⟨o, .inl ⟨us, (off_some hd).1, hp _ L1 H1 e1 a1.r (walk_keysK (G := G) hd r)⟩⟩
          · rename_i kvs hl
            cases h1
            obtain ⟨w, look, dw⟩ := DasF.look rr hl
            cases dw with
            | @dT b us _ hd r =>
              refine ⟨a, dx, vs, b, rfl, (off_some h).1, look, ?_⟩
              rcases hd with hd | ⟨o, hd⟩
              · refine .inr ⟨_, (off_some hd).1, Dic.mut (.inr ⟨_, rfl⟩), ne_of (off_some hd).1 (off_some h).1 nofun, fun od => ?_⟩
                obtain ⟨e2, r2, h2⟩ := lock_ev (od := od) a1.r hd (.inr ⟨_, rfl⟩)
                exact .inr ⟨us, upd_same, hp _ L1 _ (e1.trans e2) r2 (walk_keysTD (G := G) h2 (e2.dasT r))⟩
              · exact .inl ⟨o, .inr ⟨us, (off_some hd).1, hp _ L1 H1 e1 a1.r (walk_keysTD (G := G) hd r)⟩⟩
          · cases h1
    · cases h1
  · cases h1
end
/-! ### len(o) -/
def gLenO (cid : Nat) (c : Call) (st : Store) : List D → Option (D × Store)
  | [x] => match objF st x with
    | some (k, _) => if k = cid then (match c [x] st with
      | some (.ok (.int n), st) => if 0 ≤ n ∧ n < 2 ^ 63 then some (.int n, st) else none
      | _ => none) else none
    | none => none
  | _ => none
theorem Vas.one {G : Gb} {L : Lv} {H : Hp} {vs : List V} {d : D} (h : Vas G L H vs [d]) : ∃ v, vs = [v] ∧ Va G L H v d := by
  cases h with
  | cons h r => cases r; exact ⟨_, rfl, h⟩
theorem rc_lenO {G : Gb} {cid : Nat} {c : Call} : RCMS G (rLenO (G.cA cid) (spM G c 1)) (gLenO cid c) := fun L st st' H xs ds z Q R dv hz k => by
  unfold gLenO at hz
  split at hz
  · rename_i x
    split at hz
    · rename_i kk fs hob
      split at hz
      · rename_i hk
        subst hk
        split at hz
        · rename_i n st2 hc
          split at hz
          · rename_i hn
            cases hz
            obtain ⟨v, rfl, d1⟩ := dv.one
            obtain ⟨a, ddx, vs, rfl, ha, _⟩ := obj_at R d1 hob
            exact ⟨a, ddx, vs, rfl, ha, rfl, L, st, [x], .ok (.int n), _, R, .cons d1 .nil, hc, fun v L' H' e r va => ⟨n, va.int_inv, hn, k _ L' H' e r (.d (.int n))⟩⟩
          · cases hz
        · cases hz
      · cases hz
    · cases hz
  · cases hz
section
variable {X : Cx} {G : Gm} {W : WX} {x id : Str} {rc : List V → Hp → VK → Prop} {gc : Store → List D → Option (D × Store)} {e : Expr} {es : List Expr} {p pos : Pos} {mas : MA}
theorem m_callBS {id : String} (hc : CallR X (.builtin id) rc) (hr : RCMS G rc gc) (hg : Gl X x) (hm : X.mg x = none) (hv : bootBuiltins x = some (.builtin id)) (ha : PA X (e :: es) (tMA G W mas)) (hn : x ≠ "__name__" := by decide) (hdb : (x == ("__debug__" : Str)) = false := by decide)
    (he : starEach (e :: es) X.env = (false, eval e X.env) :: starEach es X.env := by rfl) (hpl : (backTo pos (starEach es X.env)).any (·.1) = false := by rfl) : PE X (.Call (.Name x p) (e :: es) [] pos) (tM G W (mCBS gc mas)) :=
  PEimp (pe_callB hc hg hm hv ha (hn := hn) (hdb := hdb) (he := he) (hpl := hpl)) fun _ _ _ => t_cbs hr
end
end M


/-! Own == and !=. -/
namespace L2
open PySem PySem.Spec PyProof.Rows
/-- a class with an own __eq__ and no own __ne__ -/
structure EqC (K : PySem.W.Frag) (C f : Addr) : Prop where
  cls : ∃ (nm q : Str) (N : Addr) (bs : List Value) (hd : Bool) (sn : List Str) (su : List Value) (ab : Bool) (co : Option Bool) (dd : Option Addr) (k0 k1 k2 k3 k5 : Option Value) (newId : String),
    K.lookup C = some (excClassObj nm q C N bs [.type "object"] hd sn su ab co dd k0 k1 k2 k3 k5 newId) ∧ PySem.W.nsOkIn K N = true ∧ PySem.W.nsIn K N "__eq__" = some (some (.ref f)) ∧ PySem.W.nsIn K N "__ne__" = some none
  at_ : PySem.W.findIn K (.ref C) "__eq__" = some (some (.ref f))
  fn : PySem.W.isFn K (.ref f) = true
theorem named_of {K : PySem.W.Frag} {h : Heap} {N : Addr} {mN : Str → Option Value} {n : Str} {v : Value} (X : K.In h) (G : h.Ns N mN) (e : PySem.W.nsIn K N n = some (some v)) : mN n = some v := by
  have ⟨o, es, ep, at_, data, _, find⟩ := G
  unfold PySem.W.nsIn at e
  split at e
  · rename_i es' _ _ q
    have same := X _ _ q
    rw [at_] at same
    cases same
    cases data
    split at e
    · rename_i en he
      cases e
      rw [← find]
      simp only [nsFind, findBy, ← Array.find?_toList, he, Option.map_some]
    · split at e <;> cases e
  · cases e
theorem EqC.heap {K : PySem.W.Frag} {C f x : Addr} {h : Heap} {o : Obj} (E : EqC K C f) (X : K.In h) (at_ : h.get? x = some o) (ty : o.cls = .ref C) : h.OwnEqNoNe x C f "object" [.type "object"] := by
  obtain ⟨nm, q, N, bs, hd, sn, su, ab, co, dd, k0, k1, k2, k3, k5, newId, look, ok, eq, ne⟩ := E.cls
  have G : h.Ns N (h.nsMap N) := .of_isNs (PySem.W.isNs_of_in X ok)
  obtain ⟨of, lf, tf⟩ := Option.map_eq_some_iff.mp (show (K.lookup f).map (·.cls) = some (.type "function") from beq_iff_eq.mp E.fn)
  exact ⟨o, of, nm, q, N, bs, hd, sn, su, ab, co, dd, k0, k1, k2, k3, k5, newId, h.nsMap N, _, at_, ty, X _ _ look, G, named_of X G eq, X _ _ lf, tf, PySem.F.cmp_object.mro, PySem.F.cmp_object.eq.lookup, PySem.W.nsMap_none_of_in X ok ne⟩
def rEqO (C : Addr) (sp : Sp) (neg : Bool) : R2 := fun x y H Q => ∃ a dx fs b dy gs, x = .ref a ∧ y = .ref b ∧ H a = some (.ins C dx fs) ∧ H b = some (.ins C dy gs) ∧ sp [.ref a, .ref b] H (fun v H' => ∃ t, v = .bl t ∧ Q (.bl (t != neg)) H') (fun _ _ _ => False)
section
variable {X : Cx} {k : Nat} {C f : Addr} {fd : FuncData} {ps : List Str} {sp : Sp}
/-- __eq__ called somewhere below -/
theorem eq_run {A : Around} {pins : List (Addr × Obj)} {σ : St} {H : Hp} {s : Shared} {a b : Addr} {Q : VK} (F : FnOk X.prog X.w X.K X.mg X.base (L2.CX X.prog X.w) k f fd ps sp) (room : Room k A) (frames : A.frames = X.A.frames) (bd : Binds X.K fd ps []) (I : Inv X pins σ H s)
    (wish : sp [.ref a, .ref b] H Q (fun _ _ _ => False)) : wpAny (model X.prog X.w) A (call (.ref f) [.ref a, .ref b]) (EP X pins σ Q) X.xe s := by
  have few := F.len _ _ _ _ wish
  have now := I.env0
  refine wpAny_call (codeAny_mono (F.run A X.stack s H ⟨[.ref a, .ref b], []⟩ [.ref a, .ref b] [.ref a, .ref b] _ _ room { now with frames := frames.trans now.frames } (bd s [.ref a, .ref b] I.kIn few) (.cons rfl (.cons rfl .nil)) wish) fun r s' h => ?_)
  match r, h with
  | .error er, h => exact passL pins σ H s er s' I h
  | .ok (.ret u), h => exact I.after h
theorem op_eqO (E : EqC X.K C f) (F : FnOk X.prog X.w X.K X.mg X.base (L2.CX X.prog X.w) k f fd ps sp) (room : Room k X.A) (bd : Binds X.K fd ps []) : OpR X (compareOp .Eq) (rEqO C sp false) := fun pins s σ H x y v u Q I rx ry wish => by
  rcases wish with ⟨a, dx, fs, b, dy, gs, rfl, rfl, ha, hb, wish⟩
  obtain rfl : v = Value.ref a := rx
  obtain rfl : u = Value.ref b := ry
  have ⟨_, la, _⟩ := ins_get I.hok ha
  have ⟨_, ia, _⟩ := la.look
  have ⟨_, lb, _⟩ := ins_get I.hok hb
  have ⟨_, ib, _⟩ := lb.look
  have ⟨_, frame⟩ := I.fr
  refine PySem.W.cmp_K (op := .Eq) (tb := .ref C) room.units0 frame I.ok.mod.kin ia ib.type (by simp [PySem.W.notFirst]) E.at_ E.fn (wpAny_mono (eq_run F room rfl bd I wish) (fun r s' h => ?_) fun _ _ z => z)
  obtain ⟨w, H', J, rw', t, rfl, q⟩ := h
  obtain rfl : r = Value.bool t := rw'
  rw [Bool.bne_false] at q
  exact ⟨.bl t, H', J, rfl, q⟩
theorem op_neO (E : EqC X.K C f) (F : FnOk X.prog X.w X.K X.mg X.base (L2.CX X.prog X.w) k f fd ps sp) (room : Room (k + 1) X.A) (bd : Binds X.K fd ps []) : OpR X (compareOp .NotEq) (rEqO C sp true) := fun pins s σ H x y v u Q I rx ry wish => by
  rcases wish with ⟨a, dx, fs, b, dy, gs, rfl, rfl, ha, hb, wish⟩
  obtain rfl : v = Value.ref a := rx
  obtain rfl : u = Value.ref b := ry
  have ⟨_, la, _⟩ := ins_get I.hok ha
  have ⟨_, ia, _⟩ := la.look
  have ⟨_, lb, _⟩ := ins_get I.hok hb
  have ⟨_, ib, _⟩ := lb.look
  refine compareOp_ne_ownEq PySem.F.cmp_object (E.heap I.kIn ia.1 ia.cls) ib.1 ib.cls (by have := room.units; omega) (wpAny_mono (eq_run F room.in1 rfl bd I wish) (fun r s' h => ?_) fun _ _ z => z)
  obtain ⟨w, H', J, rw', t, rfl, q⟩ := h
  obtain rfl : r = Value.bool t := rw'
  rw [Bool.bne_true] at q
  exact ⟨t, rfl, .bl (!t), H', J, rfl, q⟩
end
end L2
namespace M
open PySem PySem.Spec PyProof.Rows L2
def gEqO (cid : Nat) (c : Call) (neg : Bool) (st : Store) (x y : D) : Option (D × Store) := match objF st x, objF st y with
  | some (i, _), some (j, _) => if i = cid ∧ j = cid then (match c [x, y] st with
    | some (.ok (.bl b), st) => some (.bl (b != neg), st)
    | _ => none) else none
  | _, _ => none
theorem r2_eqO {G : Gb} {cid : Nat} {c : Call} {neg : Bool} : R2MS G (rEqO (G.cA cid) (spM G c 2) neg) (gEqO cid c neg) := fun L st st' H x y d e z Q R dx dy hz k => by
  unfold gEqO at hz
  split at hz
  · rename_i i fs j gs hi hj
    split at hz
    · rename_i hc
      obtain ⟨rfl, rfl⟩ := hc
      split at hz
      · rename_i b st2 ran
        cases hz
        obtain ⟨a, ddx, us, rfl, ha, _⟩ := obj_at R dx hi
        obtain ⟨a', ddx', us', rfl, ha', _⟩ := obj_at R dy hj
        exact ⟨a, ddx, us, a', ddx', us', rfl, rfl, ha, ha', rfl, L, st, [d, e], .ok (.bl b), _, R, .cons dx (.cons dy .nil), ran, fun v L' H' ev r va => ⟨b, va.bl_inv, k _ L' H' ev r (.d (.bl _))⟩⟩
      · cases hz
    · cases hz
  · cases hz
end M


/-! Tuples compared whose items may be own objects. -/
namespace L2
open PySem PySem.Spec PyProof.Rows AutoSeq1 MeetsSeq MeetsSeq2 MeetsSeq3 SeqRoads2
section
variable {prog : Program} {w : World} {A : Around} {R : Result → Shared → Prop}
/-- what is known when these pairs are left; a pair that differs ends it by bad -/
def PairTurn (prog : Program) (w : World) (A : Around) (R : Result → Shared → Prop) (bad : Bool) (I : List (Value × Value) → Shared → Prop) : Prop :=
  ∀ x y rest s, I ((x, y) :: rest) s → wpAny (model prog w) A.in1 (eqBool x y) (fun r s' => if r = true then I rest s' else R (.ok (.ret (.bool bad))) s') (fun e s' => R (.error e) s') s
abbrev TupAt (h : Heap) (l : Addr) (us : Array Value) : Prop := ∃ (dd : Option Addr) (n : Nat) (sl : Array (Option Value)), h.get? l = some { cls := .type "tuple", dict := dd, data := .seq us n, slots := sl }
theorem tup_eq_by {l b : Addr} {us vs : Array Value} {s : Shared} (I : List (Value × Value) → Shared → Prop) (turn : PairTurn prog w A R false I) (done : ∀ s, I [] s → R (.ok (.ret (.bool (us.size == vs.size)))) s)
    (hl : TupAt s.heap l us) (hb : TupAt s.heap b vs) (h : I (us.toList.zip vs.toList) s) : wpAny (model prog w) A.in1 (Builtin.«tuple.__eq__» ⟨[.ref l, .ref b], []⟩) (GQ.FinOf prog w A R) (fun e s' => R (.error e) s') s := by
  obtain ⟨hp, g, d, tk, os⟩ := s
  obtain ⟨_, _, _, hl⟩ := hl
  obtain ⟨_, _, _, hb⟩ := hb
  have f2 := AutoSeq1.sub_tuple_tuple
  wp_walk using wpAny_loadPart' hl, wpAny_loadPart' hb, wpAny_forIn_list _ (fun rest z s' => z.1 = none ∧ I rest s') _
  case turn =>
    rintro ⟨x, y⟩ rest z s' ⟨zn, now⟩
    refine wpAny_bind (wpAny_mono (turn x y rest s' now) (fun r s2 q => ?_) fun _ _ e => e)
    cases r with
    | true => wp_walk; exact ⟨rfl, q⟩
    | false => wp_walk; exact q
  case fin =>
    rintro ⟨z1, z2⟩ s' ⟨zn, now⟩
    simp only at zn
    subst zn
    have q := done s' now
    wp_walk
    simpa [Builtin.Tuple.tupleCompareSizes] using q
  case h => exact ⟨rfl, h⟩
theorem tup_ne_by {l b : Addr} {us vs : Array Value} {s : Shared} (I : List (Value × Value) → Shared → Prop) (turn : PairTurn prog w A R true I) (done : ∀ s, I [] s → R (.ok (.ret (.bool (!(us.size == vs.size))))) s)
    (hl : TupAt s.heap l us) (hb : TupAt s.heap b vs) (h : I (us.toList.zip vs.toList) s) : wpAny (model prog w) A.in1 (Builtin.«tuple.__ne__» ⟨[.ref l, .ref b], []⟩) (GQ.FinOf prog w A R) (fun e s' => R (.error e) s') s := by
  obtain ⟨hp, g, d, tk, os⟩ := s
  obtain ⟨_, _, _, hl⟩ := hl
  obtain ⟨_, _, _, hb⟩ := hb
  have f2 := AutoSeq1.sub_tuple_tuple
  wp_walk using wpAny_loadPart' hl, wpAny_loadPart' hb, wpAny_forIn_list _ (fun rest z s' => z.1 = none ∧ I rest s') _
  case turn =>
    rintro ⟨x, y⟩ rest z s' ⟨zn, now⟩
    refine wpAny_bind (wpAny_mono (turn x y rest s' now) (fun r s2 q => ?_) fun _ _ e => e)
    cases r with
    | true => wp_walk; exact ⟨rfl, q⟩
    | false => wp_walk; exact q
  case fin =>
    rintro ⟨z1, z2⟩ s' ⟨zn, now⟩
    simp only at zn
    subst zn
    have q := done s' now
    wp_walk
    simpa [Builtin.Tuple.tupleCompareSizes, bne] using q
  case h => exact ⟨rfl, h⟩
end
/-- pair by pair: plain data, or two own objects of the class at C (whose __eq__ promises sp); k: whether all are equal -/
def rPairs (K : PySem.W.Frag) (C : Addr) (sp : Sp) (k : Bool → Hp → Prop) : List V → List V → Hp → Prop
  | [], [], H => k true H
  | x :: xs, y :: ys, H => (∃ d e, Dp K H x d ∧ Dp K H y e ∧ SeqAt.shaped d = true ∧ SeqAt.shaped e = true ∧ if PyData.eqv d e = true then rPairs K C sp k xs ys H else k false H) ∨
      ∃ a dx fs b dy gs, x = .ref a ∧ y = .ref b ∧ H a = some (.ins C dx fs) ∧ H b = some (.ins C dy gs) ∧ (a = b → rPairs K C sp k xs ys H) ∧
        (a ≠ b → sp [.ref a, .ref b] H (fun v H' => ∃ t, v = .bl t ∧ if t = true then rPairs K C sp k xs ys H' else k false H') (fun _ _ _ => False))
  | _, _, _ => False
def rTupO (K : PySem.W.Frag) (C : Addr) (sp : Sp) (neg : Bool) : R2 := fun x y H Q => ∃ a b xs ys, x = .ref a ∧ y = .ref b ∧ SqT K H a xs ∧ SqT K H b ys ∧ xs.length = ys.length ∧ rPairs K C sp (fun t H' => Q (.bl (t != neg)) H') xs ys H
section
variable {X : Cx} {k : Nat} {C f : Addr} {fd : FuncData} {ps : List Str} {sp : Sp}
/-- what is known while the pairs are gone through -/
def PairsI (X : Cx) (pins : List (Addr × Obj)) (σ : St) (C : Addr) (sp : Sp) (kk : Bool → Hp → Prop) (rest : List (Value × Value)) (s' : Shared) : Prop :=
  ∃ H' xs ys us vs, rest = us.zip vs ∧ Inv X pins σ H' s' ∧ Vals xs us ∧ Vals ys vs ∧ rPairs X.K C sp kk xs ys H'
theorem pairs_turn {A : Around} {pins : List (Addr × Obj)} {σ : St} {R : Result → Shared → Prop} {bad : Bool} {kk : Bool → Hp → Prop} (E : EqC X.K C f) (F : FnOk X.prog X.w X.K X.mg X.base (L2.CX X.prog X.w) k f fd ps sp) (room : Room (k + 1) A) (frames : A.frames = X.A.frames) (bd : Binds X.K fd ps [])
    (out : ∀ e s', X.xe e s' → R (.error e) s') (no : ∀ H' s', Inv X pins σ H' s' → kk false H' → R (.ok (.ret (.bool bad))) s') : PairTurn X.prog X.w A R bad (PairsI X pins σ C sp kk) := by
  rintro u v rest s ⟨H, xs, ys, us, vs, e, I, rx, ry, wish⟩
  cases rx with
  | nil => cases e
  | @cons x _ xs us rx0 rx =>
    cases ry with
    | nil => rw [List.zip_nil_right] at e; cases e
    | @cons y _ ys vs ry0 ry =>
      rw [List.zip_cons_cons] at e
      cases e
      rcases wish with ⟨d, e, hd, he, sd, se, wish⟩ | ⟨a, dx, fs, b, dy, gs, rfl, rfl, ha, hb, same, other⟩
      · obtain ⟨_, r1⟩ := Dp.reads I d x u hd rx0
        obtain ⟨_, r2⟩ := Dp.reads I e y v he ry0
        refine SeqAt.eqAt_reads d e A.in1 s u v _ _ r1 r2 (SeqAt.canLay_of_shaped sd) (SeqAt.canLay_of_shaped se) ?_ X.prog X.w _ _ ?_
        · exact SeqAt.room_of_shaped sd (by have := room.in1.units; omega)
        · split at wish
          · rename_i h
            rw [if_pos h]
            exact ⟨H, xs, ys, us, vs, rfl, I, rx, ry, wish⟩
          · rename_i h
            rw [if_neg h]
            exact no H s I wish
      · obtain rfl : u = Value.ref a := rx0
        obtain rfl : v = Value.ref b := ry0
        by_cases q : a = b
        · subst q
          refine SeqAt.EqAt.same (A := A.in1) (s := s) (.ref a) X.prog X.w _ _ ?_
          rw [if_pos rfl]
          exact ⟨H, xs, ys, us, vs, rfl, I, rx, ry, same rfl⟩
        · have ⟨_, la, _⟩ := ins_get I.hok ha
          have ⟨_, ia, _⟩ := la.look
          have ⟨_, lb, _⟩ := ins_get I.hok hb
          have ⟨_, ib, _⟩ := lb.look
          have ⟨_, frame⟩ := I.fr
          refine GQ.eqBool_refG q (PySem.W.cmp_K (op := .Eq) (tb := .ref C) room.in1.units0 frame I.ok.mod.kin ia ib.type (by simp [PySem.W.notFirst]) E.at_ E.fn (wpAny_mono (eq_run F room.in1 frames bd I (other q)) (fun r s' h => ?_) out))
          obtain ⟨w, H', J, rw', t, rfl, wish⟩ := h
          obtain rfl : r = Value.bool t := rw'
          refine ⟨t, rfl, ?_⟩
          cases t with
          | true => exact ⟨H', xs, ys, us, vs, rfl, J, rx, ry, wish⟩
          | false => exact no H' s' J wish
theorem tup_at {h : Heap} {a : Addr} {us : Array Value} (t : h.IsTuple a us) : TupAt h a us := by
  obtain ⟨⟨_, dd, _, sl⟩, at_, ty, n, data⟩ := t
  cases ty
  cases data
  exact ⟨dd, n, sl, at_⟩
theorem op_tupE (E : EqC X.K C f) (F : FnOk X.prog X.w X.K X.mg X.base (L2.CX X.prog X.w) k f fd ps sp) (room : Room (k + 1) X.A) (bd : Binds X.K fd ps []) : OpR X (compareOp .Eq) (rTupO X.K C sp false) := fun pins s σ H x y v u Q I rx ry wish => by
  rcases wish with ⟨a, b, xs, ys, rfl, rfl, ha, hb, few, wish⟩
  obtain rfl : v = Value.ref a := rx
  obtain rfl : u = Value.ref b := ry
  obtain ⟨us, r1, t1, _⟩ := I.tuple ha
  obtain ⟨vs, r2, t2, _⟩ := I.tuple hb
  have many : us.length = vs.length := by rw [← r1.length, ← r2.length]; exact few
  have same : (us.toArray.size == vs.toArray.size) = true := by simp [many]
  have tya : s.TypeIs (.ref a) "tuple" := let ⟨_, _, _, q⟩ := tup_at t1; ⟨_, q, rfl⟩
  have tyb : s.TypeIs (.ref b) "tuple" := let ⟨_, _, _, q⟩ := tup_at t2; ⟨_, q, rfl⟩
  refine wpAny_richCompare_same_room (op := .Eq) tya tyb PySem.F.slot_tuple_eq (GQ.call_here PySem.F.slot_tuple_eq tya PySem.F.entry_tuple_eq (PySem.F.args_tuple_eq_2 _ _) ?_) room.units0
  refine tup_eq_by (R := wants (fun v s' => v ≠ .notImplemented ∧ EP X pins σ Q v s') X.xe) (PairsI X pins σ C sp fun t H' => Q (.bl (t != false)) H') (pairs_turn E F room rfl bd (fun e s' z => z) fun H' s' J q => ⟨nofun, .bl false, H', J, rfl, q⟩) ?_ (tup_at t1) (tup_at t2) ⟨H, xs, ys, us, vs, rfl, I, r1, r2, wish⟩
  rintro s' ⟨H', xs', ys', us', vs', e, J, q1, q2, q⟩
  rw [same]
  refine ⟨nofun, .bl true, H', J, rfl, ?_⟩
  cases q1 with
  | nil =>
    cases q2 with
    | nil => exact q
    | cons _ _ => exact q.elim
  | cons _ _ =>
    cases q2 with
    | nil => exact q.elim
    | cons _ _ => cases e
theorem op_tupN (E : EqC X.K C f) (F : FnOk X.prog X.w X.K X.mg X.base (L2.CX X.prog X.w) k f fd ps sp) (room : Room (k + 1) X.A) (bd : Binds X.K fd ps []) : OpR X (compareOp .NotEq) (rTupO X.K C sp true) := fun pins s σ H x y v u Q I rx ry wish => by
  rcases wish with ⟨a, b, xs, ys, rfl, rfl, ha, hb, few, wish⟩
  obtain rfl : v = Value.ref a := rx
  obtain rfl : u = Value.ref b := ry
  obtain ⟨us, r1, t1, _⟩ := I.tuple ha
  obtain ⟨vs, r2, t2, _⟩ := I.tuple hb
  have many : us.length = vs.length := by rw [← r1.length, ← r2.length]; exact few
  have same : (us.toArray.size == vs.toArray.size) = true := by simp [many]
  have tya : s.TypeIs (.ref a) "tuple" := let ⟨_, _, _, q⟩ := tup_at t1; ⟨_, q, rfl⟩
  have tyb : s.TypeIs (.ref b) "tuple" := let ⟨_, _, _, q⟩ := tup_at t2; ⟨_, q, rfl⟩
  refine wpAny_richCompare_same_room (op := .NotEq) tya tyb PySem.F.slot_tuple_ne (GQ.call_here PySem.F.slot_tuple_ne tya PySem.F.entry_tuple_ne (PySem.F.args_tuple_ne_2 _ _) ?_) room.units0
  refine tup_ne_by (R := wants (fun v s' => v ≠ .notImplemented ∧ EP X pins σ Q v s') X.xe) (PairsI X pins σ C sp fun t H' => Q (.bl (t != true)) H') (pairs_turn E F room rfl bd (fun e s' z => z) fun H' s' J q => ⟨nofun, .bl true, H', J, rfl, q⟩) ?_ (tup_at t1) (tup_at t2) ⟨H, xs, ys, us, vs, rfl, I, r1, r2, wish⟩
  rintro s' ⟨H', xs', ys', us', vs', e, J, q1, q2, q⟩
  rw [same]
  refine ⟨nofun, .bl false, H', J, rfl, ?_⟩
  cases q1 with
  | nil =>
    cases q2 with
    | nil => exact q
    | cons _ _ => exact q.elim
  | cons _ _ =>
    cases q2 with
    | nil => exact q.elim
    | cons _ _ => cases e
end
end L2
namespace M
open PySem PySem.Spec PyProof.Rows L2
open Classical in
/-- the pairs of two tuples' items: plain data, or own objects that their class's __eq__ (which leaves the store) says to be equal -/
noncomputable def pairsO (cid : Nat) (c : Call) : List D → List D → Store → Option (Bool × Store)
  | [], [], st => some (true, st)
  | d :: ds, e :: es, st => if okD 8 d = true ∧ okD 8 e = true then (if eqvD d e = true then pairsO cid c ds es st else some (false, st)) else match objF st d, objF st e with
    | some (i, _), some (j, _) => if i = cid ∧ j = cid then (match c [d, e] st with
      | some (.ok (.bl true), st') => if st' = st then pairsO cid c ds es st else none
      | _ => none) else none
    | _, _ => none
  | _, _, _ => none
theorem pairs_ok {G : Gb} {cid : Nat} {c : Call} {k : Bool → Hp → Prop} {b : Bool} : ∀ (ds es : List D) (xs ys : List V) (L : Lv) (H : Hp) (st st' : Store), Rep G L st H → Das G (off L H) xs ds → Das G (off L H) ys es → pairsO cid c ds es st = some (b, st') →
    (∀ L' H', Ev L H L' H' → Rep G L' st' H' → k b H') → rPairs G.K (G.cA cid) (spM G c 2) k xs ys H
  | [], es, xs, ys, L, H, st, st', R, dx, dy, e, kk => by
    cases es with
    | nil =>
      cases dx
      cases dy
      cases e
      exact kk L H (Ev.refl _ _) R
    | cons _ _ => cases e
  | d :: ds, [], xs, ys, L, H, st, st', R, dx, dy, e, kk => by cases e
  | d :: ds, e :: es, xs, ys, L, H, st, st', R, dx, dy, hp, kk => by
    cases dx with
    | @cons x xs _ _ h1 dx =>
      cases dy with
      | @cons y ys _ _ h2 dy =>
        unfold pairsO at hp
        split at hp
        · rename_i hk
          refine .inl ⟨_, _, da_dp 8 _ _ hk.1 (Da.mono (Rl.of_same fun _ _ h => (off_some h).1) _ _ h1), da_dp 8 _ _ hk.2 (Da.mono (Rl.of_same fun _ _ h => (off_some h).1) _ _ h2), shaped_ok hk.1, shaped_ok hk.2, ?_⟩
          rw [eqv_py 8 _ _ hk.1 hk.2]
          split at hp
          · rename_i he
            rw [if_pos he]
            exact pairs_ok ds es xs ys L H st st' R dx dy hp kk
          · rename_i he
            rw [if_neg he]
            cases hp
            exact kk L H (Ev.refl _ _) R
        · split at hp
          · rename_i i fs j gs hi hj
            split at hp
            · rename_i hc
              obtain ⟨rfl, rfl⟩ := hc
              split at hp
              · rename_i st2 ran
                split at hp
                · rename_i hs
                  subst hs
                  obtain ⟨a, ddx, us, rfl, ha, _⟩ := obj_at R (.d h1) hi
                  obtain ⟨a', ddx', us', rfl, ha', _⟩ := obj_at R (.d h2) hj
                  refine .inr ⟨a, ddx, us, a', ddx', us', rfl, rfl, ha, ha', fun _ => pairs_ok ds es xs ys L H _ st' R dx dy hp kk, fun _ => ⟨rfl, L, _, [d, e], .ok (.bl true), _, R, .cons (.d h1) (.cons (.d h2) .nil), ran, fun v L' H' ev r va => ⟨true, va.bl_inv, ?_⟩⟩⟩
                  rw [if_pos rfl]
                  exact pairs_ok ds es xs ys L' H' _ st' r (ev.das dx) (ev.das dy) hp fun L2 H2 e2 r2 => kk L2 H2 (ev.trans e2) r2
                · cases hp
              · cases hp
            · cases hp
          · cases hp
noncomputable def gTupO (cid : Nat) (c : Call) (neg : Bool) (st : Store) (x y : D) : Option (D × Store) := match x, y with
  | .tup ds, .tup es => if ds.length = es.length then (match pairsO cid c ds es st with
    | some (t, st) => some (.bl (t != neg), st)
    | none => none) else none
  | _, _ => none
theorem r2_tupO {G : Gb} {cid : Nat} {c : Call} {neg : Bool} : R2MS G (rTupO G.K (G.cA cid) (spM G c 2) neg) (gTupO cid c neg) := fun L st st' H x y d e z Q R dx dy hz k => by
  unfold gTupO at hz
  split at hz
  · rename_i ds es
    split at hz
    · rename_i hl
      cases hp : pairsO cid c ds es st with
      | none => rw [hp] at hz; cases hz
      | some q =>
        obtain ⟨t, st2⟩ := q
        rw [hp] at hz
        cases hz
        obtain ⟨a, us, rfl, ha, da⟩ := dx.tup_inv
        obtain ⟨b, vs, rfl, hb, db⟩ := dy.tup_inv
        exact ⟨a, b, us, vs, rfl, rfl, .inl (.inl (off_some ha).1), .inl (.inl (off_some hb).1), by rw [da.length, db.length, hl], pairs_ok ds es us vs L H st _ R da db hp fun L' H' ev r => k _ L' H' ev r (.d (.bl _))⟩
    · cases hz
  · cases hz
end M


/-! == of dicts with tuples as keys. -/
namespace L2
open PySem PySem.Spec PyProof.Rows
section
variable {prog : Program} {w : World} {κ : Type} [DecidableEq κ] {knd : HeapKind prog w κ} {A : Around} {E : Value → Shared → Prop} {s : Shared} {a b : Addr}
/-- what an entry of the one dict meets in the other -/
inductive Meet (A : Around) (s : Shared) (ys : List (κ × Addr × Value)) (x : κ × Addr × Value) : Bool → Prop
  | miss (h : ∀ (j : Nat) (p : Addr × Value), ys[j]? ≠ some (x.1, p)) : Meet A s ys x false
  | hit {j : Nat} {p : Addr} {v : Value} {t : Bool} (h : ys[j]? = some (x.1, p, v)) (q : SeqAt.EqAt A s x.2.2 v t) : Meet A s ys x t
theorem shows_all {d : Addr} {M : Model} {Q : Unit → Shared → Prop} (nd : (d == sysModules) = false) (h : Q () s) : wpAny M A (Builtin.Dict.showsAll d) Q E s := by
  unfold Builtin.Dict.showsAll
  exact wpAny_ite_split (fun z => by rw [nd] at z; cases z) fun _ => wpAny_pure h
theorem same_heap {nm : String} {xs ys : List (κ × Addr × Value)} {Q : Bool → Shared → Prop} (room : knd.room A) (na : (a == sysModules) = false) (nb : (b == sysModules) = false) (da : s.heap.DictOfH knd a xs) (db : s.heap.DictOfH knd b ys)
    (t : κ × Addr × Value → Bool) (meet : ∀ x ∈ xs, Meet A s ys x (t x)) (h : Q (xs.length == ys.length && xs.all t) s) : wpAny (model prog w) A (Builtin.Dict.samePairs nm a b) Q E s := by
  obtain ⟨oa, es, ep, ga, _, ea, la, ia, ua⟩ := da
  obtain ⟨ob, fs, eq, gb, _, eb, lb, ib, ub⟩ := db
  have sa : es.size = xs.length := size_of_entries la
  have sb : fs.size = ys.length := size_of_entries lb
  unfold Builtin.Dict.samePairs
  refine wpAny_bind (shows_all na (wpAny_bind (shows_all nb (wpAny_bind (wpAny_dictEntries ga ea (wpAny_bind (wpAny_dictEntries gb eb ?_)))))))
  by_cases many : es.size = fs.size
  · have many' : (xs.length == ys.length) = true := by rw [← sa, ← sb]; simpa using many
    rw [many', Bool.true_and] at h
    refine wpAny_ite_split (fun z => by simp [many] at z) fun _ => ?_
    refine wpAny_bind (wpAny_dictEpoch ga ea (wpAny_bind ?_))
    rw [Std.Legacy.Range.forIn_eq_forIn_range']
    refine wpAny_forIn_list _ (fun rest z s' => s' = s ∧ z = (none, ()) ∧ ∃ i, i ≤ xs.length ∧ rest = List.range' i (xs.length - i) ∧ (xs.take i).all t = true) _ ?_ ?_ _ _ ⟨rfl, rfl, 0, Nat.zero_le _, by simp [Std.Legacy.Range.size, sa], rfl⟩
    · rintro i rest z s1 ⟨e1, e2, j, hj, hr, ht⟩
      subst e2
      have lt : j < xs.length := by
        rcases Nat.lt_or_ge j xs.length with q | q
        · exact q
        · rw [Nat.sub_eq_zero_of_le q] at hr; cases hr
      rw [show xs.length - j = (xs.length - (j + 1)) + 1 by omega, List.range'_succ] at hr
      cases hr
      have here : es[i]? = some (entryOfKey knd xs[i]) := by rw [entry_at la i, List.getElem?_eq_getElem lt]; rfl
      have at_ : xs[i] ∈ xs := List.getElem_mem lt
      have stop : t xs[i] = false → Q false s := fun z => by
        rwa [show xs.all t = false from Bool.eq_false_iff.mpr fun y => by rw [List.all_eq_true.mp y _ at_] at z; cases z] at h
      have go : t xs[i] = true → (xs.take (i + 1)).all t = true := fun z => by
        rw [List.take_add_one, List.getElem?_eq_getElem lt, List.all_append, ht]
        simp [z]
      rw [e1]
      refine wpAny_bind (wpAny_dictEntries ga ea ?_)
      rw [here]
      refine wpAny_bind (wpAny_holding (wpAny_bind (wpAny_dictFind_heap room (ia _ at_) gb eb lb ib ub (fun none => wpAny_pure ?_) fun k p some => ?_)))
      · have tf : t xs[i] = false := by
          cases hm : t xs[i] with
          | false => rfl
          | true =>
            have m := meet _ at_
            rw [hm] at m
            cases m with
            | hit q _ => exact absurd q (none _ _)
        exact wpAny_ite_split (fun _ => wpAny_pure (wpAny_pure (stop tf))) fun z => absurd rfl z
      · refine wpAny_bind (wpAny_dictEntries gb eb ?_)
        rw [entry_at lb k, some]
        have eq : ∀ tt, Meet A s ys xs[i] tt → SeqAt.EqAt A s xs[i].2.2 p.2 tt := fun tt m => by
          cases m with
          | miss q => exact absurd some (q _ _)
          | @hit k' p' v' _ q z =>
            obtain rfl := idxH_unique ub q some
            rw [q] at some
            cases some
            exact z
        refine wpAny_holding (eq _ (meet _ at_) _ _ _ _ ?_)
        cases hm : t xs[i] with
        | false => exact wpAny_ite_split (fun _ => wpAny_pure (wpAny_pure (stop hm))) fun z => absurd rfl z
        | true =>
          refine wpAny_ite_split (fun z => nomatch z) fun _ => wpAny_bind (wpAny_dictEpoch ga ea ?_)
          exact wpAny_ite_split (fun z => by simp at z) fun _ => wpAny_pure ⟨rfl, rfl, i + 1, lt, rfl, go hm⟩
    · rintro z s1 ⟨e1, e2, j, hj, hr, ht⟩
      subst e1 e2
      have full : xs.length ≤ j := by
        rcases Nat.lt_or_ge j xs.length with q | q
        · rw [show xs.length - j = (xs.length - (j + 1)) + 1 by omega, List.range'_succ] at hr
          cases hr
        · exact q
      rw [List.take_of_length_le full] at ht
      rw [ht] at h
      exact wpAny_pure h
  · have many' : (xs.length == ys.length) = false := by rw [← sa, ← sb]; simpa using many
    rw [many', Bool.false_and] at h
    refine wpAny_ite_split (fun _ => wpAny_bind (wpAny_rule (wpAny_pure h))) fun z => absurd (by simpa using many) z
theorem heap_type {d : Addr} {xs : List (κ × Addr × Value)} (h : s.heap.DictOfH knd d xs) : s.TypeIs (.ref d) "dict" := by
  obtain ⟨o, _, _, g, e, _⟩ := h
  exact ⟨o, g, e.1⟩
theorem eq_heap {xs ys : List (κ × Addr × Value)} {Q : Value → Shared → Prop} (few : A.units < cLine) (room : knd.room A.in1) (na : (a == sysModules) = false) (nb : (b == sysModules) = false) (da : s.heap.DictOfH knd a xs) (db : s.heap.DictOfH knd b ys)
    (t : κ × Addr × Value → Bool) (meet : ∀ x ∈ xs, Meet A.in1 s ys x (t x)) (h : Q (.bool (xs.length == ys.length && xs.all t)) s) : wpAny (model prog w) A (richCompare .Eq (.ref a) (.ref b)) Q E s := by
  refine wpAny_richCompare_same_room (op := .Eq) (heap_type da) (heap_type db) PySem.F.slot_dict_eq (GQ.call_here PySem.F.slot_dict_eq (heap_type da) PySem.F.entry_dict_eq (PySem.F.args_dict_eq_2 _ _) ?_) few
  show wpAny _ _ (Builtin.Dict.dictSlotArgs "__eq__" ⟨[.ref a, .ref b], []⟩ >>= _) _ _ s
  unfold Builtin.Dict.dictSlotArgs
  refine wpAny_bind (wpAny_bind (wpAny_notOrdered_dict (heap_type da) (wpAny_pure (wpAny_bind (wpAny_isInstance (T := "dict") (heap_type db) PySem.F.sub_dict_dict ?_)))))
  refine wpAny_ite_split (fun z => nomatch z) fun _ => ?_
  refine wpAny_bind (wpAny_pure (wpAny_bind (wpAny_pure (wpAny_bind (same_heap room na nb da db t meet (wpAny_pure ?_))))))
  refine ⟨nofun, ?_⟩
  simpa using h
end
/-- two dicts with tuples as keys, whose values are flat: whether each key of the one is one of the other, with an equal value -/
def lookT (ls : List (List Key × V)) (k : List Key) : Option V := (ls.find? fun q => decide (q.1 = k)).map (·.2)
def sameT (ks ls : List (List Key × V)) : Bool := ks.length == ls.length && ks.all fun p => match lookT ls p.1 with
  | some v => eqV p.2 v
  | none => false
theorem lookT_some {ls : List (List Key × V)} {k : List Key} {v : V} (h : lookT ls k = some v) : ∃ j : Nat, ls[j]? = some (k, v) := by
  obtain ⟨q, hq, rfl⟩ := Option.map_eq_some_iff.mp h
  obtain ⟨j, hj⟩ := List.mem_iff_getElem?.mp (List.mem_of_find?_eq_some hq)
  have : q.1 = k := of_decide_eq_true (List.find?_some (p := fun q : List Key × V => decide (q.1 = k)) hq)
  exact ⟨j, by rw [hj, ← this]⟩
theorem lookT_none {ls : List (List Key × V)} {k : List Key} (h : lookT ls k = none) (j : Nat) (v : V) : ls[j]? ≠ some (k, v) := fun z => by
  have q := Option.map_eq_none_iff.mp h
  have := List.find?_eq_none.mp q _ (List.mem_of_getElem? z)
  simp at this
theorem lookT_of {ls : List (List Key × V)} (nd : (ls.map (·.1)).Nodup) {j : Nat} {k : List Key} {v : V} (h : ls[j]? = some (k, v)) : lookT ls k = some v := by
  cases q : lookT ls k with
  | none => exact absurd h (lookT_none q j v)
  | some u =>
    obtain ⟨i, hi⟩ := lookT_some q
    have e1 : (ls.map (·.1))[i]? = some k := by rw [List.getElem?_map, hi]; rfl
    have e2 : (ls.map (·.1))[j]? = some k := by rw [List.getElem?_map, h]; rfl
    have li : i < (ls.map (·.1)).length := (List.getElem?_eq_some_iff.mp e1).1
    obtain rfl := (List.getElem?_inj li nd).mp (e1.trans e2.symm)
    rw [hi] at h
    cases h
    rfl
theorem kt_keys {H : Hp} {ks : List (List Key × V)} {xs : List (List Key × Addr × Value)} (h : KT H ks xs) : xs.map (·.1) = ks.map (·.1) := by
  induction h with
  | nil => rfl
  | cons h _ ih => rw [List.map_cons, List.map_cons, ih, h.1]
theorem kt_at {H : Hp} {ks : List (List Key × V)} {xs : List (List Key × Addr × Value)} (h : KT H ks xs) {i : Nat} {k : List Key} {v : V} (e : ks[i]? = some (k, v)) : ∃ p u, xs[i]? = some (k, p, u) ∧ RelV v u := by
  obtain ⟨⟨k', p, u⟩, q, rfl, _, r⟩ := paired_get h e
  exact ⟨p, u, q, r⟩
def rEqT (neg : Bool) : R2 := fun x y H Q => ∃ a b ks ls, x = .ref a ∧ y = .ref b ∧ Rd H a (.dT ks) ∧ Rd H b (.dT ls) ∧ (∀ p ∈ ks, flatV p.2 = true) ∧ (∀ p ∈ ls, flatV p.2 = true) ∧ Q (.bl (sameT ks ls != neg)) H
theorem op_eqT {X : Cx} (few : X.A.units + 1 < cLine) : OpR X (compareOp .Eq) (rEqT false) := fun pins s σ H x y v u Q I rx ry wish => by
  rcases wish with ⟨a, b, ks, ls, rfl, rfl, ha, hb, fa, fb, q⟩
  obtain rfl : v = Value.ref a := rx
  obtain rfl : u = Value.ref b := ry
  obtain ⟨_, na, xs, ra, da⟩ := dt_rd I.hok ha
  obtain ⟨_, nb, ys, rb, db⟩ := dt_rd I.hok hb
  have ndx : (xs.map (·.1)).Nodup := let ⟨_, _, _, _, _, _, _, _, n⟩ := da; n
  have ndy : (ys.map (·.1)).Nodup := let ⟨_, _, _, _, _, _, _, _, n⟩ := db; n
  have nda : (ks.map (·.1)).Nodup := by rw [← kt_keys ra]; exact ndx
  let T : List Key → Bool := fun k => match lookT ks k, lookT ls k with
    | some v, some u => eqV v u
    | _, _ => false
  have all : xs.all (fun x => T x.1) = ks.all fun p => match lookT ls p.1 with
      | some v => eqV p.2 v
      | none => false := by
    rw [show xs.all (fun x => T x.1) = (xs.map (·.1)).all T by rw [List.all_map]; rfl, kt_keys ra, List.all_map]
    refine Bool.eq_iff_iff.mpr ?_
    rw [List.all_eq_true, List.all_eq_true]
    have one : ∀ p ∈ ks, (T ∘ fun x => x.1) p = match lookT ls p.1 with
      | some v => eqV p.2 v
      | none => false := fun p hp => by
      obtain ⟨j, hj⟩ := List.mem_iff_getElem?.mp hp
      show (match lookT ks p.1, lookT ls p.1 with
        | some v, some u => eqV v u
        | _, _ => false) = _
      rw [lookT_of nda (k := p.1) (v := p.2) hj]
      cases lookT ls p.1 <;> rfl
    exact ⟨fun h p hp => (one p hp) ▸ h p hp, fun h p hp => (one p hp).symm ▸ h p hp⟩
  have many : xs.length = ks.length := by
    have := congrArg List.length (kt_keys ra)
    simpa using this
  have many2 : ys.length = ls.length := by
    have := congrArg List.length (kt_keys rb)
    simpa using this
  refine eq_heap (t := fun x => T x.1) (by omega) (tupleKind_room_in1 few) na nb da db (fun x hx => ?_) ?_
  · obtain ⟨i, hi⟩ := List.mem_iff_getElem?.mp hx
    have li : i < ks.length := by rw [← many]; exact (List.getElem?_eq_some_iff.mp hi).1
    obtain ⟨p, u, e1, e2⟩ := kt_at ra (i := i) (k := ks[i].1) (v := ks[i].2) (List.getElem?_eq_getElem li)
    rw [hi] at e1
    cases e1
    show Meet _ _ _ _ (match lookT ks ks[i].1, lookT ls ks[i].1 with
      | some v, some u => eqV v u
      | _, _ => false)
    rw [lookT_of nda (k := ks[i].1) (v := ks[i].2) (List.getElem?_eq_getElem li)]
    cases hl : lookT ls ks[i].1 with
    | none =>
      refine .miss fun j p z => ?_
      have lj : j < ls.length := by rw [← many2]; exact (List.getElem?_eq_some_iff.mp z).1
      obtain ⟨p', u', e3, _⟩ := kt_at rb (i := j) (k := ls[j].1) (v := ls[j].2) (List.getElem?_eq_getElem lj)
      rw [z] at e3
      have e4 : ks[i].1 = ls[j].1 := congrArg (·.1) (Option.some.inj e3)
      exact lookT_none hl j ls[j].2 (by rw [List.getElem?_eq_getElem lj, e4])
    | some v' =>
      obtain ⟨j, hj⟩ := lookT_some hl
      obtain ⟨p', u', e3, e4⟩ := kt_at rb hj
      exact .hit e3 (eqAt_V e2 e4 (fa _ (List.getElem_mem li)) (fb _ (List.mem_of_getElem? hj)))
  · refine ⟨.bl (xs.length == ys.length && xs.all fun x => T x.1), H, I, rfl, ?_⟩
    rw [Bool.bne_false] at q
    rw [many, many2, all]
    exact q
end L2
namespace M
open PySem PySem.Spec PyProof.Rows L2
def lookD (ls : List (List Key × D)) (k : List Key) : Option D := (ls.find? fun q => decide (q.1 = k)).map (·.2)
def sameDT (ks ls : List (List Key × D)) : Bool := ks.length == ls.length && ks.all fun p => match lookD ls p.1 with
  | some v => eqvD p.2 v
  | none => false
/-- == of two dicts with tuples as keys and flat values -/
def gEqT (_ : Store) (x y : D) : Option D := match x, y with
  | .dT ks, .dT ls => if (ks.all fun p => flatD p.2) = true ∧ (ls.all fun p => flatD p.2) = true then some (.bl (sameDT ks ls)) else none
  | _, _ => none
theorem dasT_flat {G : Gb} {H : Hp} : ∀ {ds : List (List Key × D)} {vs : List (List Key × V)}, DasT G H vs ds → (ds.all fun p => flatD p.2) = true → ∀ p ∈ vs, flatV p.2 = true
  | _, _, .nil, _ => nofun
  | _, _, .cons h r, f => fun p hp => by
    rw [List.all_cons, Bool.and_eq_true] at f
    rcases List.mem_cons.mp hp with rfl | hp
    · exact flat_v h f.1
    · exact dasT_flat r f.2 p hp
theorem dasT_look {G : Gb} {H : Hp} {k : List Key} : ∀ {ds : List (List Key × D)} {vs : List (List Key × V)}, DasT G H vs ds → (lookT vs k = none ∧ lookD ds k = none) ∨ ∃ v d, lookT vs k = some v ∧ lookD ds k = some d ∧ Da G H v d ∧ ∃ q ∈ ds, q.2 = d
  | _, _, .nil => .inl ⟨rfl, rfl⟩
  | _, _, .cons (k := k') (v := v) (d := d) (ds := ds) h r => by
    by_cases e : k' = k
    · exact .inr ⟨v, d, by simp [lookT, e], by simp [lookD, e], h, _, List.mem_cons_self, rfl⟩
    · rcases dasT_look (k := k) r with ⟨h1, h2⟩ | ⟨u, c, h1, h2, h3, q, hq, h4⟩
      · exact .inl ⟨by simpa [lookT, e] using h1, by simpa [lookD, e] using h2⟩
      · exact .inr ⟨u, c, by simpa [lookT, e] using h1, by simpa [lookD, e] using h2, h3, q, List.mem_cons_of_mem _ hq, h4⟩
theorem dasT_same {G : Gb} {H : Hp} {es : List (List Key × D)} {us : List (List Key × V)} (r2 : DasT G H us es) (f2 : (es.all fun p => flatD p.2) = true) : ∀ {ds : List (List Key × D)} {vs : List (List Key × V)}, DasT G H vs ds → (ds.all fun p => flatD p.2) = true →
    (vs.all fun p => match lookT us p.1 with
      | some v => eqV p.2 v
      | none => false) = ds.all fun p => match lookD es p.1 with
      | some v => eqvD p.2 v
      | none => false
  | _, _, .nil, _ => rfl
  | _, _, .cons (k := k) (v := v) (d := d) h r, f => by
    rw [List.all_cons, Bool.and_eq_true] at f
    rw [List.all_cons, List.all_cons, dasT_same r2 f2 r f.2]
    congr 1
    rcases dasT_look (k := k) r2 with ⟨h1, h2⟩ | ⟨u, c, h1, h2, h3, q, hq, h4⟩
    · rw [h1, h2]
    · rw [h1, h2]
      exact flat_eq h h3 f.1 (by rw [← h4]; exact List.all_eq_true.mp f2 q hq)
theorem r2_eqT {G : Gb} : R2M G (rEqT false) gEqT := fun L st H x y d e z Q R dx dy hz k => by
  unfold gEqT at hz
  split at hz
  · rename_i ks ls
    split at hz
    · rename_i hf
      cases hz
      cases dx with
      | d dx =>
        cases dy with
        | d dy =>
          cases dx with
          | @dT a vs _ ha ra =>
            cases dy with
            | @dT b us _ hb rb =>
              refine ⟨a, b, vs, us, rfl, rfl, rd_see ha, rd_see hb, dasT_flat ra hf.1, dasT_flat rb hf.2, ?_⟩
              rw [Bool.bne_false, show sameT vs us = sameDT ks ls by
                unfold sameT sameDT
                rw [dasT_same rb hf.2 ra hf.1, ra.length, rb.length]]
              exact r_same (.bl _) R k
    · cases hz
  · cases hz
end M


/-! The M layer: a stored two-clause comprehension; except without a name. -/
namespace M
open PySem PySem.Spec PyProof.Rows L2
section
variable {G : Gm} {W : WX} {X : Cx} {elt tg iter tg1 iter1 : Expr} {ifs ifs1 : List Expr} {scope : Scope} {own : List (Str × Nat)} {pos spos py : Pos} {mi mi1 : MA} {g g1 : TG} {t t1 : Tg} {mt mt1 : MT} {me : ME}
theorem ms_setLc2 {i : Nat} {y : Str} {vs1 : List Nat} (hc : X.calm = true) (hN : X.N.Nodup) (hy : X.N[i]? = some y) (hyl : X.env.scope.names.lookup y = some .local)
    (hsw : swapsWith (.ListComp elt [⟨tg, iter, ifs, 0⟩, ⟨tg1, iter1, ifs1, 0⟩] scope pos) (some (.Name y py)) spos.line X.env = pure true)
    (hi : PI X tg iter (tMI G W mi)) (ok : BlkOk X.N X.env.scope scope own) (hv : ∀ i ∈ vs1, i ∈ own.map (·.2)) (hg : InBlk X scope fun Y => PG Y tg g) (hT : InBlk X scope fun Y => PTs Y ifs (tMT G W0 mt))
    (hi1 : InBlk X scope fun Y => PI Y tg1 iter1 (tMI G W0 mi1)) (hg1 : InBlk X scope fun Y => PG Y tg1 g1) (hT1 : InBlk X scope fun Y => PTs Y ifs1 (tMT G W0 mt1)) (he : InBlk X scope fun Y => PE Y elt (tM G W0 me))
    (ht : TgOk G g t) (hsl : ∀ i ∈ t.slots, i ∈ own.map (·.2)) (ht1 : TgOk G g1 t1) (hsl1 : ∀ i ∈ t1.slots, i ∈ vs1)
    (f1 : ∀ x, foldedSetIterable iter X.env x = pure x := by intro _; rfl) (f2 : ∀ env x, foldedSetIterable iter1 env x = pure x := by intro _ _; rfl) (hF : Flat G := by exact fun _ _ _ h => h) :
    PS X (.Assign [.Name y py] (.ListComp elt [⟨tg, iter, ifs, 0⟩, ⟨tg1, iter1, ifs1, 0⟩] scope pos) spos) (tMS G W (mAsg (mLc2 mi t mt mi1 t1 mt1 me (own.map (·.2)) vs1) (.nm i))) :=
  PSimp (ps_setLc2 hc hN hy hyl hsw hi ok hv hg hT hi1 hg1 hT1 he f1 f2) fun _ _ _ q => t_lc2 hF ht hsl ht1 hsl1 (t_asg (G := G) (tg_nm hF) q)
end
/-- try: mb, except the classes that hit names: mx -/
def mTryN (mb : MS) (ids : List Nat) (hit : Nat → Bool) (mx : MS) : MS := fun env st => match mb env st with
  | some (.err x, env1, st1) => if x.c ∈ ids then (if hit x.c = true then (match mx env1 st1 with
    | some (.err _, _, _) => none
    | r => r) else some (.err x, env1, st1)) else none
  | r => r
section
variable {G : Gm} {W : WX} {X : Cx} {x : Str} {c : Value} {body suite : List Stmt} {b₀ : Stmt} {np pos pos' : Pos} {mb mx : MS} {ids : List Nat} {hit : Nat → Bool}
theorem t_tryN {K : PySem.W.Frag} (hK : ∀ k ∈ ids, PySem.W.exmOne K (.ref (G.cA k)) c = some (hit k)) (hF : Flat G) {D : Ends} {σ : L2.St} {H : Hp} (q : tMS G W (mTryN mb ids hit mx) D σ H) : tMS G (wOnly K c (fun _ _ _ => tMS G W0 mx) W D) mb D σ H := by
  obtain ⟨L, st, env, fl, env', st', at_, hm, hp⟩ := q
  unfold mTryN at hm
  cases hb : mb env st with
  | none => rw [hb] at hm; cases hm
  | some p =>
    obtain ⟨fl1, env1, st1⟩ := p
    rw [hb] at hm
    refine ⟨L, st, env, fl1, env1, st1, at_, hb, ?_⟩
    cases fl1 with
    | err x =>
      dsimp only at hm
      split at hm
      · rename_i hx
        intro cls dd σ' L' H' e1 r1 en1 xr
        obtain rfl := xr.1
        refine ⟨hit x.c, hK _ hx, fun ht a ha => ?_, fun ht => ?_⟩
        · rw [if_pos ht] at hm
          have a1 : At G L' st1 σ' env1 H' := ⟨en1, r1, hF _ _ _ (G.up _ _ _ e1.same at_.p)⟩
          cases hs : mx env1 st1 with
          | none => rw [hs] at hm; cases hm
          | some p =>
            obtain ⟨fl2, env2, st2⟩ := p
            rw [hs] at hm
            refine ⟨L', st1, env1, fl2, env2, st2, a1, hs, ?_⟩
            have hp2 := hp.ev e1
            cases fl2 with
            | err _ => cases hm
            | ret d => cases hm; exact hp2
            | next => cases hm; exact hp2
            | brk => cases hm; exact hp2
            | cont => cases hm; exact hp2
        · rw [if_neg (by rw [ht]; exact Bool.false_ne_true)] at hm
          cases hm
          exact hp _ dd σ' L' H' e1 r1 en1 xr
      · cases hm
    | next => cases hm; exact hp
    | brk => cases hm; exact hp
    | cont => cases hm; exact hp
    | ret d => cases hm; exact hp
theorem ms_tryN (hK : ∀ k ∈ ids, PySem.W.exmOne X.K (.ref (G.cA k)) c = some (hit k)) (hs : X.stack = X.env :: X.outer) (hf : X.env.frame = some X.env.locals) (hc : Names X x c) (tk : Takes X W)
    (hb : ∀ (W : WX) (pn : List (Addr × Obj)) (xe : Value → Shared → Prop), Takes (X.tr pn xe) W → PassesOwn (model X.prog X.w) X.A X.env xe → PSs (X.tr pn xe) body (tMS G W mb))
    (hsu : ∀ (a : Addr) (oe : Obj) (cls : Value) (d : Option Addr) (pn : List (Addr × Obj)), Zc cls d oe → (∃ vs, oe.data = .fields vs) → PSs (X.suite a ((a, oe) :: pn)) (b₀ :: suite) (tMS G W0 mx))
    (hF : Flat G := by exact fun _ _ _ h => h) :
    PS X (.Try body [.ExceptHandler (some (.Name x np)) none (b₀ :: suite) pos'] [] [] pos) (tMS G W (mTryN mb ids hit mx)) :=
  PSimp (ps_try_only (tb := fun W => tMS G W mb) (ts := fun _ _ _ => tMS G W0 mx) hs hf hc tk hb hsu) fun D σ H q => t_tryN hK hF q
end
end M


/-! The M layer: d[k] of a dict that may be a cell. -/
namespace M
open PySem PySem.Spec PyProof.Rows L2
def gDGetR (st : Store) (x y : D) : Option D := gDGet st (rd st x) y
section
variable {G : Gm} {W : WX} {X : Cx} {o i : Expr} {pos : Pos} {mo mi : ME}
theorem m_dgetR (hu : X.A.units + 1 < cLine) (ho : PE X o (tM G W mo)) (hi : PE X i (tM G W mi)) (hs : NoSl i) : PE X (.Subscript o i pos) (tM G W (mOp gDGetR mo mi)) :=
  PEimp (pe_dget hu ho hi hs) fun σ H Q q => by
    obtain ⟨L, st, env, r, st', at_, hm, hp⟩ := q
    refine tM_bnd at_ hm hp.err fun d st1 v L1 H1 h1 e1 a1 dv => ?_
    refine tM_bnd a1 h1 (hp.ev e1).err fun k st2 u L2 H2 h2 e2 a2 du => ?_
    cases hg : gDGetR st2 d k with
    | none => rw [hg] at h2; cases h2
    | some z =>
      rw [hg] at h2
      cases h2
      unfold gDGetR at hg
      cases hr : rd st' d with
      | dK kvs =>
        rw [hr] at hg
        obtain ⟨a, vs, rfl, at1, r1⟩ := rd_dK a2.r (e2.va dv) hr
        obtain ⟨kk, hk, hz⟩ := Option.bind_eq_some_iff.mp (show (keyD k).bind (valKd kvs) = some z from hg)
        obtain ⟨w, w1, w2⟩ := DasK.val kk r1 hz
        exact ⟨a, w, rfl, .inl ⟨vs, kk, at1, keyD_kV du hk, w1.symm⟩, hp w L2 H2 (e1.trans e2) a2.r (.d w2)⟩
      | dT kvs =>
        rw [hr] at hg
        obtain ⟨a, vs, rfl, at1, r1⟩ := rd_dT a2.r (e2.va dv) hr
        cases k with
        | tup ks =>
          obtain ⟨kk, hk, hz⟩ := Option.bind_eq_some_iff.mp (show (keysD ks).bind (valKd kvs) = some z from hg)
          obtain ⟨b, us, rfl, hb, rb⟩ := du.tup_inv
          obtain rfl := keysD_vs ks us kk rb hk
          obtain ⟨w, w1, w2⟩ := DasT.val kk r1 hz
          exact ⟨a, w, rfl, .inr ⟨vs, kk, b, at1, rfl, (off_some hb).1, w1.symm⟩, hp w L2 H2 (e1.trans e2) a2.r (.d w2)⟩
        | _ => cases hg
      | _ => rw [hr] at hg; cases hg
end
end M
namespace L2
open PySem PySem.Spec PyProof.Rows
/-- a namespace all whose keys are texts -/
def keyTxt : Value → Bool
  | .str _ _ => true
  | _ => false
def keysTxt (es : Array DictEntry) : Bool := es.toList.all fun e => keyTxt e.key
theorem nsok_of {K : PySem.W.Frag} {N : Addr} {c : Value} {d : Option Addr} {es : Array DictEntry} {ep : Nat} {sl : Array (Option Value)} (look : K.lookup N = some ⟨c, d, .dict es ep, sl⟩) (txt : keysTxt es = true) : PySem.W.nsOkIn K N = true := by
  unfold PySem.W.nsOkIn
  rw [look]
  show (es.all fun e => _) = true
  rw [← Array.all_toList]
  exact txt
end L2


/-! More mirrors reckoned with by simp. -/
namespace M
open PySem L2
section
variable {env : En} {st : Store} {d e : D}
@[simp] theorem e_cbs {g : Store → List D → Option (D × Store)} {ma : MA} : mCBS g ma env st = bnd (ma env st) fun ds st => (g st ds).elim none fun p => some (.ok p.1, p.2) := by
  unfold mCBS
  congr 1; funext ds st
  cases g st ds <;> rfl
theorem v_cbs {g : Store → List D → Option (D × Store)} {ma : MA} {ds : List D} {st1 st2 : Store} (h : ma env st = some (.ok ds, st1)) (hg : g st1 ds = some (d, st2)) : mCBS g ma env st = some (.ok d, st2) := by
  rw [e_cbs, h, bnd_ok, hg, e_elimS]
theorem v_opS {g : Store → D → D → Option (D × Store)} {ma mb : ME} {st1 st2 st3 : Store} {z : D} (h1 : ma env st = some (.ok d, st1)) (h2 : mb env st1 = some (.ok e, st2)) (hg : g st2 d e = some (z, st3)) : mOpS g ma mb env st = some (.ok z, st3) := by
  rw [e_opS, h1, bnd_ok, h2, bnd_ok, hg, e_elimS]
end
/-! k in a dict whose keys are tuples -/
theorem DasT.isSome {G : Gb} {H : Hp} (k : List Key) : ∀ {ds : List (List Key × D)} {vs : List (List Key × V)}, DasT G H vs ds → (valV vs k).isSome = (valKd ds k).isSome
  | [], _, h => by cases h; rfl
  | (j, x) :: ds, _, h => by
    cases h with
    | cons h r =>
      have ih := DasT.isSome k r
      by_cases q : j = k
      · subst q
        simp [valV, valKd]
      · simpa [valV, valKd, q] using ih
theorem Va.dT_inv {G : Gb} {L : Lv} {H : Hp} {v : V} {kvs : List (List Key × D)} (h : Va G L H v (.dT kvs)) : ∃ a vs, v = .ref a ∧ Rd H a (.dT vs) ∧ DasT G H vs kvs := by
  obtain ⟨h⟩ := h
  obtain ⟨h, r⟩ := h
  exact ⟨_, _, rfl, by assumption, by assumption⟩
def gDInT (_ : Store) (y x : D) : Option D := match x with
  | .dT kvs => (keyT y).map fun k => .bl (valKd kvs k).isSome
  | _ => none
section
open PySem PySem.Spec PyProof.Rows
variable {G : Gm} {W : WX} {X : Cx} {o i : Expr} {pos : Pos} {mo mi : ME}
theorem t_dinT {σ : L2.St} {H : Hp} {Q : VK} (q : tM G W (mOp gDInT mi mo) σ H Q) : tDIn (tM G W mi) (tM G W mo) σ H Q := by
  obtain ⟨L, st, env, r, st', at_, hm, hp⟩ := q
  refine tM_bnd at_ hm hp.err fun y st1 v L1 H1 h1 e1 a1 dv => ?_
  refine tM_bnd a1 h1 (hp.ev e1).err fun x st2 u L2 H2 h2 e2 a2 du => ?_
  cases hz : gDInT st2 y x with
  | none => rw [hz] at h2; cases h2
  | some z =>
    rw [hz] at h2
    cases h2
    cases x with
    | dT kvs =>
      obtain ⟨k, hk, rfl⟩ := Option.map_eq_some_iff.mp hz
      obtain ⟨b, rfl, kat⟩ := keyT_at (e2.va dv) hk
      obtain ⟨a, vs, rfl, h, rr⟩ := du.dT_inv
      refine ⟨a, valV vs k, rfl, .inr ⟨vs, k, b, rd_see h, rfl, kat, rfl⟩, ?_⟩
      rw [rr.isSome k]
      exact hp _ L2 H2 (e1.trans e2) a2.r (.d (.bl _))
    | _ => cases hz
theorem m_dinT (hu : X.A.units + 1 < cLine) (hi : PE X i (tM G W mi)) (ho : PE X o (tM G W mo)) (hm : behindInMarks .In o = false := by rfl) : PE X (.Compare i [.In] [o] pos) (tM G W (mOp gDInT mi mo)) :=
  PEimp (pe_cmp (pc_din hu hi ho) hm) fun _ _ _ => t_dinT
theorem m_tdinT (hu : X.A.units + 1 < cLine) (hi : PE X i (tM G W mi)) (ho : PE X o (tM G W mo)) (hm : behindInMarks .In o = false := by rfl) : PT X (.Compare i [.In] [o] pos) (tMT G W (mVal (mOp gDInT mi mo))) :=
  PTimp (pt_cmp (pc_din hu hi ho) hm) fun σ H Q q => t_dinT (G := G) (W := W) (t_val q)
end
end M


/-! sorted of dicts; repr of plain values. -/
namespace L2
open PySem PySem.Spec PyProof.Rows
/-- the two ints of a pair -/
def pairAt (H : Hp) : V → Int × Int
  | .ref t => match H t with
    | some (.tup [.int i, .int j]) => (i, j)
    | _ => (0, 0)
  | _ => (0, 0)
theorem pairAt_eq {H : Hp} {t : Addr} {i j : Int} (h : H t = some (.tup [.int i, .int j])) : pairAt H (.ref t) = (i, j) := by
  show (match H t with
    | some (.tup [.int i, .int j]) => (i, j)
    | _ => (0, 0)) = _
  rw [h]
/-- sorted(d), the keys of d pairs of ints -/
def rSortDT : List V → Hp → VK → Prop := fun xs H Q => ∃ d kvs, xs = [V.ref d] ∧ Rd H d (.dT kvs) ∧ (∀ p ∈ kvs, ∃ i j, p.1 = [.inl i, .inl j]) ∧
  ∀ bs zs p, IsKeys H kvs bs → zs.Perm (bs.map V.ref) → SrtO.Srtd (ltP (pairAt H)) zs → H p = none → Q (.ref p) (upd H p (.lst zs))
theorem keys_pair {H : Hp} : ∀ {kvs : List (List Key × V)} {bs : List Addr}, IsKeys H kvs bs → (∀ p ∈ kvs, ∃ i j, p.1 = [.inl i, .inl j]) → ∀ b ∈ bs, H b = some (.tup [.int (pairAt H (.ref b)).1, .int (pairAt H (.ref b)).2])
  | _, _, .nil, _ => nofun
  | _, _, .cons (a := p) (b := b) h t, two => fun c hc => by
    rcases List.mem_cons.mp hc with rfl | hc
    · obtain ⟨i, j, e⟩ := two p List.mem_cons_self
      rw [e] at h
      have h2 : H c = some (.tup [.int i, .int j]) := h
      rw [pairAt_eq h2]
      exact h2
    · exact keys_pair t (fun p hp => two p (List.mem_cons_of_mem _ hp)) c hc
/-- what is collected of a dict with tuple keys -/
theorem read_keys {P : Program} {w : World} {es : Array DictEntry} {ks : List (List Key × Addr × Value)} {acc : Array Value} (entries : es.toList = ks.map (entryOfKey (tupleKind (mixKind P w)))) (it : ItemsOf (fun i v => ∃ en : DictEntry, es[i]? = some en ∧ v = en.key) acc es.size) :
    acc.toList = (ks.map fun x => x.2.1).map Value.ref := by
  have many : es.size = ks.length := by
    have := congrArg List.length entries
    simpa using this
  refine List.ext_getElem (by simp [it.1, many]) fun j h1 h2 => ?_
  have hj : j < es.size := by simpa [it.1] using h1
  obtain ⟨en, he, hv⟩ := it.2 j acc.toList[j] (by simp at h1; simp [h1])
  have hk : j < ks.length := many ▸ hj
  have e2 : es[j]? = some (entryOfKey (tupleKind (mixKind P w)) ks[j]) := by
    rw [← Array.getElem?_toList, entries, List.getElem?_map, List.getElem?_eq_getElem hk]
    rfl
  rw [hv, Option.some.inj (he.symm.trans e2)]
  simp [entryOfKey]
section
variable {X : Cx}
theorem cr_sortedDT (hc : X.calm = true) : CallR X (.builtin "sorted") rSortDT := by
  rintro pins s σ H xs us Q I r ⟨d, kvs, rfl, rd, two, wish⟩
  obtain ⟨_, rfl, ru⟩ := vals1 r
  cases ru
  obtain ⟨few, low, ks, kt, o, es, ep, there, exa, data, entries, _⟩ := (show ObjOk X.prog X.w H s.heap d (.dT kvs) from rd.ok I.hok)
  have size := size_of_entries entries
  have len : kvs.length = ks.length := Paired.length kt
  have keysAt := isKeys_of kt
  have pairs := keys_pair keysAt two
  have run : wpAny (model X.prog X.w) X.A.in1 (Builtin.«sorted» ⟨[.ref d], []⟩) (fun fin s' => ∃ v, fin = .done (.ret v) ∧ EP X pins σ Q v s') X.xe s := by
    unfold Builtin.«sorted»
    refine wpAny_bind (m := checkCount "sorted" 1 1 _) (wpAny_pure (wpAny_bind (PySem.W.kdu_collect (kdl_raw low exa data) (I.ok.hd hc) there (by omega) fun h' tk acc kp it => wpAny_bind (wpAny_newList ?_ ?_))))
    · have at_ := Heap.get?_push_size h' (o := seqObj "list" acc.toList.toArray 0) rfl
      have eq := read_keys (P := X.prog) (w := X.w) entries it
      have old : ∀ b u, s.heap.get? b = some u → (h'.push (seqObj "list" acc.toList.toArray 0)).get? b = some u := fun b u e => Heap.get?_push_of_some _ (kp b u e)
      have isp : ∀ v ∈ acc.toList, Srt.IsPair (h'.push (seqObj "list" acc.toList.toArray 0)) v (pairAt H (backV v)).1 (pairAt H (backV v)).2 := fun v hv => by
        rw [eq] at hv
        obtain ⟨b, hb, rfl⟩ := List.mem_map.mp hv
        obtain ⟨_, its, rv, ob, hob, hcls, n, hdat⟩ := I.hok _ _ (pairs b hb)
        obtain ⟨_, _, rfl, ⟨t1, rfl⟩, ⟨t2, rfl⟩⟩ := vals2 rv
        exact ⟨b, ob, t1, t2, n, rfl, old b ob hob, hcls, hdat⟩
      have size2 : acc.toList.length ≤ sizeLine := by
        rw [Array.length_toList, it.1]
        omega
      refine wpAny_bind (wpAny_holding (wpAny_call_entry PyProof.Rows.slot_list_sort ⟨_, at_, rfl⟩ PyProof.Rows.entry_list_sort (SrtO.list_sort_ord (s := { s with heap := h'.push (seqObj "list" acc.toList.toArray 0), toks := tk }) (SrtO.swo_lex fun u => pairAt H (backV u)) at_ size2
        (fun h2 => SrtO.pairs_sortableO (by omega) isp fun ob e => ?_) fun out h1 h2 => ⟨_, rfl, ?_⟩) (PyProof.Rows.args_list_sort _)))
      · obtain rfl := Option.some.inj (e.symm.trans at_)
        exact fun z => absurd (Value.type.inj z) (show "list" ≠ "tuple" by decide)
      · obtain ⟨n2, sorted_⟩ := PyProof.Rows.sortedHeap_at (vs := acc.toList) (out := out.toArray) at_
        have refs : ∀ u ∈ out, ∃ b, u = Value.ref b := fun u hu => by
          have := h2.perm.mem_iff.mp hu
          rw [eq] at this
          obtain ⟨b, _, e⟩ := List.mem_map.mp this
          exact ⟨b, e.symm⟩
        have perm : (out.map backV).Perm ((ks.map fun x => x.2.1).map V.ref) := by
          have := h2.perm.map backV
          rw [eq, List.map_map] at this
          exact this
        have size3 : (out.map backV).length ≤ sizeLine := by
          rw [List.length_map, h2.perm.length_eq]
          exact size2
        refine wpAny_pure ⟨_, rfl, .ref h'.objs.size, _, (I.kept (t' := tk) kp).laid (t' := tk) (o := .lst (out.map backV)) (fun b u e => ?_) (Nat.le_refl _) ⟨size3, out, n2, vals_back refs, sorted_⟩, rfl,
          wish _ _ _ keysAt perm (SrtO.srtd_map h1) ((I.kept (t' := tk) kp).hok.fresh (Nat.le_refl _))⟩
        have lt : b < h'.objs.size := Heap.lt_size e
        exact (PyProof.Rows.sortedHeap_old (Nat.ne_of_lt lt) (by rw [size_push']; exact Nat.lt_succ_of_lt lt)).trans (Heap.get?_push_of_some _ e)
    · rw [Array.length_toList, it.1]
      omega
  exact Calls.call_function_entry PyProof.Rows.kind_sorted PyProof.Rows.plain_sorted PyProof.Rows.entry_sorted (PyProof.Rows.args_sorted1 _) run
end
end L2


/-! The M layer: sorted of dicts and of ints, repr of plain values, zip, == of own objects or plain data. -/
namespace M
open PySem PySem.Spec PyProof.Rows L2
/-! ### sorted -/
def qD (q : Int × Int) : D := .tup [.int q.1, .int q.2]
def keysQ : List (List Key × D) → Option (List (Int × Int))
  | [] => some []
  | ([.inl i, .inl j], _) :: r => (keysQ r).map ((i, j) :: ·)
  | _ => none
def keysI : List (Key × D) → Option (List Int)
  | [] => some []
  | (.inl i, _) :: r => (keysI r).map (i :: ·)
  | _ => none
def onlyI : List D → Option (List Int)
  | [] => some []
  | .int i :: r => (onlyI r).map (i :: ·)
  | _ => none
def sortQ (l : List (Int × Int)) : List (Int × Int) := l.mergeSort fun p q => !SrtO.lexB q p
def sortI (l : List Int) : List Int := l.mergeSort fun p q => decide (p ≤ q)
theorem sortQ_perm (l : List (Int × Int)) : (sortQ l).Perm l := List.mergeSort_perm _ _
theorem sortI_perm (l : List Int) : (sortI l).Perm l := List.mergeSort_perm _ _
theorem sortQ_sorted (l : List (Int × Int)) : (sortQ l).Pairwise fun p q => SrtO.lexB q p = false := by
  have := List.pairwise_mergeSort (le := fun p q => !SrtO.lexB q p) (fun a b c h1 h2 => by
    rw [Bool.not_eq_true', SrtO.lexB_no] at *
    omega) (fun a b => by
    rw [Bool.or_eq_true, Bool.not_eq_true', Bool.not_eq_true', SrtO.lexB_no, SrtO.lexB_no]
    omega) l
  exact this.imp fun {p q} h => by simpa using h
theorem sortI_sorted (l : List Int) : (sortI l).Pairwise (· ≤ ·) := by
  have := List.pairwise_mergeSort (le := fun p q : Int => decide (p ≤ q)) (fun a b c h1 h2 => by
    rw [decide_eq_true_iff] at *
    omega) (fun a b => by
    rw [Bool.or_eq_true, decide_eq_true_iff, decide_eq_true_iff]
    omega) l
  exact this.imp fun {p q} h => by simpa using h
theorem sortQ_uniq {l m : List (Int × Int)} (h : l.Perm m) (s : l.Pairwise fun p q => SrtO.lexB q p = false) : l = sortQ m :=
  List.Perm.eq_of_pairwise (fun a b _ _ h1 h2 => by
    rw [SrtO.lexB_no] at h1 h2
    exact Prod.ext (by omega) (by omega)) s (sortQ_sorted m) (h.trans (sortQ_perm m).symm)
theorem sortI_uniq {l m : List Int} (h : l.Perm m) (s : l.Pairwise (· ≤ ·)) : l = sortI m :=
  List.Perm.eq_of_pairwise (fun a b _ _ h1 h2 => Int.le_antisymm h1 h2) s (sortI_sorted m) (h.trans (sortI_perm m).symm)
theorem Das.perm {G : Gb} {H : Hp} {vs us : List V} (p : us.Perm vs) : ∀ {ds : List D}, Das G H vs ds → ∃ es, es.Perm ds ∧ Das G H us es := by
  induction p with
  | nil => exact fun {ds} h => ⟨ds, .refl _, h⟩
  | cons x _ ih =>
    intro ds h
    cases h with
    | cons h r =>
      obtain ⟨es, q, t⟩ := ih r
      exact ⟨_ :: es, q.cons _, .cons h t⟩
  | swap x y l =>
    intro ds h
    cases h with
    | cons h1 r =>
      cases r with
      | cons h2 r => exact ⟨_, .swap _ _ _, .cons h2 (.cons h1 r)⟩
  | trans _ _ ih1 ih2 =>
    intro ds h
    obtain ⟨es, q, t⟩ := ih2 h
    obtain ⟨fs, q2, t2⟩ := ih1 t
    exact ⟨fs, q2.trans q, t2⟩
theorem keysT_q : ∀ {kvs : List (List Key × D)} {qs : List (Int × Int)}, keysQ kvs = some qs → keysT kvs = qs.map qD
  | [], _, h => by cases h; rfl
  | (k, d) :: r, qs, h => by
    unfold keysQ at h
    split at h
    · rename_i e; cases e
    · rename_i i j _ r' e
      cases e
      obtain ⟨l, hl, rfl⟩ := Option.map_eq_some_iff.mp h
      show D.tup _ :: keysT _ = _
      rw [keysT_q hl]
      rfl
    · cases h
theorem keysQ_two {G : Gb} {H : Hp} : ∀ {kvs : List (List Key × D)} {qs : List (Int × Int)} {vs : List (List Key × V)}, keysQ kvs = some qs → DasT G H vs kvs → ∀ p ∈ vs, ∃ i j, p.1 = [.inl i, .inl j]
  | _, _, _, _, .nil => nofun
  | (k, d) :: r, qs, _, h, .cons _ t => fun p hp => by
    unfold keysQ at h
    split at h
    · rename_i e; cases e
    · rename_i i j _ r' e
      cases e
      obtain ⟨l, hl, rfl⟩ := Option.map_eq_some_iff.mp h
      rcases List.mem_cons.mp hp with rfl | hp
      · exact ⟨i, j, rfl⟩
      · exact keysQ_two hl t p hp
    · cases h
theorem das_q {G : Gb} {L : Lv} {H : Hp} : ∀ {vs : List V} {qs : List (Int × Int)}, Das G (off L H) vs (qs.map qD) → vs.map (pairAt H) = qs
  | [], qs, h => by
    cases qs with
    | nil => rfl
    | cons q qs => cases h
  | v :: vs, [], h => by cases h
  | v :: vs, q :: qs, h => by
    cases h with
    | cons h r =>
      rw [List.map_cons, das_q r]
      congr 1
      cases h with
      | tup h t =>
        cases t with
        | cons h1 t =>
          cases t with
          | cons h2 t =>
            cases t
            cases h1
            cases h2
            exact pairAt_eq (off_some h).1
def gSorted (st : Store) : List D → Option D
  | [x] => match rd st x with
    | .dT kvs => (keysQ kvs).map fun qs => .lst ((sortQ qs).map qD)
    | .dK kvs => match keysI kvs with
      | some ns => if ns.length < 64 then some (.lst ((sortI ns).map D.int)) else none
      | none => none
    | _ => none
  | _ => none
def rSortDI : List V → Hp → VK → Prop := fun xs H Q => ∃ (a : Addr) (kvs : List (Key × V)) (ks : List Int), xs = [.ref a] ∧ Rd H a (.dK kvs) ∧ kvs.map (·.1) = ks.map Sum.inl ∧ ks.length < 64 ∧
  ∀ (ys : List Int) (p : Addr), ys.Perm ks → ys.Pairwise (· ≤ ·) → H p = none → Q (.ref p) (upd H p (.lst (ys.map V.int)))
theorem keysI_k {G : Gb} {H : Hp} : ∀ {kvs : List (Key × D)} {ns : List Int} {vs : List (Key × V)}, keysI kvs = some ns → DasK G H vs kvs → vs.map (·.1) = ns.map Sum.inl
  | _, _, _, h, .nil => by cases h; rfl
  | (k, d) :: r, ns, _, h, .cons _ t => by
    unfold keysI at h
    split at h
    · rename_i e; cases e
    · rename_i i _ r' e
      cases e
      obtain ⟨l, hl, rfl⟩ := Option.map_eq_some_iff.mp h
      rw [List.map_cons, keysI_k hl t]
      rfl
    · cases h
def rSortAll : List V → Hp → VK → Prop := fun xs H Q => rSortDT xs H Q ∨ rSortDI xs H Q
theorem call_sortAll {X : Cx} (hc : X.calm = true) : CallR X (.builtin "sorted") rSortAll := (cr_sortedDT hc).or2 (call_sortedDI hc)
theorem rc_sorted {G : Gb} : RCM G rSortAll gSorted := fun L st H xs ds z Q R dv hz k => by
  unfold gSorted at hz
  split at hz
  · rename_i x
    obtain ⟨v, rfl, hv⟩ := Das.one dv
    split at hz
    · rename_i kvs hk
      obtain ⟨qs, hq, rfl⟩ := Option.map_eq_some_iff.mp hz
      obtain ⟨a, vs, rfl, at_, r⟩ := rd_dT R hv hk
      refine .inl ⟨a, vs, rfl, at_, keysQ_two hq r, fun bs zs p hb perm sorted_ hp => ?_⟩
      have d1 := isKeys_das R hb r
      rw [keysT_q hq] at d1
      obtain ⟨es, pe, d2⟩ := Das.perm perm d1
      obtain ⟨qs2, rfl⟩ : ∃ qs2 : List (Int × Int), es = qs2.map qD := by
        have : ∀ l : List D, (∀ d ∈ l, ∃ q, d = qD q) → ∃ qs2 : List (Int × Int), l = qs2.map qD := fun l => by
          induction l with
          | nil => exact fun _ => ⟨[], rfl⟩
          | cons d l ih =>
            intro h
            obtain ⟨q, rfl⟩ := h d List.mem_cons_self
            obtain ⟨t, rfl⟩ := ih fun d hd => h d (List.mem_cons_of_mem _ hd)
            exact ⟨q :: t, rfl⟩
        exact this es fun d hd => let ⟨q, _, e⟩ := List.mem_map.mp (pe.mem_iff.mp hd); ⟨q, e.symm⟩
      have e1 := das_q d1
      have e2 := das_q d2
      have p2 : qs2.Perm qs := by
        have := perm.map (pairAt H)
        rwa [e1, e2] at this
      have s2 : qs2.Pairwise fun p q => SrtO.lexB q p = false := by
        rw [← e2, List.pairwise_map]
        exact sorted_
      rw [← sortQ_uniq p2 s2] at k
      exact r_new R hp (.lst (Ev.off_new R hp) (Das.mono (new_same R hp) _ _ d2)) k
    · rename_i kvs hk
      split at hz
      · rename_i ns hn
        split at hz
        · rename_i few
          cases hz
          obtain ⟨a, vs, rfl, at_, r⟩ := rd_dK R hv hk
          refine .inr ⟨a, vs, ns, rfl, at_, keysI_k hn r, few, fun ys p perm sorted_ hp => ?_⟩
          rw [← sortI_uniq perm sorted_] at k
          exact r_new R hp (.lst (Ev.off_new R hp) (Das.ints ys)) k
        · cases hz
      · cases hz
    · cases hz
  · cases hz
/-! ### repr of plain values -/
def gRepr (_ : Store) : List D → Option D
  | [.non] => some (.str "None")
  | [.bl b] => some (.str (if b then "True" else "False"))
  | [.int i] => if i.natAbs.log2 < 1920 then some (.str (toString i)) else none
  | [.str x] => if (reprText x).length ≤ sizeLine then some (.str (reprText x)) else none
  | _ => none
def rRepr : List V → Hp → VK → Prop := fun xs H Q => (xs = [.non] ∧ Q (.str "None") H) ∨ (∃ b, xs = [.bl b] ∧ Q (.str (if b then "True" else "False")) H) ∨ (∃ i, xs = [.int i] ∧ i.natAbs.log2 < 1920 ∧ Q (.str (toString i)) H) ∨ ∃ x, xs = [.str x] ∧ (reprText x).length ≤ sizeLine ∧ Q (.str (reprText x)) H
theorem call_repr {X : Cx} : CallR X (.builtin "repr") rRepr := by
  rintro pins s σ H xs us Q I r (⟨rfl, q⟩ | ⟨b, rfl, q⟩ | ⟨i, rfl, h, q⟩ | ⟨x, rfl, h, q⟩)
  · obtain ⟨u, rfl, ru⟩ := vals1 r
    obtain rfl : u = Value.none := ru
    exact PySem.P.repr_of_none ⟨.str _, H, I.tok _, ⟨_, rfl⟩, q⟩
  · obtain ⟨u, rfl, ru⟩ := vals1 r
    obtain rfl : u = Value.bool b := ru
    exact PySem.P.repr_of_bool ⟨.str _, H, I.tok _, ⟨_, rfl⟩, q⟩
  · exact SkE.call_repr_int pins s σ H _ us Q I r ⟨i, rfl, h, q⟩
  · obtain ⟨u, rfl, t, rfl⟩ := vals1 r
    exact PySem.P.repr_of_str ⟨.str _, H, I.tok _, ⟨_, rfl⟩, q⟩ h
theorem rc_repr {G : Gb} : RCM G rRepr gRepr := fun L st H xs ds z Q R dv hz k => by
  unfold gRepr at hz
  split at hz
  · cases hz
    obtain ⟨v, rfl, hv⟩ := Das.one dv
    obtain rfl := hv.non_inv
    exact .inl ⟨rfl, r_same (.str _) R k⟩
  · rename_i b
    cases hz
    obtain ⟨v, rfl, hv⟩ := Das.one dv
    obtain rfl := hv.bl_inv
    exact .inr (.inl ⟨b, rfl, r_same (.str _) R k⟩)
  · rename_i i
    split at hz
    · rename_i h
      cases hz
      obtain ⟨v, rfl, hv⟩ := Das.one dv
      obtain rfl := hv.int_inv
      exact .inr (.inr (.inl ⟨i, rfl, h, r_same (.str _) R k⟩))
    · cases hz
  · rename_i x
    split at hz
    · rename_i h
      cases hz
      obtain ⟨v, rfl, hv⟩ := Das.one dv
      obtain rfl := hv.str_inv
      exact .inr (.inr (.inr ⟨x, rfl, h, r_same (.str _) R k⟩))
    · cases hz
  · cases hz
end M


/-! The M layer: zip of two lists; == of own objects or of plain data. -/
namespace M
open PySem PySem.Spec PyProof.Rows L2
section
variable {G : Gb} {L : Lv} {H : Hp} {a b : Addr} {vs us : List V} {ds es : List D}
def zipD : List D → List D → List D
  | d :: ds, e :: es => .tup [d, e] :: zipD ds es
  | _, _ => []
theorem zipD_length : ∀ ds es : List D, (zipD ds es).length = min ds.length es.length
  | [], _ => by simp [zipD]
  | _ :: _, [] => by simp [zipD]
  | d :: ds, e :: es => by
    simp only [zipD, List.length_cons, zipD_length ds es]
    omega
theorem zipD_get : ∀ {ds es : List D} {i : Nat} {z : D}, (zipD ds es)[i]? = some z → ∃ d e, ds[i]? = some d ∧ es[i]? = some e ∧ z = .tup [d, e]
  | [], _, _, _, h => by simp [zipD] at h
  | _ :: _, [], _, _, h => by simp [zipD] at h
  | d :: ds, e :: es, 0, z, h => by
    simp [zipD] at h
    exact ⟨d, e, rfl, rfl, h.symm⟩
  | d :: ds, e :: es, i + 1, z, h => by
    obtain ⟨d', e', h1, h2, h3⟩ := zipD_get (ds := ds) (es := es) (i := i) (by simpa [zipD] using h)
    exact ⟨d', e', by simpa using h1, by simpa using h2, h3⟩
theorem both_new {L' : Lv} {H' : Hp} {st : Store} {T : Addr} {u v : V} {c d : D} (R : Rep G L' st H') (hT : H' T = none) (du : Da G (off L' H') u c) (dv : Da G (off L' H') v d) :
    Ev L' H' L' (upd H' T (.tup [u, v])) ∧ Rep G L' st (upd H' T (.tup [u, v])) ∧ Da G (off L' (upd H' T (.tup [u, v]))) (.ref T) (.tup [c, d]) :=
  ⟨Ev.new1 (G := G) R hT, Rep.new1 R hT, .tup (Ev.off_new R hT) (.cons ((Ev.new1 (G := G) R hT).da du) (.cons ((Ev.new1 (G := G) R hT).da dv) .nil))⟩
theorem sq_keep {K : PySem.W.Frag} {L' : Lv} {H' : Hp} (h : SqL K (off L H) a vs) (e : Rl (off L H) (off L' H')) : SqL K H' a vs := by
  rcases h with (h | ⟨o, h⟩) | h
  · exact .inl (.inl (off_some (e.lst _ _ h)).1)
  · exact .inl (.inr ⟨o, (off_some (e.frz _ _ _ h)).1⟩)
  · exact .inr h
theorem walk_zip (h1 : SqL G.K (off L H) a vs) (r1 : Das G (off L H) vs ds) (h2 : SqL G.K (off L H) b us) (r2 : Das G (off L H) us es) : WalkD G (Itz G.K a b) (zipD ds es) L H := by
  refine ⟨fun i L' H' e hi => ?_, fun i L' H' st d e R hd x H2 y => ?_, fun L' H' e => ⟨vs, us, sq_keep h1 e, sq_keep h2 e, by rw [r1.length, r2.length, zipD_length]; omega⟩⟩
  · rw [zipD_length] at hi
    have i1 : i < vs.length := by rw [r1.length]; omega
    have i2 : i < us.length := by rw [r2.length]; omega
    exact ⟨vs, us, vs[i], us[i], sq_keep h1 e, sq_keep h2 e, List.getElem?_eq_getElem i1, List.getElem?_eq_getElem i2⟩
  · obtain ⟨T, p, q, rfl, hT, rfl, y1, y2⟩ := y
    obtain ⟨d1, d2, q1, q2, rfl⟩ := zipD_get hd
    obtain ⟨v, hv, dv⟩ := r1.getD q1
    obtain ⟨u, hu, du⟩ := r2.getD q2
    have e1 := (y1 vs (sq_keep h1 e)).symm.trans hv
    have e2 := (y2 us (sq_keep h2 e)).symm.trans hu
    cases e1
    cases e2
    exact both_new R hT (Da.mono e _ _ dv) (Da.mono e _ _ du)
end
section
variable {G : Gm} {W : WX} {X : Cx} {e e2 : Expr} {ma mb : ME}
/-- zip(a, b) of two lists -/
def mZip (ma mb : ME) : MA := fun env st => bnd (ma env st) fun c st => bnd (mb env st) fun d st => match c, d with
  | .lst ds, .lst es => some (.ok (zipD ds es), st)
  | _, _ => none
theorem mi_zip {p pos tpos : Pos} {elts : List Expr} {kk : Nat} (hg : Gl X "zip") (hm : X.mg "zip" = none) (hK : G.K = X.K) (ha : PE X e (tM G W ma)) (hb : PE X e2 (tM G W mb)) (hs : starEach [e, e2] X.env = (false, eval e X.env) :: starEach [e2] X.env := by rfl) (hs2 : starEach [e2] X.env = (false, eval e2 X.env) :: starEach [] X.env := by rfl)
    (h3 : (backTo pos (starEach [e2] X.env)).any (·.1) = false := by rfl) :
    PI X (.Tuple elts kk tpos) (.Call (.Name "zip" p) [e, e2] [] pos) (tMI G W (mZip ma mb)) := PIimp (pi_zip hg hm (m_cons ha (m_cons hb m_nil hs2) hs) hs h3) fun σ H R q => by
  obtain ⟨L, st, env, r, st', at_, hm, hp⟩ := q
  rcases bnd_cases hm with ⟨c, st1, h1, h2⟩ | ⟨x, h1, rfl⟩
  · rcases bnd_cases h2 with ⟨d, st2, h3, h4⟩ | ⟨x, h3, rfl⟩
    · split at h4
      · rename_i ds es
        cases h4
        refine ⟨L, st, env, .ok [.lst ds, .lst es], _, at_, v_cons h1 (v_cons h3 rfl), fun ws L1 H1 e1 r1 dv => ?_⟩
        obtain ⟨v, w, rfl, dw, du⟩ := Das.two dv
        obtain ⟨a, vs, rfl, ha, ra⟩ := dw.lst_inv
        obtain ⟨b, us, rfl, hb, rb⟩ := du.lst_inv
        exact ⟨a, b, vs, us, rfl, .inl (.inl (off_some ha).1), .inl (.inl (off_some hb).1), hK ▸ hp _ L1 H1 e1 r1 (walk_zip (G := G.toGb) (.inl (.inl ha)) ra (.inl (.inl hb)) rb)⟩
      · cases h4
    · exact ⟨L, st, env, .err x, _, at_, by rw [e_cons, h1, bnd_ok, e_cons, h3]; rfl, hp⟩
  · exact ⟨L, st, env, .err x, _, at_, by rw [e_cons, h1]; rfl, hp⟩
/-- == or !=: of plain data, or of two own objects -/
def gEqM (cid : Nat) (c : Call) (neg : Bool) (st : Store) (x y : D) : Option (D × Store) := match (if neg = true then gNe st x y else gEq st x y) with
  | some z => some (z, st)
  | none => gEqO cid c neg st x y
end
theorem r2_eqM {G : Gb} {cid : Nat} {c : Call} : R2MS G (fun x y H Q => rEqD G.K x y H Q ∨ rEqO (G.cA cid) (spM G c 2) false x y H Q) (gEqM cid c false) := fun L st st' H x y d e z Q R dx dy hz k => by
  unfold gEqM at hz
  rw [if_neg Bool.false_ne_true] at hz
  cases h : gEq st d e with
  | some w =>
    rw [h] at hz
    cases hz
    exact .inl (r2_eq L st H x y d e _ Q R dx dy h k)
  | none =>
    rw [h] at hz
    exact .inr (r2_eqO L st st' H x y d e z Q R dx dy hz k)
theorem r2_neM {G : Gb} {cid : Nat} {c : Call} : R2MS G (fun x y H Q => rNeD G.K x y H Q ∨ rEqO (G.cA cid) (spM G c 2) true x y H Q) (gEqM cid c true) := fun L st st' H x y d e z Q R dx dy hz k => by
  unfold gEqM at hz
  rw [if_pos rfl] at hz
  cases h : gNe st d e with
  | some w =>
    rw [h] at hz
    cases hz
    exact .inl (r2_ne L st H x y d e _ Q R dx dy h k)
  | none =>
    rw [h] at hz
    exact .inr (r2_eqO L st st' H x y d e z Q R dx dy hz k)
end M


/-! The M layer: a list that was a cell becomes a datum (its cell is dead from then on). -/
namespace M
open PySem PySem.Spec PyProof.Rows L2
def Lv.kill (L : Lv) (k : Nat) : Lv := ⟨L.c.set k none, L.h⟩
theorem kill_get {L : Lv} {k i : Nat} {a : Addr} (h : (L.kill k).c[i]? = some (some a)) : i ≠ k ∧ L.c[i]? = some (some a) := by
  have h' : (L.c.set k none)[i]? = some (some a) := h
  by_cases e : k = i
  · subst e
    rw [List.getElem?_set] at h'
    split at h'
    · split at h' <;> cases h'
    · contradiction
  · rw [List.getElem?_set_ne e] at h'
    exact ⟨fun z => e z.symm, h'⟩
section
variable {G : Gb} {L : Lv} {H : Hp} {st : Store} {k : Nat}
theorem kill_same : Same (off L H) (off (L.kill k) H) := fun a o h => by
  obtain ⟨h1, n⟩ := off_some h
  refine off_of h1 fun z => n (z.imp (fun z => ?_) id)
  rcases List.mem_or_eq_of_mem_set (show some a ∈ L.c.set k none from z) with q | q
  · exact q
  · cases q
theorem Le.kill : Le L (L.kill k) := ⟨by show L.c.length ≤ (L.c.set k none).length; rw [List.length_set]; exact Nat.le_refl _, fun _ _ _ h => (kill_get h).2⟩
theorem Ev.kill : Ev L H (L.kill k) H where
  le := Le.kill
  new := fun i a hi h => (no_at hi (kill_get h).2).elim
  same := Rl.of_same kill_same
  there := fun _ h => h
  hh := rfl
  keep := fun _ _ => rfl
theorem Rep.kill (R : Rep G L st H) (hk : k < st.length) : Rep G (L.kill k) (st.set k .dead) H where
  len := by
    show (L.c.set k none).length = (st.set k .dead).length
    rw [List.length_set, List.length_set, R.len]
  inj := fun i j a h1 h2 => R.inj i j a (kill_get h1).2 (kill_get h2).2
  cell := fun i x c hx hc => by
    by_cases e : k = i
    · subst e
      rw [List.getElem?_set_self hk] at hc
      have hx' : (L.c.set k none)[k]? = some x := hx
      rw [List.getElem?_set_self (by rw [R.len]; exact hk)] at hx'
      cases hc
      cases hx'
      exact True.intro
    · rw [List.getElem?_set_ne e] at hc
      have hx' : (L.c.set k none)[i]? = some x := hx
      rw [List.getElem?_set_ne e] at hx'
      have q := R.cell i x c hx' hc
      cases x with
      | none => cases c <;> first | exact q | exact q.elim
      | some a =>
        cases c with
        | lst ds => exact let ⟨vs, q1, r⟩ := q; ⟨vs, q1, Das.mono (Rl.of_same kill_same) _ _ r⟩
        | dK ds => exact let ⟨vs, q1, r⟩ := q; ⟨vs, q1, DasK.mono (Rl.of_same kill_same) _ _ r⟩
        | dT ds => exact let ⟨vs, q1, r⟩ := q; ⟨vs, q1, DasT.mono (Rl.of_same kill_same) _ _ r⟩
        | ins c ds => exact let ⟨dx, vs, q1, r⟩ := q; ⟨dx, vs, q1, r.mono Le.kill (Rl.of_same kill_same)⟩
        | dead => exact q.elim
  hid := fun a ha => ⟨(R.hid a ha).1, fun z => by
    rcases List.mem_or_eq_of_mem_set (show some a ∈ L.c.set k none from z) with q | q
    · exact (R.hid a ha).2 q
    · cases q⟩
end
/-- the list at a name, which is not changed any more -/
def mFrz (i : Nat) : ME := fun env st => match env[i]? with
  | some (some (.ref k)) => match st[k]? with
    | some (.lst ds) => some (.ok (.lst ds), st.set k .dead)
    | _ => none
  | _ => none
theorem v_frz {i k : Nat} {env : En} {st : Store} {ds : List D} (h : env[i]? = some (some (.ref k))) (hc : st[k]? = some (.lst ds)) : mFrz i env st = some (.ok (.lst ds), st.set k .dead) := by
  unfold mFrz
  rw [h]
  dsimp only
  rw [hc]
section
variable {G : Gm} {W : WX} {X : Cx} {e : Expr}
theorem m_frz {i : Nat} (h : PE X e (tVar i)) : PE X e (tM G W (mFrz i)) := PEimp h fun σ H Q q => by
  obtain ⟨L, st, env, r, st', at_, hm, hp⟩ := q
  unfold mFrz at hm
  split at hm
  · rename_i k hd
    split at hm
    · rename_i ds hc
      cases hm
      obtain ⟨v, hv, dv⟩ := at_.e.at_ i _ hd
      have hk : k < st.length := (List.getElem?_eq_some_iff.mp hc).1
      have hkL : k < L.c.length := by rw [at_.r.len]; exact hk
      have q := at_.r.cell k L.c[k] _ (List.getElem?_eq_getElem hkL) hc
      cases dv with
      | d dv => cases dv
      | @ref a _ hi same =>
        cases hx : L.c[k] with
        | none => rw [hx] at q; exact q.elim
        | some b =>
          rw [hx] at q
          have hb : L.c[k]? = some (some b) := by rw [List.getElem?_eq_getElem hkL, hx]
          obtain rfl := same b hb
          obtain ⟨vs, ha, rr⟩ := q
          refine ⟨_, hv, hp _ _ _ Ev.kill (at_.r.kill hk) (.d (.lst (off_of ha fun z => ?_) (Das.mono (Rl.of_same kill_same) _ _ rr)))⟩
          rcases z with z | z
          · obtain ⟨j, hj⟩ := List.getElem?_of_mem z
            obtain ⟨ne, hj2⟩ := kill_get (L := L) hj
            exact ne (at_.r.inj j k a hj2 hb)
          · exact (at_.r.hid a z).2 (List.mem_of_getElem? hb)
    · cases hm
  · cases hm
end
end M


/-! A dict comprehension of two clauses: one clause's turn told once, used for both. -/
namespace L2
open PySem PySem.Spec PyProof.Rows
/-- a loop's point: i items are through, n bounds what is left -/
def LoopAt (Y : Cx) (pins : List (Addr × Obj)) (σ : St) (fp : List Addr) (tn : Nat → Heap → Prop) (W : Nat → Nat → Hp → Prop) (n : Nat) (s : Shared) : Prop :=
  ∃ i H, Inv Y pins σ H s ∧ tn i s.heap ∧ (∀ b ∈ fp, H b = none) ∧ W i n H
/-- from each point either the end, or one more item -/
def Goes (J : It) (W : Nat → Nat → Hp → Prop) (Stop : Hp → Prop) (Step : (Hp → Prop) → V → Hp → Prop) : Prop := ∀ i m H, W i m H →
  (J.stop i H ∧ Stop H) ∨ (J.go i H ∧ ∃ Nx : Hp → Prop, (∀ H', Nx H' → ∃ m', m' < m ∧ W (i + 1) m' H') ∧ ∀ x H', J.yld i H x H' → Step Nx x H')
/-- slots that know what those knew -/
def Knows (σ σ' : St) : Prop := σ.length = σ'.length ∧ ∀ (j : Nat) u, σ[j]? = some (some u) → σ'[j]? = some (some u)
theorem clause_turn {Y : Cx} {pins : List (Addr × Obj)} {σ : St} {fp : List Addr} {tn : Nat → Heap → Prop} {W : Nat → Nat → Hp → Prop} {n : Nat} {s : Shared} {J : It} {Stop : Hp → Prop} {Step : (Hp → Prop) → V → Hp → Prop} {tg : Expr} {it : Addr} {Q : Shared → Prop} {K : Value → Shared → Prop} {E : Value → Shared → Prop}
    (calm : Y.calm = true) (T : Turn Y.prog Y.w Y.K tg J fp it tn) (free : ∀ H s, Inv Y pins σ H s → (∀ b ∈ fp, H b = none) → ∀ b ∈ fp, FpOk Y pins H b) (goes : Goes J W Stop Step) (here : LoopAt Y pins σ fp tn W n s)
    (stopped : ∀ H s', Inv Y pins σ H s' → Stop H → Q s')
    (item : ∀ v Nx x H' pl s2, Inv Y (pins ++ pl) σ H' s2 → RelV x v → Step Nx x H' → (∀ σ9 H9 s9, Inv Y (pins ++ pl) σ9 H9 s9 → Knows σ σ9 → Nx H9 → ∃ m, m < n ∧ LoopAt Y pins σ fp tn W m s9) → K v s2) :
    wpAny (model Y.prog Y.w) Y.A (pyNext (.ref it)) (fun r s1 => r.elim (Q s1) fun v => wpAny (model Y.prog Y.w) Y.A (letOwnedTupleGo tg (.ref it) v) (fun _ s2 => K v s2) E s1) E s := by
  obtain ⟨i, H, I, at_, none_, w⟩ := here
  rcases goes i n H w with ⟨stop, q⟩ | ⟨go, Nx, less, step⟩
  · refine thnF (T.done Y rfl rfl rfl calm i pins s σ H _ I (free H s I none_) at_ stop) ?_
    rintro _ s1 ⟨rfl, I1⟩
    exact stopped H s1 I1 q
  · refine thnF (T.item Y rfl rfl rfl calm i pins s σ H _ I (free H s I none_) at_ go) ?_
    rintro _ s1 ⟨v, rfl, got⟩
    refine thnF got ?_
    rintro _ s2 ⟨x, H2, I2, rx, y, at2, none2⟩
    refine item v Nx x H2 _ s2 (I2.pinned (free H2 s2 I2 none2) (T.obj _ _ at2)) rx (step x H2 y) fun σ9 H9 s9 I9 kn nx => ?_
    obtain ⟨m, lt, w9⟩ := less H9 nx
    have still : ∀ b ∈ fp, ∀ o, s2.heap.get? b = some o → s9.heap.get? b = some o ∧ H9 b = none := fun b hb o e =>
      have p := I9.pin (b, o) (List.mem_append_right _ (List.mem_append_right _ (mem_pinsAt hb e)))
      ⟨p.1, p.2.1⟩
    exact ⟨m, lt, i + 1, H9, I9.unpinned.weak kn.1 kn.2, T.keep _ _ _ at2 fun b hb o e => (still b hb o e).1, fun b hb => have ⟨o, e, _⟩ := T.obj _ _ at2 b hb; (still b hb o e).2, w9⟩
/-- {k: v for tg in iter if .. for tg1 in iter1 if ..} -/
def tDc2 (wi : TI) (g : TG) (tt : TT) (wi1 : TI) (g1 : TG) (tt1 : TT) (tk tv : TE) (vs vs1 : List Nat) : TE := fun σ H Q => wi σ H fun J H1 => ∀ D, H1 D = none → ∃ W : Nat → Nat → Hp → Prop, (∃ m, W 0 m (upd H1 D (.dK []))) ∧ Goes J W (fun H => Q (.ref D) H) fun Nx x H' =>
  g x (wipe σ vs) H' fun σ2 H2 => wipe σ2 vs = wipe σ vs ∧ tt σ2 H2 fun b H3 => if b = true then wi1 σ2 H3 fun J1 H4 => ∃ W1 : Nat → Nat → Hp → Prop, (∃ m, W1 0 m H4) ∧ Goes J1 W1 Nx fun Nx1 x H' =>
    g1 x (wipe σ2 vs1) H' fun σ3 H5 => wipe σ3 vs1 = wipe σ2 vs1 ∧ tt1 σ3 H5 fun b H6 =>
      if b = true then tk σ3 H6 fun y H7 => tv σ3 H7 fun z H8 => ∃ kvs k, y = kV k ∧ H8 D = some (.dK kvs) ∧ kvs.length < sizeLine ∧ Nx1 (upd H8 D (.dK (putK kvs k z))) else Nx1 H6
  else Nx H3
section
variable {Y : Cx} {kx vx tg iter tg1 iter1 : Expr} {ifs ifs1 : List Expr} {scope : Scope} {pos : Pos} {D : Addr} {R : Result → Shared → Prop}
/-- the second clause's loop -/
theorem dc_second {pins : List (Addr × Obj)} {σ : St} {fp : List Addr} {tn : Nat → Heap → Prop} {W : Nat → Nat → Hp → Prop} {n : Nat} {s : Shared} {J : It} {Stop : Hp → Prop} {it : Addr} {g : TG} {tt : TT} {tk tv : TE} {vs : List Nat} (calm : Y.calm = true) (silent : Y.xe = fun _ _ => False)
    (T : Turn Y.prog Y.w Y.K tg1 J fp it tn) (free : ∀ H s, Inv Y pins σ H s → (∀ b ∈ fp, H b = none) → ∀ b ∈ fp, FpOk Y pins H b) (pg : PG Y tg1 g) (pt : PTs Y ifs1 tt) (pk : PE Y kx tk) (pv : PE Y vx tv)
    (goes : Goes J W Stop fun Nx x H' => g x σ H' fun σ3 H5 => wipe σ3 vs = σ ∧ tt σ3 H5 fun b H6 =>
      if b = true then tk σ3 H6 fun y H7 => tv σ3 H7 fun z H8 => ∃ kvs k, y = kV k ∧ H8 D = some (.dK kvs) ∧ kvs.length < sizeLine ∧ Nx (upd H8 D (.dK (putK kvs k z))) else Nx H6)
    (here : LoopAt Y pins σ fp tn W n s) (stopped : ∀ H s', Inv Y pins σ H s' → Stop H → R (.ok .next) s') :
    codeAny (model Y.prog Y.w) Y.A (.compLoop (.DictComp kx vx [⟨tg, iter, ifs, 0⟩, ⟨tg1, iter1, ifs1, 0⟩] scope pos) 1 (.ref it) (.ref D) Y.env) R s := by
  refine codeAny_loop rfl (LoopAt Y pins σ fp tn W) (fun k s1 h1 => ?_) n here
  refine wpAny_noted (A := Y.A) (m := compTurn (.DictComp kx vx [⟨tg, iter, ifs, 0⟩, ⟨tg1, iter1, ifs1, 0⟩] scope pos) 1 (.ref it) (.ref D) Y.env) ?_
  let Again : Shared → Prop := fun s' => ∃ m, m < k ∧ LoopAt Y pins σ fp tn W m s'
  refine wpAny_bind (m := standAt iter1.pos) (wpAny_standAt (wpAny_bind (thnF (clause_turn (E := fun _ _ => False) (Q := R (.ok .next)) (K := fun v s2 => wpAny (model Y.prog Y.w) Y.A (assign tg1 Y.env v) (fun _ s3 => wpAny (model Y.prog Y.w) Y.A (forIn ifs1 true fun c r => if r = true then do let ok ← isTrue c Y.env (eval c Y.env); pure (ForInStep.yield ok) else pure (ForInStep.yield r))
    (fun b s4 => if b = true then wpAny (model Y.prog Y.w) Y.A (eval kx Y.env) (fun ku s5 => wpAny (model Y.prog Y.w) Y.A (eval vx Y.env) (fun vu s6 => wpAny (model Y.prog Y.w) Y.A (dictSet D ku vu) (fun _ s7 => Again s7) (fun _ _ => False) s6) (fun _ _ => False) s5) (fun _ _ => False) s4 else Again s4) (fun _ _ => False) s3) (fun _ _ => False) s2) calm T free goes h1 stopped ?_) fun r s2 h2 => ?_)))
  · intro v Nx x H2 pl s2 I2 rx step back
    have e1 := pg.run _ s2 σ H2 x v _ I2 rx step
    rw [silent] at e1
    refine thnF e1 fun _ s3 ⟨σ3, H3, I3, same, q3⟩ => ?_
    have kn : Knows σ σ3 := ⟨by rw [← same, wipe_length], fun j u e => by rw [← same] at e; exact (wipe_some e).1⟩
    have e2 := pt.run _ s3 σ3 H3 _ I3 q3
    rw [silent] at e2
    refine thnF e2 fun b s4 ⟨H4, I4, q4⟩ => ?_
    cases b with
    | false => exact back σ3 H4 s4 I4 kn (by simpa using q4)
    | true =>
      rw [if_pos rfl] at q4 ⊢
      have e3 := pk.run _ s4 σ3 H4 _ I4 q4
      rw [silent] at e3
      refine thnF e3 fun ku s5 ⟨y, H5, I5, ry, q5⟩ => ?_
      have e4 := pv.run _ s5 σ3 H5 _ I5 q5
      rw [silent] at e4
      refine thnF e4 fun vu s6 ⟨z, H6, I6, rz, kvs, key, ek, hD, few, q6⟩ => ?_
      rw [ek] at ry
      exact d_dictSet I6 hD few ry rz fun s7 I7 => back σ3 _ s7 I7 kn q6
  · cases r with
    | none => exact wpAny_pure h2
    | some v =>
      refine wpAny_bind (thnF h2 fun _ s3 h3 => wpAny_bind (thnF h3 fun _ s4 h4 => wpAny_bind (thnF h4 fun b s5 h5 => ?_)))
      cases b with
      | false => exact wpAny_pure ⟨rfl, by simpa using h5⟩
      | true =>
        rw [if_pos rfl] at h5
        exact wpAny_bind (wpAny_bind (thnF h5 fun ku s6 h6 => wpAny_bind (wpAny_holding (thnF h6 fun vu s7 h7 => wpAny_bind (wpAny_standAt (wpAny_holding (thnF h7 fun _ s8 h8 => wpAny_pure ⟨rfl, h8⟩)))))))
/-- its start: the iterator is its own -/
theorem dc_begin {E : Expr} {s : Shared} {it : Addr} {A : Around} {P : Program} {w : World} {env : Env} (hE : E = .DictComp kx vx [⟨tg, iter, ifs, 0⟩, ⟨tg1, iter1, ifs1, 0⟩] scope pos) (own : ∀ (Q : Value → Shared → Prop) F, Q (.ref it) s → wpAny (model P w) A (pyIter (.ref it)) Q F s)
    (loop : codeAny (model P w) A (.compLoop E 1 (.ref it) (.ref D) env) R s) : codeAny (model P w) A (.compStart E 1 (.ref it) (.ref D) env) R s := by
  subst hE
  refine codeAny_of_tree ?_
  change wpAny (model P w) A (Sem.onRaise (compStart _ 1 (.ref it) (.ref D) env) fun x => noteFrame x env >>= fun _ => standAt theWindowsPlace) _ _ s
  refine wpAny_notedAt ?_
  unfold compStart
  refine wpAny_bind (m := ask) (wpAny_askSetting (wpAny_ite ?_))
  split
  · exact wpAny_bind (wpAny_pure (wpAny_pure ⟨rfl, loop⟩))
  · exact wpAny_bind (wpAny_rule (wpAny_bind (m := standAt iter1.pos) (wpAny_standAt (wpAny_bind (own _ _ (wpAny_pure ⟨rfl, loop⟩))))))
end
abbrev InB (X : Cx) (scope : Scope) (P : Cx → Prop) : Prop := ∀ (s : Shared) (H : Hp) (C : Addr) (cl : List (Str × Addr)) (fp : List Addr), P (X.blk s H scope (compEnvC scope cl C X.env) fp)
section
variable {X : Cx} {kx vx tg iter tg1 iter1 : Expr} {ifs ifs1 : List Expr} {scope : Scope} {pos : Pos} {own : List (Str × Nat)} {vs1 : List Nat} {wi wi1 : TI} {g g1 : TG} {tt tt1 : TT} {tk tv : TE}
theorem pe_dc2 (calm : X.calm = true) (nd : X.N.Nodup) (hi : PI X tg iter wi) (ok : BlkOk X.N X.env.scope scope own) (sub : ∀ i ∈ vs1, i ∈ own.map (·.2)) (hg : InB X scope fun Y => PG Y tg g) (ht : InB X scope fun Y => PTs Y ifs tt) (hi1 : InB X scope fun Y => PI Y tg1 iter1 wi1)
    (hg1 : InB X scope fun Y => PG Y tg1 g1) (ht1 : InB X scope fun Y => PTs Y ifs1 tt1) (hk : InB X scope fun Y => PE Y kx tk) (hv : InB X scope fun Y => PE Y vx tv) (folds : ∀ x, foldedSetIterable iter X.env x = pure x := by intro _; rfl) (folds1 : ∀ env x, foldedSetIterable iter1 env x = pure x := by intro _ _; rfl) :
    PE X (.DictComp kx vx [⟨tg, iter, ifs, 0⟩, ⟨tg1, iter1, ifs1, 0⟩] scope pos) (tDc2 wi g tt wi1 g1 tt1 tk tv (own.map (·.2)) vs1) := by
  refine ⟨fun pins s σ H Q I h => ?_⟩
  have clo : ∀ y ∈ scope.names, y.2 = .free → ∃ c, X.env.cells.lookup y.1 = some c := fun y hy e => (ok.free y hy e).elim (fun k => I.ok.has _ (.inl k)) fun k => I.ok.has _ (.inr k)
  rw [arm_eval_DictComp]
  refine wpAny_comprehension_free (use := none) rfl folds (closure_ok clo) ok.kind (fun y hy e => (ok.uniq y hy).trans (congrArg some e)) (thn (hi.run pins s σ H _ I h) fun _ s1 got => thn got ?_)
  rintro _ s2 ⟨it, fp, tn, J, H2, rfl, I2, T, at2, free2, wish⟩
  refine wpAny_newObj_type (newEnv_comp ?_)
  obtain ⟨W, ⟨m0, w0⟩, goes⟩ := wish s2.heap.objs.size (I2.hok.fresh (Nat.le_refl _))
  have I3 : Inv X pins σ (upd H2 s2.heap.objs.size (.dK [])) { s2 with heap := s2.heap.push { cls := .type "dict", data := .dict #[] } } := I2.laid (t' := s2.toks) (fun b o e => Heap.get?_push_of_some _ e) (Nat.le_refl _) (dk_empty s2.heap I2.big)
  have old : ∀ b ∈ fp, b < s2.heap.objs.size := fun b hb => have ⟨_, e, _⟩ := T.obj _ _ at2 b hb; Heap.lt_size e
  have f3 : ∀ b ∈ fp, FpOk X pins (upd H2 s2.heap.objs.size (.dK [])) b ∧ b < (s2.heap.push { cls := .type "dict", data := .dict #[] }).objs.size := fun b hb => ⟨⟨(upd_ne (Nat.ne_of_lt (old b hb))).trans (free2 b hb).1, (free2 b hb).2⟩, by rw [Heap.size_push]; exact Nat.lt_succ_of_lt (old b hb)⟩
  have at3 : tn 0 (s2.heap.push { cls := .type "dict", data := .dict #[] }) := T.keep _ _ _ at2 fun b _ o e => Heap.get?_push_of_some _ e
  generalize hD : s2.heap.objs.size = D at *
  generalize hs3 : ({ s2 with heap := s2.heap.push { cls := .type "dict", data := .dict #[] } } : Shared) = s3 at *
  have e3 : s2.heap.push { cls := .type "dict", data := .dict #[] } = s3.heap := by rw [← hs3]
  rw [e3] at f3 at3
  have I4 := block_start I3 ok nd f3
  have spot : ∀ {P : Cx → Prop}, InB X scope P → P (X.blk s3 (upd H2 D (.dK [])) scope (compEnvC scope (cellsFrom (s3.heap.objs.size + 1) scope.names (cloFrom X.env.cells scope.names [])) s3.heap.objs.size X.env) fp) := fun p => p _ _ _ _ _
  have pg := spot hg
  have pt := spot ht
  have pi1 := spot hi1
  have pg1 := spot hg1
  have pt1 := spot ht1
  have pk := spot hk
  have pv := spot hv
  change codeAny _ _ (.compStart _ 0 (.ref it) (.ref D) (compEnvC scope (cellsFrom (s3.heap.objs.size + 1) scope.names (cloFrom X.env.cells scope.names [])) s3.heap.objs.size X.env)) (compPost _ X.A X.xe none _ (.ref D) s3.heap.objs.size) { s3 with heap := pushCells (s3.heap.push { cls := .type "dict", data := .dict #[] }) scope.names }
  have C0 : (compEnvC scope (cellsFrom (s3.heap.objs.size + 1) scope.names (cloFrom X.env.cells scope.names [])) s3.heap.objs.size X.env).locals = s3.heap.objs.size := rfl
  generalize compEnvC scope (cellsFrom (s3.heap.objs.size + 1) scope.names (cloFrom X.env.cells scope.names [])) s3.heap.objs.size X.env = ce at *
  have at4 : tn 0 ({ s3 with heap := pushCells (s3.heap.push { cls := .type "dict", data := .dict #[] }) scope.names } : Shared).heap := T.keep _ _ _ at3 fun b _ o e => pushCells_keeps _ _ _ _ (Heap.get?_push_of_some _ e)
  generalize ({ s3 with heap := pushCells (s3.heap.push { cls := .type "dict", data := .dict #[] }) scope.names } : Shared) = s4 at *
  let Y := X.blk s3 (upd H2 D (.dK [])) scope ce fp
  let σ0 := wipe σ (own.map (·.2))
  let Pt := LoopAt Y [] σ0 fp tn W
  have free : ∀ H s, Inv Y [] σ0 H s → (∀ b ∈ fp, H b = none) → ∀ b ∈ fp, FpOk Y [] H b := fun H s I none_ b hb => ⟨none_ b hb, (I.ok.exf b hb).1, I.ok.exfs b hb, .inl hb, fun x c e => (I.ok.exf b hb).2 x c e, fun p hp => (List.not_mem_nil (show p ∈ ([] : List (Addr × Obj)) from hp)).elim⟩
  have stopped : ∀ H' s', Inv Y [] σ0 H' s' → Q (.ref D) H' → compPost (model X.prog X.w) X.A X.xe none (EP X pins σ Q) (.ref D) s3.heap.objs.size (.ok .next) s' := fun H' s' I' q => by
    have back := I3.call' (ch := fp) I'.os I'.base I'.hok I'.bare fun b hb => have f := (f3 b hb).1; ⟨f.2.2.2.1, f.2.1, f.2.2.2.2.1, f.2.2.2.2.2⟩
    have clear : H' s3.heap.objs.size = none := C0 ▸ I'.free
    obtain ⟨m, ns, _⟩ := I'.loc
    obtain ⟨f0, f1, f2, f4, f5, f6⟩ := I3.fpOk (Nat.le_refl _) clear
    exact ⟨m, C0 ▸ ns, fun h'' but => ⟨.ref D, H', back.turned (t' := s'.toks) (fun b o hb e => (but.2 b hb).trans e) f0 f1 f4 f5 f6, rfl, q⟩⟩
  refine codeAny_compStart_dict ?loop (T.self X.A 0 _ _ _ at4 ?loop)
  refine codeAny_loop rfl Pt (fun n s5 h5 => ?_) m0 ⟨0, _, I4, at4, fun b hb => (f3 b hb).1.1, w0⟩
  refine wpAny_noted (A := X.A) (m := compTurn (.DictComp kx vx [⟨tg, iter, ifs, 0⟩, ⟨tg1, iter1, ifs1, 0⟩] scope pos) 0 (.ref it) (.ref D) ce) ?_
  let Again : Shared → Prop := fun s' => ∃ m, m < n ∧ Pt m s'
  refine wpAny_bind (m := standAt iter.pos) (wpAny_standAt (wpAny_bind (thnF (clause_turn (Y := Y) (E := fun _ _ => False) (Q := compPost (model X.prog X.w) X.A X.xe none (EP X pins σ Q) (.ref D) s3.heap.objs.size (.ok .next)) (K := fun v s6 => wpAny (model X.prog X.w) X.A (assign tg ce v) (fun _ s7 => wpAny (model X.prog X.w) X.A
    (forIn ifs true fun c r => if r = true then do let ok ← isTrue c ce (eval c ce); pure (ForInStep.yield ok) else pure (ForInStep.yield r)) (fun b s8 => if b = true then wpAny (model X.prog X.w) X.A (eval iter1 ce) (fun xv s9 => wpAny (model X.prog X.w) X.A (pyIter xv) (fun itv s10 =>
      codeAny (model X.prog X.w) X.A (.compStart (.DictComp kx vx [⟨tg, iter, ifs, 0⟩, ⟨tg1, iter1, ifs1, 0⟩] scope pos) 1 itv (.ref D) ce) (fun r s' => (∃ f, r = .ok f) ∧ Again s') s10) (fun _ _ => False) s9) (fun _ _ => False) s8 else Again s8) (fun _ _ => False) s7) (fun _ _ => False) s6) calm T free goes h5 stopped ?_) fun r s6 h6 => ?_)))
  · intro v Nx x H6 pl s6 I6 rx step back
    refine thnF (pg.run _ s6 σ0 H6 x v _ I6 rx step) fun _ s7 ⟨σ7, H7, I7, same, q7⟩ => ?_
    have kn : Knows σ0 σ7 := ⟨by rw [show σ0 = wipe σ7 (own.map (·.2)) from same.symm, wipe_length], fun j u e => by rw [show σ0 = wipe σ7 (own.map (·.2)) from same.symm] at e; exact (wipe_some e).1⟩
    have kn2 : Knows σ0 (wipe σ7 vs1) := ⟨kn.1.trans (wipe_length _ _).symm, fun j u e => by
      rw [show σ0 = wipe σ7 (own.map (·.2)) from same.symm] at e
      obtain ⟨e1, e2⟩ := wipe_some e
      exact (wipe_out fun z => e2 (sub j z)).trans e1⟩
    refine thnF (pt.run _ s7 σ7 H7 _ I7 q7) fun b s8 ⟨H8, I8, q8⟩ => ?_
    cases b with
    | false => exact back σ7 H8 s8 I8 kn (by simpa using q8)
    | true =>
      rw [if_pos rfl] at q8 ⊢
      refine thnF (pi1.run _ s8 σ7 H8 _ I8 q8) fun _ s9 got => thnF got ?_
      rintro _ s10 ⟨it1, fp1, tn1, J1, H10, rfl, I10, T1, at10, free10, W1, ⟨m1, w1⟩, goes1⟩
      exact dc_begin rfl (fun Q F q => T1.self _ 0 _ _ _ at10 q) (dc_second (Y := Y) calm rfl T1 (fun H s _ none_ b hb => ⟨none_ b hb, (free10 b hb).2⟩) pg1 pt1 pk pv goes1 ⟨0, H10, I10.weak (wipe_length _ _) (fun j v e => (wipe_some e).1), at10, fun b hb => (free10 b hb).1, w1⟩
        fun H' s' I' nx => ⟨⟨_, rfl⟩, back _ H' s' I' kn2 nx⟩)
  · cases r with
    | none => exact wpAny_pure h6
    | some v =>
      refine wpAny_bind (thnF h6 fun _ s7 h7 => wpAny_bind (thnF h7 fun _ s8 h8 => wpAny_bind (thnF h8 fun b s9 h9 => ?_)))
      cases b with
      | false => exact wpAny_pure ⟨rfl, by simpa using h9⟩
      | true =>
        rw [if_pos rfl] at h9
        refine wpAny_bind (thnF h9 fun xv s10 h10 => wpAny_bind (m := standAt iter1.pos) (wpAny_standAt (wpAny_bind (wpAny_of_eq (folds1 ce xv) (wpAny_bind (wpAny_holding (thnF h10 fun itv s11 h11 => ?_)))))))
        refine wpAny_bind (wpAny_runOwn ?_)
        rw [Around.mark_none]
        refine codeAny_mono h11 fun r s12 h12 => ?_
        obtain ⟨⟨f, rfl⟩, again⟩ := h12
        exact wpAny_pure ⟨rfl, again⟩
end
end L2


/-! The M layer: dict comprehensions of two clauses. -/
namespace M
open PySem PySem.Spec PyProof.Rows L2
def comp2K (t : Tg) (mt : MT) (mi1 : MA) (t1 : Tg) (mt1 : MT) (mk mv : ME) (vs1 : List Nat) (env : En) : List D → List (Key × D) → Store → Option (List (Key × D) × Store)
  | [], kvs, st => some (kvs, st)
  | d :: ds, kvs, st => match setT t d env with
    | none => none
    | some env1 => match mt env1 st with
      | some (.ok true, st1) => match mi1 env1 st1 with
        | some (.ok ds1, st2) => match compK t1 mt1 mk mv (wipeE env1 vs1) ds1 kvs st2 with
          | some (kvs1, st3) => comp2K t mt mi1 t1 mt1 mk mv vs1 env ds kvs1 st3
          | none => none
        | _ => none
      | some (.ok false, st1) => comp2K t mt mi1 t1 mt1 mk mv vs1 env ds kvs st1
      | _ => none
def mDc2 (mi : MA) (t : Tg) (mt : MT) (mi1 : MA) (t1 : Tg) (mt1 : MT) (mk mv : ME) (vs vs1 : List Nat) : ME := fun env st => bnd (mi env st) fun ds st => match comp2K t mt mi1 t1 mt1 mk mv vs1 (wipeE env vs) ds [] st with
  | some (kvs, st2) => some (.ok (.dK kvs), st2)
  | none => none
section
variable {G : Gm} {W W0 : WX} {X : Cx} {kx vx tg iter tg1 iter1 : Expr} {ifs ifs1 : List Expr} {scope : Scope} {own : List (Str × Nat)} {pos : Pos} {mi mi1 : MA} {g g1 : TG} {t t1 : Tg} {mt mt1 : MT} {mk mv : ME}
/-- the inner clause's turns: the dict at p goes on from accD0 to kE -/
theorem t_innerK {vs1 : List Nat} (hF : Flat G) (tk1 : TgOk G g1 t1) (in1 : ∀ i ∈ t1.slots, i ∈ vs1) {σ0 σ2 : L2.St} {env1 : En} {L1 L5 : Lv} {H1 H5 : Hp} {p : Addr} {J1 : It} {ds1 : List D} {st5 stE : Store} {Nx : Hp → Prop} {acc0 : List (Key × V)} {accD0 kE : List (Key × D)}
    (P1 : G.P σ0 (off L1 H1)) (new : H1 p = none) (wk : WalkD G J1 ds1 L5 H5) (done : ∀ L H acc, Ev (L1.hide p) (upd H1 p (.dK acc)) L H → Rep G L stE H → DasK G (off L H) acc kE → Nx H)
    (e0 : Ev (L1.hide p) (upd H1 p (.dK acc0)) L5 H5) (r0 : Rep G L5 st5 H5) (en0 : EnvR G L5 (off L5 H5) σ2 env1) (d0 : DasK G (off L5 H5) acc0 accD0) (c0 : compK t1 mt1 mk mv (wipeE env1 vs1) ds1 accD0 st5 = some (kE, stE)) :
    ∃ W1 : Nat → Nat → Hp → Prop, (∃ m, W1 0 m H5) ∧ Goes J1 W1 Nx fun Nx1 x H' => g1 x (L2.wipe σ2 vs1) H' fun σ3 H5 => L2.wipe σ3 vs1 = L2.wipe σ2 vs1 ∧ (tMT G W0 mt1) σ3 H5 fun b H6 =>
      if b = true then (tM G W0 mk) σ3 H6 fun y H7 => (tM G W0 mv) σ3 H7 fun z H8 => ∃ kvs k, y = kV k ∧ H8 p = some (.dK kvs) ∧ kvs.length < sizeLine ∧ Nx1 (upd H8 p (.dK (putK kvs k z))) else Nx1 H6 := by
  have mine : p ∈ (L1.hide p).h := List.mem_cons_self
  let Pt : Nat → Hp → Prop := fun j H => ∃ L st acc accD, Ev (L1.hide p) (upd H1 p (.dK acc)) L H ∧ Rep G L st H ∧ EnvR G L (off L H) σ2 env1 ∧ Rl (off L5 H5) (off L H) ∧ DasK G (off L H) acc accD ∧ compK t1 mt1 mk mv (wipeE env1 vs1) (ds1.drop j) accD st = some (kE, stE)
  refine ⟨fun j k H => j ≤ ds1.length ∧ k = ds1.length - j ∧ Pt j H, ⟨ds1.length, Nat.zero_le _, rfl, L5, st5, acc0, accD0, e0, r0, en0, Rl.of_same (Same.refl _), d0, c0⟩, ?_⟩
  rintro j k H ⟨le, rfl, L, st, acc, accD, e, r, en, rl, da, run⟩
  rcases Nat.lt_or_ge j ds1.length with lt | ge
  · have item : ds1[j]? = some ds1[j] := List.getElem?_eq_getElem lt
    rw [List.drop_eq_getElem_cons lt] at run
    refine .inr ⟨wk.go j L H rl lt, Pt (j + 1), fun H' a => ⟨ds1.length - (j + 1), by omega, lt, rfl, a⟩, fun x H' y => ?_⟩
    obtain ⟨e2, r2, dx⟩ := wk.yld j L H st _ rl r item x H' y
    unfold compK at run
    split at run
    · cases run
    rename_i env3 put
    have P' : ∀ τ, G.P τ (off L H') := fun τ => hF _ _ _ (G.up _ _ _ ((Rl.of_same (hide_same (L := L1) new)).trans (e.trans e2).same) P1)
    refine tk1.run L H' st x _ _ _ env3 _ ⟨(en.ev e2).wipe vs1, r2, P' _⟩ (.d dx) put fun σ4 a4 same => ⟨by rw [same vs1 in1, wipe_wipe vs1 vs1 fun _ h => h], ?_⟩
    split at run
    · rename_i st4 tst
      refine ⟨L, st, env3, _, st4, a4, tst, fun L4 H4 e4 r4 => ?_⟩
      split at run
      · rename_i yk st5' key
        refine ⟨L4, st4, env3, _, st5', a4.ev e4 r4, key, fun vk L6 H6 e6 r6 dk => ?_⟩
        split at run
        · rename_i yv st6 val
          refine ⟨L6, st5', env3, _, st6, (a4.ev e4 r4).ev e6 r6, val, fun vv L7 H7 e7 r7 dv => ?_⟩
          split at run
          · rename_i k kk
            split at run
            · rename_i ok
              have all := (((e.trans e2).trans e4).trans e6).trans e7
              have since := ((e2.trans e4).trans e6).trans e7
              have hid : p ∈ L7.h := by rw [all.hh]; exact mine
              have at7 : H7 p = some (.dK acc) := by rw [all.keep p mine, upd_same]
              have da7 := since.dasK da
              refine ⟨acc, k, keyD_kV dk kk, at7, by rw [da7.len, sizeLine_eq]; have few := ok.2; unfold big at few; omega, L7, st6, _, putKd accD k yv, all.hupd, r7.hupd hid, ?_, ?_, ?_, run⟩ <;> rw [off_hid hid]
              · exact en.ev since
              · exact rl.trans since.same
              · exact da7.put k (dv.da ok.1)
            · cases run
          · cases run
        · cases run
      · cases run
    · rename_i st4 tst
      refine ⟨L, st, env3, _, st4, a4, tst, fun L4 H4 e4 r4 => ?_⟩
      dsimp only
      rw [if_neg Bool.false_ne_true]
      exact ⟨L4, st4, acc, accD, (e.trans e2).trans e4, r4, en.ev (e2.trans e4), rl.trans (e2.trans e4).same, (e2.trans e4).dasK da, run⟩
    · cases run
  · obtain rfl : j = ds1.length := Nat.le_antisymm le ge
    rw [List.drop_length] at run
    cases run
    exact .inl ⟨wk.stop L H rl, done L H acc e r da⟩
theorem t_dc2 {vs vs1 : List Nat} (hF : Flat G) (tk : TgOk G g t) (inn : ∀ i ∈ t.slots, i ∈ vs) (tk1 : TgOk G g1 t1) (in1 : ∀ i ∈ t1.slots, i ∈ vs1) {σ : L2.St} {H : Hp} {Q : VK} (q : tM G W (mDc2 mi t mt mi1 t1 mt1 mk mv vs vs1) σ H Q) :
    tDc2 (tMI G W mi) g (tMT G W0 mt) (tMI G W0 mi1) g1 (tMT G W0 mt1) (tM G W0 mk) (tM G W0 mv) vs vs1 σ H Q := by
  obtain ⟨L, st, env, r, st', at_, hm, hp⟩ := q
  rcases bnd_cases hm with ⟨ds, st1, got, rest⟩ | ⟨x, got, rfl⟩
  case inr => exact ⟨L, st, env, _, st', at_, got, hp⟩
  refine ⟨L, st, env, _, st1, at_, got, fun J L1 H1 e1 r1 wk p new => ?_⟩
  split at rest
  case h_2 => cases rest
  rename_i kE stF whole
  cases rest
  have a1 := at_.ev e1 r1
  let Pt : Nat → Hp → Prop := fun i H' => ∃ L2' st2 acc accD, Ev (L1.hide p) (upd H1 p (.dK acc)) L2' H' ∧ Rep G L2' st2 H' ∧ DasK G (off L2' H') acc accD ∧ comp2K t mt mi1 t1 mt1 mk mv vs1 (wipeE env vs) (ds.drop i) accD st2 = some (kE, st')
  refine ⟨fun i m H' => i ≤ ds.length ∧ m = ds.length - i ∧ Pt i H', ⟨ds.length, Nat.zero_le _, rfl, L1.hide p, st1, [], [], Ev.refl _ _, r1.hide new, .nil, whole⟩, ?_⟩
  rintro i m H2 ⟨le, rfl, L2', st2, acc, accD, e2, r2, dacc, run⟩
  have seen := (Rl.of_same (hide_same (L := L1) (o := .dK acc) new)).trans e2.same
  rcases Nat.lt_or_ge i ds.length with lt | ge
  · have item : ds[i]? = some ds[i] := List.getElem?_eq_getElem lt
    rw [List.drop_eq_getElem_cons lt] at run
    refine .inr ⟨wk.go i L2' H2 seen lt, Pt (i + 1), fun H' a => ⟨ds.length - (i + 1), by omega, lt, rfl, a⟩, fun x H3 y => ?_⟩
    obtain ⟨e3, r3, dx⟩ := wk.yld i L2' H2 st2 _ seen r2 item x H3 y
    have e13 := e2.trans e3
    have seen3 := (Rl.of_same (hide_same (L := L1) (o := .dK acc) new)).trans e13.same
    unfold comp2K at run
    split at run
    · cases run
    rename_i env3 put
    have en1 : EnvR G L2' (off L2' H3) σ env := ⟨a1.e.len, fun j d q => have ⟨v, q1, q2⟩ := a1.e.at_ j d q; ⟨v, q1, Va.mono (L := L1) (⟨e13.le.len, e13.le.at_⟩ : Le L1 L2') seen3 q2⟩⟩
    refine tk.run L2' H3 st2 x _ _ _ env3 _ ⟨en1.wipe vs, r3, hF _ _ _ (G.up _ _ _ seen3 a1.p)⟩ (.d dx) put fun σ4 a4 same => ⟨by rw [same vs inn, wipe_wipe vs vs fun _ h => h], ?_⟩
    split at run
    · rename_i st4 tst
      refine ⟨L2', st2, env3, _, st4, a4, tst, fun L4 H4 e4 r4 => ?_⟩
      dsimp only
      rw [if_pos rfl]
      split at run
      · rename_i ds1 st5 inner
        have a5 := a4.ev e4 r4
        refine ⟨L4, st4, env3, _, st5, a5, inner, fun J1 L5 H5 e5 r5 wk1 => ?_⟩
        split at run
        · rename_i k1 stE one
          exact t_innerK (σ0 := σ) hF tk1 in1 a1.p new wk1 (fun L H acc' eA rA dA => ⟨L, stE, acc', k1, eA, rA, dA, run⟩) ((e13.trans e4).trans e5) r5 (a5.e.ev e5) (((e3.trans e4).trans e5).dasK dacc) one
        · cases run
      · cases run
    · rename_i st4 tst
      refine ⟨L2', st2, env3, _, st4, a4, tst, fun L4 H4 e4 r4 => ?_⟩
      dsimp only
      rw [if_neg Bool.false_ne_true]
      exact ⟨L4, st4, acc, accD, e13.trans e4, r4, (e3.trans e4).dasK dacc, run⟩
    · cases run
  · obtain rfl : i = ds.length := Nat.le_antisymm le ge
    rw [List.drop_length] at run
    cases run
    exact .inl ⟨wk.stop L2' H2 seen, hp _ (L2'.back L1) H2 (e1.trans (e2.back r1 new)) (Rep.back e2 r2) (.d (.dK (.inl (back_at e2 r2 r1 new)) (DasK.mono (Rl.of_same (back_same e2)) _ _ dacc)))⟩
theorem m_dc2 {vs1 : List Nat} (calm : X.calm = true) (nd : X.N.Nodup) (hi : PI X tg iter (tMI G W mi)) (ok : BlkOk X.N X.env.scope scope own) (sub : ∀ i ∈ vs1, i ∈ own.map (·.2)) (hg : InB X scope fun Y => PG Y tg g) (ht : InB X scope fun Y => PTs Y ifs (tMT G W0 mt)) (hi1 : InB X scope fun Y => PI Y tg1 iter1 (tMI G W0 mi1))
    (hg1 : InB X scope fun Y => PG Y tg1 g1) (ht1 : InB X scope fun Y => PTs Y ifs1 (tMT G W0 mt1)) (hk : InB X scope fun Y => PE Y kx (tM G W0 mk)) (hv : InB X scope fun Y => PE Y vx (tM G W0 mv)) (tk : TgOk G g t) (inn : ∀ i ∈ t.slots, i ∈ own.map (·.2)) (tk1 : TgOk G g1 t1) (in1 : ∀ i ∈ t1.slots, i ∈ vs1)
    (folds : ∀ x, foldedSetIterable iter X.env x = pure x := by intro _; rfl) (folds1 : ∀ env x, foldedSetIterable iter1 env x = pure x := by intro _ _; rfl) (hF : Flat G := by exact fun _ _ _ h => h) :
    PE X (.DictComp kx vx [⟨tg, iter, ifs, 0⟩, ⟨tg1, iter1, ifs1, 0⟩] scope pos) (tM G W (mDc2 mi t mt mi1 t1 mt1 mk mv (own.map (·.2)) vs1)) :=
  PEimp (pe_dc2 calm nd hi ok sub hg ht hi1 hg1 ht1 hk hv folds folds1) fun _ _ _ => t_dc2 hF tk inn tk1 in1
end
theorem foldP_length {κ : Type} [DecidableEq κ] : ∀ (more l : List (κ × D)), (foldP l more).length ≤ l.length + more.length
  | [], l => by simp [foldP]
  | p :: more, l => by
    show (foldP (putKd l p.1 p.2) more).length ≤ _
    have a := foldP_length more (putKd l p.1 p.2)
    have b := putKd_length l p.1 p.2
    rw [List.length_cons]
    omega
theorem foldP_append {κ : Type} [DecidableEq κ] (l a b : List (κ × D)) : foldP (foldP l a) b = foldP l (a ++ b) := by
  unfold foldP
  rw [List.foldl_append]
theorem comp2K_eq {α β : Type} {t t1 : Tg} {mt mt1 : MT} {mi1 : MA} {mk mv : ME} {vs1 : List Nat} {env : En} {st : Store} {f : α → D} (ys : α → List β) (f1 : β → D) (P : α → Bool) (P1 : α → β → Bool) (k : α → β → Key) (g : α → β → D) : ∀ (xs : List α) (l : List (Key × D)), l.length + (xs.flatMap ys).length ≤ big →
    (∀ x ∈ xs, ∃ env1, setT t (f x) env = some env1 ∧ mt env1 st = some (.ok (P x), st) ∧ (P x = true → mi1 env1 st = some (.ok ((ys x).map f1), st) ∧
      ∀ y ∈ ys x, ∃ env2, setT t1 (f1 y) (wipeE env1 vs1) = some env2 ∧ mt1 env2 st = some (.ok (P1 x y), st) ∧ (P1 x y = true → mk env2 st = some (.ok (kD (k x y)), st) ∧ mv env2 st = some (.ok (g x y), st) ∧ isD (g x y) = true))) →
    comp2K t mt mi1 t1 mt1 mk mv vs1 env (xs.map f) l st = some (foldP l ((xs.filter P).flatMap fun x => ((ys x).filter (P1 x)).map fun y => (k x y, g x y)), st)
  | [], _, _, _ => rfl
  | x :: xs, l, hl, h => by
    obtain ⟨env1, h1, h2, h3⟩ := h x List.mem_cons_self
    rw [List.flatMap_cons, List.length_append] at hl
    have ih := fun l hl => comp2K_eq (t := t) (mt := mt) (mi1 := mi1) (t1 := t1) (mt1 := mt1) (mk := mk) (mv := mv) (vs1 := vs1) (env := env) (st := st) (f := f) ys f1 P P1 k g xs l hl fun y hy => h y (List.mem_cons_of_mem _ hy)
    rw [List.map_cons]
    unfold comp2K
    simp only [h1, h2]
    cases hp : P x with
    | false =>
      rw [List.filter_cons_of_neg (by rw [hp]; exact Bool.false_ne_true)]
      exact ih l (by omega)
    | true =>
      obtain ⟨h4, h5⟩ := h3 hp
      dsimp only
      rw [h4]
      dsimp only
      rw [compK_eq (P1 x) (k x) (g x) (ys x) l (by omega) h5]
      dsimp only
      have few := foldP_length (((ys x).filter (P1 x)).map fun y => (k x y, g x y)) l
      have less := List.length_filter_le (P1 x) (ys x)
      rw [List.length_map] at few
      rw [ih _ (by omega), foldP_append, List.filter_cons_of_pos hp, List.flatMap_cons]
theorem dc2_eq {α β : Type} {mi mi1 : MA} {t t1 : Tg} {mt mt1 : MT} {mk mv : ME} {vs vs1 : List Nat} {env : En} {st : Store} (xs : List α) (f : α → D) (ys : α → List β) (f1 : β → D) (P : α → Bool) (P1 : α → β → Bool) (k : α → β → Key) (g : α → β → D)
    (hi : mi env st = some (.ok (xs.map f), st)) (hl : (xs.flatMap ys).length ≤ 1000000)
    (h : ∀ x ∈ xs, ∃ env1, setT t (f x) (wipeE env vs) = some env1 ∧ mt env1 st = some (.ok (P x), st) ∧ (P x = true → mi1 env1 st = some (.ok ((ys x).map f1), st) ∧
      ∀ y ∈ ys x, ∃ env2, setT t1 (f1 y) (wipeE env1 vs1) = some env2 ∧ mt1 env2 st = some (.ok (P1 x y), st) ∧ (P1 x y = true → mk env2 st = some (.ok (kD (k x y)), st) ∧ mv env2 st = some (.ok (g x y), st) ∧ isD (g x y) = true))) :
    mDc2 mi t mt mi1 t1 mt1 mk mv vs vs1 env st = some (.ok (.dK (foldP [] ((xs.filter P).flatMap fun x => ((ys x).filter (P1 x)).map fun y => (k x y, g x y)))), st) := by
  unfold mDc2
  rw [hi, bnd_ok, comp2K_eq ys f1 P P1 k g xs [] (by simpa using hl) h]
end M


/-! The M layer: ahead of a statement the list cell at a name becomes a datum. -/
namespace M
open PySem PySem.Spec PyProof.Rows L2
def mFrzS (i : Nat) (m : MS) : MS := fun env st => match env[i]? with
  | some (some (.ref k)) => match st[k]? with
    | some (.lst ds) => m (env.set i (some (.lst ds))) (st.set k .dead)
    | _ => none
  | _ => none
theorem v_frzS {i k : Nat} {m : MS} {env : En} {st : Store} {ds : List D} (h : env[i]? = some (some (.ref k))) (hc : st[k]? = some (.lst ds)) : mFrzS i m env st = m (env.set i (some (.lst ds))) (st.set k .dead) := by
  unfold mFrzS
  rw [h]
  dsimp only
  rw [hc]
section
variable {G : Gm} {W : WX} {X : Cx} {S : Stmt} {m : MS}
theorem ms_frz (i : Nat) (h : PS X S (tMS G W m)) (hF : Flat G := by exact fun _ _ _ h => h) : PS X S (tMS G W (mFrzS i m)) := PSimp h fun D0 σ H q => by
  obtain ⟨L, st, env, fl, env', st', at_, hm, hp⟩ := q
  unfold mFrzS at hm
  split at hm
  · rename_i k hd
    split at hm
    · rename_i ds hc
      obtain ⟨v, hv, dv⟩ := at_.e.at_ i _ hd
      have hk : k < st.length := (List.getElem?_eq_some_iff.mp hc).1
      have hkL : k < L.c.length := by rw [at_.r.len]; exact hk
      have q := at_.r.cell k L.c[k] _ (List.getElem?_eq_getElem hkL) hc
      cases dv with
      | d dv => cases dv
      | @ref a _ hi same =>
        cases hx : L.c[k] with
        | none => rw [hx] at q; exact q.elim
        | some b =>
          rw [hx] at q
          have hb : L.c[k]? = some (some b) := by rw [List.getElem?_eq_getElem hkL, hx]
          obtain rfl := same b hb
          obtain ⟨vs, ha, rr⟩ := q
          have out : off (L.kill k) H a = some (.lst vs) := off_of ha fun z => by
            rcases z with z | z
            · obtain ⟨j, hj⟩ := List.getElem?_of_mem z
              obtain ⟨ne, hj2⟩ := kill_get (L := L) hj
              exact ne (at_.r.inj j k a hj2 hb)
            · exact (at_.r.hid a z).2 (List.mem_of_getElem? hb)
          have en := (at_.e.ev (Ev.kill (k := k))).set i (Va.d (G := G.toGb) (L := L.kill k) (Da.lst out (Das.mono (Rl.of_same kill_same) _ _ rr)))
          have same_ : σ.set i (some (V.ref a)) = σ := by
            refine List.ext_getElem? fun j => ?_
            rw [List.getElem?_set]
            split
            · rename_i e
              subst e
              split
              · exact hv.symm
              · rename_i lt
                rw [List.getElem?_eq_none (by omega)]
            · rfl
          rw [same_] at en
          exact ⟨L.kill k, st.set k .dead, _, fl, env', st', ⟨en, at_.r.kill hk, hF _ _ _ (G.up _ _ _ (Rl.of_same kill_same) at_.p)⟩, hm, hp.ev Ev.kill⟩
    · cases hm
  · cases hm
end
/-! `is` and `is not` of two truth values -/
def gIsB (neg : Bool) (_ : Store) : D → D → Option D
  | .bl a, .bl b => some (.bl (decide (a = b) != neg))
  | _, _ => none
theorem r2_isB {G : Gb} : R2M G (fun x y H Q => ∃ a b, x = V.bl a ∧ y = V.bl b ∧ Q (.bl (decide (a = b))) H) (gIsB false) := fun L st H x y d e z Q R dx dy hz k => by
  unfold gIsB at hz
  split at hz
  · cases hz
    rw [Bool.bne_false] at k
    exact ⟨_, _, dx.bl_inv, dy.bl_inv, r_same (.bl _) R k⟩
  · cases hz
theorem r2_notB {G : Gb} : R2M G (fun x y H Q => ∃ a b, x = V.bl a ∧ y = V.bl b ∧ Q (.bl (!decide (a = b))) H) (gIsB true) := fun L st H x y d e z Q R dx dy hz k => by
  unfold gIsB at hz
  split at hz
  · cases hz
    rw [Bool.bne_true] at k
    exact ⟨_, _, dx.bl_inv, dy.bl_inv, r_same (.bl _) R k⟩
  · cases hz
end M


/-! A method called by keywords alone, some of them; the others are None by default. -/
namespace L2
open PySem PySem.Spec PyProof.Rows
/-- the keyword-only ones in the parameters' order: given ones (true) from the list, the others d -/
def fillG {α : Type} (d : α) : List Bool → List α → List α
  | [], _ => []
  | false :: p, l => d :: fillG d p l
  | true :: p, a :: l => a :: fillG d p l
  | true :: _, [] => []
theorem fill_vals : ∀ (p : List Bool) {zs : List V} {ws : List Value}, Vals zs ws → Vals (fillG V.non p zs) (fillG Value.none p ws)
  | [], _, _, _ => .nil
  | false :: p, _, _, r => .cons rfl (fill_vals p r)
  | true :: p, _, _, .nil => .nil
  | true :: p, _, _, .cons h r => .cons h (fill_vals p r)
def tFill (p : List Bool) (j : Nat) (tk : TA) : TA := fun σ H Q => tk σ H fun zs H1 => zs.length = j ∧ Q (fillG V.non p zs) H1
end L2
namespace M
open PySem PySem.Spec PyProof.Rows L2
def mFill (p : List Bool) (j : Nat) (mk : MA) : MA := fun env st => bnd (mk env st) fun zs st => if zs.length = j then some (.ok (fillG D.non p zs), st) else none
theorem fill_vas {G : Gb} {L : Lv} {H : Hp} : ∀ (p : List Bool) {ds : List D} {vs : List V}, Vas G L H vs ds → Vas G L H (fillG V.non p vs) (fillG D.non p ds)
  | [], _, _, _ => .nil
  | false :: p, _, _, r => .cons (.d .non) (fill_vas p r)
  | true :: p, _, _, .nil => .nil
  | true :: p, _, _, .cons h r => .cons h (fill_vas p r)
section
variable {X : Cx} {G : Gm} {W : WX} {k n cid : Nat} {f : Addr} {fd : FuncData} {ps ks : List Str} {c : Call} {m : Str} {apos pos : Pos} {o : Expr} {kws : List Keyword} {mo : ME} {mk : MA} {p : List Bool}
theorem t_fill {j : Nat} {σ : L2.St} {H : Hp} {Q : List V → Hp → Prop} (q : tMA G W (mFill p j mk) σ H Q) : tFill p j (tMA G W mk) σ H Q := by
  obtain ⟨L, st, env, r, st', at_, hm, hp⟩ := q
  rcases bnd_cases hm with ⟨zs, st1, got, rest⟩ | ⟨x, got, rfl⟩
  · split at rest
    · rename_i len
      cases rest
      exact ⟨L, st, env, _, _, at_, got, fun vs L1 H1 e1 r1 dv => ⟨dv.length.trans len, hp _ L1 H1 e1 r1 (fill_vas p dv)⟩⟩
    · cases rest
  · exact ⟨L, st, env, _, st', at_, got, hp⟩
end
section
variable {X : Cx} {CX : CXT} {k : Nat} {C f : Addr} {fd : FuncData} {ps ks : List Str} {sp : Sp} {E : XK} {E1 : L2.St → XK} {m : Str} {apos pos : Pos} {o : Expr} {kws : List Keyword} {ta : TE} {t tk : TA} {p : List Bool}
theorem pe_methK {pl : Sem Bool} (he : PE X o ta) (c : Cls X.K C) (hm : Meth X.K C m f) (F : FnOk X.prog X.w X.K X.mg X.base CX k f fd ps sp) (hr : Room k X.A) (hb : KBn X.K fd ps 1 ks (fun us ws => us ++ fillG Value.none p ws) (fun vs zs => vs ++ fillG V.non p zs)) (hx : Passes CX X E) (hkw : PK X kws tk) (conv : ∀ σ H Q, t σ H Q → tFill p ks.length tk σ H Q) (same : ∀ σ, E1 σ = E)
    (all : (backToKw pos (keywordEach kws X.env)).all (·.1.isSome) = true := by rfl) (named : (backToKw pos (keywordEach kws X.env)).filterMap (·.1) = ks := by rfl) (plain : ((backTo pos (starEach [] X.env)).any (·.1) || (backToKw pos (keywordEach kws X.env)).any (·.1.isNone)) = false := by rfl)
    (h3 : eval (.Call (.Attribute o m apos) [] kws pos) X.env = (do
      let w ← eval o X.env
      standAt apos.atName
      let (g, first) ← holding [w] (getMethod w m pl)
      callWith pos g first (backTo pos (starEach [] X.env)) (backToKw pos (keywordEach kws X.env))) := by rfl) :
    PE X (.Call (.Attribute o m apos) [] kws pos) (tMethS C m sp E1 ta t) := by
  refine ⟨fun pins s σ H Q I want => PySem.W.methodCall_KW (pl := pl) (thn (he.run pins s σ H _ I want) ?_) h3⟩
  rintro u s1 ⟨_, H1, I1, rx, a, dx, fs, rfl, at_, no, rest⟩
  obtain rfl : u = Value.ref a := rx
  refine getmeth_ok I1 at_ c hm no (PySem.W.callWith_KW0 (first := [.ref a]) (h₀ := X.base) I.ok.mod.kin hm.kp all (thn (hkw.run pos pins s1 σ H1 _ I1 (conv _ _ _ rest)) ?_) plain)
  rintro ws s2 ⟨zs, H2, I2, r, len, wish⟩
  rw [named]
  rw [same] at wish
  exact ⟨I2.kIn, run_fnN (us := [.ref a]) (vs := [.ref a]) F hr hb hx I2 (.cons rfl .nil) r rfl len wish⟩
end
section
variable {X : Cx} {G : Gm} {W : WX} {k n j cid : Nat} {f : Addr} {fd : FuncData} {ps ks : List Str} {E : XK} {c : Call} {m : Str} {apos pos : Pos} {o : Expr} {kws : List Keyword} {mo : ME} {mk : MA} {p : List Bool}
theorem m_methK (tk : Takes X W) (hW : ∀ σ, WE W σ = E) (hK : G.K = X.K) (cl : Cls X.K (G.cA cid)) (hm : Meth X.K (G.cA cid) m f) (F : FnOk X.prog X.w X.K X.mg X.base (L2.CX X.prog X.w) k f fd ps (spM G.toGb c n)) (hr : Room k X.A) (hb : KBn X.K fd ps 1 ks (fun us ws => us ++ fillG Value.none p ws) (fun vs zs => vs ++ fillG V.non p zs))
    (ho : PE X o (tM G W mo)) (hkw : PK X kws (tMA G W mk)) (hj : ks.length = j) {pl : Sem Bool} (all : (backToKw pos (keywordEach kws X.env)).all (·.1.isSome) = true := by rfl) (named : (backToKw pos (keywordEach kws X.env)).filterMap (·.1) = ks := by rfl) (plain : ((backTo pos (starEach [] X.env)).any (·.1) || (backToKw pos (keywordEach kws X.env)).any (·.1.isNone)) = false := by rfl)
    (h3 : eval (.Call (.Attribute o m apos) [] kws pos) X.env = (do
      let w ← eval o X.env
      standAt apos.atName
      let (g, first) ← holding [w] (getMethod w m pl)
      callWith pos g first (backTo pos (starEach [] X.env)) (backToKw pos (keywordEach kws X.env))) := by rfl) :
    PE X (.Call (.Attribute o m apos) [] kws pos) (tM G W (mMth cid m n c mo (mFill p j mk))) :=
  PEimp (pe_methK ho cl hm F hr hb (E := E) (passes_call (E := E) tk fun cls d σ H h => by rw [← hW σ] at h; exact h) hkw (fun _ _ _ q => by rw [hj]; exact t_fill q) hW all named plain h3) fun σ H Q q => t_mth q
end
end M


/-! Defs called where no guard of repr stands: what they promise there, how they are called, how their bodies show it. -/
namespace L2
open PySem PySem.Spec PyProof.Rows
/-- room, and nobody's repr is under way -/
structure RoomG (k : Nat) (A : Around) : Prop where
  room : Room k A
  none_ : A.guards = some []
namespace RoomG
variable {j k : Nat} {A : Around}
theorem mono (r : RoomG k A) (h : j ≤ k) : RoomG j A := ⟨r.room.mono h, r.none_⟩
theorem deeper (r : RoomG (k + 1) A) (env : Env) : RoomG k (A.deeper env) := ⟨r.room.deeper env, r.none_⟩
theorem in1 (r : RoomG (k + 1) A) : RoomG k A.in1 := ⟨r.room.in1, r.none_⟩
theorem caller (r : Room k callerA) : RoomG k callerA := ⟨r, rfl⟩
end RoomG
structure FnG (P : Program) (w : World) (K : PySem.W.Frag) (mg : Str → Option Value) (base : Heap) (CX : CXT) (k : Nat) (f : Addr) (fd : FuncData) (ps : List Str) (sp : Sp) : Prop where
  len : ∀ vs H Q E, sp vs H Q E → vs.length = ps.length
  run : ∀ (A : Around) (outer : List Env) (s : Shared) (H : Hp) (args : Args) (us : List Value) (vs : List V) (Q : VK) (E : XK), RoomG k A → Env0 P w K mg base A outer s H → BindsTo s fd args (ps.zip us) → Vals vs us → sp vs H Q E →
    codeAny (model P w) A (.call (.ref f) args) (CR CX outer P w H s Q E) s
section
variable {P : Program} {w : World} {K : PySem.W.Frag} {mg : Str → Option Value} {base : Heap} {CX : CXT} {k : Nat} {f : Addr} {fd : FuncData} {ps : List Str} {sp : Sp}
/-- what holds everywhere holds there -/
theorem FnOk.open_ (F : FnOk P w K mg base CX k f fd ps sp) : FnG P w K mg base CX k f fd ps sp := ⟨F.len, fun A outer s H args us vs Q E room => F.run A outer s H args us vs Q E room.room⟩
end
section
variable {X : Cx} {CX : CXT} {k : Nat} {f : Addr} {fd : FuncData} {ps : List Str} {sp : Sp} {pins : List (Addr × Obj)} {σ : St} {H : Hp} {s : Shared} {Q : VK} {E : St → XK} {us : List Value} {vs : List V} {kw : List (Str × Value)}
/-- such a def called from X, the names bound to as -/
theorem run_fnG {as : List Value} {bs : List V} (F : FnG X.prog X.w X.K X.mg X.base CX k f fd ps sp) (room : RoomG k X.A) (bound : BindsTo s fd ⟨us, kw⟩ (ps.zip as)) (at_ : PassesAt CX X σ (E σ)) (I : Inv X pins σ H s) (rel : Vals bs as) (wish : sp bs H Q (E σ)) :
    wpAny (model X.prog X.w) X.A (call (.ref f) us kw) (EP X pins σ Q) X.xe s := by
  refine wpAny_call (codeAny_mono (F.run X.A X.stack s H ⟨us, kw⟩ as bs Q (E σ) room I.env0 bound rel wish) ?_)
  rintro (x | fl) s' ended
  · exact at_ pins H s x s' I ended
  · match fl, ended with
    | .ret u, ended => exact I.after ended
end
/-- a body's ends, seen by the caller -/
theorem ends_of {X : Cx} {Q : VK} {H0 : Hp} {s0 s' : Shared} {outer : List Env} {P : Program} {w : World} (out : ∀ {σ : St} {H : Hp} {v : V} {u : Value}, Inv X [] σ H s' → RelV v u → Q v H → CE outer P w H0 s0 Q u s') :
    ∀ fl, SP X [] { nx := fun _ H => Q .non H, rt := Q } fl s' → CE outer P w H0 s0 Q (match fl with | .ret v => v | _ => .none) s'
  | .ret _, ⟨_, _, _, J, rel, q⟩ => out J rel q
  | .next, ⟨_, _, J, q⟩ => out (v := .non) J rfl q
  | .brk, ⟨_, _, _, q⟩ => q.elim
  | .cont, ⟨_, _, _, q⟩ => q.elim
section
variable {P : Program} {w : World} {K : PySem.W.Frag} {mg : Str → Option Value} {base : Heap} {CX : CXT} {k : Nat} {f : Addr} {name qual : Str} {params : Arguments} {body : List Stmt} {scope : Scope} {dV kV doc pm cdv ct oc : Value} {an od : Option Addr} {osl : Array (Option Value)} {N ps : List Str} {sp : Sp}
/-- a def whose body keeps its promise where no repr is under way -/
theorem fn_ofG (look : K.lookup f = some ⟨oc, od, .func (PySem.W.fnOf name qual params body scope dV kV doc pm an cdv ct), osl⟩) (code : PySem.W.codeIn K cdv qual = true) (S : FnScope N ps scope) (len : ∀ vs H Q E, sp vs H Q E → vs.length = ps.length)
    (walk : ∀ (A : Around) (outer : List Env) (s : Shared) (H : Hp) (vs : List V) (Q : VK) (E : XK), RoomG k (A.deeper (envOfC qual scope s.heap.objs.size f cdv)) → sp vs H Q E →
      ∃ t, PSs (cxOf CX P w K mg base N qual scope f cdv A outer s H E) body t ∧ t { nx := fun _ H' => Q .non H', rt := Q } (start N vs) H) :
    FnG P w K mg base CX (k + 1) f (PySem.W.fnOf name qual params body scope dV kV doc pm an cdv ct) ps sp where
  len := len
  run A outer s H args us vs Q E room e0 bound rel wish := by
    have old : ∀ b o, base.get? b = some o → s.heap.get? b = some o := fun b o e => (e0.bs b o e).1
    have places : ∀ x ∈ ps.zip us, scope.names.lookup x.1 = some .local ∨ (scope.names.lookup x.1 = some .cell ∧ ((cellsFrom (s.heap.objs.size + 1) scope.names []).lookup x.1).isSome = true) :=
      fun x hx => (S.par x.1 (List.of_mem_zip hx).1).imp_right fun cell => ⟨cell, PySem.W.cellsFrom_some _ _ _ (.inl cell)⟩
    have inner : ∀ s1, InCallC s s.heap.objs.size (bindL (envOfC qual scope s.heap.objs.size f cdv).kindOf (ps.zip us) fun _ => none) (cellsFrom (s.heap.objs.size + 1) scope.names []) (bindC (envOfC qual scope s.heap.objs.size f cdv).kindOf (ps.zip us) fun _ => none) s1 →
        codeAny (model P w) A (.func body (envOfC qual scope s.heap.objs.size f cdv)) (CR CX outer P w H s Q E) s1 := fun s1 made => by
      have ⟨t, stands, first⟩ := walk A outer s H vs Q E (room.deeper _) wish
      exact codeAny_func (wpAny_mono (stands.run [] s1 _ H _ (inv_start S room.room.hd e0 (len _ _ _ _ wish) rel made) first)
        (fun fl s' done => ends_of (fun {_ H' v _} J r q => ⟨v, H', J.os, J.bare, J.base, J.hok, r, q⟩) fl done) fun _ _ z => z)
    exact codeAny_call_function room.room.depth (old _ _ (e0.mod.kin _ _ look)) rfl S.co S.gen rfl (PySem.W.codeRec_of (e0.mod.kin.keeps old) code) (bound _ _ _ _ (wpAny_newFunctionEnv_cells S.kind places fun env same s1 made => by
      subst same
      exact ⟨(e0.mod.nolimit.keeps old).keeps made.toInCall.keep, inner s1 made⟩))
end
end L2


/-! The end: the law's def called at the top, where no repr is under way. -/
namespace L2
open PySem PySem.Spec PyProof.Rows
section
variable {P : Program} {w : World} {K : PySem.W.Frag} {mg mb : Str → Option Value} {CX : CXT} {k : Nat} {fa a : Addr} {fd : FuncData} {x : Str} {sp : Sp} {top : Shared} {vs : List Value} {ns : List Int}
/-- the script's list is the one thing that may be tracked -/
theorem law_tracked (H : Hp) (one : ∀ b, H b = none ∨ (b = a ∧ H b = some (.frz { cls := .type "list", data := .seq vs.toArray } (.lst (ns.map V.int))))) (apart : ∀ b o, K.lookup b = some o → H b = none) (KX : K.In top.heap) (glob : top.heap.Ns mainGlobals mg) (blt : top.heap.Ns builtinsNs mb) (boot : ∀ x : Str, x ≠ "__name__" → mb x = bootBuiltins x) (free : top.heap.NoLimit) (bare : top.gens = #[])
    (list : top.heap.get? a = some { cls := .type "list", data := .seq vs.toArray }) (nums : IntsAre vs ns) (few : ns.length ≤ sizeLine) (room : Room k callerA) (F : ∀ base : Heap, K.In base → base.Ns mainGlobals mg → FnG P w K mg base CX k fa fd [x] sp) (bind : ∀ (s : Shared) (u : Value), BindsTo s fd ⟨[u], []⟩ [(x, u)])
    (wish : sp [.ref a] H (fun v _ => v = .bl true) fun _ _ _ => False) (quiet : ∀ H e s', CX [] H top (fun _ _ _ => False) e s' → False) :
    codeAny (model P w) callerA (.call (.ref fa) ⟨[.ref a], []⟩) (fun r s' => r = .ok (.ret (.bool true)) ∧ OldK top.heap s'.heap ∧ s'.os = top.os ∧ AllBare s'.gens) top := by
  have seen : ∀ {b o}, top.heap.get? b = some o → H b = none → (hidT top.heap H).get? b = some o := fun e n => hidT_get e n
  have names : ∀ {L : Addr} {m : Str → Option Value}, top.heap.Ns L m → (hidT top.heap H).Ns L m := fun {L m} ⟨o, es, ep, at_, data, r⟩ => ⟨o, es, ep, seen at_ ((one L).elim id fun ⟨e, _⟩ => by
    rw [e, list] at at_
    cases at_
    cases data), data, r⟩
  have inK : K.In (hidT top.heap H) := fun b o l => seen (KX b o l) (apart b o l)
  have tracked : HOk P w H top.heap := fun b u e => by
    rcases one b with n | ⟨rfl, q⟩
    · rw [n] at e; cases e
    · rw [q] at e
      cases e
      exact ⟨list, by rw [List.length_map]; exact few, vs, 0, vals_ints nums, list⟩
  have noLimit : (hidT top.heap H).NoLimit := by
    obtain ⟨mc, at_, no⟩ := free
    exact ⟨mc, names at_, no⟩
  have e0 : Env0 P w K mg (hidT top.heap H) callerA [] top H :=
    { frames := rfl, mod := ⟨inK, names glob, ⟨mb, names blt, boot⟩, noLimit⟩, bs := fun b o e => of_hidT e, bsz := Nat.le_of_eq (hidT_size _ _), funs := True.intro, frf := (fun b z => (nomatch (show b ∈ ([] : List Addr) from z))), hok := tracked, bare := fun y hy => by rw [bare] at hy; simp at hy }
  refine codeAny_mono ((F _ inK (names glob)).run callerA [] top H ⟨[.ref a], []⟩ [.ref a] [.ref a] _ _ (RoomG.caller room) e0 (bind top (.ref a)) (.cons rfl .nil) wish) fun r s' done => ?_
  match r, done with
  | .error e, done => exact (quiet H e s' done).elim
  | .ok (.ret u), ⟨v, H', os, gens, un, hok, rel, q⟩ =>
    subst q
    obtain rfl : u = Value.bool true := rel
    refine ⟨rfl, ⟨fun b o e => .inl ?_, fun b o e => un.there b o e (fun z => (nomatch z))⟩, os, gens⟩
    rcases one b with n | ⟨rfl, t⟩
    · exact un.keep b o e n (fun z => (nomatch (show b ∈ ([] : List Addr) from z))) fun z => (nomatch z)
    · have := hok b _ (un.frzs b _ _ t)
      rw [list] at e
      cases e
      exact this.1
theorem law_callG (KX : K.In top.heap) (glob : top.heap.Ns mainGlobals mg) (blt : top.heap.Ns builtinsNs mb) (boot : ∀ x : Str, x ≠ "__name__" → mb x = bootBuiltins x) (free : top.heap.NoLimit) (bare : top.gens = #[])
    (list : top.heap.get? a = some { cls := .type "list", data := .seq vs.toArray }) (nums : IntsAre vs ns) (few : ns.length ≤ sizeLine) (room : Room k callerA) (F : ∀ base : Heap, K.In base → base.Ns mainGlobals mg → FnG P w K mg base CX k fa fd [x] sp) (bind : ∀ (s : Shared) (u : Value), BindsTo s fd ⟨[u], []⟩ [(x, u)])
    (wish : ∀ H : Hp, Only H → SqL K H a (ns.map V.int) → sp [.ref a] H (fun v _ => v = .bl true) fun _ _ _ => False) (quiet : ∀ H e s', CX [] H top (fun _ _ _ => False) e s' → False) :
    codeAny (model P w) callerA (.call (.ref fa) ⟨[.ref a], []⟩) (fun r s' => r = .ok (.ret (.bool true)) ∧ OldK top.heap s'.heap ∧ s'.os = top.os ∧ AllBare s'.gens) top := by
  cases known : K.lookup a with
  | none =>
    let H : Hp := fun b => if b = a then some (.frz { cls := .type "list", data := .seq vs.toArray } (.lst (ns.map V.int))) else none
    have here : H a = some (.frz { cls := .type "list", data := .seq vs.toArray } (.lst (ns.map V.int))) := if_pos rfl
    have one : ∀ b, H b = none ∨ (b = a ∧ H b = some (.frz { cls := .type "list", data := .seq vs.toArray } (.lst (ns.map V.int)))) := fun b => (Classical.em (b = a)).elim (fun e => .inr ⟨e, e ▸ here⟩) fun e => .inl (if_neg e)
    exact law_tracked H one (fun b o l => if_neg fun e => by rw [e, known] at l; cases l) KX glob blt boot free bare list nums few room F bind (wish H (fun b => (one b).imp id fun z => ⟨_, _, z.2⟩) (.inl (.inr ⟨_, here⟩))) quiet
  | some o =>
    have same := KX a o known
    rw [list] at same
    cases same
    exact law_tracked (fun _ => none) (fun b => .inl rfl) (fun _ _ _ => rfl) KX glob blt boot free bare list nums few room F bind (wish _ (fun b => .inl rfl) (.inr ⟨_, _, _, known, rfl, rfl, rfl, by
      have := (vals_ints nums).length
      rw [List.length_map] at this
      simp only [List.size_toArray]
      omega, vals_ints nums⟩)) quiet
end
theorem walk_ofG {l : PySem.W.OpenLaw} {n k : Nat} {q : Program} {loose : List Str} {XP : (Str → Option Value) → Heap → Prop} {YP : World → Heap → Prop} {d : DefRec} {K : Params → PySem.W.Frag} {CX : World → CXT} {sp : World → Sp} {x : Str} (most : l.most = some n) (few : n ≤ sizeLine) (plain : d.params.defaults = []) (room : Room k callerA) (kin : ∀ (w : World) (h : Heap), YP w h → (K w.params).In h)
    (F : ∀ (w : World) (mg : Str → Option Value) (fa : Addr) (h : Heap), (K w.params).In h → h.Ns mainGlobals mg → mg d.name = some (.ref fa) → ∃ fd : FuncData, (∀ (s : Shared) (u : Value), BindsTo s fd ⟨[u], []⟩ [(x, u)]) ∧ ∀ base : Heap, (K w.params).In base → base.Ns mainGlobals mg → FnG l.prog w (K w.params) mg base (CX w) k fa fd [x] (sp w))
    (wish : ∀ (w : World) (H : Hp) (a : Addr) (ns : List Int), ns.length ≤ n → Only H → SqL (K w.params) H a (ns.map V.int) → sp w [.ref a] H (fun v _ => v = .bl true) fun _ _ _ => False)
    (quiet : ∀ (w : World) (H : Hp) (s : Shared) (e : Value) (s' : Shared), CX w [] H s (fun _ _ _ => False) e s' → False) : PySem.W.WalkO q loose XP YP l.row.toRowW d [] (fun f vs => PySem.call f vs) :=
  Att.attach_call most plain fun w _ top mg _ fa _ _ _ _ a vs ns G Y _ _ _ at_ list nums len bare => by
    have KX := kin w _ Y
    obtain ⟨fd, bind, promise⟩ := F w mg fa _ KX G.T.g at_
    exact law_callG KX G.T.g G.T.b G.T.builtins G.T.nolimit bare list nums (Nat.le_trans len few) room promise bind (fun H only sq => wish w H a ns len only sq) fun H e s' => quiet w H top e s'
end L2


/-! The M layer for defs called where no repr is under way: calls, bodies, the end. -/
namespace M
open PySem PySem.Spec PyProof.Rows L2
section
variable {X : Cx} {G : Gm} {W : WX} {k n : Nat} {f : Addr} {fd : FuncData} {ps : List Str} {c : Call} {x : Str} {p pos : Pos} {e : Expr} {es : List Expr} {mas : MA}
theorem m_callG (tk : Takes X W) (F : FnG X.prog X.w X.K X.mg X.base (L2.CX X.prog X.w) k f fd ps (spM G c n)) (room : RoomG k X.A) (glob : Gl X x) (at_ : X.mg x = some (.ref f)) (keep : PySem.W.keepIn X.K (.ref f) = true) (bd : Binds X.K fd ps [])
    (args : PA X (e :: es) (tMA G W mas)) (ndb : (x == ("__debug__" : Str)) = false := by decide) (first : starEach (e :: es) X.env = (false, eval e X.env) :: starEach es X.env := by rfl) (plain : (backTo pos (starEach es X.env)).any (·.1) = false := by rfl) :
    PE X (.Call (.Name x p) (e :: es) [] pos) (tM G W (mCall n c mas)) := ⟨fun pins s σ H Q I ⟨L, st, env, r, st', here, run, post⟩ =>
  wpAny_Call_Name_kw (ld_glob I glob at_ (PySem.W.callWith_K (h₀ := X.base) I.ok.mod.kin keep (thn (args.run pos pins s σ H (fun vs H1 => spM G c n vs H1 Q (WE W σ)) I (by
    refine tMA_bnd here run post.err fun ds st1 vs L1 H1 h1 e1 a1 dv => ?_
    split at h1
    · rename_i hn
      exact sp_of a1 dv hn h1 (post.ev e1)
    · cases h1)) fun us s1 ⟨vs, H1, I1, rel, wish⟩ => ⟨I1.kIn, run_fnG F room (by
      have b := bd s1 us I1.kIn (by rw [List.append_nil, ← rel.length]; exact F.len _ _ _ _ wish)
      rwa [List.append_nil] at b) (passAt tk σ) I1 rel wish⟩) first plain) ndb)⟩
end
section
variable {P : Program} {w : World} {K : PySem.W.Frag} {mg : Str → Option Value} {base : Heap}
theorem okG {x qual : Str} {st : Stmt} {f : Addr} {fd : FuncData} {N ps : List Str} {k : Nat} {sp : Sp} (F : Fun K x qual st f fd) (S : FnScope N ps (defScope st)) (len : ∀ vs H Q E, sp vs H Q E → vs.length = ps.length)
    (body : ∀ (cdv : Value) (A : Around) (outer : List Env) (s : Shared) (H : Hp) (vs : List V) (Q : VK) (E : XK), RoomG k (A.deeper (envOfC qual (defScope st) s.heap.objs.size f cdv)) → sp vs H Q E →
      ∃ t, PSs (cxOf (L2.CX P w) P w K mg base N qual (defScope st) f cdv A outer s H E) (defBody st) t ∧ t { nx := fun _ H' => Q .non H', rt := Q } (L2.start N vs) H) : FnG P w K mg base (L2.CX P w) (k + 1) f fd ps sp := by
  obtain ⟨_, _, _, _, _, _, cdv, _, _, rfl, look, code⟩ := F.ex
  exact fn_ofG look code S len fun A outer s H vs Q E => body cdv A outer s H vs Q E
theorem FnG.imp {CX : CXT} {k : Nat} {f : Addr} {fd : FuncData} {ps : List Str} {sp sp' : Sp} (F : FnG P w K mg base CX k f fd ps sp) (h : ∀ vs H Q E, sp' vs H Q E → sp vs H Q E) : FnG P w K mg base CX k f fd ps sp' :=
  ⟨fun vs H Q E q => F.len vs H Q E (h _ _ _ _ q), fun A outer s H args us vs Q E room e0 bound rel wish => F.run A outer s H args us vs Q E room e0 bound rel (h _ _ _ _ wish)⟩
end
theorem law_okG {P : Program} {w : World} {K : PySem.W.Frag} {mg : Str → Option Value} {base : Heap} {B : Gb} {k : Nat} {f : Addr} {fd : FuncData} {ps : List Str} {c : Call} (hB : B.K = K) (hc : ∀ ns : List Int, ns.length ≤ 63 → ∃ st, c [.ro (ns.map D.int)] [] = some (.ok (.bl true), st))
    (F : FnG P w K mg base (L2.CX P w) k f fd ps (spM B c 1)) : FnG P w K mg base (L2.CX P w) k f fd ps (spLaw K) := FnG.imp F fun vs H Q E h => by
  obtain ⟨a, ns, rfl, hS, hl, q⟩ := h
  obtain ⟨st, hst⟩ := hc ns hl
  have eo : off ⟨[], []⟩ H = H := by
    funext b
    unfold off
    rw [if_neg]
    rintro (z | z) <;> cases z
  refine ⟨rfl, ⟨[], []⟩, [], [.ro (ns.map D.int)], _, st, ⟨rfl, fun i j a h => ?_, fun i x c h => ?_, fun a h => by cases h⟩, .cons (.d ?_) .nil, hst, fun v L' H' e r va => ?_⟩
  · simp at h
  · simp at h
  · rw [eo]
    exact .ro (hB ▸ hS) (Das.ints ns)
  · cases va.bl_inv
    exact q H'
theorem walkMG {l : PySem.W.OpenLaw} {q : Program} {loose : List Str} {XP : (Str → Option Value) → Heap → Prop} {YP : World → Heap → Prop} {d : DefRec} {K : Params → PySem.W.Frag} (k : Nat) (x : Str) (most : l.most = some 63) (plain : d.params.defaults = []) (room : Room k callerA) (kin : ∀ (w : World) (h : Heap), YP w h → (K w.params).In h)
    (F : ∀ (w : World) (mg : Str → Option Value) (fa : Addr) (h : Heap), (K w.params).In h → h.Ns mainGlobals mg → mg d.name = some (.ref fa) →
      ∃ fd : FuncData, (∀ (s : Shared) (u : Value), BindsTo s fd ⟨[u], []⟩ [(x, u)]) ∧ ∀ base : Heap, (K w.params).In base → base.Ns mainGlobals mg → FnG l.prog w (K w.params) mg base (L2.CX l.prog w) k fa fd [x] (spLaw (K w.params))) :
    PySem.W.WalkO q loose XP YP l.row.toRowW d [] (fun f vs => PySem.call f vs) :=
  walk_ofG (n := 63) (CX := fun w => L2.CX l.prog w) (sp := fun w => spLaw (K w.params)) most (by decide) plain room kin F (fun _ _ a ns len _ sq => ⟨a, ns, rfl, sq, len, fun _ => rfl⟩) fun _ _ _ _ _ z => own_noCX z
end M


/-! repr of lists and tuples of plain data, where no repr is under way. -/
namespace M
open PySem PySem.Spec PyProof.Rows L2
def rReprD (K : PySem.W.Frag) : List V → Hp → VK → Prop := fun xs H Q => ∃ (a : Addr) (d : PyData), xs = [.ref a] ∧ Dp K H (.ref a) d ∧ d.showable = true ∧ d.hasDict = false ∧ d.shown.length ≤ sizeLine ∧ d.depth ≤ 8 ∧ Q (.str d.shown) H
theorem call_reprD {X : Cx} (none_ : X.A.guards = some []) (units : X.A.units + 64 < cLine) : CallR X (.builtin "repr") (rReprD X.K) := by
  rintro pins s σ H xs us Q I r ⟨a, d, rfl, dp, shows, noDict, size, depth, q⟩
  obtain ⟨u, rfl, ru⟩ := vals1 r
  obtain rfl : u = Value.ref a := ru
  obtain ⟨as, reads⟩ := Dp.reads I d (.ref a) (.ref a) dp rfl
  exact repr_of_reads' reads shows (fun z => by rw [noDict] at z; cases z) none_ (by omega) (fun _ _ e => e) (fun h' u tk keep => ⟨.str d.shown, H, I.turnedL (t' := tk) (ch := []) (fun b o _ e => keep b o e) (fun b z => (nomatch z)), ⟨_, rfl⟩, q⟩) size
def isSq : D → Bool
  | .lst _ | .ro _ | .tup _ => true
  | _ => false
def gReprD (st : Store) : List D → Option D
  | [x] => if isSq (rd st x) = true ∧ okD 8 (rd st x) = true ∧ (py (rd st x)).showable = true ∧ (py (rd st x)).hasDict = false ∧ (py (rd st x)).shown.length ≤ sizeLine then some (.str (py (rd st x)).shown) else gRepr st [x]
  | _ => none
theorem rc_reprD {G : Gb} : RCM G (fun xs H Q => rReprD G.K xs H Q ∨ rRepr xs H Q) gReprD := fun L st H xs ds z Q R dv hz k => by
  unfold gReprD at hz
  split at hz
  · rename_i x
    split at hz
    · rename_i ok
      obtain ⟨sq, ok8, shows, noDict, size⟩ := ok
      cases hz
      obtain ⟨v, rfl, hv⟩ := Das.one dv
      have da := rd_da R hv (ok_isD ok8)
      have dp := da_dp 8 _ _ ok8 da
      obtain ⟨a, rfl⟩ : ∃ a, v = V.ref a := by
        revert sq da
        cases rd st x <;> intro sq da <;> first | (cases sq; done) | (cases da <;> exact ⟨_, rfl⟩)
      exact .inl ⟨a, _, rfl, dp, shows, noDict, size, (ok_py 8 _ ok8).2, r_same (.str _) R k⟩
    · exact .inr (rc_repr L st H xs [x] z Q R dv hz k)
  · cases hz
theorem call_reprA {X : Cx} (none_ : X.A.guards = some []) (units : X.A.units + 64 < cLine) : CallR X (.builtin "repr") (fun xs H Q => rReprD X.K xs H Q ∨ rRepr xs H Q) := (call_reprD none_ units).or2 call_repr
end M


/-! repr of dicts whose keys are ints and texts and whose values are plain, where no repr is under way. -/
namespace M
open PySem PySem.Spec PyProof.Rows L2
def encK : Key → PyData
  | .inl i => .int i
  | .inr x => .str x
def FlatV (v : V) (d : PyData) : Prop := ∀ (h : Heap) (u : Value), RelV v u → Reads h u d []
inductive FlatKs : List (Key × V) → List (PyData × PyData) → Prop
  | nil : FlatKs [] []
  | cons {k : Key} {v : V} {d : PyData} {kvs : List (Key × V)} {ds : List (PyData × PyData)} : FlatV v d → FlatKs kvs ds → FlatKs ((k, v) :: kvs) ((encK k, d) :: ds)
theorem FlatKs.reads {h : Heap} : ∀ {kvs : List (Key × V)} {ds : List (PyData × PyData)} {us : List (Key × Value)}, FlatKs kvs ds → KV kvs us → PyProof.V.PairsRead h encK us ds []
  | _, _, _, .nil, .nil => .nil
  | _, _, _, .cons f r, .cons (b := (k, u)) ⟨e, rel⟩ t => by
    obtain rfl := e
    exact .cons (f h u rel) (r.reads t)
def rReprK : List V → Hp → VK → Prop := fun xs H Q => ∃ (a : Addr) (kvs : List (Key × V)) (ds : List (PyData × PyData)), xs = [.ref a] ∧ Rd H a (.dK kvs) ∧ FlatKs kvs ds ∧ (PyData.dict ds).showable = true ∧ (PyData.dict ds).shown.length ≤ sizeLine ∧ (PyData.dict ds).depth ≤ 8 ∧ Q (.str (PyData.dict ds).shown) H
theorem call_reprK {X : Cx} (none_ : X.A.guards = some []) (units : X.A.units + 64 < cLine) : CallR X (.builtin "repr") rReprK := by
  rintro pins s σ H xs us Q I r ⟨a, kvs, ds, rfl, at_, flat, shows, size, depth, q⟩
  obtain ⟨u, rfl, ru⟩ := vals1 r
  obtain rfl : u = Value.ref a := ru
  obtain ⟨_, low, us, rel, dict⟩ : ObjOk X.prog X.w H s.heap a (.dK kvs) := at_.elim (fun e => I.hok a _ e) fun ⟨o, e⟩ => (I.hok a _ e).2
  have reads := PyProof.V.reads_dictOf (h := s.heap) (enc := encK) (fun k key e => by
    rcases keyIs_shape e with ⟨i, t, rfl, rfl⟩ | ⟨x, t, rfl, rfl⟩
    · exact .int i t
    · exact .str x t) dict (flat.reads rel)
  exact repr_of_reads' reads shows (fun _ z => by
    rw [List.mem_singleton] at z
    subst z
    simp at low) none_ (by omega) (fun _ _ e => e) (fun h' u tk keep => ⟨.str _, H, I.turnedL (t' := tk) (ch := []) (fun b o _ e => keep b o e) (fun b z => (nomatch z)), ⟨_, rfl⟩, q⟩) size
def rowsP (kvs : List (Key × D)) : List (PyData × PyData) := kvs.map fun p => (encK p.1, py p.2)
theorem flat_da {G : Gb} {H : Hp} {v : V} {d : D} (h : Da G H v d) (f : flatD d = true) : FlatV v (py d) := by
  cases h <;> first | (cases f; done) | skip
  · intro hp u r; cases r; simp only [py]; exact .none
  · intro hp u r; cases r; simp only [py]; exact .bool _
  · intro hp u r; obtain ⟨t, rfl⟩ := r; simp only [py]; exact .int _ t
  · intro hp u r; obtain ⟨t, rfl⟩ := r; simp only [py]; exact .str _ t
theorem flat_das {G : Gb} {H : Hp} : ∀ {kvs : List (Key × D)} {vs : List (Key × V)}, DasK G H vs kvs → (kvs.all fun p => flatD p.2) = true → FlatKs vs (rowsP kvs)
  | _, _, .nil, _ => .nil
  | _, _, .cons h r, f => by
    rw [List.all_cons, Bool.and_eq_true] at f
    exact .cons (flat_da h f.1) (flat_das r f.2)
def gReprK (st : Store) : List D → Option D
  | [x] => match rd st x with
    | .dK kvs => if (kvs.all fun p => flatD p.2) = true ∧ (PyData.dict (rowsP kvs)).showable = true ∧ (PyData.dict (rowsP kvs)).shown.length ≤ sizeLine ∧ (PyData.dict (rowsP kvs)).depth ≤ 8 then some (.str (PyData.dict (rowsP kvs)).shown) else none
    | _ => gReprD st [x]
  | _ => none
theorem rc_reprK {G : Gb} : RCM G (fun xs H Q => rReprK xs H Q ∨ (rReprD G.K xs H Q ∨ rRepr xs H Q)) gReprK := fun L st H xs ds z Q R dv hz k => by
  unfold gReprK at hz
  split at hz
  · rename_i x
    split at hz
    · rename_i kvs e
      split at hz
      · rename_i ok
        cases hz
        obtain ⟨v, rfl, hv⟩ := Das.one dv
        obtain ⟨a, vs, rfl, at_, r⟩ := rd_dK R hv e
        exact .inl ⟨a, vs, _, rfl, at_, flat_das r ok.1, ok.2.1, ok.2.2.1, ok.2.2.2, r_same (.str _) R k⟩
      · cases hz
    · exact .inr (rc_reprD L st H xs [x] z Q R dv hz k)
  · cases hz
theorem call_reprAll {X : Cx} (none_ : X.A.guards = some []) (units : X.A.units + 64 < cLine) : CallR X (.builtin "repr") (fun xs H Q => rReprK xs H Q ∨ (rReprD X.K xs H Q ∨ rRepr xs H Q)) := (call_reprK none_ units).or2 (call_reprA none_ units)
end M


/-! sum of a tuple of ints; a list some times. -/
namespace M
open PySem PySem.Spec PyProof.Rows L2
def rSumT (K : PySem.W.Frag) : List V → Hp → VK → Prop := fun xs H Q => ∃ (a : Addr) (ns : List Int), xs = [.ref a] ∧ SqT K H a (ns.map V.int) ∧ Q (.int ns.sum) H
theorem ints_at : ∀ {its : List Value} {ns : List Int}, IntsAre its ns → ∀ (i : Nat) (v : Value), its[i]? = some v → ∃ t, v = .int (ns.getD i 0) t
  | _, _, .nil, i, v, e => by simp at e
  | _, _, .cons k t r, 0, v, e => by
    simp at e
    subst e
    exact ⟨t, rfl⟩
  | _, _, .cons k t r, i + 1, v, e => by
    obtain ⟨u, e2⟩ := ints_at r i v (by simpa using e)
    exact ⟨u, by simpa using e2⟩
theorem cr_sumT {X : Cx} (hc : X.calm = true) : CallR X (.builtin "sum") (rSumT X.K) := by
  rintro pins s σ H xs us Q I r ⟨a, ns, rfl, seq, q⟩
  obtain ⟨its, same, tup, _⟩ := I.tuple seq
  rw [Vals.ref1 r]
  have low : a < s.heap.objs.size := IsTup.lt tup
  have many : its.length = ns.length := by rw [← same.length, List.length_map]
  refine PySem.call_sum_walkG (wpAny_pyIter_tuple tup ?_)
  refine ⟨_, _, _, _, _, _, fun i => ns.getD i 0, rfl, Walks.tuple (A := X.A.in1) (I.ok.hd hc) s.heap.objs.size a (Nat.ne_of_lt low) its.toArray, ⟨⟨_, Heap.get?_push_size _ rfl, rfl, rfl⟩, IsTup.push tup _⟩, fun b hb => ?_, fun i v e => ints_at same.ints i v (by simpa using e), fun h' tk t' keep => ?_⟩
  · rw [Heap.size_push]
    rcases List.mem_cons.mp hb with rfl | hb
    · exact Nat.lt_succ_self _
    · rw [List.mem_singleton.mp hb]
      exact Nat.lt_succ_of_lt low
  · refine ⟨.int ns.sum, H, ?_, ⟨t', ?_⟩, q⟩
    · exact I.kept fun b o e => keep b o (fun z => Nat.ne_of_lt (Heap.lt_size e) (List.mem_singleton.mp z)) (Heap.get?_push_of_some _ e)
    · rw [preSum_getD, List.take_of_length_le (by simp [many])]
def gSumA (st : Store) : List D → Option D
  | [x] => match rd st x with
    | .tup ds => (intsD ds).map fun ns => .int ns.sum
    | _ => gSum st [x]
  | _ => none
theorem cr_sumA {X : Cx} (hc : X.calm = true) : CallR X (.builtin "sum") (fun xs H Q => rSumT X.K xs H Q ∨ rSum X.K xs H Q) := (cr_sumT hc).or2 (cr_sum hc)
theorem rc_sumA {G : Gb} : RCM G (fun xs H Q => rSumT G.K xs H Q ∨ rSum G.K xs H Q) gSumA := fun L st H xs ds z Q R dv hz k => by
  unfold gSumA at hz
  split at hz
  · rename_i x
    split at hz
    · rename_i es e
      obtain rfl := rd_tup e
      obtain ⟨v, rfl, hv⟩ := Das.one dv
      obtain ⟨a, vs, rfl, at_, r⟩ := hv.tup_inv
      cases q : intsD es with
      | none => rw [q] at hz; cases hz
      | some ns =>
        rw [q] at hz
        cases hz
        obtain rfl := intsD_vs es vs ns r q
        exact .inl ⟨a, ns, rfl, .inl (.inl (off_some at_).1), r_same (.int _) R k⟩
    · exact .inr (rc_sum L st H xs [x] z Q R dv hz k)
  · cases hz
/-! ### a list some times -/
def gMulL (st : Store) (x y : D) : Option D := match rd st x, rd st y with
  | .lst a, .int k => if -(2 ^ 63) ≤ k ∧ k < 2 ^ 63 ∧ a.length * k.toNat ≤ big then some (.lst (List.replicate k.toNat a).flatten) else none
  | _, _ => none
theorem Das.times {G : Gb} {H : Hp} {vs : List V} {ds : List D} (h : Das G H vs ds) : ∀ n : Nat, Das G H (List.replicate n vs).flatten (List.replicate n ds).flatten
  | 0 => .nil
  | n + 1 => by
    rw [List.replicate_succ, List.replicate_succ, List.flatten_cons, List.flatten_cons]
    exact h.append (Das.times h n)
theorem r2_mulL {G : Gb} : R2M G rRep gMulL := fun L st H x y d e z Q R dx dy hz k => by
  unfold gMulL at hz
  split at hz
  · rename_i xs j h1 h2
    split at hz
    · rename_i ok
      cases hz
      obtain ⟨a, vs, rfl, q1, r1⟩ := rd_off R dx h1
      rw [rd_int h2] at dy
      exact ⟨a, j, vs, rfl, dy.int_inv, q1, ok.1, ok.2.1, by rw [r1.length]; exact big_line ok.2.2, fun p hp => r_new R hp (.lst (Ev.off_new R hp) (Das.mono (new_same R hp) _ _ (r1.times _))) k⟩
    · cases hz
  · cases hz
@[simp] theorem e_mulL {st : Store} {a : List D} {k : Int} (h : -(2 ^ 63) ≤ k ∧ k < 2 ^ 63 ∧ a.length * k.toNat ≤ big) : gMulL st (.lst a) (.int k) = some (.lst (List.replicate k.toNat a).flatten) := if_pos h
end M


/-! try with several clauses that name the exception; one of them hits. -/
namespace M
open PySem PySem.Spec PyProof.Rows L2
abbrev Cls := Value × Nat × (Addr → Value → Option Addr → TS)
inductive Clauses (X : Cx) : List ExceptHandler → List Cls → Prop
  | last : Clauses X [] []
  | one {x n : Str} {c : Value} {i : Nat} {ts : Addr → Value → Option Addr → TS} {b₀ : Stmt} {suite : List Stmt} {np pos' : Pos} {hds : List ExceptHandler} {l : List Cls} (hi : X.N[i]? = some n) (hln : X.env.kindOf n = some .local) (hc : Names X x c)
      (run : ∀ (a : Addr) (oe : Obj) (cls : Value) (d : Option Addr) (pn : List (Addr × Obj)), Zc cls d oe → (∃ vs, oe.data = .fields vs) → PSs (X.suite a ((a, oe) :: pn)) (b₀ :: suite) (ts a cls d)) (more : Clauses X hds l) :
      Clauses X (.ExceptHandler (some (.Name x np)) (some n) (b₀ :: suite) pos' :: hds) ((c, i, ts) :: l)
/-- the first clause that matches takes it; some clause does -/
def wC (K : PySem.W.Frag) (D : Ends) : List Cls → WX
  | [] => W0
  | (c, i, ts) :: r => wAs K c i ts (wC K D r) D
section
variable {X : Cx} {pins : List (Addr × Obj)} {D : Ends}
/-- an exception in flight, met at a handler -/
structure Met (X : Cx) (pins : List (Addr × Obj)) (σ : L2.St) (H : Hp) (cls : Value) (d : Option Addr) (a : Addr) (s : Shared) : Prop where
  free : H a = none
  here : ∃ (B : Heap) (sI : Shared), L2.Inv X pins σ H sI ∧ (∀ (b : Addr) (o : Obj), sI.heap.get? b = some o → ¬b ∈ frs X.stack → B.get? b = some o) ∧ sI.heap.UpToSlots s.heap ∧ s.os = sI.os ∧ AllBare s.gens ∧ HandSPX.FlyingZ B (X.env :: X.outer) a (Zc cls d) s.heap
theorem Met.inv {σ : L2.St} {H : Hp} {cls : Value} {d : Option Addr} {a : Addr} {s : Shared} (m : Met X pins σ H cls d a s) : L2.Inv X pins σ H s := by
  obtain ⟨B, sI, J, old, up, os, bare, fly⟩ := m.here
  exact J.landed old fly.1 up os bare
/-- .. told as the suite of a clause sees it -/
theorem Met.told {σ : L2.St} {H : Hp} {cls : Value} {d : Option Addr} {a : Addr} {s : Shared} (hf : X.env.frame = some X.env.locals) (m : Met X pins σ H cls d a s) :
    ∃ oe, s.heap.get? a = some oe ∧ Zc cls d oe ∧ (∃ vs, oe.data = .fields vs) ∧ L2.Inv (X.suite a ((a, oe) :: (X.pn ++ pins))) [] σ H s := by
  have whole := m.inv
  obtain ⟨B, sI, J, old, up, os, bare, fly⟩ := m.here
  obtain ⟨oe, vs, at_, zc, data⟩ := fly.there
  have apart : ∀ e ∈ X.env :: X.outer, ∀ b, e.frame = some b → a ≠ b := by
    rintro e he b hb rfl
    obtain ⟨_, o, at2, no⟩ := fly.2.2.1.mem (List.mem_filterMap.mpr ⟨e, he, hb⟩)
    exact no vs ((Option.some.inj (at2.symm.trans at_)) ▸ data)
  refine ⟨oe, at_, zc, ⟨vs, data⟩, whole.suite at_ data m.free (apart _ List.mem_cons_self _ hf) fun z => ?_⟩
  obtain ⟨e, he, hb⟩ := List.mem_filterMap.mp z
  exact apart e (List.mem_cons_of_mem _ he) a hb rfl
theorem clauses_run (hf : X.env.frame = some X.env.locals) (hN : X.N.Nodup) (ok : X.Ok) {σ : L2.St} {H : Hp} {cls : Value} {d : Option Addr} {a : Addr} {s : Shared} (m : Met X pins σ H cls d a s) :
    ∀ {hds : List ExceptHandler} {l : List Cls}, Clauses X hds l → wC X.K D l cls d σ H → wpAny (model X.prog X.w) X.A (handleBy (.ref a) X.env hds) (SP X pins D) X.xe s := by
  intro hds l cl
  induction cl with
  | last => exact False.elim
  | @one x n c i ts b₀ suite np pos' hds l hi hln hc run more ih =>
    rintro ⟨b, hit, yes, no⟩
    obtain ⟨oe, at_, zc, data, inn⟩ := m.told hf
    refine wpAny_handleBy_cons (codeAny_handlers_test ?_) (by intro z; cases z)
    have kind : PySem.W.Looks (model X.prog X.w) s.heap (typeOf (.ref a)) cls := fun A Q E s2 same q => wpAny_typeOf_ref (same _ _ at_) (zc.1 ▸ q)
    have name : ∀ {Q : Value → Shared → Prop} {E : Value → Shared → Prop}, Q c s → wpAny (model X.prog X.w) (X.A.mark (some (.ref a))) (eval (.Name x np) X.env) Q E s := fun q => by
      rcases hc.2.2 with known | ⟨unknown, boot, other⟩
      · exact ld_glob (X := X.suite a ((a, oe) :: (X.pn ++ pins))) inn hc.1 known q hc.2.1
      · exact ld_blt (X := X.suite a ((a, oe) :: (X.pn ++ pins))) inn hc.1 unknown boot q other hc.2.1
    refine name ((PySem.W.exm_one m.inv.kIn kind hit).here ?_)
    cases b with
    | false => exact ih (no rfl)
    | true =>
      obtain ⟨B, sI, J, old, up, os, bare, fly⟩ := m.here
      refine codeAny_handlers_suite_as (HandSPX.lands_againZ fly fun h2 fly2 up2 => ?_)
      have m2 : Met X pins σ H cls d a { s with heap := h2 } := ⟨m.free, B, sI, J, old, up.trans up2, os, bare, fly2⟩
      obtain ⟨oe2, at2, zc2, data2, inn2⟩ := m2.told hf
      refine store_ok (X := X.suite a ((a, oe2) :: (X.pn ++ pins))) (v := .ref a) inn2 hN hi (.inl hln) rfl (fun s3 inn3 => ?_) (.inr hln)
      have after : ∀ {s4 : Shared} {σ4 : L2.St} {H4 : Hp} {pn4 : List (Addr × Obj)} {P : L2.St → Hp → Prop} {E : Value → Shared → Prop} {Q : Shared → Prop}, L2.Inv (X.suite a ((a, oe2) :: (X.pn ++ pins))) pn4 σ4 H4 s4 → (∀ s5, L2.Inv X pins (σ4.set i none) H4 s5 → Q s5) →
          wpAny (model X.prog X.w) X.A (do bindName X.env n Value.none; unbindBehindTheSuite X.env n pos') (fun _ s5 => Q s5) E s4 := fun inv k => gone_ok (inv.unsuite ok) hN hi hln k
      refine wpAny_mono ((run a oe2 cls d (X.pn ++ pins) zc2 data2).run [] s3 _ H _ inn3 (yes rfl a m.free)) (fun f s4 e4 => ?_) fun _ _ z => z.elim
      cases f with
      | next =>
        obtain ⟨σ4, H4, inv, q⟩ := e4
        exact after (P := fun _ _ => True) inv fun s5 inv5 => ⟨_, _, inv5, q⟩
      | brk =>
        obtain ⟨σ4, H4, inv, q⟩ := e4
        exact after (P := fun _ _ => True) inv fun s5 inv5 => ⟨_, _, inv5, q⟩
      | cont =>
        obtain ⟨σ4, H4, inv, q⟩ := e4
        exact after (P := fun _ _ => True) inv fun s5 inv5 => ⟨_, _, inv5, q⟩
      | ret u =>
        obtain ⟨v4, σ4, H4, inv, rel, q⟩ := e4
        exact after (P := fun _ _ => True) inv fun s5 inv5 => ⟨_, _, _, inv5, rel, q⟩
theorem ps_clauses {body : List Stmt} {h₀ : ExceptHandler} {hds : List ExceptHandler} {l : List Cls} {pos : Pos} {tb : WX → TS} (hs : X.stack = X.env :: X.outer) (hf : X.env.frame = some X.env.locals) (hN : X.N.Nodup)
    (hb : ∀ (W : WX) (pn : List (Addr × Obj)) (xe : Value → Shared → Prop), Takes (X.tr pn xe) W → PassesOwn (model X.prog X.w) X.A X.env xe → PSs (X.tr pn xe) body (tb W)) (cl : Clauses X (h₀ :: hds) l) :
    PS X (.Try body (h₀ :: hds) [] [] pos) (fun D σ H => tb (wC X.K D l) D σ H) := by
  refine ⟨fun pins s σ H D I h => wpAny_Try_except ?_⟩
  have ok := I.ok
  have takes : Takes (X.tr (X.pn ++ pins) fun e s1 => wpAny (model X.prog X.w) X.A (noteFrame e X.env) (fun _ s2 => wpAny (model X.prog X.w) X.A (setFlight e none) (fun _ s3 => wpAny (model X.prog X.w) X.A (handleBy e X.env (h₀ :: hds)) (SP X pins D) X.xe s3) X.xe s2) X.xe s1) (wC X.K D l) := by
    rintro u s1 ⟨a, B, sI, pn2, σ2, H2, cls, d, rfl, J, old, up, sky, free, os, bare, wish⟩
    have sky2 : Sky B (X.env :: X.outer) a (Zc cls d) X.env.locals s1.heap := hs ▸ sky
    exact Sky.land Zc.steady (by rw [ok.frames, hs]) hf sky2 fun h2 fly up2 => clauses_run (s := { s1 with heap := h2 }) hf hN ok ⟨free, B, sI, J.ofTry ok, old, up.trans up2, os, bare, fly⟩ cl wish
  refine wpAny_mono ((hb _ _ _ takes PassesOwn.looking).run [] s σ H D (I.toTry _) h) (fun f s1 e1 => ?_) fun _ _ z => z
  cases f with
  | next =>
    obtain ⟨σ1, H1, inv, q⟩ := e1
    exact wpAny_execs_nil ⟨σ1, H1, inv.ofTry ok, q⟩
  | brk =>
    obtain ⟨σ1, H1, inv, q⟩ := e1
    exact ⟨σ1, H1, inv.ofTry ok, q⟩
  | cont =>
    obtain ⟨σ1, H1, inv, q⟩ := e1
    exact ⟨σ1, H1, inv.ofTry ok, q⟩
  | ret u =>
    obtain ⟨v, σ1, H1, inv, rel, q⟩ := e1
    exact ⟨v, σ1, H1, inv.ofTry ok, rel, q⟩
end
end M


/-! the mirror of a try with several clauses. -/
namespace M
open PySem PySem.Spec PyProof.Rows L2
abbrev MC := (Nat → Bool) × Nat × (Xn → MS)
def pickX : List MC → Xn → MS
  | [], _ => fun _ _ => none
  | (hit, i, mx) :: r, x => fun env st => if i < env.length then (if hit x.c = true then (match mx x (env.set i none) st with
    | some (.err _, _, _) => none
    | some (.ret d, env2, st2) => some (.ret d, env2, st2)
    | some (fl, env2, st2) => some (fl, env2.set i none, st2)
    | none => none) else pickX r x env st) else none
def mTrys (mb : MS) (ids : List Nat) (cs : List MC) : MS := fun env st => match mb env st with
  | some (.err x, env1, st1) => if x.c ∈ ids then pickX cs x env1 st1 else none
  | r => r
inductive CaOk (G : Gm) (X : Cx) (ids : List Nat) : List ExceptHandler → List MC → List Cls → Prop
  | last : CaOk G X ids [] [] []
  | one {x n : Str} {c : Value} {i : Nat} {b₀ : Stmt} {suite : List Stmt} {np pos' : Pos} {hit : Nat → Bool} {mx : Xn → MS} {hds : List ExceptHandler} {ms : List MC} {l : List Cls} (hK : ∀ k ∈ ids, PySem.W.exmOne X.K (.ref (G.cA k)) c = some (hit k)) (hi : X.N[i]? = some n) (hln : X.env.kindOf n = some .local) (hc : Names X x c)
      (run : ∀ (a : Addr) (oe : Obj) (cls : Value) (d : Option Addr) (pn : List (Addr × Obj)) (z : Xn), Zc cls d oe → (∃ vs, oe.data = .fields vs) → PSs (X.suite a ((a, oe) :: pn)) (b₀ :: suite) (tMS (Gx G i a cls d z) W0 (mx z))) (more : CaOk G X ids hds ms l) :
      CaOk G X ids (.ExceptHandler (some (.Name x np)) (some n) (b₀ :: suite) pos' :: hds) ((hit, i, mx) :: ms) ((c, i, tsX G mx i) :: l)
section
variable {G : Gm} {W : WX} {X : Cx} {ids : List Nat}
theorem CaOk.clauses {hds : List ExceptHandler} {ms : List MC} {l : List Cls} (h : CaOk G X ids hds ms l) : Clauses X hds l := by
  induction h with
  | last => exact .last
  | @one x n c i b₀ suite np pos' hit mx hds ms l hK hi hln hc run more ih => exact .one hi hln hc (fun a oe cls d pn hz hf => ⟨fun pins s σ H D I ⟨z, q⟩ => (run a oe cls d pn z hz hf).run pins s σ H D I q⟩) ih
theorem CaOk.picks (hF : Flat G) {hds : List ExceptHandler} {ms : List MC} {l : List Cls} (h : CaOk G X ids hds ms l) {D : Ends} {L : Lv} {H : Hp} {x : Xn} (hx : x.c ∈ ids) {σ : L2.St} {env : En} {st : Store} {fl : Fl} {env2 : En} {st2 : Store} {dd : Option Addr} (a : At G L st σ env H) (xr : XnR G.toGb (off L H) x (.ref (G.cA x.c)) dd)
    (hm : pickX ms x env st = some (fl, env2, st2)) (hp : SPost G W0 L H env2 st2 D fl) : wC X.K D l (.ref (G.cA x.c)) dd σ H := by
  induction h with
  | last => cases hm
  | @one y n c i b₀ suite np pos' hit mx hds ms l hK hi hln hc run more ih =>
    unfold pickX at hm
    split at hm
    · rename_i hlen
      refine ⟨hit x.c, hK _ hx, fun ht p hp1 => ?_, fun hn => ?_⟩
      · rw [if_pos ht] at hm
        have a1 : At (Gx G i p (.ref (G.cA x.c)) dd x) L st (σ.set i (some (.ref p))) (env.set i none) H :=
          ⟨a.e.other i _, a.r, hF _ _ _ a.p, List.getElem?_set_self (by rw [a.e.len]; exact hlen), xr⟩
        cases hs : mx x (env.set i none) st with
        | none => rw [hs] at hm; cases hm
        | some q =>
          obtain ⟨fl1, env1, st1⟩ := q
          rw [hs] at hm
          refine ⟨x, L, st, _, fl1, env1, st1, a1, hs, ?_⟩
          cases fl1 with
          | err _ => cases hm
          | ret d => cases hm; exact hp
          | next => cases hm; exact fun σ2 L2 H2 e2 r2 en2 => hp _ L2 H2 e2 r2 (en2.other i none)
          | brk => cases hm; exact fun σ2 L2 H2 e2 r2 en2 => hp _ L2 H2 e2 r2 (en2.other i none)
          | cont => cases hm; exact fun σ2 L2 H2 e2 r2 en2 => hp _ L2 H2 e2 r2 (en2.other i none)
      · rw [if_neg (by rw [hn]; exact Bool.false_ne_true)] at hm
        exact ih hm
    · cases hm
theorem pick_noErr : ∀ {ms : List MC} {x y : Xn} {env env2 : En} {st st2 : Store}, pickX ms x env st = some (.err y, env2, st2) → False
  | [], _, _, _, _, _, _, h => by cases h
  | (hit, i, mx) :: r, x, y, env, env2, st, st2, h => by
    unfold pickX at h
    split at h
    · split at h
      · split at h <;> cases h
        rename_i no _ _
        exact no _ rfl
      · exact pick_noErr h
    · cases h
theorem t_trys {mb : MS} {hds : List ExceptHandler} {ms : List MC} {l : List Cls} (ok : CaOk G X ids hds ms l) (hF : Flat G) {D : Ends} {σ : L2.St} {H : Hp} (q : tMS G W (mTrys mb ids ms) D σ H) : tMS G (wC X.K D l) mb D σ H := by
  obtain ⟨L, st, env, fl, env2, st2, at_, hm, hp⟩ := q
  unfold mTrys at hm
  cases hb : mb env st with
  | none => rw [hb] at hm; cases hm
  | some p =>
    obtain ⟨fl1, env1, st1⟩ := p
    rw [hb] at hm
    refine ⟨L, st, env, fl1, env1, st1, at_, hb, ?_⟩
    cases fl1 with
    | next => cases hm; exact hp
    | brk => cases hm; exact hp
    | cont => cases hm; exact hp
    | ret d => cases hm; exact hp
    | err x =>
      dsimp only at hm
      split at hm
      · rename_i hx
        intro cls dd σ1 L1 H1 e1 r1 en1 xr
        obtain rfl := xr.1
        refine ok.picks hF hx ⟨en1, r1, hF _ _ _ (G.up _ _ _ e1.same at_.p)⟩ xr hm ?_
        cases fl with
        | err y => exact (pick_noErr hm).elim
        | next => exact SPost.ev (fl := .next) (W := W) e1 hp
        | brk => exact SPost.ev (fl := .brk) (W := W) e1 hp
        | cont => exact SPost.ev (fl := .cont) (W := W) e1 hp
        | ret d => exact SPost.ev (fl := .ret d) (W := W) e1 hp
      · cases hm
theorem ms_trys {body : List Stmt} {h₀ : ExceptHandler} {hds : List ExceptHandler} {mb : MS} {ms : List MC} {l : List Cls} {pos : Pos} (hs : X.stack = X.env :: X.outer) (hf : X.env.frame = some X.env.locals) (hN : X.N.Nodup)
    (hb : ∀ (W : WX) (pn : List (Addr × Obj)) (xe : Value → Shared → Prop), Takes (X.tr pn xe) W → PassesOwn (model X.prog X.w) X.A X.env xe → PSs (X.tr pn xe) body (tMS G W mb)) (ok : CaOk G X ids (h₀ :: hds) ms l) (hF : Flat G := by exact fun _ _ _ h => h) :
    PS X (.Try body (h₀ :: hds) [] [] pos) (tMS G W (mTrys mb ids ms)) :=
  PSimp (ps_clauses (tb := fun W => tMS G W mb) hs hf hN hb ok.clauses) fun D σ H q => t_trys ok hF q
end
end M


/-! repr of dicts whose keys are tuples of ints and texts and whose values are plain, where no repr is under way. -/
namespace M
open PySem PySem.Spec PyProof.Rows L2
def encT (ks : List Key) : PyData := .tuple (ks.map encK)
inductive FlatTs : List (List Key × V) → List (PyData × PyData) → Prop
  | nil : FlatTs [] []
  | cons {k : List Key} {v : V} {d : PyData} {kvs : List (List Key × V)} {ds : List (PyData × PyData)} : FlatV v d → FlatTs kvs ds → FlatTs ((k, v) :: kvs) ((encT k, d) :: ds)
theorem key_reads {h : Heap} : ∀ {ks : List Key} {us : List Value}, Vals (ks.map kV) us → ReadsAll h us (ks.map encK) []
  | [], _, .nil => .nil
  | k :: ks, _, .cons r t => by
    have one : ∀ u, RelV (kV k) u → Reads h u (encK k) [] := fun u r => by
      rcases k with i | x
      · obtain ⟨t, rfl⟩ := r
        exact .int i t
      · obtain ⟨t, rfl⟩ := r
        exact .str x t
    exact ReadsAll.cons (one _ r) (key_reads t)
theorem tup_reads {P : Program} {w : World} {H : Hp} {h : Heap} (ok : HOk P w H h) {t : Addr} {ks : List Key} (at_ : H t = some (.tup (ks.map kV))) : Reads h (.ref t) (encT ks) [] := by
  obtain ⟨_, its, r, o, e, cls, n, data⟩ := ok t _ at_
  exact .tuple e cls data (key_reads r)
theorem rows_reads {P : Program} {w : World} {H : Hp} {h : Heap} (ok : HOk P w H h) : ∀ {kvs : List (List Key × V)} {ds : List (PyData × PyData)} {xs : List (List Key × Addr × Value)}, FlatTs kvs ds → Paired (fun (p : List Key × V) (q : List Key × Addr × Value) => p.1 = q.1 ∧ H q.2.1 = some (.tup (p.1.map kV)) ∧ RelV p.2 q.2.2) kvs xs →
    ReadsAll h (xs.map fun q => .ref q.2.1) (ds.map (·.1)) [] ∧ ReadsAll h (xs.map fun q => q.2.2) (ds.map (·.2)) []
  | _, _, _, .nil, .nil => ⟨.nil, .nil⟩
  | _, _, _, .cons f r, .cons ⟨_, tup, rel⟩ t => ⟨ReadsAll.cons (tup_reads ok tup) (rows_reads ok r t).1, ReadsAll.cons (f h _ rel) (rows_reads ok r t).2⟩
def rReprT : List V → Hp → VK → Prop := fun xs H Q => ∃ (a : Addr) (kvs : List (List Key × V)) (ds : List (PyData × PyData)), xs = [.ref a] ∧ Rd H a (.dT kvs) ∧ FlatTs kvs ds ∧ (PyData.dict ds).showable = true ∧ (PyData.dict ds).shown.length ≤ sizeLine ∧ (PyData.dict ds).depth ≤ 8 ∧ Q (.str (PyData.dict ds).shown) H
theorem call_reprT {X : Cx} (none_ : X.A.guards = some []) (units : X.A.units + 64 < cLine) : CallR X (.builtin "repr") rReprT := by
  rintro pins s σ H xs us Q I r ⟨a, kvs, ds, rfl, at_, flat, shows, size, depth, q⟩
  obtain ⟨u, rfl, ru⟩ := vals1 r
  obtain rfl : u = Value.ref a := ru
  obtain ⟨_, low, rows, paired, o, es, ep, e, exact_, data, list, _⟩ : ObjOk X.prog X.w H s.heap a (.dT kvs) := at_.elim (fun e => I.hok a _ e) fun ⟨o, e⟩ => (I.hok a _ e).2
  obtain ⟨keys, vals⟩ := rows_reads I.hok flat paired
  have reads : Reads s.heap (.ref a) (.dict ds) (a :: [] ++ []) := .dict e exact_.1 data (by rw [list, List.map_map]; exact keys) (by rw [list, List.map_map]; exact vals)
  exact repr_of_reads' reads shows (fun _ z => by
    simp at z
    subst z
    simp at low) none_ (by omega) (fun _ _ e => e) (fun h' u tk keep => ⟨.str _, H, I.turnedL (t' := tk) (ch := []) (fun b o _ e => keep b o e) (fun b z => (nomatch z)), ⟨_, rfl⟩, q⟩) size
def rowsT (kvs : List (List Key × D)) : List (PyData × PyData) := kvs.map fun p => (encT p.1, py p.2)
theorem flat_dasT {G : Gb} {H : Hp} : ∀ {kvs : List (List Key × D)} {vs : List (List Key × V)}, DasT G H vs kvs → (kvs.all fun p => flatD p.2) = true → FlatTs vs (rowsT kvs)
  | _, _, .nil, _ => .nil
  | _, _, .cons h r, f => by
    rw [List.all_cons, Bool.and_eq_true] at f
    exact .cons (flat_da h f.1) (flat_dasT r f.2)
def gReprT (st : Store) : List D → Option D
  | [x] => match rd st x with
    | .dT kvs => if (kvs.all fun p => flatD p.2) = true ∧ (PyData.dict (rowsT kvs)).showable = true ∧ (PyData.dict (rowsT kvs)).shown.length ≤ sizeLine ∧ (PyData.dict (rowsT kvs)).depth ≤ 8 then some (.str (PyData.dict (rowsT kvs)).shown) else none
    | _ => gReprK st [x]
  | _ => none
theorem rc_reprT {G : Gb} : RCM G (fun xs H Q => rReprT xs H Q ∨ (rReprK xs H Q ∨ (rReprD G.K xs H Q ∨ rRepr xs H Q))) gReprT := fun L st H xs ds z Q R dv hz k => by
  unfold gReprT at hz
  split at hz
  · rename_i x
    split at hz
    · rename_i kvs e
      split at hz
      · rename_i ok
        cases hz
        obtain ⟨v, rfl, hv⟩ := Das.one dv
        obtain ⟨a, vs, rfl, at_, r⟩ := rd_dT R hv e
        exact .inl ⟨a, vs, _, rfl, at_, flat_dasT r ok.1, ok.2.1, ok.2.2.1, ok.2.2.2, r_same (.str _) R k⟩
      · cases hz
    · exact .inr (rc_reprK L st H xs [x] z Q R dv hz k)
  · cases hz
theorem call_reprAny {X : Cx} (none_ : X.A.guards = some []) (units : X.A.units + 64 < cLine) : CallR X (.builtin "repr") (fun xs H Q => rReprT xs H Q ∨ (rReprK xs H Q ∨ (rReprD X.K xs H Q ∨ rRepr xs H Q))) := (call_reprT none_ units).or2 (call_reprAll none_ units)
end M


namespace Own
open PySem PySem.Spec PyProof.Rows L2 M
def top (i : Nat) : Stmt := PySem.Challenge.pw_ownmarks_k82_clashes.main.body.getD i (.Pass ⟨0, 0, 0, 0⟩)
abbrev s_d_law_numbers : Stmt := (top 34)
abbrev names_d_law_numbers : List Str := ["_law_cell", "_law_salt", "_law_many", "_law_whole", "_law_left", "_law_result", "_law_k", "_law_one"]
abbrev ps_d_law_numbers : List Str := ["_law_cell", "_law_salt", "_law_many"]
theorem sc_d_law_numbers : FnScope names_d_law_numbers ps_d_law_numbers (defScope s_d_law_numbers) := ⟨rfl, rfl, rfl, by decide +kernel, rfl, by decide +kernel, by decide +kernel⟩
abbrev s_d_law_opened : Stmt := (top 35)
abbrev names_d_law_opened : List Str := ["_law_script", "_law_k", "_law_many", "_law_cell"]
abbrev ps_d_law_opened : List Str := ["_law_script", "_law_k", "_law_many"]
theorem sc_d_law_opened : FnScope names_d_law_opened ps_d_law_opened (defScope s_d_law_opened) := ⟨rfl, rfl, rfl, by decide +kernel, rfl, by decide +kernel, by decide +kernel⟩
abbrev s_d_law_draw : Stmt := (top 36)
abbrev names_d_law_draw : List Str := ["_law_pool", "_law_many", "_law_at"]
abbrev ps_d_law_draw : List Str := ["_law_pool", "_law_many"]
theorem sc_d_law_draw : FnScope names_d_law_draw ps_d_law_draw (defScope s_d_law_draw) := ⟨rfl, rfl, rfl, by decide +kernel, rfl, by decide +kernel, by decide +kernel⟩
abbrev s_d_law_words : Stmt := (top 37)
abbrev names_d_law_words : List Str := ["_law_pool", "_law_many"]
abbrev ps_d_law_words : List Str := ["_law_pool", "_law_many"]
theorem sc_d_law_words : FnScope names_d_law_words ps_d_law_words (defScope s_d_law_words) := ⟨rfl, rfl, rfl, by decide +kernel, rfl, by decide +kernel, by decide +kernel⟩
abbrev s_d_law_pairs : Stmt := (top 38)
abbrev names_d_law_pairs : List Str := ["_law_words_here", "_law_found", "_law_one", "_law_other"]
abbrev ps_d_law_pairs : List Str := ["_law_words_here"]
theorem sc_d_law_pairs : FnScope names_d_law_pairs ps_d_law_pairs (defScope s_d_law_pairs) := ⟨rfl, rfl, rfl, by decide +kernel, rfl, by decide +kernel, by decide +kernel⟩
abbrev s_d_law_marks : Stmt := (top 39)
abbrev names_d_law_marks : List Str := ["_law_pool", "_law_game", "_law_missing", "_law_found", "_law_pair", "_law_is_none"]
abbrev ps_d_law_marks : List Str := ["_law_pool", "_law_game", "_law_missing"]
theorem sc_d_law_marks : FnScope names_d_law_marks ps_d_law_marks (defScope s_d_law_marks) := ⟨rfl, rfl, rfl, by decide +kernel, rfl, by decide +kernel, by decide +kernel⟩
abbrev s_check_crowd : Stmt := (top 18)
abbrev names_check_crowd : List Str := ["value"]
abbrev ps_check_crowd : List Str := ["value"]
theorem sc_check_crowd : FnScope names_check_crowd ps_check_crowd (defScope s_check_crowd) := ⟨rfl, rfl, rfl, by decide +kernel, rfl, by decide +kernel, by decide +kernel⟩
abbrev s_Crowd_pairs : Stmt := (inClass (top 17) 7)
abbrev names_Crowd_pairs : List Str := ["self", "one", "other"]
abbrev ps_Crowd_pairs : List Str := ["self"]
theorem sc_Crowd_pairs : FnScope names_Crowd_pairs ps_Crowd_pairs (defScope s_Crowd_pairs) := ⟨rfl, rfl, rfl, by decide +kernel, rfl, by decide +kernel, by decide +kernel⟩
abbrev s_is_word : Stmt := (top 15)
abbrev names_is_word : List Str := ["value", "sign"]
abbrev ps_is_word : List Str := ["value"]
theorem sc_is_word : FnScope names_is_word ps_is_word (defScope s_is_word) := ⟨rfl, rfl, rfl, by decide +kernel, rfl, by decide +kernel, by decide +kernel⟩
abbrev s_Crowd__ucontains_u : Stmt := (inClass (top 17) 4)
abbrev names_Crowd__ucontains_u : List Str := ["self", "person"]
abbrev ps_Crowd__ucontains_u : List Str := ["self", "person"]
theorem sc_Crowd__ucontains_u : FnScope names_Crowd__ucontains_u ps_Crowd__ucontains_u (defScope s_Crowd__ucontains_u) := ⟨rfl, rfl, rfl, by decide +kernel, rfl, by decide +kernel, by decide +kernel⟩
abbrev s_Crowd_is_pair : Stmt := (inClass (top 17) 8)
abbrev names_Crowd_is_pair : List Str := ["self", "value"]
abbrev ps_Crowd_is_pair : List Str := ["self", "value"]
theorem sc_Crowd_is_pair : FnScope names_Crowd_is_pair ps_Crowd_is_pair (defScope s_Crowd_is_pair) := ⟨rfl, rfl, rfl, by decide +kernel, rfl, by decide +kernel, by decide +kernel⟩
abbrev s_is_count : Stmt := (top 9)
abbrev names_is_count : List Str := ["value", "least", "most"]
abbrev ps_is_count : List Str := ["value", "least", "most"]
theorem sc_is_count : FnScope names_is_count ps_is_count (defScope s_is_count) := ⟨rfl, rfl, rfl, by decide +kernel, rfl, by decide +kernel, by decide +kernel⟩
abbrev s_is_mark : Stmt := (top 20)
abbrev names_is_mark : List Str := ["crowd", "value"]
abbrev ps_is_mark : List Str := ["crowd", "value"]
theorem sc_is_mark : FnScope names_is_mark ps_is_mark (defScope s_is_mark) := ⟨rfl, rfl, rfl, by decide +kernel, rfl, by decide +kernel, by decide +kernel⟩
abbrev s_Page_new : Stmt := (inClass (top 21) 0)
abbrev names_Page_new : List Str := ["self", "crowd", "marks", "pair"]
abbrev ps_Page_new : List Str := ["self", "crowd", "marks"]
theorem sc_Page_new : FnScope names_Page_new ps_Page_new (defScope s_Page_new) := ⟨rfl, rfl, rfl, by decide +kernel, rfl, by decide +kernel, by decide +kernel⟩
abbrev s_are_people : Stmt := (top 16)
abbrev names_are_people : List Str := ["value", "one"]
abbrev ps_are_people : List Str := ["value"]
theorem sc_are_people : FnScope names_are_people ps_are_people (defScope s_are_people) := ⟨rfl, rfl, rfl, by decide +kernel, rfl, by decide +kernel, by decide +kernel⟩
abbrev s_Crowd_new : Stmt := (inClass (top 17) 0)
abbrev names_Crowd_new : List Str := ["self", "people", "most", "at", "person"]
abbrev ps_Crowd_new : List Str := ["self", "people", "most"]
theorem sc_Crowd_new : FnScope names_Crowd_new ps_Crowd_new (defScope s_Crowd_new) := ⟨rfl, rfl, rfl, by decide +kernel, rfl, by decide +kernel, by decide +kernel⟩
abbrev s_d_law_clashes : Stmt := (top 40)
abbrev names_d_law_clashes : List Str := ["_law_words_here", "_law_marks_here", "_law_spread", "_law_found", "_law_at", "_law_one", "_law_other", "_law_marked", "_law_first", "_law_last", "_law_word"]
abbrev ps_d_law_clashes : List Str := ["_law_words_here", "_law_marks_here", "_law_spread"]
theorem sc_d_law_clashes : FnScope names_d_law_clashes ps_d_law_clashes (defScope s_d_law_clashes) := ⟨rfl, rfl, rfl, by decide +kernel, rfl, by decide +kernel, by decide +kernel⟩
abbrev s_BadArgument_new : Stmt := (inClass (top 6) 0)
abbrev names_BadArgument_new : List Str := ["self", "value"]
abbrev ps_BadArgument_new : List Str := ["self", "value"]
theorem sc_BadArgument_new : FnScope names_BadArgument_new ps_BadArgument_new (defScope s_BadArgument_new) := ⟨rfl, rfl, rfl, by decide +kernel, rfl, by decide +kernel, by decide +kernel⟩
abbrev s_BadNumber_new : Stmt := (inClass (top 7) 0)
abbrev names_BadNumber_new : List Str := ["self", "number"]
abbrev ps_BadNumber_new : List Str := ["self", "number"]
theorem sc_BadNumber_new : FnScope names_BadNumber_new ps_BadNumber_new (defScope s_BadNumber_new) := ⟨rfl, rfl, rfl, by decide +kernel, rfl, by decide +kernel, by decide +kernel⟩
abbrev s_check_spread : Stmt := (top 23)
abbrev names_check_spread : List Str := ["page", "spread"]
abbrev ps_check_spread : List Str := ["page", "spread"]
theorem sc_check_spread : FnScope names_check_spread ps_check_spread (defScope s_check_spread) := ⟨rfl, rfl, rfl, by decide +kernel, rfl, by decide +kernel, by decide +kernel⟩
abbrev s_couples : Stmt := (top 25)
abbrev names_couples : List Str := ["people", "at", "one", "other"]
abbrev ps_couples : List Str := ["people"]
theorem sc_couples : FnScope names_couples ps_couples (defScope s_couples) := ⟨rfl, rfl, rfl, by decide +kernel, rfl, by decide +kernel, by decide +kernel⟩
abbrev s_Crowd_people : Stmt := (inClass (top 17) 1)
abbrev names_Crowd_people : List Str := ["self"]
abbrev ps_Crowd_people : List Str := ["self"]
theorem sc_Crowd_people : FnScope names_Crowd_people ps_Crowd_people (defScope s_Crowd_people) := ⟨rfl, rfl, rfl, by decide +kernel, rfl, by decide +kernel, by decide +kernel⟩
abbrev s_differs_by : Stmt := (top 24)
abbrev names_differs_by : List Str := ["page", "one", "other", "marked", "first", "second"]
abbrev ps_differs_by : List Str := ["page", "one", "other", "marked"]
theorem sc_differs_by : FnScope names_differs_by ps_differs_by (defScope s_differs_by) := ⟨rfl, rfl, rfl, by decide +kernel, rfl, by decide +kernel, by decide +kernel⟩
abbrev s_clashes : Stmt := (top 26)
abbrev names_clashes : List Str := ["page", "spread", "found", "one", "other", "marked"]
abbrev ps_clashes : List Str := ["page", "spread"]
theorem sc_clashes : FnScope names_clashes ps_clashes (defScope s_clashes) := ⟨rfl, rfl, rfl, by decide +kernel, rfl, by decide +kernel, by decide +kernel⟩
abbrev s_goes_together : Stmt := (top 27)
abbrev names_goes_together : List Str := ["page", "people", "spread", "person", "one", "other", "marked"]
abbrev ps_goes_together : List Str := ["page", "people", "spread"]
theorem sc_goes_together : FnScope names_goes_together ps_goes_together (defScope s_goes_together) := ⟨rfl, rfl, rfl, by decide +kernel, rfl, by decide +kernel, by decide +kernel⟩
abbrev s_least_left_out : Stmt := (top 30)
abbrev names_least_left_out : List Str := ["page", "spread", "apart", "people", "found", "size", "one", "other", "marked", "out"]
abbrev ps_least_left_out : List Str := ["page", "spread"]
theorem sc_least_left_out : FnScope names_least_left_out ps_least_left_out (defScope s_least_left_out) := ⟨rfl, rfl, rfl, by decide +kernel, rfl, by decide +kernel, by decide +kernel⟩
abbrev s_always_left_out : Stmt := (top 31)
abbrev names_always_left_out : List Str := ["page", "spread", "lists", "person", "out"]
abbrev ps_always_left_out : List Str := ["page", "spread"]
theorem sc_always_left_out : FnScope names_always_left_out ps_always_left_out (defScope s_always_left_out) := ⟨rfl, rfl, rfl, by decide +kernel, rfl, by decide +kernel, by decide +kernel⟩
abbrev s_least_spread : Stmt := (top 32)
abbrev names_least_spread : List Str := ["page", "many", "spread"]
abbrev ps_least_spread : List Str := ["page", "many"]
theorem sc_least_spread : FnScope names_least_spread ps_least_spread (defScope s_least_spread) := ⟨rfl, rfl, rfl, by decide +kernel, rfl, by decide +kernel, by decide +kernel⟩
abbrev s_d_law_told : Stmt := (top 41)
abbrev names_d_law_told : List Str := ["_law_way", "_law_page", "_law_people", "_law_spread", "e"]
abbrev ps_d_law_told : List Str := ["_law_way", "_law_page", "_law_people", "_law_spread"]
theorem sc_d_law_told : FnScope names_d_law_told ps_d_law_told (defScope s_d_law_told) := ⟨rfl, rfl, rfl, by decide +kernel, rfl, by decide +kernel, by decide +kernel⟩
abbrev s_law : Stmt := (top 42)
abbrev names_law : List Str := ["_law_script", "_law_k", "_law_pool", "_law_words_here", "_law_most", "_law_game", "_law_missing", "_law_marks_here", "_law_page", "_law_spread", "_law_due", "_law_some", "_law_is_so", "_law_told_here", "_law_odd", "_law_word", "_law_way", "_law_row"]
abbrev ps_law : List Str := ["_law_script"]
theorem sc_law : FnScope names_law ps_law (defScope s_law) := ⟨rfl, rfl, rfl, by decide +kernel, rfl, by decide +kernel, by decide +kernel⟩
/-! ### mirrors -/
def m_d_law_numbers_f0 : MS :=
  (mIfS (mAnd (mVal (mOp gGe (mVar 3) (mOp gPow (mC (.int 10)) (mC (.int 18))))) (mVal (mOp gGt (mVar 4) (mC (.int 0))))) (mSeq (mDrop (mMet gAppend (mVar 5) (mCons (mOp gMod (mCB gInt (mCons (mVar 4) mNil)) (mC (.int 840))) mNil)))
  (mAsg (mOp gDiv (mVar 4) (mC (.int 840))) (.nm 4))) (mSeq (mAsg (mOp gMod (mCB gInt (mCons (mOp gPow (mOp gAdd (mOp gAdd (mOp gMod (mCB gInt (mCons (mVar 3) mNil)) (mC (.int 2147483629))) (mOp gMulI (mC (.int 7717)) (mVar 1))) (mC (.int 3))) (mC (.int 3))) mNil)) (mC (.int 2147483647))) (.nm 7))
  (mSeq (mAsg (mOp gMod (mCB gInt (mCons (mOp gMulI (mOp gAdd (mVar 7) (mOp gMulI (mC (.int 99991)) (mOp gAdd (mVar 6) (mC (.int 1))))) (mOp gAdd (mVar 6) (mC (.int 5)))) mNil)) (mC (.int 2147483629))) (.nm 7))
  (mSeq (mAsg (mOp gMod (mCB gInt (mCons (mOp gMulI (mOp gMod (mCB gInt (mCons (mOp gPow (mVar 7) (mC (.int 5))) mNil)) (mC (.int 2147483647))) (mC (.int 48271))) mNil)) (mC (.int 2147483629))) (.nm 7))
  (mDrop (mMet gAppend (mVar 5) (mCons (mOp gMod (mCB gInt (mCons (mOp gDiv (mVar 7) (mC (.int 16))) mNil)) (mC (.int 840))) mNil)))))))
def m_d_law_numbers : MS :=
  (mSeq (mAsg (mCB gMax2 (mCons (mCB gInt (mCons (mVar 0) mNil)) (mCons (mCB gInt (mCons (mOp gSub (mUn gNeg (mC (.int 1))) (mVar 0)) mNil)) mNil))) (.nm 3))
  (mSeq (mAsg (mVar 3) (.nm 4))
  (mSeq (mAsg (mNew mNil) (.nm 5))
  (mSeq (mFor (mRng1 (mCons (mVar 2) mNil)) (.nm 6) m_d_law_numbers_f0)
  (mRet (mVar 5))))))
def c_d_law_numbers : Call := mkD m_d_law_numbers 8
def m_d_law_opened : MS :=
  (mSeq (mAsg (mIf (mVal (mOp gNe (mVar 0) (mLst mNil))) (mOp gIx (mVar 0) (mVar 1)) (mC (.int 5))) (.nm 3))
  (mRet (mNew (mCons (mCall 3 c_d_law_numbers (mCons (mVar 3) (mCons (mVar 1) (mCons (mVar 2) mNil)))) (mCons (mC (.int 0)) mNil)))))
def c_d_law_opened : Call := mkK m_d_law_opened 4
def m_d_law_draw : MS :=
  (mSeq (mAsg (mOp gIx (mVar 0) (mC (.int 1))) (.nm 2))
  (mSeq (mPut (mVar 0) (mC (.int 1)) (mOp gAdd (mVar 2) (mC (.int 1))))
  (mRet (mIf (mVal (mOp gLt (mVar 2) (mCB gLenA (mCons (mOp gIx (mVar 0) (mC (.int 0))) mNil)))) (mOp gMod (mCB gInt (mCons (mOp gIx (mOp gIx (mVar 0) (mC (.int 0))) (mVar 2)) mNil)) (mVar 1)) (mC (.int 0))))))
def c_d_law_draw : Call := mkD m_d_law_draw 3
def m_d_law_words : MS :=
  (mRet (mSl (mSl (mLst (mCons (mC (.str "cy")) (mCons (mC (.str "ann")) (mCons (mC (.str "di")) (mCons (mC (.str "bo")) (mCons (mC (.str "flo")) (mCons (mC (.str "ed")) mNil))))))) (moSome (mCall 2 c_d_law_draw (mCons (mVar 0) (mCons (mC (.int 3)) mNil)))) moNone) moNone (moSome (mVar 1))))
def c_d_law_words : Call := mkD m_d_law_words 2
def m_d_law_pairs_f0 : MS :=
  (mAsg (mOp gAdd (mVar 1) (mLc (mItL (mVar 0)) (.nm 3) (mVal (mOp gNe (mVar 3) (mVar 2))) (mTup (mCons (mVar 2) (mCons (mVar 3) mNil))) [3])) (.nm 1))
def m_d_law_pairs : MS :=
  (mSeq (mAsg (mLst mNil) (.nm 1))
  (mSeq (mFor (mItL (mVar 0)) (.nm 2) m_d_law_pairs_f0)
  (mRet (mVar 1))))
def c_d_law_pairs : Call := mkD m_d_law_pairs 4
def m_d_law_marks_f0 : MS :=
  (mSeq (mAsg (mAndV (mOp gGt (mVar 2) (mC (.int 0))) (mOp gEq (mCall 2 c_d_law_draw (mCons (mVar 0) (mCons (mVar 2) mNil))) (mC (.int 0)))) (.nm 5))
  (mDPut (mVar 3) (mVar 4) (mIf (mVal (mVar 5)) (mC .non) (mCall 2 c_d_law_draw (mCons (mVar 0) (mCons (mOp gAdd (mOp gDGetR (mVar 1) (mC (.str "most"))) (mC (.int 1))) mNil))))))
def m_d_law_marks : MS :=
  (mSeq (mAsg mDNewT (.nm 3))
  (mSeq (mFor (mItL (mCall 1 c_d_law_pairs (mCons (mOp gDGetR (mVar 1) (mC (.str "words"))) mNil))) (.nm 4) m_d_law_marks_f0)
  (mRet (mVar 3))))
def c_d_law_marks : Call := mkD m_d_law_marks 6
def m_check_crowd : MS :=
  (mIfS (mNot (mVal (mCB (gIsi [6, 7]) (mCons (mVar 0) (mCons (mC (.cls 6)) mNil))))) mNever mNext)
def c_check_crowd : Call := mkD m_check_crowd 1
def m_Crowd_pairs : MS :=
  (mRet (mLc2 (mItD (mUn (gFld [6] "own_places") (mVar 0))) (.nm 1) tYesM (mItD (mUn (gFld [6] "own_places") (mVar 0))) (.nm 2) (mVal (mOp gNe (mVar 1) (mVar 2))) (mTup (mCons (mVar 1) (mCons (mVar 2) mNil))) [1, 2] [2]))
def c_Crowd_pairs : Call := mkD m_Crowd_pairs 3
def m_is_word : MS :=
  (mSeq (mIfS (mOr (mNot (mVal (mCB (gIsi [6, 7]) (mCons (mVar 0) (mCons (mC (.ty .str)) mNil))))) (mNot (mVal (mChain gLe gLe (mC (.int 1)) (mCB gLenA (mCons (mVar 0) mNil)) (mC (.int 8)))))) (mRet (mC (.bl false))) mNext)
  (mRet (mCB gAll (mCons (mLc (mItStr (mVar 0)) (.nm 1) tYesM (mOp gInSign (mVar 1) (mC (.str "abcdefghijklmnopqrstuvwxyz"))) [1]) mNil))))
def c_is_word : Call := mkD m_is_word 2
def m_Crowd__ucontains_u : MS :=
  (mRet (mAndV (mCall 1 c_is_word (mCons (mVar 1) mNil)) (mOp gDIn (mVar 1) (mUn (gFld [6] "own_places") (mVar 0)))))
def c_Crowd__ucontains_u : Call := mkD m_Crowd__ucontains_u 2
def m_Crowd_is_pair : MS :=
  (mSeq (mIfS (mOr (mNot (mVal (mCB (gIsi [6, 7]) (mCons (mVar 1) (mCons (mC (.ty .tup)) mNil))))) (mVal (mOp gNe (mCB gLenA (mCons (mVar 1) mNil)) (mC (.int 2))))) (mRet (mC (.bl false))) mNext)
  (mRet (mAndV (mOpS (gInO 6 c_Crowd__ucontains_u false) (mOp gIx (mVar 1) (mC (.int 0))) (mVar 0)) (mAndV (mOpS (gInO 6 c_Crowd__ucontains_u false) (mOp gIx (mVar 1) (mC (.int 1))) (mVar 0)) (mOp gNe (mOp gIx (mVar 1) (mC (.int 0))) (mOp gIx (mVar 1) (mC (.int 1))))))))
def c_Crowd_is_pair : Call := mkD m_Crowd_is_pair 2
def m_is_count : MS :=
  (mRet (mAndV (mCB (gIsi [6, 7]) (mCons (mVar 0) (mCons (mC (.ty .int)) mNil))) (mAndV (mNotV (mCB (gIsi [6, 7]) (mCons (mVar 0) (mCons (mC (.ty .bl)) mNil)))) (mChain gLe gLe (mVar 1) (mVar 0) (mVar 2)))))
def c_is_count : Call := mkD m_is_count 3
def m_is_mark : MS :=
  (mRet (mOrV (mOp (gIsN false) (mVar 1) (mC .non)) (mCall 3 c_is_count (mCons (mVar 1) (mCons (mC (.int 0)) (mCons (mUn (gFld [6] "most") (mVar 0)) mNil))))))
def c_is_mark : Call := mkD m_is_mark 2
def m_Page_new : MS :=
  (mSeq (mDrop (mCall 1 c_check_crowd (mCons (mVar 1) mNil)))
  (mSeq (mIfS (mOr (mNot (mVal (mCB (gIsi [6, 7]) (mCons (mVar 2) (mCons (mC (.ty .dic)) mNil))))) (mVal (mOp gNe (mCB gLenA (mCons (mVar 2) mNil)) (mCB gLenA (mCons (mMth 6 "pairs" 1 c_Crowd_pairs (mVar 1) mNil) mNil))))) mNever mNext)
  (mSeq (mIfS (mNot (mVal (mCB gAll (mCons (mLc (mItD (mVar 2)) (.nm 3) tYesM (mAndV (mMth 6 "is_pair" 2 c_Crowd_is_pair (mVar 1) (mCons (mVar 3) mNil)) (mCall 2 c_is_mark (mCons (mVar 1) (mCons (mOp gDGetR (mVar 2) (mVar 3)) mNil)))) [3]) mNil)))) mNever mNext)
  (mSeq (mSFld [7] "crowd" (mVar 0) (mVar 1))
  (mSFld [7] "own_marks" (mVar 0) (mDcT (mItL (mMth 6 "pairs" 1 c_Crowd_pairs (mVar 1) mNil)) (.nm 3) tYesM (mVar 3) (mOp gDGetR (mVar 2) (mVar 3)) [3]))))))
def c_Page_new : Call := mkD m_Page_new 4
def m_are_people : MS :=
  (mSeq (mIfS (mOr (mNot (mVal (mCB (gIsi [6, 7]) (mCons (mVar 0) (mCons (mTup (mCons (mC (.ty .lst)) (mCons (mC (.ty .tup)) mNil))) mNil))))) (mNot (mVal (mChain gLe gLe (mC (.int 1)) (mCB gLenA (mCons (mVar 0) mNil)) (mC (.int 8)))))) (mRet (mC (.bl false))) mNext)
  (mRet (mAndV (mCB gAll (mCons (mLc (mItL (mVar 0)) (.nm 1) tYesM (mCall 1 c_is_word (mCons (mVar 1) mNil)) [1]) mNil)) (mOp gEq (mCB gLenA (mCons (mDc (mItL (mVar 0)) (.nm 1) tYesM (mVar 1) (mC (.int 1)) [1]) mNil)) (mCB gLenA (mCons (mVar 0) mNil))))))
def c_are_people : Call := mkD m_are_people 2
def m_Crowd_new : MS :=
  (mSeq (mIfS (mNot (mVal (mCall 1 c_are_people (mCons (mVar 1) mNil)))) mNever mNext)
  (mSeq (mIfS (mNot (mVal (mCall 3 c_is_count (mCons (mVar 2) (mCons (mC (.int 1)) (mCons (mC (.int 10)) mNil)))))) mNever mNext)
  (mSeq (mSFld [6] "own_places" (mVar 0) (mDc (mEnum (mVar 1)) (.tp [3, 4]) tYesM (mVar 4) (mVar 3) [3, 4]))
  (mSFld [6] "most" (mVar 0) (mVar 2)))))
def c_Crowd_new : Call := mkD m_Crowd_new 5
def m_d_law_clashes_f0 : MS :=
  (mSeq (mPar 8 9 (mCons (mOp gDGetR (mVar 1) (mTup (mCons (mVar 5) (mCons (mVar 7) mNil)))) (mCons (mOp gDGetR (mVar 1) (mTup (mCons (mVar 6) (mCons (mVar 7) mNil)))) mNil)))
  (mIfS (mAnd (mVal (mOp (gIsN true) (mVar 8) (mC .non))) (mAnd (mVal (mOp (gIsN true) (mVar 9) (mC .non))) (mVal (mOp gGt (mCB gMax2 (mCons (mCB gInt (mCons (mOp gSub (mVar 8) (mVar 9)) mNil)) (mCons (mCB gInt (mCons (mOp gSub (mVar 9) (mVar 8)) mNil)) mNil))) (mVar 2))))) (mDrop (mMet gAppend (mVar 3) (mCons (mTup (mCons (mVar 5) (mCons (mVar 6) (mCons (mVar 7) mNil)))) mNil))) mNext))
def m_d_law_clashes_f1 : MS :=
  (mFor (mItL (mLc (mItL (mVar 0)) (.nm 10) (mVal (mOp (gInF true) (mVar 10) (mLst (mCons (mVar 5) (mCons (mVar 6) mNil))))) (mVar 10) [10])) (.nm 7) m_d_law_clashes_f0)
def m_d_law_clashes_f2 : MS :=
  (mFor (mItL (mSl (mVar 0) (moSome (mOp gAdd (mVar 4) (mC (.int 1)))) moNone)) (.nm 6) m_d_law_clashes_f1)
def m_d_law_clashes : MS :=
  (mSeq (mAsg (mNew mNil) (.nm 3))
  (mSeq (mFor (mEnum (mVar 0)) (.tp [4, 5]) m_d_law_clashes_f2)
  (mRet (mVar 3))))
def c_d_law_clashes : Call := mkD m_d_law_clashes 11
def m_check_spread : MS :=
  (mSeq (mIfS (mNot (mVal (mCB (gIsi [6, 7]) (mCons (mVar 0) (mCons (mC (.cls 7)) mNil))))) (mRaise 4 "value" (mVar 0)) mNext)
  (mIfS (mNot (mVal (mCall 3 c_is_count (mCons (mVar 1) (mCons (mC (.int 0)) (mCons (mUn (gFld [6] "most") (mUn (gFld [7] "crowd") (mVar 0))) mNil)))))) (mRaise 5 "number" (mVar 1)) mNext))
def c_check_spread : Call := mkD m_check_spread 2
def m_couples : MS :=
  (mRet (mLc2 (mEnum (mVar 0)) (.tp [1, 2]) tYesM (mItL (mSl (mVar 0) (moSome (mOp gAdd (mVar 1) (mC (.int 1)))) moNone)) (.nm 3) tYesM (mTup (mCons (mVar 2) (mCons (mVar 3) mNil))) [1, 2, 3] [3]))
def c_couples : Call := mkD m_couples 4
def m_Crowd_people : MS :=
  (mRet (mCB gListT (mCons (mUn (gFld [6] "own_places") (mVar 0)) mNil)))
def c_Crowd_people : Call := mkD m_Crowd_people 1
def m_differs_by : MS :=
  (mSeq (mIfS (mVal (mOp (gInF false) (mVar 3) (mTup (mCons (mVar 1) (mCons (mVar 2) mNil))))) (mRet (mC (.int 0))) mNext)
  (mSeq (mPar 4 5 (mCons (mOp gDGetR (mUn (gFld [7] "own_marks") (mVar 0)) (mTup (mCons (mVar 1) (mCons (mVar 3) mNil)))) (mCons (mOp gDGetR (mUn (gFld [7] "own_marks") (mVar 0)) (mTup (mCons (mVar 2) (mCons (mVar 3) mNil)))) mNil)))
  (mRet (mIf (mOr (mVal (mOp (gIsN false) (mVar 4) (mC .non))) (mVal (mOp (gIsN false) (mVar 5) (mC .non)))) (mC (.int 0)) (mCB gMax2 (mCons (mCB gInt (mCons (mOp gSub (mVar 4) (mVar 5)) mNil)) (mCons (mCB gInt (mCons (mOp gSub (mVar 5) (mVar 4)) mNil)) mNil)))))))
def c_differs_by : Call := mkD m_differs_by 6
def m_clashes_f0 : MS :=
  (mIfS (mVal (mOp gGt (mCall 4 c_differs_by (mCons (mVar 0) (mCons (mVar 3) (mCons (mVar 4) (mCons (mVar 5) mNil))))) (mVar 1))) (mDrop (mMet gAppend (mVar 2) (mCons (mTup (mCons (mVar 3) (mCons (mVar 4) (mCons (mVar 5) mNil)))) mNil))) mNext)
def m_clashes_f1 : MS :=
  (mFor (mItL (mProp 6 c_Crowd_people (mUn (gFld [7] "crowd") (mVar 0)))) (.nm 5) m_clashes_f0)
def m_clashes : MS :=
  (mSeq (mDrop (mCall 2 c_check_spread (mCons (mVar 0) (mCons (mVar 1) mNil))))
  (mSeq (mAsg (mNew mNil) (.nm 2))
  (mSeq (mFor (mItL (mCall 1 c_couples (mCons (mProp 6 c_Crowd_people (mUn (gFld [7] "crowd") (mVar 0))) mNil))) (.tp [3, 4]) m_clashes_f1)
  (mRet (mVar 2)))))
def c_clashes : Call := mkD m_clashes 6
def m_goes_together : MS :=
  (mSeq (mIfS (mNot (mVal (mCB (gIsi [6, 7]) (mCons (mVar 0) (mCons (mC (.cls 7)) mNil))))) (mRaise 4 "value" (mVar 0)) mNext)
  (mSeq (mIfS (mOr (mNot (mVal (mCB (gIsi [6, 7]) (mCons (mVar 1) (mCons (mTup (mCons (mC (.ty .lst)) (mCons (mC (.ty .tup)) mNil))) mNil))))) (mNot (mVal (mCB gAll (mCons (mLc (mItS (mVar 1)) (.nm 3) tYesM (mOpS (gInO 6 c_Crowd__ucontains_u false) (mVar 3) (mUn (gFld [7] "crowd") (mVar 0))) [3]) mNil))))) (mRaise 4 "value" (mVar 1)) mNext)
  (mSeq (mIfS (mVal (mOp gNe (mCB gLenA (mCons (mDc (mItS (mVar 1)) (.nm 3) tYesM (mVar 3) (mC (.int 1)) [3]) mNil)) (mCB gLenA (mCons (mVar 1) mNil)))) (mRaise 4 "value" (mVar 1)) mNext)
  (mSeq (mDrop (mCall 2 c_check_spread (mCons (mVar 0) (mCons (mVar 2) mNil))))
  (mRet (mNotV (mCB gAny (mCons (mLc (mItL (mCall 2 c_clashes (mCons (mVar 0) (mCons (mVar 2) mNil)))) (.tp [4, 5, 6]) tYesM (mAndV (mOp (gInF false) (mVar 4) (mVar 1)) (mOp (gInF false) (mVar 5) (mVar 1))) [4, 5, 6]) mNil))))))))
def c_goes_together : Call := mkD m_goes_together 7
def m_least_left_out : MS :=
  (mSeq (mAsg (mCB gListT (mCons (mDcT (mItL (mCall 2 c_clashes (mCons (mVar 0) (mCons (mVar 1) mNil)))) (.tp [6, 7, 8]) tYesM (mTup (mCons (mVar 6) (mCons (mVar 7) mNil))) (mC (.int 1)) [6, 7, 8]) mNil)) (.nm 2))
  mNever)
def c_least_left_out : Call := mkD m_least_left_out 10
def m_always_left_out : MS :=
  (mSeq (mAsg (mCall 2 c_least_left_out (mCons (mVar 0) (mCons (mVar 1) mNil))) (.nm 2))
  mNever)
def c_always_left_out : Call := mkD m_always_left_out 5
def m_least_spread : MS :=
  (mSeq (mIfS (mNot (mVal (mCB (gIsi [6, 7]) (mCons (mVar 0) (mCons (mC (.cls 7)) mNil))))) (mRaise 4 "value" (mVar 0)) mNext)
  (mSeq (mIfS (mNot (mVal (mCall 3 c_is_count (mCons (mVar 1) (mCons (mC (.int 0)) (mCons (mC (.int 8)) mNil)))))) (mRaise 5 "number" (mVar 1)) mNext)
  mNever))
def c_least_spread : Call := mkD m_least_spread 3
def m_d_law_told : MS :=
  (mSeq (mTrys (mIfS (mVal (mOp gEq (mVar 0) (mC (.int 0)))) (mDrop (mCall 3 c_goes_together (mCons (mVar 1) (mCons (mVar 2) (mCons (mVar 3) mNil))))) (mIfS (mVal (mOp gEq (mVar 0) (mC (.int 1)))) (mDrop (mCall 2 c_clashes (mCons (mVar 1) (mCons (mVar 3) mNil)))) (mIfS (mVal (mOp gEq (mVar 0) (mC (.int 2)))) (mDrop (mCall 2 c_least_left_out (mCons (mVar 1) (mCons (mVar 3) mNil)))) (mIfS (mVal (mOp gEq (mVar 0) (mC (.int 3)))) (mDrop (mCall 2 c_always_left_out (mCons (mVar 1) (mCons (mVar 3) mNil)))) (mDrop (mCall 2 c_least_spread (mCons (mVar 1) (mCons (mVar 3) mNil)))))))) [4, 5] [((fun k => k == 4), 4, (fun z => (mRet (mLst (mCons (mC (.str "argument")) (mCons (mCB gReprT (mCons (mXf z 4 "value") mNil)) mNil)))))), ((fun k => k == 5), 4, (fun z => (mRet (mLst (mCons (mC (.str "number")) (mCons (mCB gRepr (mCons (mXf z 5 "number") mNil)) mNil))))))])
  (mRet (mLst (mCons (mC (.str "none")) mNil))))
def c_d_law_told : Call := mkD m_d_law_told 5
def m_law_f0 : MS :=
  (mIfS (mVal (mOp gNe (mCall 4 c_d_law_told (mCons (mC (.int 4)) (mCons (mVar 8) (mCons (mLst mNil) (mCons (mVar 14) mNil))))) (mLst (mCons (mC (.str "number")) (mCons (mCB gRepr (mCons (mVar 14) mNil)) mNil))))) mNever mNext)
def m_law_f1 : MS :=
  (mIfS (mVal (mOp gNe (mLc (mRng1 (mCons (mC (.int 4)) mNil)) (.nm 16) tYesM (mCall 4 c_d_law_told (mCons (mVar 16) (mCons (mVar 8) (mCons (mLst mNil) (mCons (mVar 14) mNil))))) [16]) (mOp gMulL (mLst (mCons (mLst (mCons (mC (.str "number")) (mCons (mCB gRepr (mCons (mVar 14) mNil)) mNil))) mNil)) (mC (.int 4))))) mNever mNext)
def m_law_f2 : MS :=
  (mIfS (mVal (mOp gNe (mCall 4 c_d_law_told (mCons (mC (.int 0)) (mCons (mVar 8) (mCons (mVar 14) (mCons (mC .non) mNil))))) (mLst (mCons (mC (.str "argument")) (mCons (mCB gReprK (mCons (mVar 14) mNil)) mNil))))) mNever mNext)
def m_law_f3 : MS :=
  (mIfS (mVal (mOp gNe (mLc (mRng1 (mCons (mC (.int 5)) mNil)) (.nm 16) tYesM (mCall 4 c_d_law_told (mCons (mVar 16) (mCons (mVar 14) (mCons (mC .non) (mCons (mC .non) mNil))))) [16]) (mOp gMulL (mLst (mCons (mLst (mCons (mC (.str "argument")) (mCons (mCB gReprT (mCons (mVar 14) mNil)) mNil))) mNil)) (mC (.int 5))))) mNever mNext)
def m_law_f4 : MS :=
  (mSeq (mAsg (mCall 3 c_d_law_clashes (mCons (mVar 3) (mCons (mVar 7) (mCons (mVar 9) mNil)))) (.nm 10))
  (mSeq (mIfS (mVal (mOp gNe (mCall 2 c_clashes (mCons (mVar 8) (mCons (mVar 9) mNil))) (mVar 10))) mNever mNext)
  (mSeq (mAsg (mLc (mItL (mVar 3)) (.nm 15) (mVal (mOp gGt (mCall 2 c_d_law_draw (mCons (mVar 2) (mCons (mC (.int 3)) mNil))) (mC (.int 0)))) (mVar 15) [15]) (.nm 11))
  (mSeq (mAsg (mOp gEq (mLc (mItL (mVar 10)) (.nm 17) (mAnd (mVal (mOp (gInF false) (mOp gIx (mVar 17) (mC (.int 0))) (mVar 11))) (mVal (mOp (gInF false) (mOp gIx (mVar 17) (mC (.int 1))) (mVar 11)))) (mVar 17) [17]) (mLst mNil)) (.nm 12))
  (mSeq (mAsg (mLst (mCons (mCall 3 c_goes_together (mCons (mVar 8) (mCons (mVar 11) (mCons (mVar 9) mNil)))) (mCons (mCall 3 c_goes_together (mCons (mVar 8) (mCons (mCB gTuple (mCons (mRev (mVar 11)) mNil)) (mCons (mVar 9) mNil)))) mNil))) (.nm 13))
  (mIfS (mVal (mOp gNe (mVar 13) (mLst (mCons (mVar 12) (mCons (mVar 12) mNil))))) mNever mNext))))))
def m_law_f5 : MS :=
  (mSeq (mAsg (mCall 3 c_d_law_marks (mCons (mVar 2) (mCons (mVar 5) (mCons (mVar 6) mNil)))) (.nm 7))
  (mSeq (mAsg (mMk 7 3 c_Page_new (mCons (mMk 6 3 c_Crowd_new (mCons (mVar 3) (mCons (mVar 4) mNil))) (mCons (mVar 7) mNil))) (.nm 8))
  (mFor (mRng1 (mCons (mOp gAdd (mVar 4) (mC (.int 1))) mNil)) (.nm 9) m_law_f4)))
def m_law_f6 : MS :=
  (mSeq (mAsg (mCall 3 c_d_law_opened (mCons (mVar 0) (mCons (mVar 1) (mCons (mC (.int 420)) mNil)))) (.nm 2))
  (mSeq (mPar 3 4 (mCons (mCall 2 c_d_law_words (mCons (mVar 2) (mCons (mOp gAdd (mC (.int 1)) (mCall 2 c_d_law_draw (mCons (mVar 2) (mCons (mC (.int 6)) mNil)))) mNil))) (mCons (mOp gAdd (mC (.int 1)) (mCall 2 c_d_law_draw (mCons (mVar 2) (mCons (mC (.int 4)) mNil)))) mNil)))
  (mSeq (mAsg (mDisp2 [((mC (.str "words")), (mVar 3)), ((mC (.str "most")), (mVar 4))]) (.nm 5))
  (mSeq (mFor (mItL (mLst (mCons (mC (.int 0)) (mCons (mC (.int 4)) mNil)))) (.nm 6) m_law_f5)
  (mSeq (mFor (mItL (mLst (mCons (mC .non) (mCons (mVar 7) (mCons (mC (.str "page")) mNil))))) (.nm 14) m_law_f3)
  (mSeq (mFor (mItL (mLst (mCons (mC .non) (mCons (mC (.str "cy")) (mCons (mLst (mCons (mC (.str "zz")) mNil)) (mCons (mLst (mCons (mOp gIx (mVar 3) (mC (.int 0))) (mCons (mOp gIx (mVar 3) (mC (.int 0))) mNil))) (mCons mDNil (mCons (mLst (mCons (mC .non) mNil)) mNil)))))))) (.nm 14) m_law_f2)
  (mSeq (mFor (mItL (mLst (mCons (mC .non) (mCons (mOp gSub (mC (.int 0)) (mC (.int 1))) (mCons (mOp gAdd (mVar 4) (mC (.int 1))) (mCons (mC (.bl true)) (mCons (mC (.str "0")) mNil))))))) (.nm 14) m_law_f1)
  (mFor (mItL (mLst (mCons (mC .non) (mCons (mOp gSub (mC (.int 0)) (mC (.int 1))) (mCons (mC (.int 9)) (mCons (mC (.bl true)) (mCons (mC (.str "0")) mNil))))))) (.nm 14) m_law_f0))))))))
def m_law : MS :=
  (mSeq (mFor (mRng1 (mCons (mCB gMax2 (mCons (mC (.int 1)) (mCons (mCB gMin2 (mCons (mCB gLenA (mCons (mVar 0) mNil)) (mCons (mC (.int 6)) mNil))) mNil))) mNil)) (.nm 1) m_law_f6)
  (mRet (mC (.bl true))))
def c_law : Call := mkD m_law 18
end Own


namespace Own
open PySem L2 M
abbrev kCrowd : Nat := 6
abbrev kPage : Nat := 7
/-! ### words, crowds -/
def letters : Str := "abcdefghijklmnopqrstuvwxyz"
structure Word (p : Str) : Prop where
  l1 : 1 ≤ p.cps.size
  l8 : p.cps.size ≤ 8
  mem : ∀ c ∈ p.cps.toList, c ∈ letters.cps.toList
  ok : PyData.strOk p = true
theorem count_ok {n a b : Int} {st : Store} (hs : Ok st) : c_is_count [.int n, .int a, .int b] st = some (.ok (.bl (decide (a ≤ n) && decide (n ≤ b))), st) := by
  refine fn_ret (env' := [some (.int n), some (.int a), some (.int b)]) ?_ hs rfl
  simp [m_is_count, startE]
theorem bls_eq {α : Type} (xs : List α) (f : α → Bool) : bls (xs.map fun x => .bl (f x)) = some (xs.map f) := by
  induction xs with
  | nil => rfl
  | cons x xs ih => simp only [List.map_cons, bls, ih]; rfl
theorem gAll_eq {α : Type} {st : Store} (xs : List α) (f : α → Bool) : gAll st [.lst (xs.map fun x => .bl (f x))] = some (.bl (xs.all f)) := by
  show (bls _).map _ = _
  rw [bls_eq]
  simp [List.all_map]
theorem gAny_eq {α : Type} {st : Store} (xs : List α) (f : α → Bool) : gAny st [.lst (xs.map fun x => .bl (f x))] = some (.bl (xs.any f)) := by
  show (bls _).map _ = _
  rw [bls_eq]
  simp [List.any_map]
@[simp] theorem e_eqStr {a b : Str} {st : Store} (ha : PyData.strOk a = true) (hb : PyData.strOk b = true) : gEq st (.str a) (.str b) = some (.bl (decide (a = b))) := by
  unfold gEq
  rw [if_pos ⟨ha, hb⟩]
  simp [eqvD]
  rfl
@[simp] theorem e_neStr {a b : Str} {st : Store} (ha : PyData.strOk a = true) (hb : PyData.strOk b = true) : gNe st (.str a) (.str b) = some (.bl (!decide (a = b))) := by
  unfold gNe
  rw [if_pos ⟨ha, hb⟩]
  simp [eqvD]
  rfl
theorem sign_in {c : Nat} {st : Store} : gInSign st (.str ⟨#[c]⟩) (.str letters) = some (.bl (decide (c ∈ letters.cps.toList))) := rfl
theorem word_ok {p : Str} {st : Store} (hs : Ok st) (w : Word p) : c_is_word [.str p] st = some (.ok (.bl true), st) := by
  have h1 := w.l1
  have h8 := w.l8
  have hb : p.cps.size ≤ 1000000 := by omega
  refine fn_ret (env' := [some (.str p), none]) ?_ hs rfl
  have hl := lc_map (mi := mItStr (mVar 0)) (t := .nm 1) (me := mOp gInSign (mVar 1) (mC (.str letters))) (vs := [1]) (env := [some (.str p), none]) (st := st) p.cps.toList (fun c => .str ⟨#[c]⟩) (fun c => .bl true) (by simp [charsD]) (by simpa using hb)
    fun c hc => ⟨_, rfl, by simp [sign_in, w.mem c hc], rfl⟩
  have hz : (1 : Int) ≤ p.cps.size ∧ (p.cps.size : Int) ≤ 8 := by omega
  simp [m_is_word, startE, hb, hz]
  rw [show (D.str "abcdefghijklmnopqrstuvwxyz") = .str letters from rfl, hl]
  simp [gAll_eq]
abbrev strsD (ps : List Str) : D := .lst (ps.map D.str)
structure People (ps : List Str) : Prop where
  l1 : 1 ≤ ps.length
  l8 : ps.length ≤ 8
  nd : ps.Nodup
  w : ∀ p ∈ ps, Word p
theorem nodup_map {α β : Type} {f : α → β} (hf : ∀ a b, f a = f b → a = b) {l : List α} (h : l.Nodup) : (l.map f).Nodup := List.Pairwise.map _ (fun a b hab e => hab (hf a b e)) h
theorem foldP_map {α κ : Type} [DecidableEq κ] {k : α → κ} {g : α → D} (hk : ∀ a b, k a = k b → a = b) {l : List α} (h : l.Nodup) : foldP [] (l.map fun x => (k x, g x)) = l.map fun x => (k x, g x) := by
  rw [foldP_new _ [] (by rw [List.nil_append, List.map_map]; exact nodup_map hk h)]
  rfl
theorem inr_inj : ∀ a b : Str, (Sum.inr a : Key) = .inr b → a = b := fun _ _ e => Sum.inr.inj e
/-- {one: 1 for one in people}: as many -/
theorem ones_ok {mi : MA} {env : En} {i : Nat} {st : Store} {ps : List Str} (g : People ps) (hi : mi env st = some (.ok (ps.map D.str), st)) (hn : i < env.length) : mDc mi (.nm i) tYesM (mVar i) (mC (.int 1)) [i] env st = some (.ok (.dK (ps.map fun x => (.inr x, .int 1))), st) := by
  have h := dc_eq (mi := mi) (t := .nm i) (mt := tYesM) (mk := mVar i) (mv := mC (.int 1)) (vs := [i]) (env := env) (st := st) ps D.str (fun _ => true) (fun x => .inr x) (fun _ => .int 1) hi (by have := g.l8; omega)
    fun x hx => ⟨_, rfl, rfl, fun _ => ⟨v_var (d := .str x) (by simp [hn]), rfl, rfl⟩⟩
  rw [h, List.filter_eq_self.mpr fun _ _ => rfl, foldP_map (κ := Key) inr_inj g.nd]
theorem people_ok {ps : List Str} {st : Store} (hs : Ok st) (g : People ps) : c_are_people [strsD ps] st = some (.ok (.bl true), st) := by
  have h1 := g.l1
  have h8 := g.l8
  refine fn_ret (env' := [some (strsD ps), none]) ?_ hs rfl
  have hb : ps.length ≤ 1000000 := by omega
  have hl := lc_map (mi := mItL (mVar 0)) (t := .nm 1) (me := mCall 1 c_is_word (mCons (mVar 1) mNil)) (vs := [1]) (env := [some (strsD ps), none]) (st := st) ps D.str (fun c => .bl true) (by simp) hb
    fun p hp => ⟨_, rfl, by simp [word_ok hs (g.w p hp)], rfl⟩
  have hd := ones_ok (mi := mItL (mVar 0)) (env := [some (strsD ps), none]) (i := 1) (st := st) g (by simp) (by simp)
  have hs2 : (1 : Int) ≤ ps.length ∧ (ps.length : Int) ≤ 8 := by omega
  simp [m_are_people, startE, hs2, hl, hd, gAll_eq]
def places (ps : List Str) : List (Key × D) := ps.zipIdx.map fun x => (.inr x.1, .int x.2)
def crowdD (ps : List Str) (most : Int) : D := .obj kCrowd [("own_places", .dK (places ps)), ("most", .int most)]
theorem enumD_eq {α : Type} (f : α → D) : ∀ (l : List α) (n : Nat), enumD n (l.map f) = (l.zipIdx n).map fun x => .tup [.int x.2, f x.1]
  | [], _ => rfl
  | a :: l, n => by
    rw [List.map_cons, List.zipIdx_cons, List.map_cons]
    show D.tup [.int n, f a] :: enumD (n + 1) (l.map f) = _
    rw [enumD_eq f l (n + 1)]
theorem zip_keys (ps : List Str) (n : Nat) : (ps.zipIdx n).map (·.1) = ps := by simp [List.zipIdx_map_fst]
theorem zip_inj {ps : List Str} (h : ps.Nodup) : foldP [] (ps.zipIdx.map fun x => ((.inr x.1 : Key), (.int x.2 : D))) = places ps := by
  refine foldP_new _ [] ?_
  rw [List.nil_append, List.map_map]
  have e : ((fun x : Key × D => x.1) ∘ fun x : Str × Nat => ((.inr x.1 : Key), (.int x.2 : D))) = (fun p : Str => (.inr p : Key)) ∘ (·.1) := rfl
  rw [e, ← List.map_map, zip_keys]
  exact nodup_map inr_inj h
theorem ok_more {st : Store} {c : Nat} (hs : Ok st) : Ok (st ++ [.ins c []]) := by
  unfold Ok at hs ⊢
  rw [List.all_eq_true] at hs ⊢
  intro x hx
  rcases List.mem_append.mp hx with h | h
  · have := hs x h
    cases x <;> first | rfl | skip
    unfold cellOk at this ⊢
    dsimp only at this ⊢
    rw [List.all_eq_true] at this ⊢
    intro p hp
    have := this p hp
    cases h2 : p.2 <;> first | rfl | skip
    rw [h2] at this
    have h3 : _ < st.length := of_decide_eq_true this
    exact decide_eq_true (by rw [List.length_append]; exact Nat.lt_of_lt_of_le h3 (Nat.le_add_right _ _))
  · rw [List.mem_singleton.mp h]
    rfl
/-- an object is made: its fields are data -/
theorem mk_ok {cid n : Nat} {f : Call} {ma : MA} {env : En} {st : Store} {ds : List D} {fs : List (Str × D)} (hs : Ok st) (ha : ma env st = some (.ok ds, st)) (hn : ds.length + 1 = n) (hf : (fs.all fun p => isD p.2) = true)
    (h : f (.ref st.length :: ds) (st ++ [.ins cid []]) = some (.ok .non, st ++ [.ins cid fs])) : mMk cid n f ma env st = some (.ok (.obj cid fs), st) := by
  unfold mMk
  rw [ha, bnd_ok, if_pos hn, h]
  dsimp only
  unfold finD
  rw [take_more, if_pos (show st.all (cellOk st.length) = true from hs)]
  dsimp only
  rw [if_neg (Nat.lt_irrefl _), get_last]
  dsimp only
  rw [if_pos hf]
/-- a maker that ends -/
theorem fn_init {m : MS} {k : Nat} {ds : List D} {st : Store} {cid : Nat} {fs : List (Str × D)} {env' : En} (h : m (startE k ds) (st ++ [.ins cid []]) = some (.next, env', st ++ [.ins cid fs])) (hs : Ok st) (hf : (fs.all fun p => isD p.2) = true) :
    mkD m k ds (st ++ [.ins cid []]) = some (.ok .non, st ++ [.ins cid fs]) := by
  unfold mkD
  rw [h]
  dsimp only
  have hl : (st ++ [Cell.ins cid []]).length = (st ++ [Cell.ins cid fs]).length := by simp
  unfold finD
  rw [hl, List.take_length, if_pos]
  unfold Ok at hs
  rw [List.all_append, Bool.and_eq_true]
  refine ⟨?_, ?_⟩
  · have h2 := ok_more (c := cid) (show Ok st from hs)
    unfold Ok at h2
    rw [List.all_append, Bool.and_eq_true] at h2
    have h3 := h2.1
    rw [hl] at h3
    exact h3
  · rw [List.all_cons, List.all_nil, Bool.and_true]
    unfold cellOk
    dsimp only
    rw [List.all_eq_true] at hf ⊢
    intro p hp
    have := hf p hp
    cases h2 : p.2 <;> first | rfl | (rw [h2] at this; cases this)
/-- self.f = e in a maker -/
theorem sfld_ok {ids : List Nat} {f : Str} {mo mv : ME} {env : En} {st : Store} {cid : Nat} {fs : List (Str × D)} {v : D} (hv : mv env (st ++ [.ins cid fs]) = some (.ok v, st ++ [.ins cid fs])) (ho : mo env (st ++ [.ins cid fs]) = some (.ok (.ref st.length), st ++ [.ins cid fs]))
    (hi : cid ∈ ids) (hl : fs.length < 1000) : mSFld ids f mo mv env (st ++ [.ins cid fs]) = some (.next, env, st ++ [.ins cid (putFd f v fs)]) := by
  unfold mSFld
  rw [hv, bndS_ok, ho, bndS_ok]
  unfold gSFld
  dsimp only
  rw [get_last]
  dsimp only
  rw [if_pos ⟨hi, hl⟩, set_last]
theorem crowd_mk {ma : MA} {env : En} {st : Store} {ps : List Str} {most : Int} (hs : Ok st) (g : People ps) (m1 : 1 ≤ most) (m2 : most ≤ 10) (ha : ma env st = some (.ok [strsD ps, .int most], st)) : mMk kCrowd 3 c_Crowd_new ma env st = some (.ok (crowdD ps most), st) := by
  refine mk_ok hs ha rfl rfl (fn_init (env' := [some (.ref st.length), some (strsD ps), some (.int most), none, none]) ?_ hs rfl)
  have hs1 := ok_more (c := kCrowd) hs
  have hb : ps.length ≤ 1000000 := by have := g.l8; omega
  have hd := dc_eq (mi := mEnum (mVar 1)) (t := .tp [3, 4]) (mt := tYesM) (mk := mVar 4) (mv := mVar 3) (vs := [3, 4]) (env := [some (.ref st.length), some (strsD ps), some (.int most), none, none]) (st := st ++ [.ins 6 []]) ps.zipIdx (fun x => .tup [.int x.2, .str x.1]) (fun _ => true) (fun x => .inr x.1) (fun x => .int x.2)
    (by simp [enumD_eq]) (by simpa using hb) fun x hx => ⟨_, rfl, rfl, fun _ => ⟨rfl, rfl, rfl⟩⟩
  rw [List.filter_eq_self.mpr fun _ _ => rfl, zip_inj g.nd] at hd
  have f1 := sfld_ok (ids := [6]) (f := "own_places") (mo := mVar 0) (cid := 6) (fs := []) (st := st) hd rfl (by decide) (by decide)
  have f2 := sfld_ok (ids := [6]) (f := "most") (mo := mVar 0) (mv := mVar 2) (env := [some (.ref st.length), some (strsD ps), some (.int most), none, none]) (cid := 6) (fs := putFd "own_places" (.dK (places ps)) []) (st := st) (v := .int most) rfl rfl (by decide) (by simp [putFd])
  simp [m_Crowd_new, startE, people_ok hs1 g, count_ok hs1, m1, m2, f1, f2]
  rfl
end Own


namespace Own
open PySem L2 M
theorem keysK_places (ps : List Str) : keysK (places ps) = ps.map D.str := by
  unfold keysK places
  rw [List.map_map]
  have e : ((fun p : Key × D => kD p.1) ∘ fun x : Str × Nat => ((.inr x.1 : Key), (.int x.2 : D))) = D.str ∘ (·.1) := rfl
  rw [e, ← List.map_map, zip_keys]
theorem fld_places {ids : List Nat} {ps : List Str} {most : Int} {st : Store} (h : kCrowd ∈ ids) : gFld ids "own_places" st (crowdD ps most) = some (.dK (places ps)) := by
  unfold crowdD
  rw [e_fld_obj, if_pos h]
  rfl
theorem fld_most {ids : List Nat} {ps : List Str} {most : Int} {st : Store} (h : kCrowd ∈ ids) : gFld ids "most" st (crowdD ps most) = some (.int most) := by
  unfold crowdD
  rw [e_fld_obj, if_pos h]
  rfl
theorem crowd_people {ps : List Str} {most : Int} {st : Store} (hs : Ok st) : c_Crowd_people [crowdD ps most] st = some (.ok (strsD ps), st) := by
  refine fn_ret (env' := [some (crowdD ps most)]) ?_ hs rfl
  simp [m_Crowd_people, startE, fld_places, keysK_places]
def pairsOf (ps : List Str) : List (Str × Str) := ps.flatMap fun a => (ps.filter fun b => !decide (a = b)).map fun b => (a, b)
def pairD (p : Str × Str) : D := .tup [.str p.1, .str p.2]
def pairK (p : Str × Str) : List Key := [.inr p.1, .inr p.2]
theorem mem_pairs {ps : List Str} {a b : Str} : (a, b) ∈ pairsOf ps ↔ a ∈ ps ∧ b ∈ ps ∧ a ≠ b := by
  simp [pairsOf, List.mem_flatMap]
theorem pairs_len {ps : List Str} (h : ps.length ≤ 8) : (pairsOf ps).length ≤ 64 := by
  have key : ∀ l : List Str, (l.flatMap fun a => (ps.filter fun b => !decide (a = b)).map fun b => (a, b)).length ≤ l.length * 8 := by
    intro l
    induction l with
    | nil => simp
    | cons a l ih =>
      rw [List.flatMap_cons, List.length_append, List.length_map, List.length_cons]
      have := List.length_filter_le (fun b => !decide (a = b)) ps
      omega
  have := key ps
  unfold pairsOf
  omega
theorem crowd_pairs {ps : List Str} {most : Int} {st : Store} (hs : Ok st) (g : People ps) : c_Crowd_pairs [crowdD ps most] st = some (.ok (.lst ((pairsOf ps).map pairD)), st) := by
  refine fn_ret (env' := [some (crowdD ps most), none, none]) ?_ hs rfl
  have e : (pairsOf ps).map pairD = (ps.filter fun _ => true).flatMap fun a => (ps.filter fun b => !decide (a = b)).map fun b => D.tup [.str a, .str b] := by
    rw [List.filter_eq_self.mpr fun _ _ => rfl]
    unfold pairsOf
    rw [List.map_flatMap]
    congr 1
    funext a
    rw [List.map_map]
    rfl
  have hw := fun p hp => (g.w p hp).ok
  have h := lc2_eq (mi := mItD (mUn (gFld [6] "own_places") (mVar 0))) (t := .nm 1) (mt := tYesM) (mi1 := mItD (mUn (gFld [6] "own_places") (mVar 0))) (t1 := .nm 2) (mt1 := mVal (mOp gNe (mVar 1) (mVar 2))) (me := mTup (mCons (mVar 1) (mCons (mVar 2) mNil))) (vs := [1, 2]) (vs1 := [2])
    (env := [some (crowdD ps most), none, none]) (st := st) ps D.str (fun _ => ps) D.str (fun _ => true) (fun a b => !decide (a = b)) (fun a b => .tup [.str a, .str b]) (by simp [fld_places, keysK_places])
    (by rw [← e, List.length_map]; have := pairs_len g.l8; simp; omega)
    fun a ha => ⟨_, rfl, rfl, fun _ => ⟨by simp [fld_places, keysK_places], fun b hb => ⟨_, rfl, by simp [hw a ha, hw b hb], fun _ => ⟨by simp, rfl⟩⟩⟩⟩
  rw [← e] at h
  simp [m_Crowd_pairs, startE, h]
theorem places_in {ps : List Str} {p : Str} : (valKd (places ps) (.inr p)).isSome = decide (p ∈ ps) := by
  unfold valKd
  rw [Option.isSome_map]
  by_cases h : p ∈ ps
  · rw [decide_eq_true h, List.find?_isSome]
    rw [← zip_keys ps 0] at h
    obtain ⟨x, hx, rfl⟩ := List.mem_map.mp h
    exact ⟨_, List.mem_map_of_mem hx, by simp⟩
  · rw [decide_eq_false h]
    rw [Bool.eq_false_iff]
    intro z
    rw [List.find?_isSome] at z
    obtain ⟨y, hy, e⟩ := z
    unfold places at hy
    obtain ⟨x, hx, rfl⟩ := List.mem_map.mp hy
    have e2 : x.1 = p := Sum.inr.inj (of_decide_eq_true e)
    exact h (e2 ▸ (zip_keys ps 0 ▸ List.mem_map_of_mem hx))
theorem crowd_in {ps : List Str} {most : Int} {st : Store} {p : Str} (hs : Ok st) (w : Word p) : c_Crowd__ucontains_u [crowdD ps most, .str p] st = some (.ok (.bl (decide (p ∈ ps))), st) := by
  refine fn_ret (env' := [some (crowdD ps most), some (.str p)]) ?_ hs rfl
  simp [m_Crowd__ucontains_u, startE, word_ok hs w, fld_places, gDIn, keyD, places_in]
def crowdF (ps : List Str) (most : Int) : List (Str × D) := [("own_places", .dK (places ps)), ("most", .int most)]
theorem crowd_obj {ps : List Str} {most : Int} {st : Store} : objF st (crowdD ps most) = some (kCrowd, crowdF ps most) := rfl
@[simp] theorem crowdF_pairs {ps : List Str} {most : Int} : List.lookup ("pairs" : Str) (crowdF ps most) = none := rfl
@[simp] theorem crowdF_no {ps : List Str} {most : Int} {f : Str} (h : f ≠ "own_places" ∧ f ≠ "most") : ∀ (x : D), ¬ (f, x) ∈ crowdF ps most := by
  intro x z
  simp only [crowdF, List.mem_cons, Prod.mk.injEq, List.not_mem_nil, or_false] at z
  exact z.elim (fun z => h.1 z.1) fun z => h.2 z.1
@[simp] theorem crowdF_is_pair {ps : List Str} {most : Int} : List.lookup ("is_pair" : Str) (crowdF ps most) = none := rfl
theorem crowd_tag {ps : List Str} {most : Int} {st : Store} : tagD st (crowdD ps most) = some (.inr kCrowd) := rfl
theorem ix0 {a b : D} {st : Store} : gIx st (.tup [a, b]) (.int 0) = some a := rfl
theorem ix1 {a b : D} {st : Store} : gIx st (.tup [a, b]) (.int 1) = some b := rfl
theorem crowd_is_pair {ps : List Str} {most : Int} {st : Store} {a b : Str} (hs : Ok st) (g : People ps) (h : (a, b) ∈ pairsOf ps) : c_Crowd_is_pair [crowdD ps most, pairD (a, b)] st = some (.ok (.bl true), st) := by
  obtain ⟨ha, hb, ne⟩ := mem_pairs.mp h
  refine fn_ret (env' := [some (crowdD ps most), some (pairD (a, b))]) ?_ hs rfl
  simp [m_Crowd_is_pair, startE, pairD, ix0, ix1, crowd_obj, crowd_in hs (g.w a ha), crowd_in hs (g.w b hb), ha, hb, ne, (g.w a ha).ok, (g.w b hb).ok]
def markD : Option Int → D
  | none => .non
  | some i => .int i
/-- a mark, or none -/
def MarkOk (most : Int) : Option Int → Prop
  | none => True
  | some i => 0 ≤ i ∧ i ≤ most
theorem is_mark_ok {ps : List Str} {most : Int} {st : Store} {m : Option Int} (hs : Ok st) (h : MarkOk most m) : c_is_mark [crowdD ps most, markD m] st = some (.ok (.bl true), st) := by
  refine fn_ret (env' := [some (crowdD ps most), some (markD m)]) ?_ hs rfl
  cases m with
  | none => simp [m_is_mark, startE, markD, M.isNon]
  | some i => simp [m_is_mark, startE, markD, M.isNon, fld_most, count_ok hs, h.1, h.2]
theorem check_crowd_ok {ps : List Str} {most : Int} {st : Store} (hs : Ok st) : c_check_crowd [crowdD ps most] st = some (.ok .non, st) := by
  refine fn_next (env' := [some (crowdD ps most)]) ?_ hs
  simp [m_check_crowd, startE, crowd_tag]
abbrev marksD (ps : List Str) (m : Str × Str → Option Int) : List (List Key × D) := (pairsOf ps).map fun p => (pairK p, markD (m p))
def pageD (ps : List Str) (most : Int) (m : Str × Str → Option Int) : D := .obj kPage [("crowd", crowdD ps most), ("own_marks", .dT (marksD ps m))]
theorem pairK_inj : ∀ a b : Str × Str, pairK a = pairK b → a = b := by
  rintro ⟨a, b⟩ ⟨c, d⟩ h
  unfold pairK at h
  injection h with h1 h2
  injection h2 with h2 _
  cases Sum.inr.inj h1
  cases Sum.inr.inj h2
  rfl
theorem pairs_nodup {ps : List Str} (h : ps.Nodup) : (pairsOf ps).Nodup := by
  unfold pairsOf
  have key : ∀ l : List Str, l.Nodup → (l.flatMap fun a => (ps.filter fun b => !decide (a = b)).map fun b => (a, b)).Nodup := by
    intro l
    induction l with
    | nil => intro _; exact List.nodup_nil
    | cons a l ih =>
      intro hl
      rw [List.nodup_cons] at hl
      rw [List.flatMap_cons, List.nodup_append]
      refine ⟨nodup_map (fun x y e => by cases e; rfl) (h.filter _), ih hl.2, ?_⟩
      rintro ⟨x, y⟩ hx ⟨z, w⟩ hz e
      cases e
      obtain ⟨_, _, e1⟩ := List.mem_map.mp hx
      cases e1
      obtain ⟨c, hc, h2⟩ := List.mem_flatMap.mp hz
      obtain ⟨_, _, e2⟩ := List.mem_map.mp h2
      cases e2
      exact hl.1 hc
  exact key ps h
theorem keysT_marks {ps : List Str} {m : Str × Str → Option Int} : keysT (marksD ps m) = (pairsOf ps).map pairD := by
  unfold keysT marksD
  rw [List.map_map]
  rfl
theorem get_mark {l : List (Str × Str)} {m : Str × Str → Option Int} {p : Str × Str} (h : p ∈ l) : valKd (l.map fun p => (pairK p, markD (m p))) (pairK p) = some (markD (m p)) := by
  induction l with
  | nil => cases h
  | cons q l ih =>
    unfold valKd
    rw [List.map_cons]
    by_cases e : q = p
    · rw [List.find?_cons_of_pos (by simp [e]), e]
      rfl
    · rw [List.find?_cons_of_neg (by simpa using fun z => e (pairK_inj _ _ z))]
      exact ih ((List.mem_cons.mp h).resolve_left (Ne.symm e))
theorem dget_mark {ps : List Str} {m : Str × Str → Option Int} {a b : Str} {st : Store} (h : (a, b) ∈ pairsOf ps) : gDGetR st (.dT (marksD ps m)) (.tup [.str a, .str b]) = some (markD (m (a, b))) := get_mark h
theorem markD_isD {m : Option Int} : isD (markD m) = true := by cases m <;> rfl
theorem page_mk {ma : MA} {env : En} {st : Store} {ps : List Str} {most : Int} {m : Str × Str → Option Int} (hs : Ok st) (g : People ps) (hm : ∀ p ∈ pairsOf ps, MarkOk most (m p)) (ha : ma env st = some (.ok [crowdD ps most, .dT (marksD ps m)], st)) :
    mMk kPage 3 c_Page_new ma env st = some (.ok (pageD ps most m), st) := by
  refine mk_ok hs ha rfl rfl (fn_init (env' := [some (.ref st.length), some (crowdD ps most), some (.dT (marksD ps m)), none]) ?_ hs rfl)
  have hs1 := ok_more (c := kPage) hs
  have hb := pairs_len g.l8
  have hl := lc_map (mi := mItD (mVar 2)) (t := .nm 3) (me := mAndV (mMth 6 "is_pair" 2 c_Crowd_is_pair (mVar 1) (mCons (mVar 3) mNil)) (mCall 2 c_is_mark (mCons (mVar 1) (mCons (mOp gDGetR (mVar 2) (mVar 3)) mNil)))) (vs := [3])
    (env := [some (.ref st.length), some (crowdD ps most), some (.dT (marksD ps m)), none]) (st := st ++ [.ins 7 []]) (pairsOf ps) pairD (fun _ => .bl true) (by simp [keysT_marks]) (by omega)
    fun p hp => ⟨_, rfl, by
      obtain ⟨a, b⟩ := p
      have e : gDGetR (st ++ [Cell.ins 7 []]) (.dT (marksD ps m)) (pairD (a, b)) = some (markD (m (a, b))) := get_mark hp
      simp [crowd_obj, crowd_is_pair hs1 g hp, e, is_mark_ok hs1 (hm _ hp)], rfl⟩
  have hd := dcT_eq (mi := mItL (mMth 6 "pairs" 1 c_Crowd_pairs (mVar 1) mNil)) (t := .nm 3) (mt := tYesM) (mk := mVar 3) (mv := mOp gDGetR (mVar 2) (mVar 3)) (vs := [3])
    (env := [some (.ref st.length), some (crowdD ps most), some (.dT (marksD ps m)), none]) (st := st ++ [.ins 7 [("crowd", crowdD ps most)]]) (pairsOf ps) pairD (fun _ => true) pairK (fun p => markD (m p))
    (by
      have hs2 : Ok (st ++ [.ins 7 [("crowd", crowdD ps most)]]) := by
        have h := ok_more (c := 7) hs
        unfold Ok at h ⊢
        rw [List.all_append, Bool.and_eq_true] at h ⊢
        refine ⟨?_, rfl⟩
        have e : (st ++ [Cell.ins 7 [("crowd", crowdD ps most)]]).length = (st ++ [Cell.ins 7 []]).length := by simp
        rw [e]
        exact h.1
      simp [crowd_obj, crowd_pairs hs2 g]) (by omega)
    fun p hp => ⟨_, rfl, rfl, fun _ => ⟨rfl, by
      obtain ⟨a, b⟩ := p
      have e : gDGetR (st ++ [Cell.ins 7 [("crowd", crowdD ps most)]]) (.dT (marksD ps m)) (pairD (a, b)) = some (markD (m (a, b))) := get_mark hp
      simp [e], markD_isD⟩⟩
  rw [List.filter_eq_self.mpr fun _ _ => rfl, foldP_map pairK_inj (pairs_nodup g.nd)] at hd
  have f1 := sfld_ok (ids := [7]) (f := "crowd") (mo := mVar 0) (mv := mVar 1) (env := [some (.ref st.length), some (crowdD ps most), some (.dT (marksD ps m)), none]) (cid := 7) (fs := []) (st := st) (v := crowdD ps most) rfl rfl (by decide) (by simp)
  have f2 := sfld_ok (ids := [7]) (f := "own_marks") (mo := mVar 0) (cid := 7) (fs := putFd "crowd" (crowdD ps most) []) (st := st) hd rfl (by decide) (by simp [putFd])
  simp [m_Page_new, startE, check_crowd_ok hs1, crowd_obj, crowd_pairs hs1 g, hl, gAll_eq, f1, f2]
  rfl
end Own


namespace Own
open PySem L2 M
/-! ### drawn numbers -/
abbrev poolC (ns : List Int) (a : Int) : Cell := .lst [.lst (ns.map D.int), .int a]
/-- cells without references -/
def Flat0 (st : Store) : Prop := ∀ c ∈ st, (∃ xs, c = .lst xs) ∨ (∃ xs, c = .dT xs) ∨ ∃ xs, c = .dK xs
theorem Flat0.all {st : Store} (h : Flat0 st) (n : Nat) : st.all (cellOk n) = true := List.all_eq_true.mpr fun c hc => by
  rcases h c hc with ⟨_, rfl⟩ | ⟨_, rfl⟩ | ⟨_, rfl⟩ <;> rfl
theorem Flat0.ok {st : Store} (h : Flat0 st) : Ok st := h.all _
theorem Flat0.nil : Flat0 [] := nofun
theorem Flat0.lst {st : Store} {xs : List D} (h : Flat0 st) : Flat0 (.lst xs :: st) := fun c hc => (List.mem_cons.mp hc).elim (fun e => .inl ⟨xs, e⟩) (h c)
theorem Flat0.dT {st : Store} {xs : List (List Key × D)} (h : Flat0 st) : Flat0 (.dT xs :: st) := fun c hc => (List.mem_cons.mp hc).elim (fun e => .inr (.inl ⟨xs, e⟩)) (h c)
/-- a def that changes cells, hands back a datum -/
theorem fn_chg {m : MS} {k : Nat} {ds : List D} {st st' : Store} {env' : En} {d : D} (h : m (startE k ds) st = some (.ret d, env', st')) (hl : st'.length = st.length) (hd : isD d = true) (hs : Ok st') : mkD m k ds st = some (.ok d, st') := by
  unfold mkD
  rw [h]
  dsimp only
  rw [← hl, fin_data hs hd]
theorem atI_nat {xs : List D} {i : Int} (h0 : 0 ≤ i) (h1 : i < xs.length) : L2.atI xs i = xs[i.toNat]? := by
  unfold L2.atI L2.ixN
  rw [if_pos h0, if_pos h1]
  rfl
theorem draw_ok {ns : List Int} {a many : Int} {rest : Store} (hr : Flat0 rest) (ha : 0 ≤ a) (h0 : 0 < many) : ∃ r, c_d_law_draw [.ref 0, .int many] (poolC ns a :: rest) = some (.ok (.int r), poolC ns (a + 1) :: rest) ∧ 0 ≤ r ∧ r < many := by
  have key : ∀ r, (m_d_law_draw [some (.ref 0), some (.int many), none] (poolC ns a :: rest) = some (.ret (.int r), [some (.ref 0), some (.int many), some (.int a)], poolC ns (a + 1) :: rest)) → c_d_law_draw [.ref 0, .int many] (poolC ns a :: rest) = some (.ok (.int r), poolC ns (a + 1) :: rest) :=
    fun r h => fn_chg h rfl rfl hr.lst.ok
  have p1 : ∀ b : Int, gIx (poolC ns b :: rest) (.ref 0) (.int 1) = some (.int b) := fun b => rfl
  have p0 : ∀ b : Int, gIx (poolC ns b :: rest) (.ref 0) (.int 0) = some (.lst (ns.map D.int)) := fun b => rfl
  have pp : gPut (poolC ns a :: rest) (.ref 0) (.int 1) (.int (a + 1)) = some (poolC ns (a + 1) :: rest) := rfl
  by_cases hlt : a < ns.length
  · have hi : a.toNat < ns.length := by omega
    have pi : gIx (poolC ns (a + 1) :: rest) (.lst (ns.map D.int)) (.int a) = some (.int ns[a.toNat]) := by
      show L2.atI (ns.map D.int) a = _
      rw [atI_nat ha (by rw [List.length_map]; exact hlt)]
      simp [hi]
    refine ⟨ns[a.toNat] % many, key _ ?_, Int.emod_nonneg _ (by omega), Int.emod_lt_of_pos _ h0⟩
    simp [m_d_law_draw, mPut, p0, p1, pp, pi, hlt, h0]
  · refine ⟨0, key _ ?_, by omega, h0⟩
    simp [m_d_law_draw, mPut, p0, p1, pp, hlt]
/-- a loop told by its turns -/
theorem for_list {α : Type} {n : Nat} {t : Tg} {body : MS} {f : α → D} (xs : List α) (I : List α → En → Store → Prop) {env : En} {st : Store} (h0 : I [] env st)
    (hs : ∀ (pre : List α) (x : α) (post : List α) (env : En) (st : Store), xs = pre ++ x :: post → I pre env st → ∃ env1 env2 st2, setT t (f x) env = some env1 ∧ body env1 st = some (.next, env2, st2) ∧ (st2.take n).all (cellOk n) = true ∧ I (pre ++ [x]) (trimE n env2) (st2.take n)) :
    ∃ env' st', forD n t body (xs.map f) env st = some (.next, env', st') ∧ I xs env' st' := by
  have key : ∀ (post pre : List α) (env : En) (st : Store), xs = pre ++ post → I pre env st → ∃ env' st', forD n t body (post.map f) env st = some (.next, env', st') ∧ I xs env' st' := by
    intro post
    induction post with
    | nil =>
      intro pre env st e h
      rw [List.append_nil] at e
      exact ⟨env, st, rfl, e ▸ h⟩
    | cons x post ih =>
      intro pre env st e h
      obtain ⟨env1, env2, st2, h1, h2, h3, h4⟩ := hs pre x post env st e h
      obtain ⟨env', st', h5, h6⟩ := ih (pre ++ [x]) _ _ (by rw [e, List.append_assoc]; rfl) h4
      refine ⟨env', st', ?_, h6⟩
      rw [List.map_cons]
      unfold forD
      rw [h1]
      dsimp only
      rw [h2]
      dsimp only
      rw [if_pos h3, h5]
  exact key xs [] env st rfl h0
theorem intsFrom0 {n : Nat} : M.intsFrom 0 n = (List.range n).map fun i => D.int (i : Nat) := by
  unfold M.intsFrom
  simp
theorem met_append {st : Store} {i : Nat} {xs : List D} {d : D} (h : st[i]? = some (.lst xs)) (hl : xs.length < 1000000) (hd : isD d = true) : gAppend st (.ref i) [d] = some (.non, st.set i (.lst (xs ++ [d]))) := by
  unfold gAppend
  dsimp only
  rw [h]
  dsimp only
  rw [if_pos ⟨by simpa using hl, hd⟩]
theorem met_ok {g : Store → D → List D → Option (D × Store)} {mo : ME} {ma : MA} {env : En} {st st1 st2 st3 : Store} {o z : D} {xs ds : List D} (ho : mo env st = some (.ok o, st1)) (hr : rd st1 o = .lst xs) (ha : ma env st1 = some (.ok ds, st2)) (hg : g st2 o ds = some (z, st3)) :
    mMet g mo ma env st = some (.ok z, st3) := by
  unfold mMet
  rw [ho, bnd_ok, hr]
  dsimp only
  rw [ha, bnd_ok, hg]
theorem cmul_l {i j : Int} (h1 : -(2 ^ 64) < i) (h2 : i < 2 ^ 64) : CMul i j := .inl ⟨h1, h2⟩
theorem cmul_r {i j : Int} (h1 : -(2 ^ 64) < j) (h2 : j < 2 ^ 64) : CMul i j := .inr ⟨h1, h2⟩
theorem trim_int {n : Nat} {i : Int} : trimO n (some (.int i)) = some (.int i) := rfl
theorem numbers_ok {cell salt : Int} {many : Nat} (s0 : 0 ≤ salt) (s1 : salt < 1000) (hm : many ≤ 1000) : ∃ ns : List Int, c_d_law_numbers [.int cell, .int salt, .int (many : Int)] [] = some (.ok (.lst (ns.map D.int)), []) := by
  let w : Int := if cell < -1 - cell then -1 - cell else cell
  let E : Int → Option D → Option D → En := fun left x y => [some (.int cell), some (.int salt), some (.int (many : Int)), some (.int w), some (.int left), some (.ref 0), x, y]
  let I : List Nat → En → Store → Prop := fun pre env st1 => ∃ (left : Int) (acc : List Int) (x y : Option D), env = E left x y ∧ trimO 1 y = y ∧ st1 = [.lst (acc.map D.int)] ∧ acc.length = pre.length
  have step : ∀ (pre : List Nat) (k : Nat) (post : List Nat) (env : En) (st : Store), List.range many = pre ++ k :: post → I pre env st → ∃ env1 env2 st2, setT (.nm 6) (D.int (k : Nat)) env = some env1 ∧ m_d_law_numbers_f0 env1 st = some (.next, env2, st2) ∧ (st2.take 1).all (cellOk 1) = true ∧ I (pre ++ [k]) (trimE 1 env2) (st2.take 1) := by
    rintro pre k post _ _ e ⟨left, acc, x, y, rfl, hy, rfl, hl⟩
    have hk : k < many := by
      have : k ∈ List.range many := by rw [e]; simp
      exact List.mem_range.mp this
    have hp : pre.length ≤ many := by
      have := congrArg List.length e
      rw [List.length_range, List.length_append] at this
      omega
    have app : ∀ v : Int, gAppend [Cell.lst (acc.map D.int)] (.ref 0) [.int v] = some (.non, [Cell.lst ((acc ++ [v]).map D.int)]) := fun v => by
      rw [met_append (xs := acc.map D.int) rfl (by rw [List.length_map]; omega) rfl, List.map_append]
      rfl
    have hpw : CPow 10 18 := ⟨by decide, by decide, by decide⟩
    have hd : ∀ z : Int, CDiv z 840 := fun z => ⟨by decide, by decide⟩
    have hd2 : ∀ z : Int, CDiv z 16 := fun z => ⟨by decide, by decide⟩
    have happ : ∀ (me : ME) (v : Int) (env : En), env[5]? = some (some (.ref 0)) → me env [Cell.lst (acc.map D.int)] = some (.ok (.int v), [Cell.lst (acc.map D.int)]) → mMet gAppend (mVar 5) (mCons me mNil) env [Cell.lst (acc.map D.int)] = some (.ok .non, [Cell.lst ((acc ++ [v]).map D.int)]) := fun me v env h0 h => met_ok (v_var h0) (xs := acc.map D.int) rfl (by simp [h]) (app v)
    by_cases hb : 1000000000000000000 ≤ w ∧ 0 < left
    · refine ⟨_, E (left / 840) (some (.int (k : Nat))) y, [Cell.lst ((acc ++ [left % 840]).map D.int)], rfl, ?_, rfl, left / 840, acc ++ [left % 840], some (.int (k : Nat)), y, ?_, hy, rfl, by simp [hl]⟩
      · have h := happ (mOp gMod (mCB gInt (mCons (mVar 4) mNil)) (mC (.int 840))) (left % 840) (E left (some (.int (k : Nat))) y) rfl (by simp [E])
        show m_d_law_numbers_f0 (E left (some (.int (k : Nat))) y) _ = _
        simp only [E] at h ⊢
        simp [m_d_law_numbers_f0, hpw, hb.1, hb.2, hd, h]
      · show trimE 1 (E _ _ _) = _
        simp only [E, trimE, List.map_cons, List.map_nil, hy]
        rfl
    · have hw : 0 ≤ w % 2147483629 ∧ w % 2147483629 < 2147483629 := ⟨Int.emod_nonneg _ (by decide), Int.emod_lt_of_pos _ (by decide)⟩
      let a : Int := w % 2147483629 + 7717 * salt + 3
      let b : Int := a ^ 3 % 2147483647
      have hb2 : 0 ≤ b ∧ b < 2147483647 := ⟨Int.emod_nonneg _ (by decide), Int.emod_lt_of_pos _ (by decide)⟩
      let c : Int := (b + 99991 * ((k : Nat) + 1)) * ((k : Nat) + 5) % 2147483629
      have hc2 : 0 ≤ c ∧ c < 2147483629 := ⟨Int.emod_nonneg _ (by decide), Int.emod_lt_of_pos _ (by decide)⟩
      let d : Int := c ^ 5 % 2147483647 * 48271 % 2147483629
      have p1 : CPow a 3 := ⟨by decide, by decide, by show a.natAbs < 2 ^ 64; omega⟩
      have p2 : CPow c 5 := ⟨by decide, by decide, by omega⟩
      have m1 : CMul 7717 salt := cmul_l (by decide) (by decide)
      have m2 : CMul 99991 ((k : Nat) + 1) := cmul_l (by decide) (by decide)
      have m3 : CMul (b + 99991 * ((k : Nat) + 1)) ((k : Nat) + 5) := cmul_r (by omega) (by omega)
      have m4 : CMul (c ^ 5 % 2147483647) 48271 := cmul_r (by decide) (by decide)
      refine ⟨_, E left (some (.int (k : Nat))) (some (.int d)), [Cell.lst ((acc ++ [d / 16 % 840]).map D.int)], rfl, ?_, rfl, left, acc ++ [d / 16 % 840], some (.int (k : Nat)), some (.int d), rfl, rfl, rfl, by simp [hl]⟩
      have h := happ (mOp gMod (mCB gInt (mCons (mOp gDiv (mVar 7) (mC (.int 16))) mNil)) (mC (.int 840))) (d / 16 % 840) (E left (some (.int (k : Nat))) (some (.int d))) rfl (by simp [E, hd2])
      show m_d_law_numbers_f0 (E left (some (.int (k : Nat))) y) _ = _
      have t1 : (mAnd (mVal (mOp gGe (mVar 3) (mOp gPow (mC (.int 10)) (mC (.int 18))))) (mVal (mOp gGt (mVar 4) (mC (.int 0))))) (E left (some (.int (k : Nat))) y) [Cell.lst (acc.map D.int)] = some (.ok false, [Cell.lst (acc.map D.int)]) := by
        by_cases q : 1000000000000000000 ≤ w
        · have q2 : ¬ 0 < left := fun z => hb ⟨q, z⟩
          simp [E, hpw, q, q2]
        · simp [E, hpw, q]
      have s1 : (mAsg (mOp gMod (mCB gInt (mCons (mOp gPow (mOp gAdd (mOp gAdd (mOp gMod (mCB gInt (mCons (mVar 3) mNil)) (mC (.int 2147483629))) (mOp gMulI (mC (.int 7717)) (mVar 1))) (mC (.int 3))) (mC (.int 3))) mNil)) (mC (.int 2147483647))) (.nm 7)) (E left (some (.int (k : Nat))) y) [Cell.lst (acc.map D.int)] = some (.next, E left (some (.int (k : Nat))) (some (.int b)), [Cell.lst (acc.map D.int)]) := by
        simp only [E]
        simp [m1, show CPow (w % 2147483629 + 7717 * salt + 3) 3 from p1, a, b]
      have s2 : (mAsg (mOp gMod (mCB gInt (mCons (mOp gMulI (mOp gAdd (mVar 7) (mOp gMulI (mC (.int 99991)) (mOp gAdd (mVar 6) (mC (.int 1))))) (mOp gAdd (mVar 6) (mC (.int 5)))) mNil)) (mC (.int 2147483629))) (.nm 7)) (E left (some (.int (k : Nat))) (some (.int b))) [Cell.lst (acc.map D.int)] = some (.next, E left (some (.int (k : Nat))) (some (.int c)), [Cell.lst (acc.map D.int)]) := by
        simp only [E]
        simp [m2, m3, c]
      have s3 : (mAsg (mOp gMod (mCB gInt (mCons (mOp gMulI (mOp gMod (mCB gInt (mCons (mOp gPow (mVar 7) (mC (.int 5))) mNil)) (mC (.int 2147483647))) (mC (.int 48271))) mNil)) (mC (.int 2147483629))) (.nm 7)) (E left (some (.int (k : Nat))) (some (.int c))) [Cell.lst (acc.map D.int)] = some (.next, E left (some (.int (k : Nat))) (some (.int d)), [Cell.lst (acc.map D.int)]) := by
        simp only [E]
        simp [p2, m4, d]
      unfold m_d_law_numbers_f0
      rw [v_ifF t1, v_seq s1, v_seq s2, v_seq s3]
      exact v_drop h
  obtain ⟨env', st', hf, left, acc, x, y, rfl, _, rfl, _⟩ := for_list (n := 1) (t := .nm 6) (body := m_d_law_numbers_f0) (f := fun i : Nat => D.int (i : Nat)) (List.range many) I (env := E w none none) (st := [.lst ([].map D.int)]) ⟨w, [], none, none, rfl, rfl, rfl, rfl⟩ step
  refine ⟨acc, fn_cell (i := 0) (env' := E left x y) (st' := [.lst (acc.map D.int)]) ?_ rfl rfl (Nat.le_refl _) rfl⟩
  have hfor : mFor (mRng1 (mCons (mVar 2) mNil)) (.nm 6) m_d_law_numbers_f0 (E w none none) [.lst ([].map D.int)] = some (.next, E left x y, [.lst (acc.map D.int)]) := v_for (st1 := [.lst ([].map D.int)]) (ds := (List.range many).map fun i => D.int (i : Nat)) (by
    have h1 : (many : Int) ≤ 1000000 := by omega
    simp [E, h1]) hf
  simp only [E, w, List.map_nil] at hfor
  simp [m_d_law_numbers, startE, hfor, E, w]
theorem opened_ok {ns : List Int} {k many : Nat} (hk : k < 1000) (hn : ns = [] ∨ k < ns.length) (hm : many ≤ 1000) : ∃ xs : List Int, c_d_law_opened [.ro (ns.map D.int), .int (k : Int), .int (many : Int)] [] = some (.ok (.ref 0), [poolC xs 0]) := by
  have hne : gNe [] (.ro (ns.map D.int)) (.lst []) = some (.bl (!decide (ns = []))) := by
    have hi : ∀ l : List Int, (l.map D.int).all (okD 7) = true := fun l => by
      rw [List.all_eq_true]
      intro x hx
      obtain ⟨i, _, rfl⟩ := List.mem_map.mp hx
      rfl
    unfold gNe
    rw [if_pos ⟨show okD 8 (.ro (ns.map D.int)) = true from hi ns, rfl⟩]
    cases ns <;> rfl
  have hcell : ∃ cell : Int, (mIf (mVal (mOp gNe (mVar 0) (mLst mNil))) (mOp gIx (mVar 0) (mVar 1)) (mC (.int 5))) [some (.ro (ns.map D.int)), some (.int (k : Int)), some (.int (many : Int)), none] [] = some (.ok (.int cell), []) := by
    by_cases h : ns = []
    · rw [h] at hne
      exact ⟨5, by rw [h]; simp [show gNe [] (.ro []) (.lst []) = some (.bl false) from hne]⟩
    · have hk2 := hn.resolve_left h
      have pi : gIx [] (.ro (ns.map D.int)) (.int (k : Int)) = some (.int ns[k]) := by
        show L2.atI (ns.map D.int) k = _
        rw [atI_nat (by omega) (by rw [List.length_map]; omega)]
        simp [hk2]
      exact ⟨ns[k], by simp [hne, h, pi]⟩
  obtain ⟨cell, hcell⟩ := hcell
  obtain ⟨xs, hx⟩ := numbers_ok (cell := cell) (salt := k) (many := many) (by omega) (by omega) hm
  refine ⟨xs, ?_⟩
  have h : m_d_law_opened [some (.ro (ns.map D.int)), some (.int (k : Int)), some (.int (many : Int)), none] [] = some (.ret (.ref 0), [some (.ro (ns.map D.int)), some (.int (k : Int)), some (.int (many : Int)), some (.int cell)], [poolC xs 0]) := by
    unfold m_d_law_opened
    rw [v_seq (v_asg hcell)]
    simp [hx]
  unfold c_d_law_opened mkK
  rw [show startE 4 [D.ro (ns.map D.int), .int (k : Int), .int (many : Int)] = [some (.ro (ns.map D.int)), some (.int (k : Int)), some (.int (many : Int)), none] from rfl, h]
end Own


namespace Own
open PySem L2 M
def menu : List Str := ["cy", "ann", "di", "bo", "flo", "ed"]
theorem sl_take {xs : List D} {n : Nat} {st : Store} : gSl st (.lst xs) none (some (n : Int)) = some (.lst (xs.take n)) := by
  show some (D.lst (gSlL none (some (n : Int)) xs)) = _
  unfold gSlL
  rw [HT.sIx_none, HT.sIx_nat, List.drop_zero, Nat.sub_zero]
  congr 2
  rcases Nat.le_total n xs.length with h | h
  · rw [Nat.min_eq_left h]
  · rw [Nat.min_eq_right h, List.take_of_length_le h, List.take_of_length_le (Nat.le_refl _)]
theorem sl_drop {xs : List D} {n : Nat} {st : Store} : gSl st (.lst xs) (some (n : Int)) none = some (.lst (xs.drop n)) := by
  show some (D.lst (gSlL (some (n : Int)) none xs)) = _
  unfold gSlL
  rw [HT.sIx_none, HT.sIx_nat]
  congr 2
  rcases Nat.le_total n xs.length with h | h
  · rw [Nat.min_eq_left h, List.take_of_length_le (by simp)]
  · rw [Nat.min_eq_right h, Nat.sub_self, List.take_zero, List.drop_of_length_le h]
theorem mSl_take {me mh : ME} {env : En} {st st1 st2 : Store} {xs : List D} {n : Int} (h1 : me env st = some (.ok (.lst xs), st1)) (h2 : mh env st1 = some (.ok (.int n), st2)) (h0 : 0 ≤ n) : mSl me moNone (moSome mh) env st = some (.ok (.lst (xs.take n.toNat)), st2) := by
  obtain ⟨k, rfl⟩ := Int.eq_ofNat_of_zero_le h0
  unfold mSl moNone moSome
  rw [h1, bnd_ok, bnd_ok, h2, bnd_ok]
  dsimp only
  rw [bnd_ok]
  show (match gSl st2 (.lst xs) none (some (k : Int)) with
    | some z => some (Rs.ok z, st2)
    | none => none) = _
  rw [sl_take]
  rfl
theorem mSl_drop {me ml : ME} {env : En} {st st1 st2 : Store} {xs : List D} {n : Int} (h1 : me env st = some (.ok (.lst xs), st1)) (h2 : ml env st1 = some (.ok (.int n), st2)) (h0 : 0 ≤ n) : mSl me (moSome ml) moNone env st = some (.ok (.lst (xs.drop n.toNat)), st2) := by
  obtain ⟨k, rfl⟩ := Int.eq_ofNat_of_zero_le h0
  unfold mSl moNone moSome
  rw [h1, bnd_ok, h2, bnd_ok]
  dsimp only
  rw [bnd_ok, bnd_ok]
  show (match gSl st2 (.lst xs) (some (k : Int)) none with
    | some z => some (Rs.ok z, st2)
    | none => none) = _
  rw [sl_drop]
  rfl
theorem words_ok {xs : List Int} {a n : Int} (ha : 0 ≤ a) (hn : 0 ≤ n) : ∃ d : Nat, d < 3 ∧ c_d_law_words [.ref 0, .int n] [poolC xs a] = some (.ok (strsD ((menu.drop d).take n.toNat)), [poolC xs (a + 1)]) := by
  obtain ⟨r, hr, r0, r1⟩ := draw_ok (ns := xs) (a := a) (many := 3) (rest := []) Flat0.nil ha (by decide)
  refine ⟨r.toNat, by omega, ?_⟩
  refine fn_chg (env' := [some (.ref 0), some (.int n)]) ?_ rfl rfl Flat0.nil.lst.ok
  show m_d_law_words [some (.ref 0), some (.int n)] _ = _
  unfold m_d_law_words
  refine v_ret ?_
  have h1 : (mLst (mCons (mC (.str "cy")) (mCons (mC (.str "ann")) (mCons (mC (.str "di")) (mCons (mC (.str "bo")) (mCons (mC (.str "flo")) (mCons (mC (.str "ed")) mNil))))))) [some (.ref 0), some (.int n)] [poolC xs a] = some (.ok (.lst (menu.map D.str)), [poolC xs a]) := by
    simp [menu]
  have h2 : (mCall 2 c_d_law_draw (mCons (mVar 0) (mCons (mC (.int 3)) mNil))) [some (.ref 0), some (.int n)] [poolC xs a] = some (.ok (.int r), [poolC xs (a + 1)]) := by
    simp [hr]
  have h3 := mSl_take (mSl_drop h1 h2 r0) (mh := mVar 1) (n := n) (st2 := [poolC xs (a + 1)]) (v_var rfl) hn
  rw [h3, ← List.map_drop, ← List.map_take]
theorem pairs_fold {ps : List Str} : ∀ l : List Str, (l.flatMap fun a => (ps.filter fun b => !decide (a = b)).map fun b => (a, b)) = (l.flatMap fun a => (ps.filter fun b => !decide (b = a)).map fun b => (a, b)) := fun l => by
  congr 1
  funext a
  congr 2
  funext b
  rw [show (decide (a = b)) = decide (b = a) from decide_eq_decide.mpr eq_comm]
theorem law_pairs_ok {ps : List Str} {st : Store} (hs : Flat0 st) (g : People ps) : c_d_law_pairs [strsD ps] st = some (.ok (.lst ((pairsOf ps).map pairD)), st) := by
  have hw := fun p hp => (g.w p hp).ok
  have h8 := g.l8
  let Z : Str → List (Str × Str) := fun a => (ps.filter fun b => !decide (b = a)).map fun b => (a, b)
  let I : List Str → En → Store → Prop := fun pre env st1 => ∃ x : Option D, env = [some (strsD ps), some (.lst ((pre.flatMap Z).map pairD)), x, none] ∧ st = st1
  have zlen : ∀ l : List Str, (l.flatMap Z).length ≤ l.length * 8 := by
    intro l
    induction l with
    | nil => simp
    | cons a l ih =>
      rw [List.flatMap_cons, List.length_append, List.length_cons]
      have h1 : (Z a).length ≤ 8 := by
        show ((ps.filter fun b => !decide (b = a)).map fun b => (a, b)).length ≤ 8
        rw [List.length_map]
        exact Nat.le_trans (List.length_filter_le _ _) h8
      omega
  obtain ⟨env', st', hf, x, rfl, rfl⟩ := for_list (n := st.length) (t := .nm 2) (body := m_d_law_pairs_f0) (f := D.str) ps I (env := [some (strsD ps), some (.lst []), none, none]) (st := st) ⟨none, rfl, rfl⟩ (by
    rintro pre p post _ _ e ⟨x, rfl, rfl⟩
    have hp : p ∈ ps := by rw [e]; simp
    have hpre : pre.length ≤ 8 := by
      have := congrArg List.length e
      rw [List.length_append, List.length_cons] at this
      omega
    have hl := lc_eq (mi := mItL (mVar 0)) (t := .nm 3) (mt := mVal (mOp gNe (mVar 3) (mVar 2))) (me := mTup (mCons (mVar 2) (mCons (mVar 3) mNil))) (vs := [3]) (env := [some (strsD ps), some (.lst ((pre.flatMap Z).map pairD)), some (.str p), none]) (st := st) ps D.str (fun b => !decide (b = p)) (fun b => pairD (p, b)) (by simp) (by omega)
      fun b hb => ⟨_, rfl, by simp [hw b hb, hw p hp], fun _ => ⟨by simp [pairD], rfl⟩⟩
    have e2 : (ps.filter fun b => !decide (b = p)).map (fun b => pairD (p, b)) = (Z p).map pairD := by
      show _ = ((ps.filter fun b => !decide (b = p)).map fun b => (p, b)).map pairD
      rw [List.map_map]
      rfl
    rw [e2] at hl
    have hle : ((pre.flatMap Z).map pairD).length + ((Z p).map pairD).length ≤ 1000000 := by
      have h1 := zlen pre
      have h2 := zlen [p]
      rw [List.flatMap_cons, List.flatMap_nil, List.append_nil] at h2
      rw [List.length_map, List.length_map]
      simp at h2
      omega
    refine ⟨_, [some (strsD ps), some (.lst (((pre ++ [p]).flatMap Z).map pairD)), some (.str p), none], st, rfl, ?_, by rw [List.take_length]; exact hs.all _, some (.str p), ?_, List.take_length.symm⟩
    · show m_d_law_pairs_f0 [some (strsD ps), some (.lst ((pre.flatMap Z).map pairD)), some (.str p), none] st = _
      unfold m_d_law_pairs_f0
      rw [List.flatMap_append, List.map_append]
      have e3 : [p].flatMap Z = Z p := by simp
      rw [e3]
      exact v_asg (v_op (v_var rfl) hl (e_addL (by simpa using hle)))
    · rfl)
  refine fn_ret (env' := [some (strsD ps), some (.lst ((ps.flatMap Z).map pairD)), x, none]) ?_ hs.ok rfl
  have e4 : (ps.flatMap Z) = pairsOf ps := (pairs_fold ps).symm
  have hfor : mFor (mItL (mVar 0)) (.nm 2) m_d_law_pairs_f0 [some (strsD ps), some (.lst []), none, none] st = some (.next, [some (strsD ps), some (.lst ((ps.flatMap Z).map pairD)), x, none], st) := v_for (ds := ps.map D.str) (by simp) hf
  rw [← e4]
  simp [m_d_law_pairs, startE, hfor]
/-- {"words": .., "most": ..} -/
def gameD (ps : List Str) (most : Int) : D := .dK [(.inr "words", strsD ps), (.inr "most", .int most)]
theorem game_words {ps : List Str} {most : Int} {st : Store} : gDGetR st (gameD ps most) (.str "words") = some (strsD ps) := rfl
theorem game_most {ps : List Str} {most : Int} {st : Store} : gDGetR st (gameD ps most) (.str "most") = some (.int most) := rfl
theorem dput_new {ns : List Int} {a : Int} {l : List (List Key × D)} {p : Str × Str} {v : D} (h : pairK p ∉ l.map (·.1)) (hl : l.length < 1000000) (hv : isD v = true) : gDPut [poolC ns a, .dT l] (.ref 1) (pairD p) v = some [poolC ns a, .dT (l ++ [(pairK p, v)])] := by
  obtain ⟨x, y⟩ := p
  have e : keyT (pairD (x, y)) = some (pairK (x, y)) := rfl
  unfold gDPut
  dsimp only
  rw [if_pos hv]
  show (match keyT (pairD (x, y)) with
    | some k => if l.length < big then some ([poolC ns a, Cell.dT l].set 1 (.dT (putKd l k v))) else none
    | none => none) = _
  rw [e]
  dsimp only
  rw [if_pos (by simpa using hl), putKd_new h]
  rfl
theorem law_marks_ok {ps : List Str} {most miss a : Int} {ns : List Int} (g : People ps) (m1 : 1 ≤ most) (hmi : 0 ≤ miss) (ha : 0 ≤ a) :
    ∃ (m : Str × Str → Option Int) (a' : Int), c_d_law_marks [.ref 0, gameD ps most, .int miss] [poolC ns a] = some (.ok (.dT (marksD ps m)), [poolC ns a']) ∧ (∀ p, MarkOk most (m p)) ∧ 0 ≤ a' := by
  let I : List (Str × Str) → En → Store → Prop := fun pre env st1 => ∃ (x y : Option D) (m : Str × Str → Option Int) (a : Int), env = [some (.ref 0), some (gameD ps most), some (.int miss), some (.ref 1), x, y] ∧ trimO 2 y = y ∧ 0 ≤ a ∧ (∀ p, MarkOk most (m p)) ∧
    st1 = [poolC ns a, .dT (pre.map fun p => (pairK p, markD (m p)))]
  have hf0 : ∀ (a : Int) l, Flat0 [poolC ns a, Cell.dT l] := fun a l => (Flat0.nil.dT).lst
  obtain ⟨env', st', hf, x, y, m, a', rfl, _, ha', hm, rfl⟩ := for_list (n := 2) (t := .nm 4) (body := m_d_law_marks_f0) (f := pairD) (pairsOf ps) I (env := [some (.ref 0), some (gameD ps most), some (.int miss), some (.ref 1), none, none]) (st := [poolC ns a, .dT []]) ⟨none, none, fun _ => none, a, rfl, rfl, ha, fun _ => trivial, rfl⟩ (by
    rintro pre p post _ _ e ⟨x, y, m, a, rfl, hy, ha, hm, rfl⟩
    have nd := pairs_nodup g.nd
    rw [e] at nd
    have hpn : p ∉ pre := fun z => (List.nodup_append.mp nd).2.2 p z p List.mem_cons_self rfl
    have hpre : pre.length < 1000000 := by
      have h1 := congrArg List.length e
      have h2 := pairs_len g.l8
      rw [List.length_append, List.length_cons] at h1
      omega
    let E : Option D → En := fun y => [some (.ref 0), some (gameD ps most), some (.int miss), some (.ref 1), some (pairD p), y]
    let L := pre.map fun p => (pairK p, markD (m p))
    have knot : pairK p ∉ L.map (·.1) := by
      intro z
      obtain ⟨q, hq, e2⟩ := List.mem_map.mp z
      obtain ⟨r, hr, rfl⟩ := List.mem_map.mp hq
      exact hpn (pairK_inj _ _ e2 ▸ hr)
    -- is it missing?
    have miss_ok : ∃ (b : Bool) (a1 : Int), 0 ≤ a1 ∧ (mAndV (mOp gGt (mVar 2) (mC (.int 0))) (mOp gEq (mCall 2 c_d_law_draw (mCons (mVar 0) (mCons (mVar 2) mNil))) (mC (.int 0)))) (E y) [poolC ns a, .dT L] = some (.ok (.bl b), [poolC ns a1, .dT L]) := by
      by_cases h : 0 < miss
      · obtain ⟨r, hr, r0, r1⟩ := draw_ok (ns := ns) (a := a) (many := miss) (rest := [.dT L]) Flat0.nil.dT ha h
        exact ⟨decide (r = 0), a + 1, by omega, by simp [E, h, hr]⟩
      · exact ⟨false, a, ha, by simp [E, h]⟩
    obtain ⟨b, a1, ha1, hb⟩ := miss_ok
    have val_ok : ∃ (v : Option Int) (a2 : Int), 0 ≤ a2 ∧ MarkOk most v ∧ (mIf (mVal (mVar 5)) (mC .non) (mCall 2 c_d_law_draw (mCons (mVar 0) (mCons (mOp gAdd (mOp gDGetR (mVar 1) (mC (.str "most"))) (mC (.int 1))) mNil)))) (E (some (.bl b))) [poolC ns a1, .dT L] = some (.ok (markD v), [poolC ns a2, .dT L]) := by
      cases b with
      | true => exact ⟨none, a1, ha1, trivial, by simp [E, markD]⟩
      | false =>
        obtain ⟨r, hr, r0, r1⟩ := draw_ok (ns := ns) (a := a1) (many := most + 1) (rest := [.dT L]) Flat0.nil.dT ha1 (by omega)
        exact ⟨some r, a1 + 1, by omega, ⟨r0, by omega⟩, by simp [E, hr, markD, game_most]⟩
    obtain ⟨v, a2, ha2, hv, hval⟩ := val_ok
    let m' : Str × Str → Option Int := fun q => if q = p then v else m q
    have eL : L ++ [(pairK p, markD v)] = (pre ++ [p]).map fun p => (pairK p, markD (m' p)) := by
      rw [List.map_append]
      congr 1
      · refine List.map_congr_left fun q hq => ?_
        show _ = (pairK q, markD (if q = p then v else m q))
        rw [if_neg fun z : q = p => hpn (z ▸ hq)]
      · show _ = [(pairK p, markD (if p = p then v else m p))]
        rw [if_pos rfl]
    refine ⟨_, E (some (.bl b)), [poolC ns a2, .dT (L ++ [(pairK p, markD v)])], rfl, ?_, rfl, some (pairD p), some (.bl b), m', a2, rfl, rfl, ha2, fun q => ?_, by rw [← eL]; rfl⟩
    · show m_d_law_marks_f0 (E y) [poolC ns a, .dT L] = _
      unfold m_d_law_marks_f0
      rw [v_seq (v_asg hb)]
      show mDPut (mVar 3) (mVar 4) _ (E (some (.bl b))) _ = _
      unfold mDPut
      rw [hval, bndS_ok, v_var (d := .ref 1) rfl, bndS_ok, v_var (d := pairD p) rfl, bndS_ok, dput_new knot (by rw [List.length_map]; exact hpre) markD_isD]
    · show MarkOk most (if q = p then v else m q)
      split
      · exact hv
      · exact hm q)
  refine ⟨m, a', ?_, hm, ha'⟩
  have hgp : c_d_law_pairs [strsD ps] [poolC ns a, .dT []] = some (.ok (.lst ((pairsOf ps).map pairD)), [poolC ns a, .dT []]) := law_pairs_ok (hf0 _ _) g
  have hfor : mFor (mItL (mCall 1 c_d_law_pairs (mCons (mOp gDGetR (mVar 1) (mC (.str "words"))) mNil))) (.nm 4) m_d_law_marks_f0 [some (.ref 0), some (gameD ps most), some (.int miss), some (.ref 1), none, none] [poolC ns a, .dT []] = some (.next, [some (.ref 0), some (gameD ps most), some (.int miss), some (.ref 1), x, y], [poolC ns a', .dT (marksD ps m)]) :=
    v_for (st1 := [poolC ns a, .dT []]) (ds := (pairsOf ps).map pairD) (by simp [game_words, hgp]) hf
  have hm2 : m_d_law_marks (startE 6 [.ref 0, gameD ps most, .int miss]) [poolC ns a] = some (.ret (.ref 1), [some (.ref 0), some (gameD ps most), some (.int miss), some (.ref 1), x, y], [poolC ns a', .dT (marksD ps m)]) := by
    simp [m_d_law_marks, startE, hfor]
  unfold c_d_law_marks mkD
  rw [hm2]
  rfl
end Own


namespace Own
open PySem L2 M
/-! ### pages read -/
theorem fld_crowd {ids : List Nat} {ps : List Str} {most : Int} {m : Str × Str → Option Int} {st : Store} (h : kPage ∈ ids) : gFld ids "crowd" st (pageD ps most m) = some (crowdD ps most) := by
  unfold pageD
  rw [e_fld_obj, if_pos h]
  rfl
theorem fld_marks {ids : List Nat} {ps : List Str} {most : Int} {m : Str × Str → Option Int} {st : Store} (h : kPage ∈ ids) : gFld ids "own_marks" st (pageD ps most m) = some (.dT (marksD ps m)) := by
  unfold pageD
  rw [e_fld_obj, if_pos h]
  rfl
theorem page_tag {ps : List Str} {most : Int} {m : Str × Str → Option Int} {st : Store} : tagD st (pageD ps most m) = some (.inr kPage) := rfl
theorem check_spread_ok {ps : List Str} {most s : Int} {m : Str × Str → Option Int} {st : Store} (hs : Ok st) (h0 : 0 ≤ s) (h1 : s ≤ most) : c_check_spread [pageD ps most m, .int s] st = some (.ok .non, st) := by
  refine fn_next (env' := [some (pageD ps most m), some (.int s)]) ?_ hs
  simp [m_check_spread, startE, page_tag, fld_crowd, fld_most, count_ok hs, h0, h1]
theorem in_two {neg : Bool} {x a b : Str} {st : Store} : gInF neg st (.str x) (.tup [.str a, .str b]) = some (.bl ((decide (a = x) || decide (b = x)) != neg)) := by
  unfold gInF
  simp [flatD, eqvD]
  rfl
theorem in_list {neg : Bool} {x : Str} {l : List Str} {st : Store} : gInF neg st (.str x) (.lst (l.map D.str)) = some (.bl (decide (x ∈ l) != neg)) := by
  have h1 : (l.map D.str).all flatD = true := by
    rw [List.all_eq_true]
    intro d hd
    obtain ⟨y, _, rfl⟩ := List.mem_map.mp hd
    rfl
  have h2 : ((l.map D.str).any fun z => eqvD z (.str x)) = decide (x ∈ l) := by
    rw [List.any_map]
    induction l with
    | nil => rfl
    | cons y l ih =>
      have h3 : (l.map D.str).all flatD = true := by
        rw [List.map_cons, List.all_cons, Bool.and_eq_true] at h1
        exact h1.2
      rw [List.any_cons, ih h3]
      have e : ((fun z => eqvD z (.str x)) ∘ D.str) y = decide (y = x) := by
        show eqvD (.str y) (.str x) = _
        simp [eqvD]
        rfl
      rw [e]
      by_cases h : y = x
      · simp [h]
      · simp [h, Ne.symm h]
  unfold gInF
  rw [if_pos (show flatD (.str x) = true from rfl), e_rd_lst]
  dsimp only
  rw [if_pos h1, h2]
def max2 (i j : Int) : Int := if j > i then j else i
def diff (m : Str × Str → Option Int) (a b x : Str) : Int := if a = x ∨ b = x then 0 else match m (a, x), m (b, x) with
  | some u, some v => max2 (u - v) (v - u)
  | _, _ => 0
theorem differs_ok {ps : List Str} {most : Int} {m : Str × Str → Option Int} {st : Store} {a b x : Str} (hs : Ok st) (ha : a ∈ ps) (hb : b ∈ ps) (hx : x ∈ ps) : c_differs_by [pageD ps most m, .str a, .str b, .str x] st = some (.ok (.int (diff m a b x)), st) := by
  by_cases h : a = x ∨ b = x
  · refine fn_ret (env' := [some (pageD ps most m), some (.str a), some (.str b), some (.str x), none, none]) ?_ hs rfl
    simp [m_differs_by, startE, in_two, h, diff]
  · have h1 : (a, x) ∈ pairsOf ps := mem_pairs.mpr ⟨ha, hx, fun z => h (.inl z)⟩
    have h2 : (b, x) ∈ pairsOf ps := mem_pairs.mpr ⟨hb, hx, fun z => h (.inr z)⟩
    refine fn_ret (env' := [some (pageD ps most m), some (.str a), some (.str b), some (.str x), some (markD (m (a, x))), some (markD (m (b, x)))]) ?_ hs rfl
    have e1 := dget_mark (st := st) (m := m) h1
    have e2 := dget_mark (st := st) (m := m) h2
    cases q1 : m (a, x) with
    | none => simp [m_differs_by, startE, in_two, h, diff, fld_marks, e1, e2, q1, markD, M.isNon]
    | some u =>
      cases q2 : m (b, x) with
      | none => simp [m_differs_by, startE, in_two, h, diff, fld_marks, e1, e2, q1, q2, markD, M.isNon]
      | some v => simp [m_differs_by, startE, in_two, h, diff, fld_marks, e1, e2, q1, q2, markD, M.isNon, max2]
def couplesOf (ps : List Str) : List (Str × Str) := ps.zipIdx.flatMap fun p => (ps.drop (p.2 + 1)).map fun b => (p.1, b)
theorem flat_len {α β : Type} (f : α → List β) (k : Nat) : ∀ l : List α, (∀ a ∈ l, (f a).length ≤ k) → (l.flatMap f).length ≤ l.length * k
  | [], _ => by simp
  | a :: l, h => by
    have h1 := h a List.mem_cons_self
    have h2 := flat_len f k l fun b hb => h b (List.mem_cons_of_mem _ hb)
    rw [List.flatMap_cons, List.length_append, List.length_cons, Nat.succ_mul]
    omega
theorem couples_len {ps : List Str} (h : ps.length ≤ 8) : (couplesOf ps).length ≤ 64 := by
  have := flat_len (fun p : Str × Nat => (ps.drop (p.2 + 1)).map fun b => (p.1, b)) 8 ps.zipIdx fun p _ => by simp; omega
  rw [List.length_zipIdx] at this
  unfold couplesOf
  omega
theorem mem_couples {ps : List Str} {a b : Str} (h : (a, b) ∈ couplesOf ps) : a ∈ ps ∧ b ∈ ps := by
  obtain ⟨p, hp, h2⟩ := List.mem_flatMap.mp h
  obtain ⟨c, hc, e⟩ := List.mem_map.mp h2
  cases e
  have h3 : p.1 ∈ ps.zipIdx.map (·.1) := List.mem_map_of_mem hp
  rw [zip_keys] at h3
  exact ⟨h3, List.mem_of_mem_drop hc⟩
theorem slice_from {ps : List Str} {i : Nat} {env : En} {st : Store} {e1 : env[0]? = some (some (strsD ps))} {ml : ME} (h : ml env st = some (.ok (.int (i : Nat)), st)) : mSl (mVar 0) (moSome ml) moNone env st = some (.ok (strsD (ps.drop i)), st) := by
  rw [mSl_drop (v_var e1) h (by omega), Int.toNat_natCast, ← List.map_drop]
theorem couples_ok {ps : List Str} {st : Store} (hs : Ok st) (h8 : ps.length ≤ 8) : c_couples [strsD ps] st = some (.ok (.lst ((couplesOf ps).map pairD)), st) := by
  refine fn_ret (env' := [some (strsD ps), none, none, none]) ?_ hs rfl
  have e : (couplesOf ps).map pairD = (ps.zipIdx.filter fun _ => true).flatMap fun p => ((ps.drop (p.2 + 1)).filter fun _ => true).map fun b => pairD (p.1, b) := by
    rw [List.filter_eq_self.mpr fun _ _ => rfl]
    unfold couplesOf
    rw [List.map_flatMap]
    congr 1
    funext p
    rw [List.map_map, List.filter_eq_self.mpr fun _ _ => rfl]
    rfl
  have h := lc2_eq (mi := mEnum (mVar 0)) (t := .tp [1, 2]) (mt := tYesM) (mi1 := mItL (mSl (mVar 0) (moSome (mOp gAdd (mVar 1) (mC (.int 1)))) moNone)) (t1 := .nm 3) (mt1 := tYesM) (me := mTup (mCons (mVar 2) (mCons (mVar 3) mNil))) (vs := [1, 2, 3]) (vs1 := [3])
    (env := [some (strsD ps), none, none, none]) (st := st) ps.zipIdx (fun x => .tup [.int x.2, .str x.1]) (fun p => ps.drop (p.2 + 1)) D.str (fun _ => true) (fun _ _ => true) (fun p b => pairD (p.1, b)) (by simp [enumD_eq])
    (by rw [← e, List.length_map]; have := couples_len h8; simp; omega)
    fun p hp => ⟨_, rfl, rfl, fun _ => ⟨by
      have h := slice_from (ps := ps) (i := p.2 + 1) (env := [some (strsD ps), some (.int p.2), some (.str p.1), none]) (st := st) (e1 := rfl) (ml := mOp gAdd (mVar 1) (mC (.int 1))) (by simp)
      show mItL _ [some (strsD ps), some (.int p.2), some (.str p.1), none] st = _
      rw [e_itL, h, bnd_ok], fun b hb => ⟨_, rfl, rfl, fun _ => ⟨by simp [pairD], rfl⟩⟩⟩⟩
  rw [← e] at h
  simp [m_couples, startE, h]
/-! ### a cell at the end -/
theorem app_last {i : Nat} {me : ME} {env : En} {st : Store} {acc : List D} {d : D} (h0 : env[i]? = some (some (.ref st.length))) (hm : me env (st ++ [.lst acc]) = some (.ok d, st ++ [.lst acc])) (hl : acc.length < 1000000) (hd : isD d = true) :
    mDrop (mMet gAppend (mVar i) (mCons me mNil)) env (st ++ [.lst acc]) = some (.next, env, st ++ [.lst (acc ++ [d])]) := by
  refine v_drop (d := .non) (met_ok (v_var h0) (xs := acc) ?_ (by rw [e_cons, hm, bnd_ok, e_nil, bnd_ok]) ?_)
  · show (match (st ++ [Cell.lst acc])[st.length]? with
      | some (.lst ds) => D.lst ds
      | some (.dK kvs) => .dK kvs
      | some (.dT kvs) => .dT kvs
      | _ => .ref st.length) = _
    rw [get_last]
  · rw [met_append get_last hl hd, set_last]
theorem Flat0.last {st : Store} {xs : List D} (h : Flat0 st) : Flat0 (st ++ [.lst xs]) := fun c hc => (List.mem_append.mp hc).elim (h c) fun e => .inl ⟨xs, List.mem_singleton.mp e⟩
theorem take_last {st : Store} {c : Cell} : (st ++ [c]).take (st.length + 1) = st ++ [c] := List.take_of_length_le (by simp)
def tripD (c : Str × Str × Str) : D := .tup [.str c.1, .str c.2.1, .str c.2.2]
def clashAt (ps : List Str) (m : Str × Str → Option Int) (s : Int) (c : Str × Str) : List (Str × Str × Str) := (ps.filter fun x => decide (s < diff m c.1 c.2 x)).map fun x => (c.1, c.2, x)
def clashesOf (ps : List Str) (m : Str × Str → Option Int) (s : Int) : List (Str × Str × Str) := (couplesOf ps).flatMap (clashAt ps m s)
theorem clashAt_len {ps : List Str} {m : Str × Str → Option Int} {s : Int} {c : Str × Str} (h : ps.length ≤ 8) : (clashAt ps m s c).length ≤ 8 := by
  unfold clashAt
  rw [List.length_map]
  exact Nat.le_trans (List.length_filter_le _ _) h
theorem crowd_iter {ps : List Str} {most : Int} {m : Str × Str → Option Int} {env : En} {st : Store} (hs : Ok st) (h0 : env[0]? = some (some (pageD ps most m))) : mProp 6 c_Crowd_people (mUn (gFld [7] "crowd") (mVar 0)) env st = some (.ok (strsD ps), st) := by
  rw [e_prop, e_un, v_var h0, bnd_ok, fld_crowd (by decide), e_elimS, bnd_ok, crowd_obj, e_elimS, if_pos rfl, crowd_people hs, e_okK]
theorem clashes_ok {ps : List Str} {most s : Int} {m : Str × Str → Option Int} {st : Store} (hs : Flat0 st) (g : People ps) (h0 : 0 ≤ s) (h1 : s ≤ most) : c_clashes [pageD ps most m, .int s] st = some (.ok (.lst ((clashesOf ps m s).map tripD)), st) := by
  have h8 := g.l8
  let E : Option D → Option D → Option D → En := fun x y z => [some (pageD ps most m), some (.int s), some (.ref st.length), x, y, z]
  -- the inner loop
  have inner : ∀ (a b : Str) (acc : List D) (z : Option D), (a, b) ∈ couplesOf ps → acc.length ≤ 64 * 8 → ∃ z', m_clashes_f1 (E (some (.str a)) (some (.str b)) z) (st ++ [.lst acc]) = some (.next, E (some (.str a)) (some (.str b)) z', st ++ [.lst (acc ++ (clashAt ps m s (a, b)).map tripD)]) ∧ (trimO (st.length + 1) z = z → trimO (st.length + 1) z' = z') := by
    intro a b acc z hc hacc
    obtain ⟨ha, hb⟩ := mem_couples hc
    let I : List Str → En → Store → Prop := fun pre env st1 => ∃ z', env = E (some (.str a)) (some (.str b)) z' ∧ (trimO (st.length + 1) z = z → trimO (st.length + 1) z' = z') ∧ st ++ [.lst (acc ++ ((pre.filter fun x => decide (s < diff m a b x)).map fun x => tripD (a, b, x)))] = st1
    obtain ⟨env', st', hf, z', rfl, hz', rfl⟩ := for_list (n := st.length + 1) (t := .nm 5) (body := m_clashes_f0) (f := D.str) ps I (env := E (some (.str a)) (some (.str b)) z) (st := st ++ [.lst acc]) ⟨z, rfl, fun h => h, by simp⟩ (by
      rintro pre x post _ _ e ⟨z', rfl, hz', rfl⟩
      have hx : x ∈ ps := by rw [e]; simp
      have hpre : pre.length ≤ 8 := by
        have := congrArg List.length e
        rw [List.length_append, List.length_cons] at this
        omega
      let A := acc ++ ((pre.filter fun x => decide (s < diff m a b x)).map fun x => tripD (a, b, x))
      have hA : A.length < 1000000 := by
        show (acc ++ _).length < _
        rw [List.length_append, List.length_map]
        have := List.length_filter_le (fun x => decide (s < diff m a b x)) pre
        omega
      have hdf := differs_ok (most := most) (m := m) (hs.last (xs := A)).ok ha hb hx
      refine ⟨_, E (some (.str a)) (some (.str b)) (some (.str x)), st ++ [.lst (acc ++ (((pre ++ [x]).filter fun x => decide (s < diff m a b x)).map fun x => tripD (a, b, x)))], rfl, ?_, by rw [take_last]; exact (hs.last).all _, some (.str x), ?_, fun _ => rfl, take_last.symm⟩
      · show m_clashes_f0 (E (some (.str a)) (some (.str b)) (some (.str x))) (st ++ [.lst A]) = _
        unfold m_clashes_f0
        have ht : (mVal (mOp gGt (mCall 4 c_differs_by (mCons (mVar 0) (mCons (mVar 3) (mCons (mVar 4) (mCons (mVar 5) mNil))))) (mVar 1))) (E (some (.str a)) (some (.str b)) (some (.str x))) (st ++ [.lst A]) = some (.ok (decide (s < diff m a b x)), st ++ [.lst A]) := by
          simp [E, hdf]
        rw [List.filter_append, List.map_append, ← List.append_assoc]
        by_cases hlt : s < diff m a b x
        · rw [decide_eq_true hlt] at ht
          rw [v_ifT ht]
          have h2 := app_last (i := 2) (me := mTup (mCons (mVar 3) (mCons (mVar 4) (mCons (mVar 5) mNil)))) (env := E (some (.str a)) (some (.str b)) (some (.str x))) (st := st) (acc := A) (d := tripD (a, b, x)) rfl (by simp [E, tripD]) hA rfl
          rw [h2]
          simp [hlt, A]
        · rw [decide_eq_false hlt] at ht
          rw [v_ifF ht]
          simp [hlt, A]
      · show trimE (st.length + 1) (E _ _ _) = _
        simp only [E, trimE, List.map_cons, List.map_nil]
        simp [trimO, pageD])
    refine ⟨z', ?_, hz'⟩
    unfold m_clashes_f1
    have h2 := v_for (mi := mItL (mProp 6 c_Crowd_people (mUn (gFld [7] "crowd") (mVar 0)))) (t := .nm 5) (body := m_clashes_f0) (env := E (some (.str a)) (some (.str b)) z) (st := st ++ [.lst acc]) (st1 := st ++ [.lst acc]) (ds := ps.map D.str) (by
      rw [e_itL, crowd_iter (hs.last).ok rfl, bnd_ok]) (by rw [List.length_append]; exact hf)
    rw [h2]
    unfold clashAt
    rw [List.map_map]
    rfl
  let I : List (Str × Str) → En → Store → Prop := fun pre env st1 => ∃ x y z, env = E x y z ∧ trimO (st.length + 1) x = x ∧ trimO (st.length + 1) y = y ∧ trimO (st.length + 1) z = z ∧ st ++ [.lst ((pre.flatMap (clashAt ps m s)).map tripD)] = st1
  obtain ⟨env', st', hf, x, y, z, rfl, _, _, _, rfl⟩ := for_list (n := st.length + 1) (t := .tp [3, 4]) (body := m_clashes_f1) (f := pairD) (couplesOf ps) I (env := E none none none) (st := st ++ [.lst []]) ⟨none, none, none, rfl, rfl, rfl, rfl, rfl⟩ (by
    rintro pre ⟨a, b⟩ post _ _ e ⟨x, y, z, rfl, hx, hy, hz, rfl⟩
    have hc : (a, b) ∈ couplesOf ps := by rw [e]; simp
    have hpre : pre.length ≤ 64 := by
      have h2 := congrArg List.length e
      have h3 := couples_len h8
      rw [List.length_append, List.length_cons] at h2
      omega
    have hacc : ((pre.flatMap (clashAt ps m s)).map tripD).length ≤ 64 * 8 := by
      rw [List.length_map]
      have := flat_len (clashAt ps m s) 8 pre fun _ _ => clashAt_len h8
      omega
    obtain ⟨z', hz1, hz2⟩ := inner a b _ z hc hacc
    refine ⟨E (some (.str a)) (some (.str b)) z, _, _, rfl, hz1, by rw [take_last]; exact (hs.last).all _, some (.str a), some (.str b), z', ?_, rfl, rfl, hz2 hz, ?_⟩
    · show trimE (st.length + 1) (E _ _ _) = _
      simp only [E, trimE, List.map_cons, List.map_nil, hz2 hz]
      simp [trimO, pageD]
    · rw [take_last, List.flatMap_append, List.map_append]
      simp)
  have hcp := couples_ok (ps := ps) (hs.last (xs := [])).ok h8
  refine fn_cell (i := st.length) (env' := E x y z) (st' := st ++ [.lst ((clashesOf ps m s).map tripD)]) ?_ take_more get_last (Nat.le_refl _) hs.ok
  have hfor := v_for (mi := mItL (mCall 1 c_couples (mCons (mProp 6 c_Crowd_people (mUn (gFld [7] "crowd") (mVar 0))) mNil))) (t := .tp [3, 4]) (body := m_clashes_f1) (env := E none none none) (st := st ++ [.lst []]) (st1 := st ++ [.lst []]) (ds := (couplesOf ps).map pairD) (by
    rw [e_itL, e_call, e_cons, crowd_iter (hs.last).ok rfl, bnd_ok, e_nil, bnd_ok, bnd_ok, if_pos (show [strsD ps].length = 1 from rfl), hcp, bnd_ok]) (by rw [List.length_append]; exact hf)
  show m_clashes [some (pageD ps most m), some (.int s), none, none, none, none] st = _
  unfold m_clashes
  rw [v_seq (v_drop (d := .non) (st1 := st) (env := [some (pageD ps most m), some (.int s), none, none, none, none]) (by simp [check_spread_ok hs.ok h0 h1]))]
  rw [v_seq (env1 := E none none none) (st1 := st ++ [.lst []]) (by simp [E])]
  rw [v_seq hfor]
  exact v_ret (v_var rfl)
end Own


namespace Own
open PySem L2 M
/-! ### lists and tuples alike -/
def seq2 (k : Bool) (ds : List D) : D := if k = true then .lst ds else .tup ds
theorem seq2_tag {k : Bool} {ds : List D} {st : Store} : tagD st (seq2 k ds) = some (.inl (if k = true then .lst else .tup)) := by cases k <;> rfl
theorem seq2_len {k : Bool} {ds : List D} {st : Store} : gLenA st [seq2 k ds] = some (.int (ds.length : Nat)) := by cases k <;> rfl
theorem seq2_it {k : Bool} {ds : List D} {env : En} {st : Store} {i : Nat} (h : env[i]? = some (some (seq2 k ds))) : mItS (mVar i) env st = some (.ok ds, st) := by
  unfold mItS
  rw [v_var h, bnd_ok]
  cases k <;> rfl
theorem in_seq2 {neg k : Bool} {x : Str} {r : List Str} {st : Store} : gInF neg st (.str x) (seq2 k (r.map D.str)) = some (.bl (decide (x ∈ r) != neg)) := by
  have h := in_list (neg := neg) (x := x) (l := r) (st := st)
  cases k
  · show gInF neg st (.str x) (.tup (r.map D.str)) = _
    unfold gInF at h ⊢
    rw [e_rd_lst] at h
    rw [e_rd_tup]
    exact h
  · exact h
abbrev mIsSeq (i : Nat) : ME := mCB (gIsi [6, 7]) (mCons (mVar i) (mCons (mTup (mCons (mC (.ty .lst)) (mCons (mC (.ty .tup)) mNil))) mNil))
theorem v_isSeq {i : Nat} {d : D} {t : Tag} {env : En} {st : Store} (h : env[i]? = some (some d)) (ht : tagD st d = some (.inl t)) : mIsSeq i env st = some (.ok (.bl (decide (t = .lst) || decide (t = .tup))), st) := by
  refine v_cb (v_cons (v_var h) (v_cons (show (mTup (mCons (mC (.ty .lst)) (mCons (mC (.ty .tup)) mNil))) env st = some (.ok (.tup [.ty .lst, .ty .tup]), st) by simp) rfl)) ?_
  rw [e_isi_tup, ht, e_elimS, e_isiCons, e_isi1_bb, e_elimS, e_isiCons, e_isi1_bb, e_elimS, e_isiNil, e_elimS]
  cases t <;> rfl
abbrev mIsPage (i : Nat) : ME := mCB (gIsi [6, 7]) (mCons (mVar i) (mCons (mC (.cls 7)) mNil))
theorem v_isPage {ps : List Str} {most : Int} {m : Str × Str → Option Int} {i : Nat} {env : En} {st : Store} (h : env[i]? = some (some (pageD ps most m))) : mIsPage i env st = some (.ok (.bl true), st) := v_cb (v_cons (v_var h) (v_cons rfl rfl)) (by rw [e_isi_cls, page_tag]; rfl)
theorem v_noPage {d : D} {t : Tag} {i : Nat} {env : En} {st : Store} (h : env[i]? = some (some d)) (ht : tagD st d = some (.inl t)) : mIsPage i env st = some (.ok (.bl false), st) := v_cb (v_cons (v_var h) (v_cons rfl rfl)) (by rw [e_isi_cls, ht]; rfl)
/-! ### who goes together -/
def together (ps : List Str) (m : Str × Str → Option Int) (s : Int) (qs : List Str) : Bool := !((clashesOf ps m s).any fun c => decide (c.1 ∈ qs) && decide (c.2.1 ∈ qs))
theorem ones_ok2 {mi : MA} {env : En} {i : Nat} {st : Store} {ps : List Str} (nd : ps.Nodup) (hl : ps.length ≤ 8) (hi : mi env st = some (.ok (ps.map D.str), st)) (hn : i < env.length) : mDc mi (.nm i) tYesM (mVar i) (mC (.int 1)) [i] env st = some (.ok (.dK (ps.map fun x => (.inr x, .int 1))), st) := by
  have h := dc_eq (mi := mi) (t := .nm i) (mt := tYesM) (mk := mVar i) (mv := mC (.int 1)) (vs := [i]) (env := env) (st := st) ps D.str (fun _ => true) (fun x => .inr x) (fun _ => .int 1) hi (by omega)
    fun x hx => ⟨_, rfl, rfl, fun _ => ⟨v_var (d := .str x) (by simp [hn]), rfl, rfl⟩⟩
  rw [h, List.filter_eq_self.mpr fun _ _ => rfl, foldP_map (κ := Key) inr_inj nd]
section
variable {ps : List Str} {m : Str × Str → Option Int} {most s : Int} {st : Store}
abbrev gE (ps : List Str) (most : Int) (m : Str × Str → Option Int) (V W : D) : En := [some (pageD ps most m), some V, some W, none, none, none, none]
/-- all of them are of the crowd -/
theorem tg_in {k : Bool} {ds : List D} {W : D} {inC : D → Bool} (hin : ∀ d ∈ ds, c_Crowd__ucontains_u [crowdD ps most, d] st = some (.ok (.bl (inC d)), st)) (len : ds.length ≤ 1000) :
    (mNot (mVal (mCB gAll (mCons (mLc (mItS (mVar 1)) (.nm 3) tYesM (mOpS (gInO 6 c_Crowd__ucontains_u false) (mVar 3) (mUn (gFld [7] "crowd") (mVar 0))) [3]) mNil)))) (gE ps most m (seq2 k ds) W) st = some (.ok (!ds.all inC), st) := by
  have h3 := lc_map (mi := mItS (mVar 1)) (t := .nm 3) (me := mOpS (gInO 6 c_Crowd__ucontains_u false) (mVar 3) (mUn (gFld [7] "crowd") (mVar 0))) (vs := [3]) (env := gE ps most m (seq2 k ds) W) (st := st) ds (fun d => d) (fun d => .bl (inC d)) (by rw [List.map_id']; exact seq2_it rfl) (by omega)
    fun d hd => ⟨_, rfl, v_opS (v_var rfl) (v_un (v_var (d := pageD ps most m) rfl) (fld_crowd (by decide))) (by rw [e_inO, crowd_obj, e_elimS, if_pos rfl, hin d hd, e_inK, Bool.bne_false]), rfl⟩
  exact v_not (v_val (v_cb (v_cons h3 rfl) (gAll_eq _ _)))
theorem tg_page {V W : D} : (mNot (mVal (mIsPage 0))) (gE ps most m V W) st = some (.ok false, st) := v_not (v_val (v_isPage rfl))
theorem tg_seq {k : Bool} {ds : List D} {W : D} : (mNot (mVal (mIsSeq 1))) (gE ps most m (seq2 k ds) W) st = some (.ok false, st) := by
  have : mIsSeq 1 (gE ps most m (seq2 k ds) W) st = some (.ok (.bl true), st) := by
    rw [v_isSeq rfl seq2_tag]
    cases k <;> rfl
  exact v_not (v_val this)
theorem clashes_few (h8 : ps.length ≤ 8) : (clashesOf ps m s).length ≤ 512 := by
  have h2 := flat_len (clashAt ps m s) 8 (couplesOf ps) fun _ _ => clashAt_len h8
  have h3 := couples_len h8
  unfold clashesOf
  omega
theorem together_ok {k : Bool} {qs : List Str} (hs : Flat0 st) (g : People ps) (h0 : 0 ≤ s) (h1 : s ≤ most) (nd : qs.Nodup) (len : qs.length ≤ 8) (sub : ∀ p ∈ qs, p ∈ ps) : c_goes_together [pageD ps most m, seq2 k (qs.map D.str), .int s] st = some (.ok (.bl (together ps m s qs)), st) := by
  have h8 := g.l8
  let V := seq2 k (qs.map D.str)
  let E : En := gE ps most m V (.int s)
  refine fn_ret (env' := E) ?_ hs.ok rfl
  have hin : (mNot (mVal (mCB gAll (mCons (mLc (mItS (mVar 1)) (.nm 3) tYesM (mOpS (gInO 6 c_Crowd__ucontains_u false) (mVar 3) (mUn (gFld [7] "crowd") (mVar 0))) [3]) mNil)))) E st = some (.ok false, st) := by
    have := tg_in (ps := ps) (m := m) (most := most) (st := st) (k := k) (ds := qs.map D.str) (W := .int s) (inC := fun _ => true) (fun d hd => by
      obtain ⟨p, hp, rfl⟩ := List.mem_map.mp hd
      rw [crowd_in hs.ok (g.w p (sub p hp)), decide_eq_true (sub p hp)]) (by rw [List.length_map]; omega)
    rw [List.all_eq_true.mpr fun _ _ => rfl] at this
    exact this
  have hd := ones_ok2 (mi := mItS (mVar 1)) (env := E) (i := 3) (st := st) nd len (seq2_it rfl) (show 3 < 7 by decide)
  have hcl := clashes_few (m := m) (s := s) h8
  have hcm := clashes_ok (most := most) hs g h0 h1 (m := m)
  have hany := lc_map (mi := mItL (mCall 2 c_clashes (mCons (mVar 0) (mCons (mVar 2) mNil)))) (t := .tp [4, 5, 6]) (me := mAndV (mOp (gInF false) (mVar 4) (mVar 1)) (mOp (gInF false) (mVar 5) (mVar 1))) (vs := [4, 5, 6]) (env := E) (st := st) (clashesOf ps m s) tripD (fun c => .bl (decide (c.1 ∈ qs) && decide (c.2.1 ∈ qs))) (by rw [e_itL, v_call (n := 2) (v_cons (v_var rfl) (v_cons (v_var rfl) rfl)) rfl hcm, bnd_ok]) (by omega)
    fun c hc => ⟨_, rfl, by
      obtain ⟨a, b, x⟩ := c
      have t1 : (mOp (gInF false) (mVar 4) (mVar 1)) [some (pageD ps most m), some V, some (.int s), none, some (.str a), some (.str b), some (.str x)] st = some (.ok (.bl (decide (a ∈ qs))), st) := v_op (v_var rfl) (v_var rfl) (by rw [in_seq2, Bool.bne_false])
      have t2 : (mOp (gInF false) (mVar 5) (mVar 1)) [some (pageD ps most m), some V, some (.int s), none, some (.str a), some (.str b), some (.str x)] st = some (.ok (.bl (decide (b ∈ qs))), st) := v_op (v_var rfl) (v_var rfl) (by rw [in_seq2, Bool.bne_false])
      show mAndV _ _ [some (pageD ps most m), some V, some (.int s), none, some (.str a), some (.str b), some (.str x)] st = _
      cases q : decide (a ∈ qs) with
      | true => rw [q] at t1; rw [v_andVT t1, t2]; rfl
      | false => rw [q] at t1; rw [v_andVF t1]; rfl, rfl⟩
  show m_goes_together E st = _
  unfold m_goes_together
  rw [v_seq (by rw [v_ifF tg_page]; rfl), v_seq (by rw [v_ifF (by rw [v_orF tg_seq, hin])]; rfl)]
  rw [v_seq (by rw [v_ifF (v_val (v_op (v_cb (v_cons hd rfl) e_len_dK) (v_cb (v_cons (v_var rfl) rfl) seq2_len) (by rw [e_neInt, List.length_map, List.length_map, decide_eq_true rfl]; rfl)))]; rfl)]
  rw [v_seq (v_drop (v_call (n := 2) (v_cons (v_var rfl) (v_cons (v_var rfl) rfl)) rfl (check_spread_ok hs.ok h0 h1)))]
  refine v_ret ?_
  rw [e_notV, e_cb, e_cons, hany, bnd_ok, e_nil, bnd_ok, bnd_ok, gAny_eq, e_elimS, bnd_ok, e_blK]
  rfl
end
end Own


namespace Own
open PySem L2 M
/-! ### the law's own look at clashes -/
section
variable {ps : List Str} {m : Str × Str → Option Int} {s : Int} {st : Store}
abbrev lcE (ps : List Str) (m : Str × Str → Option Int) (s : Int) (n : Nat) (x4 x5 x6 x7 x8 x9 x10 : Option D) : En := [some (strsD ps), some (.dT (marksD ps m)), some (.int s), some (.ref n), x4, x5, x6, x7, x8, x9, x10]
theorem lcE_trim {n : Nat} {x4 x5 x6 x7 x8 x9 x10 : Option D} : trimE (n + 1) (lcE ps m s n x4 x5 x6 x7 x8 x9 x10) = lcE ps m s n (trimO (n + 1) x4) (trimO (n + 1) x5) (trimO (n + 1) x6) (trimO (n + 1) x7) (trimO (n + 1) x8) (trimO (n + 1) x9) (trimO (n + 1) x10) := by
  simp only [lcE, trimE, List.map_cons, List.map_nil]
  simp [trimO]
def apart (a b : Str) (x : Str) : Bool := !decide (x ∈ [a, b])
def told (m : Str × Str → Option Int) (s : Int) (a b x : Str) : Bool := decide (s < diff m a b x)
theorem told_apart {a b x : Str} (h0 : 0 ≤ s) (h : apart a b x = false) : told m s a b x = false := by
  unfold apart at h
  have h2 : x ∈ [a, b] := by
    rw [Bool.not_eq_false'] at h
    exact of_decide_eq_true h
  simp only [List.mem_cons, List.not_mem_nil, or_false] at h2
  unfold told diff
  rw [if_pos (h2.imp Eq.symm Eq.symm)]
  exact decide_eq_false (by omega)
theorem told_filter {a b : Str} (h0 : 0 ≤ s) : (ps.filter (apart a b)).filter (told m s a b) = ps.filter (told m s a b) := by
  rw [List.filter_filter]
  refine List.filter_congr fun x _ => ?_
  cases h : apart a b x with
  | true => rw [Bool.and_true]
  | false => rw [Bool.and_false, told_apart h0 h]
theorem look_one {a b x : Str} {x4 x8 x9 x10 : Option D} {acc : List D} (h0 : 0 ≤ s) (ha : a ∈ ps) (hb : b ∈ ps) (hx : x ∈ ps) (hap : apart a b x = true) (hacc : acc.length < 1000000) :
    ∃ y8 y9, m_d_law_clashes_f0 (lcE ps m s st.length x4 (some (.str a)) (some (.str b)) (some (.str x)) x8 x9 x10) (st ++ [.lst acc]) = some (.next, lcE ps m s st.length x4 (some (.str a)) (some (.str b)) (some (.str x)) y8 y9 x10, st ++ [.lst (acc ++ ([x].filter (told m s a b)).map fun x => tripD (a, b, x))]) := by
  have hn : ¬ (a = x ∨ b = x) := by
    unfold apart at hap
    have : x ∉ [a, b] := by simpa using hap
    simp only [List.mem_cons, List.not_mem_nil, or_false] at this
    exact fun z => this (z.imp Eq.symm Eq.symm)
  have h1 : (a, x) ∈ pairsOf ps := mem_pairs.mpr ⟨ha, hx, fun z => hn (.inl z)⟩
  have h2 : (b, x) ∈ pairsOf ps := mem_pairs.mpr ⟨hb, hx, fun z => hn (.inr z)⟩
  let S := st ++ [Cell.lst acc]
  let E := lcE ps m s st.length x4 (some (.str a)) (some (.str b)) (some (.str x)) x8 x9 x10
  let E2 := lcE ps m s st.length x4 (some (.str a)) (some (.str b)) (some (.str x)) (some (markD (m (a, x)))) (some (markD (m (b, x)))) x10
  have v1 : (mOp gDGetR (mVar 1) (mTup (mCons (mVar 5) (mCons (mVar 7) mNil)))) E S = some (.ok (markD (m (a, x))), S) := v_op (v_var rfl) (show (mTup (mCons (mVar 5) (mCons (mVar 7) mNil))) E S = some (.ok (.tup [.str a, .str x]), S) by simp [E]) (dget_mark h1)
  have v2 : (mOp gDGetR (mVar 1) (mTup (mCons (mVar 6) (mCons (mVar 7) mNil)))) E S = some (.ok (markD (m (b, x))), S) := v_op (v_var rfl) (show (mTup (mCons (mVar 6) (mCons (mVar 7) mNil))) E S = some (.ok (.tup [.str b, .str x]), S) by simp [E]) (dget_mark h2)
  have s1 : mPar 8 9 (mCons (mOp gDGetR (mVar 1) (mTup (mCons (mVar 5) (mCons (mVar 7) mNil)))) (mCons (mOp gDGetR (mVar 1) (mTup (mCons (mVar 6) (mCons (mVar 7) mNil)))) mNil)) E S = some (.next, E2, S) := v_par (v_cons v1 (v_cons v2 rfl))
  have ed : told m s a b x = (match m (a, x), m (b, x) with
      | some u, some v => decide (s < max2 (u - v) (v - u))
      | _, _ => decide (s < 0)) := by
    unfold told diff
    rw [if_neg hn]
    cases m (a, x) <;> cases m (b, x) <;> rfl
  have neg : decide (s < 0) = false := decide_eq_false (by omega)
  have t : (mAnd (mVal (mOp (gIsN true) (mVar 8) (mC .non))) (mAnd (mVal (mOp (gIsN true) (mVar 9) (mC .non))) (mVal (mOp gGt (mCB gMax2 (mCons (mCB gInt (mCons (mOp gSub (mVar 8) (mVar 9)) mNil)) (mCons (mCB gInt (mCons (mOp gSub (mVar 9) (mVar 8)) mNil)) mNil))) (mVar 2))))) E2 S = some (.ok (told m s a b x), S) := by
    have i8 : (mVal (mOp (gIsN true) (mVar 8) (mC .non))) E2 S = some (.ok (!isNon (markD (m (a, x)))), S) := v_val (v_op (v_var rfl) rfl (by rw [e_isN, Bool.bne_true]))
    have i9 : (mVal (mOp (gIsN true) (mVar 9) (mC .non))) E2 S = some (.ok (!isNon (markD (m (b, x)))), S) := v_val (v_op (v_var rfl) rfl (by rw [e_isN, Bool.bne_true]))
    cases q1 : m (a, x) with
    | none =>
      rw [q1] at i8
      rw [v_andF i8, ed, q1]
      dsimp only
      rw [neg]
    | some u =>
      rw [q1] at i8
      rw [v_andT i8]
      cases q2 : m (b, x) with
      | none =>
        rw [q2] at i9
        rw [v_andF i9, ed, q1, q2]
        dsimp only
        rw [neg]
      | some v =>
        rw [q2] at i9
        rw [v_andT i9, ed, q1, q2]
        have w8 : mVar 8 E2 S = some (.ok (.int u), S) := v_var (by show some (some (markD (m (a, x)))) = _; rw [q1]; rfl)
        have w9 : mVar 9 E2 S = some (.ok (.int v), S) := v_var (by show some (some (markD (m (b, x)))) = _; rw [q2]; rfl)
        exact v_val (v_op (v_cb (v_cons (v_cb (v_cons (v_op w8 w9 rfl) rfl) e_int1) (v_cons (v_cb (v_cons (v_op w9 w8 rfl) rfl) e_int1) rfl)) e_max2) (v_var rfl) rfl)
  refine ⟨some (markD (m (a, x))), some (markD (m (b, x))), ?_⟩
  show m_d_law_clashes_f0 E S = _
  unfold m_d_law_clashes_f0
  rw [v_seq s1]
  cases q : told m s a b x with
  | true =>
    rw [q] at t
    rw [v_ifT t, List.filter_cons_of_pos q, List.filter_nil]
    exact app_last (i := 3) (st := st) (acc := acc) (d := tripD (a, b, x)) rfl (show (mTup (mCons (mVar 5) (mCons (mVar 6) (mCons (mVar 7) mNil)))) E2 S = some (.ok (tripD (a, b, x)), S) by simp [E2, tripD]) hacc rfl
  | false =>
    rw [q] at t
    rw [v_ifF t, List.filter_cons_of_neg (by rw [q]; exact Bool.false_ne_true), List.filter_nil, List.map_nil, List.append_nil]
    rfl
/-- one couple -/
theorem look_couple {a b : Str} {x4 x7 x8 x9 x10 : Option D} {acc : List D} (hs : Flat0 st) (g : People ps) (h0 : 0 ≤ s) (ha : a ∈ ps) (hb : b ∈ ps) (hacc : acc.length ≤ 10000) :
    ∃ y4 y7 y8 y9 y10, m_d_law_clashes_f1 (lcE ps m s st.length x4 (some (.str a)) (some (.str b)) x7 x8 x9 x10) (st ++ [.lst acc]) = some (.next, lcE ps m s st.length y4 (some (.str a)) (some (.str b)) y7 y8 y9 y10, st ++ [.lst (acc ++ (clashAt ps m s (a, b)).map tripD)]) := by
  have h8 := g.l8
  let S := st ++ [Cell.lst acc]
  let fs := ps.filter (apart a b)
  have hfs : fs.length ≤ 8 := Nat.le_trans (List.length_filter_le _ _) h8
  have v2 : ∀ x, (mLst (mCons (mVar 5) (mCons (mVar 6) mNil))) (lcE ps m s st.length x4 (some (.str a)) (some (.str b)) x7 x8 x9 x) S = some (.ok (strsD [a, b]), S) := fun x => by simp [lcE]
  have hl := lc_eq (mi := mItL (mVar 0)) (t := .nm 10) (mt := mVal (mOp (gInF true) (mVar 10) (mLst (mCons (mVar 5) (mCons (mVar 6) mNil))))) (me := mVar 10) (vs := [10]) (env := lcE ps m s st.length x4 (some (.str a)) (some (.str b)) x7 x8 x9 x10) (st := S) ps D.str (apart a b) D.str (by rw [e_itL, v_var (d := strsD ps) rfl, bnd_ok]) (by omega)
    fun x hx => ⟨_, rfl, v_val (v_op (v_var rfl) (v2 (some (.str x))) (by rw [in_list, Bool.bne_true]; rfl)), fun _ => ⟨rfl, rfl⟩⟩
  let I : List Str → En → Store → Prop := fun pre env st1 => ∃ y4 y7 y8 y9 y10, env = lcE ps m s st.length y4 (some (.str a)) (some (.str b)) y7 y8 y9 y10 ∧ st ++ [.lst (acc ++ ((pre.filter (told m s a b)).map fun x => tripD (a, b, x)))] = st1
  obtain ⟨env', st', hf, y4, y7, y8, y9, y10, rfl, rfl⟩ := for_list (n := st.length + 1) (t := .nm 7) (body := m_d_law_clashes_f0) (f := D.str) fs I (env := lcE ps m s st.length x4 (some (.str a)) (some (.str b)) x7 x8 x9 x10) (st := S) ⟨_, _, _, _, _, rfl, by simp [S]⟩ (by
    rintro pre x post _ _ e ⟨y4, y7, y8, y9, y10, rfl, rfl⟩
    have hx : x ∈ fs := by rw [e]; simp
    obtain ⟨hx1, hx2⟩ := List.mem_filter.mp hx
    have hpre : pre.length ≤ 8 := by
      have := congrArg List.length e
      rw [List.length_append, List.length_cons] at this
      omega
    have hA : (acc ++ ((pre.filter (told m s a b)).map fun x => tripD (a, b, x))).length < 1000000 := by
      rw [List.length_append, List.length_map]
      have := List.length_filter_le (told m s a b) pre
      omega
    obtain ⟨z8, z9, hz⟩ := look_one (st := st) (m := m) (s := s) (x4 := y4) (x8 := y8) (x9 := y9) (x10 := y10) h0 ha hb hx1 hx2 hA
    refine ⟨_, _, _, rfl, hz, by rw [take_last]; exact (hs.last).all _, _, _, _, _, _, lcE_trim, ?_⟩
    rw [take_last, List.filter_append, List.map_append, List.append_assoc])
  refine ⟨y4, y7, y8, y9, y10, ?_⟩
  unfold m_d_law_clashes_f1
  have h2 := v_for (mi := mItL (mLc (mItL (mVar 0)) (.nm 10) (mVal (mOp (gInF true) (mVar 10) (mLst (mCons (mVar 5) (mCons (mVar 6) mNil))))) (mVar 10) [10])) (t := .nm 7) (body := m_d_law_clashes_f0) (st1 := S) (ds := fs.map D.str) (by rw [e_itL, hl, bnd_ok]) (by rw [List.length_append]; exact hf)
  rw [h2, told_filter h0]
  unfold clashAt
  rw [List.map_map]
  rfl
def rowAt2 (ps : List Str) (m : Str × Str → Option Int) (s : Int) (p : Str × Nat) : List (Str × Str × Str) := (ps.drop (p.2 + 1)).flatMap fun b => clashAt ps m s (p.1, b)
theorem rows_clashes : ps.zipIdx.flatMap (rowAt2 ps m s) = clashesOf ps m s := by
  unfold clashesOf couplesOf rowAt2
  rw [List.flatMap_assoc]
  congr 1
  funext p
  rw [List.flatMap_map]
theorem rowAt2_len {p : Str × Nat} (h8 : ps.length ≤ 8) : (rowAt2 ps m s p).length ≤ 64 := by
  have := flat_len (fun b => clashAt ps m s (p.1, b)) 8 (ps.drop (p.2 + 1)) fun _ _ => clashAt_len h8
  have h : (ps.drop (p.2 + 1)).length ≤ 8 := by rw [List.length_drop]; omega
  unfold rowAt2
  omega
/-- one marker with those behind -/
theorem look_row {p : Str × Nat} {x6 x7 x8 x9 x10 : Option D} {acc : List D} (hs : Flat0 st) (g : People ps) (h0 : 0 ≤ s) (hp : p.1 ∈ ps) (hacc : acc.length ≤ 1000) :
    ∃ y4 y6 y7 y8 y9 y10, m_d_law_clashes_f2 (lcE ps m s st.length (some (.int p.2)) (some (.str p.1)) x6 x7 x8 x9 x10) (st ++ [.lst acc]) = some (.next, lcE ps m s st.length y4 (some (.str p.1)) y6 y7 y8 y9 y10, st ++ [.lst (acc ++ (rowAt2 ps m s p).map tripD)]) := by
  have h8 := g.l8
  let S := st ++ [Cell.lst acc]
  let bs := ps.drop (p.2 + 1)
  have hbs : bs.length ≤ 8 := by show (ps.drop (p.2 + 1)).length ≤ 8; rw [List.length_drop]; omega
  have hsl : mSl (mVar 0) (moSome (mOp gAdd (mVar 4) (mC (.int 1)))) moNone (lcE ps m s st.length (some (.int p.2)) (some (.str p.1)) x6 x7 x8 x9 x10) S = some (.ok (strsD bs), S) := by
    rw [mSl_drop (v_var (d := strsD ps) rfl) (n := ((p.2 : Nat) : Int) + 1) (v_op (v_var rfl) rfl e_add) (by omega), show (((p.2 : Nat) : Int) + 1).toNat = p.2 + 1 by omega, ← List.map_drop]
  let I : List Str → En → Store → Prop := fun pre env st1 => ∃ y4 y6 y7 y8 y9 y10, env = lcE ps m s st.length y4 (some (.str p.1)) y6 y7 y8 y9 y10 ∧ st ++ [.lst (acc ++ (pre.flatMap fun b => clashAt ps m s (p.1, b)).map tripD)] = st1
  obtain ⟨env', st', hf, y4, y6, y7, y8, y9, y10, rfl, rfl⟩ := for_list (n := st.length + 1) (t := .nm 6) (body := m_d_law_clashes_f1) (f := D.str) bs I (env := lcE ps m s st.length (some (.int p.2)) (some (.str p.1)) x6 x7 x8 x9 x10) (st := S) ⟨_, _, _, _, _, _, rfl, by simp [S]⟩ (by
    rintro pre b post _ _ e ⟨y4, y6, y7, y8, y9, y10, rfl, rfl⟩
    have hb : b ∈ bs := by rw [e]; simp
    have hpre : pre.length ≤ 8 := by
      have := congrArg List.length e
      rw [List.length_append, List.length_cons] at this
      omega
    have hA : (acc ++ (pre.flatMap fun b => clashAt ps m s (p.1, b)).map tripD).length ≤ 10000 := by
      rw [List.length_append, List.length_map]
      have := flat_len (fun b => clashAt ps m s (p.1, b)) 8 pre fun _ _ => clashAt_len h8
      omega
    obtain ⟨z4, z7, z8, z9, z10, hz⟩ := look_couple (st := st) (m := m) (s := s) (x4 := y4) (x7 := y7) (x8 := y8) (x9 := y9) (x10 := y10) hs g h0 hp (List.mem_of_mem_drop hb) hA
    refine ⟨_, _, _, rfl, hz, by rw [take_last]; exact (hs.last).all _, _, _, _, _, _, _, lcE_trim, ?_⟩
    rw [take_last, List.flatMap_append, List.map_append, List.append_assoc]
    simp)
  refine ⟨y4, y6, y7, y8, y9, y10, ?_⟩
  unfold m_d_law_clashes_f2
  exact v_for (st1 := S) (ds := bs.map D.str) (by rw [e_itL, hsl, bnd_ok]) (by rw [List.length_append]; exact hf)
theorem law_clashes_ok (hs : Flat0 st) (g : People ps) (h0 : 0 ≤ s) : c_d_law_clashes [strsD ps, .dT (marksD ps m), .int s] st = some (.ok (.lst ((clashesOf ps m s).map tripD)), st) := by
  have h8 := g.l8
  let I : List (Str × Nat) → En → Store → Prop := fun pre env st1 => ∃ y4 y5 y6 y7 y8 y9 y10, env = lcE ps m s st.length y4 y5 y6 y7 y8 y9 y10 ∧ st ++ [.lst ((pre.flatMap (rowAt2 ps m s)).map tripD)] = st1
  obtain ⟨env', st', hf, y4, y5, y6, y7, y8, y9, y10, rfl, rfl⟩ := for_list (n := st.length + 1) (t := .tp [4, 5]) (body := m_d_law_clashes_f2) (f := fun x : Str × Nat => D.tup [.int x.2, .str x.1]) ps.zipIdx I (env := lcE ps m s st.length none none none none none none none) (st := st ++ [.lst []]) ⟨_, _, _, _, _, _, _, rfl, rfl⟩ (by
    rintro pre p post _ _ e ⟨y4, y5, y6, y7, y8, y9, y10, rfl, rfl⟩
    have hp : p ∈ ps.zipIdx := by rw [e]; simp
    have hp2 : p.1 ∈ ps := by
      have : p.1 ∈ ps.zipIdx.map (·.1) := List.mem_map_of_mem hp
      rwa [zip_keys] at this
    have hpre : pre.length ≤ 8 := by
      have := congrArg List.length e
      rw [List.length_append, List.length_cons, List.length_zipIdx] at this
      omega
    have hA : ((pre.flatMap (rowAt2 ps m s)).map tripD).length ≤ 1000 := by
      rw [List.length_map]
      have := flat_len (rowAt2 ps m s) 64 pre fun _ _ => rowAt2_len h8
      omega
    obtain ⟨z4, z6, z7, z8, z9, z10, hz⟩ := look_row (st := st) (m := m) (s := s) (p := p) (x6 := y6) (x7 := y7) (x8 := y8) (x9 := y9) (x10 := y10) hs g h0 hp2 hA
    refine ⟨_, _, _, rfl, hz, by rw [take_last]; exact (hs.last).all _, _, _, _, _, _, _, _, lcE_trim, ?_⟩
    rw [take_last, List.flatMap_append, List.map_append]
    simp)
  refine fn_cell (i := st.length) (env' := lcE ps m s st.length y4 y5 y6 y7 y8 y9 y10) (st' := st ++ [.lst ((clashesOf ps m s).map tripD)]) ?_ take_more get_last (Nat.le_refl _) hs.ok
  have hfor := v_for (mi := mEnum (mVar 0)) (t := .tp [4, 5]) (body := m_d_law_clashes_f2) (env := lcE ps m s st.length none none none none none none none) (st := st ++ [.lst []]) (st1 := st ++ [.lst []]) (ds := ps.zipIdx.map fun x : Str × Nat => D.tup [.int x.2, .str x.1]) (by rw [e_enum, v_var (d := strsD ps) rfl, bnd_ok]; dsimp only; rw [enumD_eq]) (by rw [List.length_append]; exact hf)
  rw [rows_clashes] at hfor
  show m_d_law_clashes [some (strsD ps), some (.dT (marksD ps m)), some (.int s), none, none, none, none, none, none, none, none] st = _
  unfold m_d_law_clashes
  rw [v_seq (env1 := lcE ps m s st.length none none none none none none none) (st1 := st ++ [.lst []]) (v_asg (v_new (mas := mNil) rfl ⟨len_big (n := 0) rfl, rfl⟩)), v_seq hfor]
  exact v_ret (v_var rfl)
end
end Own


namespace Own
open PySem L2 M
/-! ### == of a thing with itself -/
theorem eqvD_refl : ∀ (n : Nat) (d : D), okD n d = true → eqvD d d = true := by
  intro n
  induction n with
  | zero =>
    intro d h
    cases d <;> first | (simp [eqvD]; done) | (cases h)
  | succ n ih =>
    have all : ∀ xs : List D, xs.all (okD n) = true → eqvL xs xs = true := by
      intro xs
      induction xs with
      | nil => intro _; simp [eqvL]
      | cons x xs ih2 =>
        intro h
        rw [List.all_cons, Bool.and_eq_true] at h
        rw [eqvL, ih x h.1, ih2 h.2]
        rfl
    intro d h
    cases d with
    | non => simp [eqvD]
    | bl b => simp [eqvD]
    | int i => simp [eqvD]
    | str x => simp [eqvD]
    | lst xs => rw [eqvD]; exact all xs (by rw [okD] at h; exact h)
    | ro xs => rw [eqvD]; exact all xs (by rw [okD] at h; exact h)
    | tup xs => rw [eqvD]; exact all xs (by rw [okD] at h; exact h)
    | _ => simp [okD] at h
theorem ne_self {d : D} {st : Store} (hr : rd st d = d) (h : okD 8 d = true) : gNe st d d = some (.bl false) := by
  unfold gNe
  rw [hr, if_pos ⟨h, h⟩, eqvD_refl 8 d h]
  rfl
/-! ### texts of code points -/
theorem app_ok {a b : Str} (ha : PyData.strOk a = true) (hb : PyData.strOk b = true) : PyData.strOk (a ++ b) = true := by
  unfold PyData.strOk at *
  show (a.cps ++ b.cps).all _ = true
  rw [Array.all_append, ha, hb]
  rfl
theorem join_ok {sep : Str} (hs : PyData.strOk sep = true) : ∀ ts : List Str, (∀ t ∈ ts, PyData.strOk t = true) → PyData.strOk (Str.join sep ts) = true
  | [], _ => (by decide +kernel : PyData.strOk Str.empty = true)
  | [x], h => h x List.mem_cons_self
  | x :: y :: r, h => app_ok (app_ok (h x List.mem_cons_self) hs) (join_ok hs (y :: r) fun t ht => h t (List.mem_cons_of_mem _ ht))
theorem menu_word : ∀ p ∈ menu, Word p := by
  intro p hp
  simp only [menu, List.mem_cons, List.not_mem_nil, or_false] at hp
  rcases hp with h | h | h | h | h | h <;> subst h <;> exact ⟨by decide +kernel, by decide +kernel, by decide +kernel, by decide +kernel⟩
theorem menu_people {d n : Nat} (hd : d < 3) (h1 : 1 ≤ n) : People ((menu.drop d).take n) := by
  have hs : ((menu.drop d).take n).Sublist menu := (List.take_sublist _ _).trans (List.drop_sublist _ _)
  have hl : ((menu.drop d).take n).length = min n (6 - d) := by rw [List.length_take, List.length_drop]; rfl
  exact ⟨by omega, by omega, (show menu.Nodup by decide +kernel).sublist hs, fun p hp => menu_word p (hs.subset hp)⟩
theorem wordsOk : (menu.all fun p => PyData.strOk (reprText p) && p.cps.toList.all fun c => decide (c < 16 ^ 8)) = true := by decide +kernel
theorem numsOk : (([0, 1, 2, 3, 4, 5, 6, 7, 8, 9, 10] : List Int).all fun i => PyData.strOk (toString i) && decide (i.natAbs.log2 < 1920) && decide ((PyData.shown (.int i)).length ≤ 16)) = true := by decide +kernel
theorem noneOk : PyData.strOk (PyData.shown .none) = true := by decide +kernel
structure Small (v : Option Int) : Prop where
  ok : PyData.strOk (PyData.shown (py (markD v))) = true
  sh : (py (markD v)).showable = true
  short : (py (markD v)).leavesShort 16 = true
  dep : (py (markD v)).depth = 0
  blk : (py (markD v)).bulk = 0
theorem small_ok {most : Int} (h10 : most ≤ 10) {v : Option Int} (h : MarkOk most v) : Small v := by
  cases v with
  | none => exact ⟨noneOk, by simp [markD, py, PyData.showable], by simp [markD, py, PyData.leavesShort], by simp [markD, py, PyData.depth], by simp [markD, py, PyData.bulk]⟩
  | some i =>
    obtain ⟨h0, h1⟩ := h
    have hi : i ∈ ([0, 1, 2, 3, 4, 5, 6, 7, 8, 9, 10] : List Int) := by
      have : i = 0 ∨ i = 1 ∨ i = 2 ∨ i = 3 ∨ i = 4 ∨ i = 5 ∨ i = 6 ∨ i = 7 ∨ i = 8 ∨ i = 9 ∨ i = 10 := by omega
      simpa using this
    have := List.all_eq_true.mp numsOk i hi
    simp only [Bool.and_eq_true, decide_eq_true_iff] at this
    obtain ⟨⟨a, b⟩, c⟩ := this
    exact ⟨by simp only [markD, py, PyData.shown]; exact a, by simp only [markD, py, PyData.showable]; exact decide_eq_true b, by simp only [markD, py, PyData.leavesShort]; exact decide_eq_true c, by simp [markD, py, PyData.depth], by simp [markD, py, PyData.bulk]⟩
/-! ### a dict of marks, written -/
section
variable {ps : List Str} {m : Str × Str → Option Int}
theorem key_shown {p : Str × Str} : (encT (pairK p)).shown = tupleText [reprText p.1, reprText p.2] := by
  simp [encT, pairK, encK, PyData.shown, PyData.shownAll]
theorem key_ok {p : Str × Str} (h1 : p.1 ∈ menu) (h2 : p.2 ∈ menu) : PyData.strOk (encT (pairK p)).shown = true := by
  have a := List.all_eq_true.mp wordsOk p.1 h1
  have b := List.all_eq_true.mp wordsOk p.2 h2
  rw [Bool.and_eq_true] at a b
  rw [key_shown]
  unfold tupleText
  refine app_ok (app_ok (by decide +kernel) (join_ok (by decide +kernel) _ fun t ht => ?_)) (show PyData.strOk (")" : Str) = true by decide +kernel)
  simp only [List.mem_cons, List.not_mem_nil, or_false] at ht
  rcases ht with rfl | rfl
  · exact a.1
  · exact b.1
theorem marks_rows {l : List (Str × Str)} (hl : ∀ p ∈ l, p.1 ∈ menu ∧ p.2 ∈ menu) (hm : ∀ p, Small (m p)) : (∀ t ∈ PyData.shownKv (rowsT (l.map fun p => (pairK p, markD (m p)))), PyData.strOk t = true) ∧ PyData.showableKv (rowsT (l.map fun p => (pairK p, markD (m p)))) = true ∧ PyData.leavesShortKv 16 (rowsT (l.map fun p => (pairK p, markD (m p)))) = true ∧ PyData.depthKv (rowsT (l.map fun p => (pairK p, markD (m p)))) ≤ 1 ∧ PyData.bulkKv (rowsT (l.map fun p => (pairK p, markD (m p)))) ≤ l.length * 20 := by
  induction l with
  | nil => exact ⟨nofun, rfl, rfl, Nat.zero_le _, Nat.zero_le _⟩
  | cons p l ih =>
    obtain ⟨i1, i2, i3, i4, i5⟩ := ih fun q hq => hl q (List.mem_cons_of_mem _ hq)
    obtain ⟨h1, h2⟩ := hl p List.mem_cons_self
    have a := List.all_eq_true.mp wordsOk p.1 h1
    have b := List.all_eq_true.mp wordsOk p.2 h2
    rw [Bool.and_eq_true] at a b
    have w1 := (menu_word p.1 h1).l8
    have w2 := (menu_word p.2 h2).l8
    have s := hm p
    show (∀ t ∈ PyData.shownKv ((encT (pairK p), py (markD (m p))) :: rowsT (l.map fun p => (pairK p, markD (m p)))), _) ∧ PyData.showableKv ((encT (pairK p), py (markD (m p))) :: rowsT (l.map fun p => (pairK p, markD (m p)))) = true ∧ PyData.leavesShortKv 16 ((encT (pairK p), py (markD (m p))) :: rowsT (l.map fun p => (pairK p, markD (m p)))) = true ∧ PyData.depthKv ((encT (pairK p), py (markD (m p))) :: rowsT (l.map fun p => (pairK p, markD (m p)))) ≤ 1 ∧ PyData.bulkKv ((encT (pairK p), py (markD (m p))) :: rowsT (l.map fun p => (pairK p, markD (m p)))) ≤ _
    refine ⟨fun t ht => ?_, ?_, ?_, ?_, ?_⟩
    · rw [PyData.shownKv] at ht
      rcases List.mem_cons.mp ht with rfl | ht
      · exact app_ok (app_ok (key_ok h1 h2) (by decide +kernel)) s.ok
      · exact i1 t ht
    · rw [PyData.showableKv, s.sh, i2]
      simp [encT, pairK, encK, PyData.showable, PyData.showableAll]
    · rw [PyData.leavesShortKv, s.short, i3]
      simp only [encT, pairK, encK, List.map_cons, List.map_nil, PyData.leavesShort, PyData.leavesShortAll, a.2, b.2]
      rfl
    · rw [PyData.depthKv, s.dep]
      have : (encT (pairK p)).depth = 1 := by simp [encT, pairK, encK, PyData.depth, PyData.depthAll]
      rw [this]
      omega
    · rw [PyData.bulkKv, s.blk]
      have : (encT (pairK p)).bulk = p.1.cps.size + 1 + (p.2.cps.size + 1 + 0) := by simp [encT, pairK, encK, PyData.bulk, PyData.bulkAll]
      rw [this, List.length_cons]
      omega
theorem marks_repr {most : Int} {st : Store} (g : People ps) (hp : ∀ p ∈ ps, p ∈ menu) (h10 : most ≤ 10) (hm : ∀ p, MarkOk most (m p)) : ∃ t, gReprT st [.dT (marksD ps m)] = some (.str t) ∧ PyData.strOk t = true := by
  have hl : ∀ p ∈ pairsOf ps, p.1 ∈ menu ∧ p.2 ∈ menu := fun p h => by
    obtain ⟨a, b, _⟩ := mem_pairs.mp (show (p.1, p.2) ∈ pairsOf ps from h)
    exact ⟨hp _ a, hp _ b⟩
  obtain ⟨r1, r2, r3, r4, r5⟩ := marks_rows (m := m) hl fun p => small_ok h10 (hm p)
  have len := pairs_len g.l8
  have flat : ((marksD ps m).all fun p => flatD p.2) = true := by
    rw [List.all_eq_true]
    intro q hq
    obtain ⟨p, _, rfl⟩ := List.mem_map.mp hq
    show flatD (markD (m p)) = true
    cases m p <;> rfl
  have big := PyData.shown_le_bulk 16 (by decide) (.dict (rowsT (marksD ps m))) (by rw [PyData.leavesShort]; exact r3)
  rw [PyData.bulk] at big
  refine ⟨(PyData.dict (rowsT (marksD ps m))).shown, ?_, ?_⟩
  · show (if _ then _ else none) = _
    rw [if_pos ⟨flat, by rw [PyData.showable]; exact r2, by rw [sizeLine_eq]; have : PyData.bulkKv (rowsT (marksD ps m)) ≤ 1280 := Nat.le_trans r5 (by omega); omega, by rw [PyData.depth]; exact Nat.le_trans (Nat.succ_le_succ r4) (by decide)⟩]
  · rw [PyData.shown]
    unfold dictText
    exact app_ok (app_ok (by decide +kernel) (join_ok (by decide +kernel) _ r1)) (by decide +kernel)
end
end Own


namespace Own
open PySem L2 M
theorem fn_err {m : MS} {k : Nat} {ds : List D} {st : Store} {x : Xn} {env' : En} (h : m (startE k ds) st = some (.err x, env', st)) (hs : Ok st) : mkD m k ds st = some (.err x, st) := by
  unfold mkD
  rw [h]
  dsimp only
  rw [List.take_length, if_pos (show st.all (cellOk st.length) = true from hs)]
theorem fn_errE {m : MS} {k : Nat} {ds : List D} {st st' : Store} {x : Xn} {env' : En} (h : m (startE k ds) st = some (.err x, env', st')) (ht : st'.take st.length = st) (hs : Ok st) : mkD m k ds st = some (.err x, st) := by
  unfold mkD
  rw [h]
  dsimp only
  rw [ht, if_pos (show st.all (cellOk st.length) = true from hs)]
theorem v_retE {ma : ME} {env : En} {st : Store} {x : Xn} (h : ma env st = some (.err x, st)) : mRet ma env st = some (.err x, env, st) := by
  unfold mRet
  rw [h]
  rfl
theorem v_asgE {ma : ME} {i : Nat} {env : En} {st : Store} {x : Xn} (h : ma env st = some (.err x, st)) : mAsg ma (.nm i) env st = some (.err x, env, st) := by
  rw [e_asg, h]
  rfl
theorem v_seqE {a b : MS} {env env1 : En} {st st1 : Store} {x : Xn} (h : a env st = some (.err x, env1, st1)) : mSeq a b env st = some (.err x, env1, st1) := by
  rw [e_seq, h, e_seqE]
def argX (V : D) : Xn := ⟨4, [("value", V)]⟩
def numX (V : D) : Xn := ⟨5, [("number", V)]⟩
theorem v_raise {c i : Nat} {f : Str} {d : D} {env : En} {st : Store} (h : env[i]? = some (some d)) (hd : isD d = true) : mRaise c f (mVar i) env st = some (.err ⟨c, [(f, d)]⟩, env, st) := by
  unfold mRaise
  rw [v_var h, bndS_ok, if_pos hd]
section
variable {ps : List Str} {m : Str × Str → Option Int} {most : Int} {st : Store}
/-! ### what is no page -/
/-- a plain thing that is neither a page nor a sequence -/
structure Odd (V : D) : Prop where
  d : isD V = true
  tag : ∃ t : Tag, ∀ st, tagD st V = some (.inl t)
theorem spread_page {V W : D} (hs : Ok st) (o : Odd V) : c_check_spread [V, W] st = some (.err (argX V), st) := by
  obtain ⟨t, ht⟩ := o.tag
  refine fn_err (env' := [some V, some W]) ?_ hs
  show m_check_spread [some V, some W] st = _
  unfold m_check_spread
  exact v_seqE (by rw [v_ifT (v_not (b := false) (v_val (v_noPage rfl (ht st))))]; exact v_raise rfl o.d)
theorem clashes_err {V W : D} {x : Xn} (hs : Ok st) (h : c_check_spread [V, W] st = some (.err x, st)) : c_clashes [V, W] st = some (.err x, st) := by
  refine fn_err (env' := [some V, some W, none, none, none, none]) ?_ hs
  show m_clashes [some V, some W, none, none, none, none] st = _
  unfold m_clashes
  exact v_seqE (v_dropE (v_call (n := 2) (v_cons (v_var rfl) (v_cons (v_var rfl) rfl)) rfl h))
theorem least_err {V W : D} {x : Xn} (hs : Ok st) (h : c_clashes [V, W] st = some (.err x, st)) : c_least_left_out [V, W] st = some (.err x, st) := by
  let E : En := [some V, some W, none, none, none, none, none, none, none, none]
  refine fn_err (env' := E) ?_ hs
  have h1 : mItL (mCall 2 c_clashes (mCons (mVar 0) (mCons (mVar 1) mNil))) E st = some (.err x, st) := by
    rw [e_itL, v_call (n := 2) (v_cons (v_var rfl) (v_cons (v_var rfl) rfl)) rfl h, bnd_err]
  show m_least_left_out E st = _
  unfold m_least_left_out
  refine v_seqE (v_asgE ?_)
  rw [e_cb, e_cons]
  unfold mDcT
  rw [h1]
  rfl
theorem always_err {V W : D} {x : Xn} (hs : Ok st) (h : c_least_left_out [V, W] st = some (.err x, st)) : c_always_left_out [V, W] st = some (.err x, st) := by
  refine fn_err (env' := [some V, some W, none, none, none]) ?_ hs
  show m_always_left_out [some V, some W, none, none, none] st = _
  unfold m_always_left_out
  exact v_seqE (v_asgE (v_call (n := 2) (v_cons (v_var rfl) (v_cons (v_var rfl) rfl)) rfl h))
theorem least_spread_page {V W : D} (hs : Ok st) (o : Odd V) : c_least_spread [V, W] st = some (.err (argX V), st) := by
  obtain ⟨t, ht⟩ := o.tag
  refine fn_err (env' := [some V, some W, none]) ?_ hs
  show m_least_spread [some V, some W, none] st = _
  unfold m_least_spread
  exact v_seqE (by rw [v_ifT (v_not (b := false) (v_val (v_noPage rfl (ht st))))]; exact v_raise rfl o.d)
theorem together_page {V P W : D} (hs : Ok st) (o : Odd V) : c_goes_together [V, P, W] st = some (.err (argX V), st) := by
  obtain ⟨t, ht⟩ := o.tag
  refine fn_err (env' := [some V, some P, some W, none, none, none, none]) ?_ hs
  show m_goes_together [some V, some P, some W, none, none, none, none] st = _
  unfold m_goes_together
  exact v_seqE (by rw [v_ifT (v_not (b := false) (v_val (v_noPage rfl (ht st))))]; exact v_raise rfl o.d)
/-! ### what are no people -/
theorem together_none {P W : D} {t : Tag} (hs : Ok st) (hd : isD P = true) (ht : tagD st P = some (.inl t)) (n1 : t ≠ .lst) (n2 : t ≠ .tup) : c_goes_together [pageD ps most m, P, W] st = some (.err (argX P), st) := by
  let E := gE ps most m P W
  refine fn_err (env' := E) ?_ hs
  have t1 : mIsSeq 1 E st = some (.ok (.bl false), st) := by
    rw [v_isSeq rfl ht, decide_eq_false n1, decide_eq_false n2]
    rfl
  show m_goes_together E st = _
  unfold m_goes_together
  rw [v_seq (by rw [v_ifF tg_page]; rfl)]
  exact v_seqE (by rw [v_ifT (v_orT (v_not (b := false) (v_val t1)))]; exact v_raise rfl hd)
theorem together_out {ds : List D} {W : D} {inC : D → Bool} (hs : Ok st) (hin : ∀ d ∈ ds, c_Crowd__ucontains_u [crowdD ps most, d] st = some (.ok (.bl (inC d)), st)) (len : ds.length ≤ 1000) (bad : ds.all inC = false) : c_goes_together [pageD ps most m, .lst ds, W] st = some (.err (argX (.lst ds)), st) := by
  let E := gE ps most m (.lst ds) W
  refine fn_err (env' := E) ?_ hs
  have h := tg_in (ps := ps) (m := m) (most := most) (k := true) (W := W) hin len
  rw [bad] at h
  show m_goes_together E st = _
  unfold m_goes_together
  rw [v_seq (by rw [v_ifF tg_page]; rfl)]
  exact v_seqE ((v_ifT ((v_orF (tg_seq (k := true) (ds := ds))).trans h)).trans (v_raise rfl rfl))
/-- people that all are, their number by the dict told -/
theorem tg_people {qs : List Str} {W : D} (hs : Ok st) (g : People ps) (sub : ∀ p ∈ qs, p ∈ ps) (len : qs.length ≤ 1000) : (mOr (mNot (mVal (mIsSeq 1))) (mNot (mVal (mCB gAll (mCons (mLc (mItS (mVar 1)) (.nm 3) tYesM (mOpS (gInO 6 c_Crowd__ucontains_u false) (mVar 3) (mUn (gFld [7] "crowd") (mVar 0))) [3]) mNil))))) (gE ps most m (strsD qs) W) st = some (.ok false, st) := by
  have := tg_in (ps := ps) (m := m) (most := most) (st := st) (k := true) (ds := qs.map D.str) (W := W) (inC := fun _ => true) (fun d hd => by
    obtain ⟨p, hp, rfl⟩ := List.mem_map.mp hd
    rw [crowd_in hs (g.w p (sub p hp)), decide_eq_true (sub p hp)]) (by rw [List.length_map]; omega)
  rw [List.all_eq_true.mpr fun _ _ => rfl] at this
  exact (v_orF (tg_seq (k := true) (ds := qs.map D.str))).trans this
theorem together_twice {p : Str} {W : D} (hs : Ok st) (g : People ps) (hp : p ∈ ps) : c_goes_together [pageD ps most m, strsD [p, p], W] st = some (.err (argX (strsD [p, p])), st) := by
  let E := gE ps most m (strsD [p, p]) W
  refine fn_err (env' := E) ?_ hs
  have hd := dc_eq (mi := mItS (mVar 1)) (t := .nm 3) (mt := tYesM) (mk := mVar 3) (mv := mC (.int 1)) (vs := [3]) (env := E) (st := st) [p, p] D.str (fun _ => true) (fun x => .inr x) (fun _ => .int 1) (seq2_it (k := true) rfl) (show 2 ≤ 1000000 by decide)
    fun x hx => ⟨_, rfl, rfl, fun _ => ⟨v_var (d := .str x) rfl, rfl, rfl⟩⟩
  have e : foldP [] (([p, p].filter fun _ => true).map fun x => ((.inr x : Key), (.int 1 : D))) = [(.inr p, .int 1)] := by
    rw [List.filter_eq_self.mpr fun _ _ => rfl]
    simp [foldP, putKd]
  rw [e] at hd
  show m_goes_together E st = _
  unfold m_goes_together
  rw [v_seq (by rw [v_ifF tg_page]; rfl), v_seq (by rw [v_ifF (tg_people (qs := [p, p]) hs g (fun q hq => by
    simp only [List.mem_cons, List.not_mem_nil, or_false] at hq
    rcases hq with rfl | rfl <;> exact hp) (show 2 ≤ 1000 by decide))]; rfl)]
  refine v_seqE ?_
  rw [v_ifT (v_val (v_op (v_cb (v_cons hd rfl) e_len_dK) (v_cb (v_cons (v_var rfl) rfl) e_len_lst) rfl))]
  exact v_raise rfl rfl
/-! ### what is no spread -/
theorem count_bl {b : Bool} {x y : Int} (hs : Ok st) : c_is_count [.bl b, .int x, .int y] st = some (.ok (.bl false), st) := by
  refine fn_ret (env' := [some (.bl b), some (.int x), some (.int y)]) ?_ hs rfl
  simp [m_is_count, startE]
theorem count_str {s : Str} {x y : Int} (hs : Ok st) : c_is_count [.str s, .int x, .int y] st = some (.ok (.bl false), st) := by
  refine fn_ret (env' := [some (.str s), some (.int x), some (.int y)]) ?_ hs rfl
  simp [m_is_count, startE]
theorem count_non {x y : Int} (hs : Ok st) : c_is_count [.non, .int x, .int y] st = some (.ok (.bl false), st) := by
  refine fn_ret (env' := [some .non, some (.int x), some (.int y)]) ?_ hs rfl
  simp [m_is_count, startE]
theorem spread_bad {W : D} (hs : Ok st) (hd : isD W = true) (h : c_is_count [W, .int 0, .int most] st = some (.ok (.bl false), st)) : c_check_spread [pageD ps most m, W] st = some (.err (numX W), st) := by
  let E : En := [some (pageD ps most m), some W]
  refine fn_err (env' := E) ?_ hs
  have t : (mNot (mVal (mCall 3 c_is_count (mCons (mVar 1) (mCons (mC (.int 0)) (mCons (mUn (gFld [6] "most") (mUn (gFld [7] "crowd") (mVar 0))) mNil)))))) E st = some (.ok true, st) :=
    v_not (b := false) (v_val (v_call (n := 3) (v_cons (v_var rfl) (v_cons rfl (v_cons (v_un (v_un (v_var (d := pageD ps most m) rfl) (fld_crowd (by decide))) (fld_most (by decide))) rfl))) rfl h))
  show m_check_spread E st = _
  unfold m_check_spread
  rw [v_seq (by rw [v_ifF (v_not (b := true) (v_val (v_isPage rfl)))]; rfl), v_ifT t]
  exact v_raise rfl hd
theorem together_spread {W : D} {x : Xn} (hs : Ok st) (g : People ps) (h : c_check_spread [pageD ps most m, W] st = some (.err x, st)) : c_goes_together [pageD ps most m, .lst [], W] st = some (.err x, st) := by
  let E := gE ps most m (strsD []) W
  refine fn_err (env' := E) ?_ hs
  have hd := ones_ok2 (mi := mItS (mVar 1)) (env := E) (i := 3) (st := st) (ps := []) .nil (by decide) (seq2_it (k := true) rfl) (show 3 < 7 by decide)
  show m_goes_together E st = _
  unfold m_goes_together
  rw [v_seq (by rw [v_ifF tg_page]; rfl), v_seq (by rw [v_ifF (tg_people (qs := []) hs g nofun (show 0 ≤ 1000 by decide))]; rfl)]
  rw [v_seq (by rw [v_ifF (v_val (v_op (v_cb (v_cons hd rfl) e_len_dK) (v_cb (v_cons (v_var rfl) rfl) e_len_lst) rfl))]; rfl)]
  exact v_seqE (v_dropE (v_call (n := 2) (v_cons (v_var rfl) (v_cons (v_var rfl) rfl)) rfl h))
theorem least_spread_bad {W : D} (hs : Ok st) (hd : isD W = true) (h : c_is_count [W, .int 0, .int 8] st = some (.ok (.bl false), st)) : c_least_spread [pageD ps most m, W] st = some (.err (numX W), st) := by
  let E : En := [some (pageD ps most m), some W, none]
  refine fn_err (env' := E) ?_ hs
  show m_least_spread E st = _
  unfold m_least_spread
  rw [v_seq (by rw [v_ifF (v_not (b := true) (v_val (v_isPage rfl)))]; rfl)]
  refine v_seqE ?_
  rw [v_ifT (v_not (b := false) (v_val (v_call (n := 3) (v_cons (v_var rfl) (v_cons rfl (v_cons rfl rfl))) rfl h)))]
  exact v_raise rfl hd
end
/-! ### what is told of them -/
abbrev bodyT : MS := (mIfS (mVal (mOp gEq (mVar 0) (mC (.int 0)))) (mDrop (mCall 3 c_goes_together (mCons (mVar 1) (mCons (mVar 2) (mCons (mVar 3) mNil))))) (mIfS (mVal (mOp gEq (mVar 0) (mC (.int 1)))) (mDrop (mCall 2 c_clashes (mCons (mVar 1) (mCons (mVar 3) mNil)))) (mIfS (mVal (mOp gEq (mVar 0) (mC (.int 2)))) (mDrop (mCall 2 c_least_left_out (mCons (mVar 1) (mCons (mVar 3) mNil)))) (mIfS (mVal (mOp gEq (mVar 0) (mC (.int 3)))) (mDrop (mCall 2 c_always_left_out (mCons (mVar 1) (mCons (mVar 3) mNil)))) (mDrop (mCall 2 c_least_spread (mCons (mVar 1) (mCons (mVar 3) mNil))))))))
abbrev tE (w : Int) (V P W : D) : En := [some (.int w), some V, some P, some W, none]
section
variable {w : Int} {V P W : D} {st : Store} {x : Xn}
theorem way_eq {k : Int} : (mVal (mOp gEq (mVar 0) (mC (.int k)))) (tE w V P W) st = some (.ok (decide (w = k)), st) := v_val (v_op (v_var rfl) rfl e_eqInt)
theorem body0 (h : c_goes_together [V, P, W] st = some (.err x, st)) : bodyT (tE 0 V P W) st = some (.err x, tE 0 V P W, st) := by
  unfold bodyT
  rw [v_ifT way_eq]
  exact v_dropE (v_call (n := 3) (v_cons (v_var rfl) (v_cons (v_var rfl) (v_cons (v_var rfl) rfl))) rfl h)
theorem body1 (h : c_clashes [V, W] st = some (.err x, st)) : bodyT (tE 1 V P W) st = some (.err x, tE 1 V P W, st) := by
  unfold bodyT
  rw [v_ifF way_eq, v_ifT way_eq]
  exact v_dropE (v_call (n := 2) (v_cons (v_var rfl) (v_cons (v_var rfl) rfl)) rfl h)
theorem body2 (h : c_least_left_out [V, W] st = some (.err x, st)) : bodyT (tE 2 V P W) st = some (.err x, tE 2 V P W, st) := by
  unfold bodyT
  rw [v_ifF way_eq, v_ifF way_eq, v_ifT way_eq]
  exact v_dropE (v_call (n := 2) (v_cons (v_var rfl) (v_cons (v_var rfl) rfl)) rfl h)
theorem body3 (h : c_always_left_out [V, W] st = some (.err x, st)) : bodyT (tE 3 V P W) st = some (.err x, tE 3 V P W, st) := by
  unfold bodyT
  rw [v_ifF way_eq, v_ifF way_eq, v_ifF way_eq, v_ifT way_eq]
  exact v_dropE (v_call (n := 2) (v_cons (v_var rfl) (v_cons (v_var rfl) rfl)) rfl h)
theorem body4 (h : c_least_spread [V, W] st = some (.err x, st)) : bodyT (tE 4 V P W) st = some (.err x, tE 4 V P W, st) := by
  unfold bodyT
  rw [v_ifF way_eq, v_ifF way_eq, v_ifF way_eq, v_ifF way_eq]
  exact v_dropE (v_call (n := 2) (v_cons (v_var rfl) (v_cons (v_var rfl) rfl)) rfl h)
theorem told_arg {U : D} {t : Str} (hs : Ok st) (h : bodyT (tE w V P W) st = some (.err (argX U), tE w V P W, st)) (hr : gReprT st [U] = some (.str t)) : c_d_law_told [.int w, V, P, W] st = some (.ok (strsD ["argument", t]), st) := by
  refine fn_ret (env' := tE w V P W) ?_ hs rfl
  have hh : (mRet (mLst (mCons (mC (.str "argument")) (mCons (mCB gReprT (mCons (mXf (argX U) 4 "value") mNil)) mNil)))) (tE w V P W) st = some (.ret (strsD ["argument", t]), tE w V P W, st) :=
    v_ret (v_lst (v_cons rfl (v_cons (v_cb (v_cons (d := U) rfl rfl) hr) rfl)) ⟨len_big (n := 2) rfl, rfl⟩)
  show m_d_law_told (tE w V P W) st = _
  unfold m_d_law_told
  unfold bodyT at h
  rw [e_seq]
  unfold mTrys
  rw [h]
  dsimp only
  rw [if_pos (show (argX U).c ∈ [4, 5] from List.mem_cons_self)]
  unfold pickX
  rw [if_pos (show 4 < (tE w V P W).length from (by decide : 4 < 5)), if_pos (show ((argX U).c == 4) = true from rfl)]
  rw [show (tE w V P W).set 4 none = tE w V P W from rfl]
  dsimp only
  rw [hh]
  rfl
theorem told_num {U : D} {t : Str} (hs : Ok st) (h : bodyT (tE w V P W) st = some (.err (numX U), tE w V P W, st)) (hr : gRepr st [U] = some (.str t)) : c_d_law_told [.int w, V, P, W] st = some (.ok (strsD ["number", t]), st) := by
  refine fn_ret (env' := tE w V P W) ?_ hs rfl
  have hh : (mRet (mLst (mCons (mC (.str "number")) (mCons (mCB gRepr (mCons (mXf (numX U) 5 "number") mNil)) mNil)))) (tE w V P W) st = some (.ret (strsD ["number", t]), tE w V P W, st) :=
    v_ret (v_lst (v_cons rfl (v_cons (v_cb (v_cons (d := U) rfl rfl) hr) rfl)) ⟨len_big (n := 2) rfl, rfl⟩)
  show m_d_law_told (tE w V P W) st = _
  unfold m_d_law_told
  unfold bodyT at h
  rw [e_seq]
  unfold mTrys
  rw [h]
  dsimp only
  rw [if_pos (show (numX U).c ∈ [4, 5] from List.mem_cons_of_mem _ List.mem_cons_self)]
  unfold pickX
  rw [if_pos (show 4 < (tE w V P W).length from (by decide : 4 < 5)), if_neg (show ¬ ((numX U).c == 4) = true from Bool.false_ne_true)]
  unfold pickX
  rw [if_pos (show 4 < (tE w V P W).length from (by decide : 4 < 5)), if_pos (show ((numX U).c == 5) = true from rfl)]
  rw [show (tE w V P W).set 4 none = tE w V P W from rfl]
  dsimp only
  rw [hh]
  rfl
end
end Own


namespace Own
open PySem L2 M
theorem comp_some {xs : List Int} {rest : Store} {env : En} (hr : Flat0 rest) (h2 : env[2]? = some (some (.ref 0))) (h15 : 15 < env.length) : ∀ (l : List Str) (a : Int), 0 ≤ a → ∃ (l' : List Str) (a' : Int), l'.Sublist l ∧ 0 ≤ a' ∧
    compD (.nm 15) (mVal (mOp gGt (mCall 2 c_d_law_draw (mCons (mVar 2) (mCons (mC (.int 3)) mNil))) (mC (.int 0)))) (mVar 15) env (l.map D.str) (poolC xs a :: rest) = some (l'.map D.str, poolC xs a' :: rest)
  | [], a, ha => ⟨[], a, List.Sublist.refl _, ha, rfl⟩
  | p :: l, a, ha => by
    obtain ⟨r, hd, r0, r1⟩ := draw_ok (ns := xs) (a := a) (many := 3) hr ha (by decide)
    obtain ⟨l', a', hs, ha', hc⟩ := comp_some (xs := xs) hr h2 h15 l (a + 1) (by omega)
    have e2 : (env.set 15 (some (.str p)))[2]? = some (some (.ref 0)) := by rw [List.getElem?_set_ne (by decide)]; exact h2
    have ht : (mVal (mOp gGt (mCall 2 c_d_law_draw (mCons (mVar 2) (mCons (mC (.int 3)) mNil))) (mC (.int 0)))) (env.set 15 (some (.str p))) (poolC xs a :: rest) = some (.ok (decide (0 < r)), poolC xs (a + 1) :: rest) :=
      v_val (v_op (v_call (n := 2) (v_cons (v_var e2) (v_cons (d := .int 3) rfl rfl)) rfl hd) rfl rfl)
    by_cases q : 0 < r
    · refine ⟨p :: l', a', hs.cons_cons p, ha', ?_⟩
      rw [List.map_cons]
      unfold compD
      rw [e_setN]
      dsimp only
      rw [ht, decide_eq_true q]
      dsimp only
      rw [v_var (d := .str p) (List.getElem?_set_self h15)]
      dsimp only
      rw [if_pos (show isD (.str p) = true from rfl), hc]
      rfl
    · refine ⟨l', a', hs.cons p, ha', ?_⟩
      rw [List.map_cons]
      unfold compD
      rw [e_setN]
      dsimp only
      rw [ht, decide_eq_false q]
      exact hc
theorem ok_strs {l : List Str} {n : Nat} (h : ∀ p ∈ l, PyData.strOk p = true) : okD (n + 2) (strsD l) = true := by
  show (l.map D.str).all (okD (n + 1)) = true
  rw [List.all_eq_true]
  intro d hd
  obtain ⟨p, hp, rfl⟩ := List.mem_map.mp hd
  exact h p hp
section
variable {rs : List D} {k : Nat} {ps : List Str} {most s : Int} {m : Str × Str → Option Int} {x6 x7 x8 x9 x10 x11 x12 x13 x14 x15 x16 x17 : Option D}
abbrev LE (rs : List D) (k : Nat) (ps : List Str) (most : Int) (x6 x7 x8 x9 x10 x11 x12 x13 x14 x15 x16 x17 : Option D) : En := [some (.ro rs), some (.int (k : Nat)), some (.ref 0), some (strsD ps), some (.int most), some (gameD ps most), x6, x7, x8, x9, x10, x11, x12, x13, x14, x15, x16, x17]
theorem trip_ok (g : People ps) : okD 8 (.lst ((clashesOf ps m s).map tripD)) = true := by
  show ((clashesOf ps m s).map tripD).all (okD 7) = true
  rw [List.all_eq_true]
  intro d hd
  obtain ⟨c, hc, rfl⟩ := List.mem_map.mp hd
  obtain ⟨q, hq, h2⟩ := List.mem_flatMap.mp hc
  obtain ⟨x, hx, rfl⟩ := List.mem_map.mp h2
  obtain ⟨ha, hb⟩ := mem_couples (show (q.1, q.2) ∈ couplesOf ps from hq)
  show ([D.str q.1, .str q.2, .str x].all (okD 6)) = true
  rw [List.all_cons, List.all_cons, List.all_cons, List.all_nil]
  simp only [okD, (g.w _ ha).ok, (g.w _ hb).ok, (g.w _ (List.mem_filter.mp hx).1).ok, Bool.and_self]
theorem none_both {qs : List Str} {l : List (Str × Str × Str)} : decide ((l.filter fun c => decide (c.1 ∈ qs) && decide (c.2.1 ∈ qs)) = []) = !(l.any fun c => decide (c.1 ∈ qs) && decide (c.2.1 ∈ qs)) := by
  rw [Bool.eq_iff_iff, decide_eq_true_iff, List.filter_eq_nil_iff, Bool.not_eq_true', List.any_eq_false]
theorem eq_nils {l : List (Str × Str × Str)} {st : Store} (h : okD 8 (.lst (l.map tripD)) = true) : gEq st (.lst (l.map tripD)) (.lst []) = some (.bl (decide (l = []))) := by
  unfold gEq
  rw [e_rd_lst, e_rd_lst, if_pos ⟨h, rfl⟩]
  cases l <;> rfl
/-- one spread -/
theorem spread_turn {xs : List Int} {a : Int} (ha : 0 ≤ a) (g : People ps) (h0 : 0 ≤ s) (h1 : s ≤ most) :
    ∃ a' y10 y11 y12 y13, 0 ≤ a' ∧ m_law_f4 (LE rs k ps most x6 (some (.dT (marksD ps m))) (some (pageD ps most m)) (some (.int s)) x10 x11 x12 x13 x14 x15 x16 x17) [poolC xs a] = some (.next, LE rs k ps most x6 (some (.dT (marksD ps m))) (some (pageD ps most m)) (some (.int s)) y10 y11 y12 y13 x14 x15 x16 x17, [poolC xs a']) := by
  have hS : ∀ a, Flat0 [poolC xs a] := fun a => Flat0.nil.lst
  have h8 := g.l8
  let due := clashesOf ps m s
  let F : Option D → Option D → Option D → Option D → En := fun x10 x11 x12 x13 => LE rs k ps most x6 (some (.dT (marksD ps m))) (some (pageD ps most m)) (some (.int s)) x10 x11 x12 x13 x14 x15 x16 x17
  have okDue : okD 8 (.lst (due.map tripD)) = true := trip_ok g
  have s1 : (mAsg (mCall 3 c_d_law_clashes (mCons (mVar 3) (mCons (mVar 7) (mCons (mVar 9) mNil)))) (.nm 10)) (F x10 x11 x12 x13) [poolC xs a] = some (.next, F (some (.lst (due.map tripD))) x11 x12 x13, [poolC xs a]) :=
    v_asg (v_call (n := 3) (v_cons (v_var rfl) (v_cons (v_var rfl) (v_cons (v_var rfl) rfl))) rfl (law_clashes_ok (hS a) g h0))
  have t2 : (mVal (mOp gNe (mCall 2 c_clashes (mCons (mVar 8) (mCons (mVar 9) mNil))) (mVar 10))) (F (some (.lst (due.map tripD))) x11 x12 x13) [poolC xs a] = some (.ok false, [poolC xs a]) :=
    v_val (v_op (v_call (n := 2) (v_cons (v_var rfl) (v_cons (v_var rfl) rfl)) rfl (clashes_ok (hS a) g h0 h1)) (v_var rfl) (ne_self rfl okDue))
  obtain ⟨qs, a', sub, ha', hc⟩ := comp_some (xs := xs) (rest := []) (env := wipeE (F (some (.lst (due.map tripD))) x11 x12 x13) [15]) Flat0.nil rfl (show 15 < 18 by decide) ps a ha
  have lq := sub.length_le
  have s3 : (mAsg (mLc (mItL (mVar 3)) (.nm 15) (mVal (mOp gGt (mCall 2 c_d_law_draw (mCons (mVar 2) (mCons (mC (.int 3)) mNil))) (mC (.int 0)))) (mVar 15) [15]) (.nm 11)) (F (some (.lst (due.map tripD))) x11 x12 x13) [poolC xs a] = some (.next, F (some (.lst (due.map tripD))) (some (strsD qs)) x12 x13, [poolC xs a']) := by
    refine v_asg ?_
    unfold mLc
    rw [e_itL, v_var (d := strsD ps) rfl, bnd_ok, bnd_ok, hc]
    dsimp only
    rw [if_pos (by rw [List.length_map, e_big]; omega)]
  have nd : qs.Nodup := g.nd.sublist sub
  have hl := lc_eq (mi := mItL (mVar 10)) (t := .nm 17) (mt := mAnd (mVal (mOp (gInF false) (mOp gIx (mVar 17) (mC (.int 0))) (mVar 11))) (mVal (mOp (gInF false) (mOp gIx (mVar 17) (mC (.int 1))) (mVar 11)))) (me := mVar 17) (vs := [17]) (env := F (some (.lst (due.map tripD))) (some (strsD qs)) x12 x13) (st := [poolC xs a']) due tripD (fun c => decide (c.1 ∈ qs) && decide (c.2.1 ∈ qs)) tripD (by rw [e_itL, v_var (d := .lst (due.map tripD)) rfl, bnd_ok]) (by have := clashes_few (m := m) (s := s) h8; show (clashesOf ps m s).length ≤ _; omega)
    fun c hc => ⟨LE rs k ps most x6 (some (.dT (marksD ps m))) (some (pageD ps most m)) (some (.int s)) (some (.lst (due.map tripD))) (some (strsD qs)) x12 x13 x14 x15 x16 (some (tripD c)), rfl, by
      have t1 : (mVal (mOp (gInF false) (mOp gIx (mVar 17) (mC (.int 0))) (mVar 11))) (LE rs k ps most x6 (some (.dT (marksD ps m))) (some (pageD ps most m)) (some (.int s)) (some (.lst (due.map tripD))) (some (strsD qs)) x12 x13 x14 x15 x16 (some (tripD c))) [poolC xs a'] = some (.ok (decide (c.1 ∈ qs)), [poolC xs a']) := v_val (v_op (v_op (v_var rfl) rfl rfl) (v_var rfl) (by rw [in_list, Bool.bne_false]))
      have t2 : (mVal (mOp (gInF false) (mOp gIx (mVar 17) (mC (.int 1))) (mVar 11))) (LE rs k ps most x6 (some (.dT (marksD ps m))) (some (pageD ps most m)) (some (.int s)) (some (.lst (due.map tripD))) (some (strsD qs)) x12 x13 x14 x15 x16 (some (tripD c))) [poolC xs a'] = some (.ok (decide (c.2.1 ∈ qs)), [poolC xs a']) := v_val (v_op (v_op (v_var rfl) rfl rfl) (v_var rfl) (by rw [in_list, Bool.bne_false]))
      cases z : decide (c.1 ∈ qs) with
      | true => rw [z] at t1; rw [v_andT t1, t2]; rfl
      | false => rw [z] at t1; rw [v_andF t1]; rfl, fun _ => ⟨rfl, rfl⟩⟩
  let b := together ps m s qs
  have okF : okD 8 (.lst ((due.filter fun c => decide (c.1 ∈ qs) && decide (c.2.1 ∈ qs)).map tripD)) = true := by
    show ((due.filter fun c => decide (c.1 ∈ qs) && decide (c.2.1 ∈ qs)).map tripD).all (okD 7) = true
    have := List.all_eq_true.mp (show (due.map tripD).all (okD 7) = true from okDue)
    rw [List.all_eq_true]
    intro d hd
    obtain ⟨c, hc, rfl⟩ := List.mem_map.mp hd
    exact this _ (List.mem_map_of_mem (List.mem_filter.mp hc).1)
  have s4 : (mAsg (mOp gEq (mLc (mItL (mVar 10)) (.nm 17) (mAnd (mVal (mOp (gInF false) (mOp gIx (mVar 17) (mC (.int 0))) (mVar 11))) (mVal (mOp (gInF false) (mOp gIx (mVar 17) (mC (.int 1))) (mVar 11)))) (mVar 17) [17]) (mLst mNil)) (.nm 12)) (F (some (.lst (due.map tripD))) (some (strsD qs)) x12 x13) [poolC xs a'] = some (.next, F (some (.lst (due.map tripD))) (some (strsD qs)) (some (.bl b)) x13, [poolC xs a']) :=
    v_asg (v_op hl (v_lst rfl ⟨len_big (n := 0) rfl, rfl⟩) (by rw [eq_nils okF, none_both]; rfl))
  have t5a := together_ok (k := true) (most := most) (m := m) (hS a') g h0 h1 nd (by omega) (fun p hp => sub.subset hp)
  have t5b := together_ok (k := false) (most := most) (m := m) (qs := qs.reverse) (hS a') g h0 h1 ((List.reverse_perm _).nodup_iff.mpr nd) (by rw [List.length_reverse]; omega) (fun p hp => sub.subset (List.mem_reverse.mp hp))
  have eb : together ps m s qs.reverse = b := by
    show _ = together ps m s qs
    unfold together
    simp only [List.mem_reverse]
  rw [eb] at t5b
  have vt : (mCB gTuple (mCons (mRev (mVar 11)) mNil)) (F (some (.lst (due.map tripD))) (some (strsD qs)) (some (.bl b)) x13) [poolC xs a'] = some (.ok (seq2 false (qs.reverse.map D.str)), [poolC xs a']) := by
    refine v_cb (ds := [.lst (qs.map D.str).reverse]) ?_ ?_
    · rw [e_cons]
      unfold mRev
      rw [v_var (d := strsD qs) rfl, bnd_ok, e_rd_lst]
      rfl
    · rw [← List.map_reverse]
      rfl
  have s5 : (mAsg (mLst (mCons (mCall 3 c_goes_together (mCons (mVar 8) (mCons (mVar 11) (mCons (mVar 9) mNil)))) (mCons (mCall 3 c_goes_together (mCons (mVar 8) (mCons (mCB gTuple (mCons (mRev (mVar 11)) mNil)) (mCons (mVar 9) mNil)))) mNil))) (.nm 13)) (F (some (.lst (due.map tripD))) (some (strsD qs)) (some (.bl b)) x13) [poolC xs a'] = some (.next, F (some (.lst (due.map tripD))) (some (strsD qs)) (some (.bl b)) (some (.lst [.bl b, .bl b])), [poolC xs a']) :=
    v_asg (v_lst (v_cons (v_call (n := 3) (v_cons (v_var rfl) (v_cons (v_var rfl) (v_cons (v_var rfl) rfl))) rfl t5a) (v_cons (v_call (n := 3) (v_cons (v_var rfl) (v_cons vt (v_cons (v_var rfl) rfl))) rfl t5b) rfl)) ⟨len_big (n := 2) rfl, rfl⟩)
  have t6 : (mVal (mOp gNe (mVar 13) (mLst (mCons (mVar 12) (mCons (mVar 12) mNil))))) (F (some (.lst (due.map tripD))) (some (strsD qs)) (some (.bl b)) (some (.lst [.bl b, .bl b]))) [poolC xs a'] = some (.ok false, [poolC xs a']) :=
    v_val (v_op (v_var rfl) (v_lst (v_cons (v_var rfl) (v_cons (v_var rfl) rfl)) ⟨len_big (n := 2) rfl, rfl⟩) (ne_self rfl rfl))
  refine ⟨a', some (.lst (due.map tripD)), some (strsD qs), some (.bl b), some (.lst [.bl b, .bl b]), ha', ?_⟩
  show m_law_f4 (F x10 x11 x12 x13) [poolC xs a] = _
  unfold m_law_f4
  rw [v_seq s1, v_seq (by rw [v_ifF t2]; rfl), v_seq s3, v_seq s4, v_seq s5, v_ifF t6]
  rfl
theorem LE_trim {n : Nat} : trimE (n + 1) (LE rs k ps most x6 x7 x8 x9 x10 x11 x12 x13 x14 x15 x16 x17) = LE rs k ps most (trimO (n + 1) x6) (trimO (n + 1) x7) (trimO (n + 1) x8) (trimO (n + 1) x9) (trimO (n + 1) x10) (trimO (n + 1) x11) (trimO (n + 1) x12) (trimO (n + 1) x13) (trimO (n + 1) x14) (trimO (n + 1) x15) (trimO (n + 1) x16) (trimO (n + 1) x17) := by
  simp only [LE, trimE, List.map_cons, List.map_nil]
  simp [trimO, gameD]
/-- one page, all spreads -/
theorem page_turn {xs : List Int} {a miss : Int} (ha : 0 ≤ a) (g : People ps) (m1 : 1 ≤ most) (m4 : most ≤ 4) (hmi : 0 ≤ miss) :
    ∃ a' m y9 y10 y11 y12 y13 y14 y15 y16 y17, 0 ≤ a' ∧ (∀ p, MarkOk most (m p)) ∧ m_law_f5 (LE rs k ps most (some (.int miss)) x7 x8 x9 x10 x11 x12 x13 x14 x15 x16 x17) [poolC xs a] = some (.next, LE rs k ps most (some (.int miss)) (some (.dT (marksD ps m))) (some (pageD ps most m)) y9 y10 y11 y12 y13 y14 y15 y16 y17, [poolC xs a']) := by
  obtain ⟨m, a1, hmk, hmo, ha1⟩ := law_marks_ok (ps := ps) (most := most) (miss := miss) (a := a) (ns := xs) g m1 hmi ha
  have hS : ∀ a, Flat0 [poolC xs a] := fun a => Flat0.nil.lst
  let F : Option D → Option D → En := fun x7 x8 => LE rs k ps most (some (.int miss)) x7 x8 x9 x10 x11 x12 x13 x14 x15 x16 x17
  have s1 : (mAsg (mCall 3 c_d_law_marks (mCons (mVar 2) (mCons (mVar 5) (mCons (mVar 6) mNil)))) (.nm 7)) (F x7 x8) [poolC xs a] = some (.next, F (some (.dT (marksD ps m))) x8, [poolC xs a1]) :=
    v_asg (v_call (n := 3) (v_cons (v_var rfl) (v_cons (v_var rfl) (v_cons (v_var rfl) rfl))) rfl hmk)
  have s2 : (mAsg (mMk 7 3 c_Page_new (mCons (mMk 6 3 c_Crowd_new (mCons (mVar 3) (mCons (mVar 4) mNil))) (mCons (mVar 7) mNil))) (.nm 8)) (F (some (.dT (marksD ps m))) x8) [poolC xs a1] = some (.next, F (some (.dT (marksD ps m))) (some (pageD ps most m)), [poolC xs a1]) :=
    v_asg (page_mk (hS a1).ok g (fun p _ => hmo p) (v_cons (crowd_mk (hS a1).ok g m1 (by omega) (v_cons (v_var rfl) (v_cons (v_var rfl) rfl))) (v_cons (v_var rfl) rfl)))
  let n : Nat := (most + 1).toNat
  let I : List Nat → En → Store → Prop := fun pre env st => ∃ a y9 y10 y11 y12 y13 y14 y15 y16 y17, 0 ≤ a ∧ env = LE rs k ps most (some (.int miss)) (some (.dT (marksD ps m))) (some (pageD ps most m)) y9 y10 y11 y12 y13 y14 y15 y16 y17 ∧ [poolC xs a] = st
  obtain ⟨env', st', hloop, a', y9, y10, y11, y12, y13, y14, y15, y16, y17, ha', rfl, rfl⟩ := for_list (n := 1) (t := .nm 9) (body := m_law_f4) (f := fun i : Nat => D.int (i : Nat)) (List.range n) I (env := F (some (.dT (marksD ps m))) (some (pageD ps most m))) (st := [poolC xs a1]) ⟨a1, _, _, _, _, _, _, _, _, _, ha1, rfl, rfl⟩ (by
    rintro pre j post _ _ e ⟨a, y9, y10, y11, y12, y13, y14, y15, y16, y17, ha, rfl, rfl⟩
    have hj : j < n := by
      have : j ∈ List.range n := by rw [e]; simp
      exact List.mem_range.mp this
    have hj2 : (j : Int) ≤ most := by
      have : j < (most + 1).toNat := hj
      omega
    obtain ⟨a', z10, z11, z12, z13, ha', h⟩ := spread_turn (rs := rs) (k := k) (m := m) (xs := xs) (x6 := some (.int miss)) (x10 := y10) (x11 := y11) (x12 := y12) (x13 := y13) (x14 := y14) (x15 := y15) (x16 := y16) (x17 := y17) ha g (show (0 : Int) ≤ (j : Nat) by omega) hj2
    exact ⟨_, _, _, rfl, h, rfl, a', _, _, _, _, _, _, _, _, _, ha', LE_trim, rfl⟩)
  refine ⟨a', m, y9, y10, y11, y12, y13, y14, y15, y16, y17, ha', hmo, ?_⟩
  show m_law_f5 (F x7 x8) [poolC xs a] = _
  unfold m_law_f5
  rw [v_seq s1, v_seq s2]
  refine v_for (st1 := [poolC xs a1]) (ds := (List.range n).map fun i : Nat => D.int (i : Nat)) ?_ hloop
  rw [e_rng1, v_op (v_var (d := .int most) rfl) rfl e_add, bnd_ok, e_rngK (by omega) (by omega)]
end
end Own


namespace Own
open PySem L2 M
theorem line_big {n : Nat} (h : n ≤ 1000) : n ≤ sizeLine := by rw [sizeLine_eq]; omega
/-- how it is written -/
def Shown (st : Store) (V : D) (t : Str) : Prop := gReprT st [V] = some (.str t) ∧ PyData.strOk t = true
theorem non_shown {st : Store} : Shown st .non "None" := ⟨rfl, by decide +kernel⟩
theorem str_shown {x : Str} {st : Store} (h : (decide ((reprText x).length ≤ 1000) && PyData.strOk (reprText x)) = true) : Shown st (.str x) (reprText x) := by
  rw [Bool.and_eq_true, decide_eq_true_iff] at h
  refine ⟨?_, h.2⟩
  show (if (reprText x).length ≤ sizeLine then _ else none) = _
  rw [if_pos (line_big h.1)]
theorem strNum {x : Str} {st : Store} (h : (decide ((reprText x).length ≤ 1000) && PyData.strOk (reprText x)) = true) : gRepr st [.str x] = some (.str (reprText x)) := by
  rw [Bool.and_eq_true, decide_eq_true_iff] at h
  show (if (reprText x).length ≤ sizeLine then _ else none) = _
  rw [if_pos (line_big h.1)]
def rOk (d : D) : Bool := isSq d && okD 8 d && (py d).showable && !(py d).hasDict && decide ((py d).shown.length ≤ 1000) && PyData.strOk (py d).shown
theorem sq_shown {d : D} {st : Store} (h : rOk d = true) : Shown st d (py d).shown := by
  unfold rOk at h
  simp only [Bool.and_eq_true, Bool.not_eq_true', decide_eq_true_iff] at h
  obtain ⟨⟨⟨⟨⟨h1, h2⟩, h3⟩, h4⟩, h5⟩, h6⟩ := h
  have key : rd st d = d → gReprD st [d] = some (.str (py d).shown) := fun e => by
    unfold gReprD
    dsimp only
    rw [e, if_pos ⟨h1, h2, h3, h4, line_big h5⟩]
  refine ⟨?_, h6⟩
  cases d <;> first | (cases h1; done) | exact key rfl
theorem twice_all : (menu.all fun p => rOk (strsD [p, p])) = true := by decide +kernel
theorem lists_all : (rOk (strsD ["zz"]) && rOk (.lst [.non])) = true := by decide +kernel
def kOk (kvs : List (Key × D)) : Bool := (kvs.all fun p => flatD p.2) && (PyData.dict (rowsP kvs)).showable && decide ((PyData.dict (rowsP kvs)).shown.length ≤ 1000) && decide ((PyData.dict (rowsP kvs)).depth ≤ 8) && PyData.strOk (PyData.dict (rowsP kvs)).shown
theorem dK_shown {kvs : List (Key × D)} {st : Store} (h : kOk kvs = true) : ∃ t, Shown st (.dK kvs) t := by
  unfold kOk at h
  simp only [Bool.and_eq_true, decide_eq_true_iff] at h
  obtain ⟨⟨⟨⟨h1, h2⟩, h3⟩, h4⟩, h5⟩ := h
  refine ⟨_, ?_, h5⟩
  show (if _ then _ else none) = _
  rw [if_pos ⟨h1, h2, line_big h3, h4⟩]
/-- an int below 1920 bits -/
theorem nums_all : (([0 - 1, 2, 3, 4, 5, 9] : List Int).all fun i => decide (i.natAbs.log2 < 1920) && PyData.strOk (toString i)) = true := by decide +kernel
/-! ### the two sides -/
def word (a t : Str) : D := strsD [a, t]
theorem rep_ok {a t : Str} {n : Nat} (ha : PyData.strOk a = true) (ht : PyData.strOk t = true) : okD 8 (.lst (List.replicate n (word a t))) = true := by
  show (List.replicate n (word a t)).all (okD 7) = true
  rw [List.all_eq_true]
  intro d hd
  rw [List.eq_of_mem_replicate hd]
  exact ok_strs fun p hp => by
    simp only [List.mem_cons, List.not_mem_nil, or_false] at hp
    rcases hp with rfl | rfl
    · exact ha
    · exact ht
theorem argOk : PyData.strOk "argument" = true := by decide +kernel
theorem numOk : PyData.strOk "number" = true := by decide +kernel
section
variable {rs : List D} {k : Nat} {ps : List Str} {most : Int} {m : Str × Str → Option Int} {x6 x7 x8 x9 x10 x11 x12 x13 x14 x15 x16 x17 : Option D} {S : Store}
theorem v_mulL {me : ME} {env : En} {d : D} {n : Int} {j : Nat} (h : me env S = some (.ok d, S)) (hd : isD d = true) (hn : n = j) (hj : j ≤ 1000) : (mOp gMulL (mLst (mCons me mNil)) (mC (.int n))) env S = some (.ok (.lst (List.replicate j d)), S) := by
  subst hn
  have := v_op (g := gMulL) (v_lst (v_cons h (mas := mNil) rfl) ⟨len_big (n := 1) rfl, by rw [List.all_cons, hd]; rfl⟩) (show mC (.int ((j : Nat) : Int)) env S = some (.ok (.int j), S) from rfl) (e_mulL (by
    rw [e_big]
    show -(2 ^ 63) ≤ ((j : Nat) : Int) ∧ ((j : Nat) : Int) < 2 ^ 63 ∧ 1 * ((j : Nat) : Int).toNat ≤ 1000000
    omega))
  rw [List.flatten_replicate_singleton] at this
  exact this
/-- no page -/
theorem odd_page {V : D} {t : Str} (hs : Flat0 S) (o : Odd V) (sh : Shown S V t) : m_law_f3 (LE rs k ps most x6 x7 x8 x9 x10 x11 x12 x13 (some V) x15 x16 x17) S = some (.next, LE rs k ps most x6 x7 x8 x9 x10 x11 x12 x13 (some V) x15 x16 x17, S) := by
  let E := LE rs k ps most x6 x7 x8 x9 x10 x11 x12 x13 (some V) x15 x16 x17
  have hO := hs.ok
  have e1 := spread_page (W := .non) hO o
  have e2 := clashes_err hO e1
  have e3 := least_err hO e2
  have e4 := always_err hO e3
  have e5 := least_spread_page (W := .non) hO o
  have e0 := together_page (P := .non) (W := .non) hO o
  have told : ∀ i < 5, c_d_law_told [.int (i : Nat), V, .non, .non] S = some (.ok (word "argument" t), S) := fun i hi => by
    have : i = 0 ∨ i = 1 ∨ i = 2 ∨ i = 3 ∨ i = 4 := by omega
    rcases this with rfl | rfl | rfl | rfl | rfl
    · exact told_arg hO (body0 e0) sh.1
    · exact told_arg hO (body1 e2) sh.1
    · exact told_arg hO (body2 e3) sh.1
    · exact told_arg hO (body3 e4) sh.1
    · exact told_arg hO (body4 e5) sh.1
  have hl := lc_map (mi := mRng1 (mCons (mC (.int 5)) mNil)) (t := .nm 16) (me := mCall 4 c_d_law_told (mCons (mVar 16) (mCons (mVar 14) (mCons (mC .non) (mCons (mC .non) mNil))))) (vs := [16]) (env := E) (st := S) (List.range 5) (fun i => D.int (i : Nat)) (fun _ => word "argument" t) (by rw [e_rng1, e_c, bnd_ok, e_rngK (by decide) (by decide)]; rfl) (by decide)
    fun i hi => ⟨_, rfl, v_call (n := 4) (v_cons (v_var rfl) (v_cons (v_var rfl) (v_cons rfl (v_cons rfl rfl)))) rfl (told i (List.mem_range.mp hi)), rfl⟩
  have hr : (mOp gMulL (mLst (mCons (mLst (mCons (mC (.str "argument")) (mCons (mCB gReprT (mCons (mVar 14) mNil)) mNil))) mNil)) (mC (.int 5))) E S = some (.ok (.lst (List.replicate 5 (word "argument" t))), S) :=
    v_mulL (d := word "argument" t) (v_lst (v_cons rfl (v_cons (v_cb (v_cons (v_var rfl) rfl) sh.1) rfl)) ⟨len_big (n := 2) rfl, rfl⟩) rfl rfl (by decide)
  show m_law_f3 E S = _
  unfold m_law_f3
  rw [v_ifF (v_val (v_op hl hr (ne_self rfl (rep_ok (n := 5) argOk sh.2))))]
  rfl
/-- no people -/
theorem odd_people {P : D} {t : Str} (hs : Flat0 S) (h : c_goes_together [pageD ps most m, P, .non] S = some (.err (argX P), S)) (n : ∀ kvs, P ≠ .dT kvs) (r : ∀ i, P ≠ .ref i) (sh : Shown S P t) : m_law_f2 (LE rs k ps most x6 x7 (some (pageD ps most m)) x9 x10 x11 x12 x13 (some P) x15 x16 x17) S = some (.next, LE rs k ps most x6 x7 (some (pageD ps most m)) x9 x10 x11 x12 x13 (some P) x15 x16 x17, S) := by
  let E := LE rs k ps most x6 x7 (some (pageD ps most m)) x9 x10 x11 x12 x13 (some P) x15 x16 x17
  have told := told_arg hs.ok (body0 h) sh.1
  have shK : gReprK S [P] = some (.str t) := by
    have := sh.1
    unfold gReprT at this
    cases P <;> first | exact this | exact absurd rfl (n _) | exact absurd rfl (r _)
  have ok := rep_ok (n := 1) argOk sh.2
  have okW : okD 8 (word "argument" t) = true := ok_strs (l := ["argument", t]) fun p hp => by
    simp only [List.mem_cons, List.not_mem_nil, or_false] at hp
    rcases hp with rfl | rfl
    · exact argOk
    · exact sh.2
  have hr : (mLst (mCons (mC (.str "argument")) (mCons (mCB gReprK (mCons (mVar 14) mNil)) mNil))) E S = some (.ok (word "argument" t), S) := v_lst (v_cons rfl (v_cons (v_cb (v_cons (v_var rfl) rfl) shK) rfl)) ⟨len_big (n := 2) rfl, rfl⟩
  show m_law_f2 E S = _
  unfold m_law_f2
  rw [v_ifF (v_val (v_op (v_call (n := 4) (v_cons rfl (v_cons (v_var rfl) (v_cons (v_var rfl) (v_cons rfl rfl)))) rfl told) hr (ne_self rfl okW)))]
  rfl
/-- no spread -/
theorem odd_spread {W : D} {t : Str} (hs : Flat0 S) (g : People ps) (hd : isD W = true) (h : c_is_count [W, .int 0, .int most] S = some (.ok (.bl false), S)) (hr : gRepr S [W] = some (.str t)) (ht : PyData.strOk t = true) : m_law_f1 (LE rs k ps most x6 x7 (some (pageD ps most m)) x9 x10 x11 x12 x13 (some W) x15 x16 x17) S = some (.next, LE rs k ps most x6 x7 (some (pageD ps most m)) x9 x10 x11 x12 x13 (some W) x15 x16 x17, S) := by
  let E := LE rs k ps most x6 x7 (some (pageD ps most m)) x9 x10 x11 x12 x13 (some W) x15 x16 x17
  have hO := hs.ok
  have e1 := spread_bad (ps := ps) (m := m) hO hd h
  have e2 := clashes_err hO e1
  have e3 := least_err hO e2
  have e4 := always_err hO e3
  have e0 := together_spread hO g e1
  have told : ∀ i < 4, c_d_law_told [.int (i : Nat), pageD ps most m, .lst [], W] S = some (.ok (word "number" t), S) := fun i hi => by
    have : i = 0 ∨ i = 1 ∨ i = 2 ∨ i = 3 := by omega
    rcases this with rfl | rfl | rfl | rfl
    · exact told_num hO (body0 e0) hr
    · exact told_num hO (body1 e2) hr
    · exact told_num hO (body2 e3) hr
    · exact told_num hO (body3 e4) hr
  have hl := lc_map (mi := mRng1 (mCons (mC (.int 4)) mNil)) (t := .nm 16) (me := mCall 4 c_d_law_told (mCons (mVar 16) (mCons (mVar 8) (mCons (mLst mNil) (mCons (mVar 14) mNil))))) (vs := [16]) (env := E) (st := S) (List.range 4) (fun i => D.int (i : Nat)) (fun _ => word "number" t) (by rw [e_rng1, e_c, bnd_ok, e_rngK (by decide) (by decide)]; rfl) (by decide)
    fun i hi => ⟨_, rfl, v_call (n := 4) (v_cons (v_var rfl) (v_cons (v_var rfl) (v_cons (v_lst rfl ⟨len_big (n := 0) rfl, rfl⟩) (v_cons (v_var rfl) rfl)))) rfl (told i (List.mem_range.mp hi)), rfl⟩
  have hr2 : (mOp gMulL (mLst (mCons (mLst (mCons (mC (.str "number")) (mCons (mCB gRepr (mCons (mVar 14) mNil)) mNil))) mNil)) (mC (.int 4))) E S = some (.ok (.lst (List.replicate 4 (word "number" t))), S) :=
    v_mulL (d := word "number" t) (v_lst (v_cons rfl (v_cons (v_cb (v_cons (v_var rfl) rfl) hr) rfl)) ⟨len_big (n := 2) rfl, rfl⟩) rfl rfl (by decide)
  show m_law_f1 E S = _
  unfold m_law_f1
  rw [v_ifF (v_val (v_op hl hr2 (ne_self rfl (rep_ok (n := 4) numOk ht))))]
  rfl
/-- no number -/
theorem odd_number {W : D} {t : Str} (hs : Flat0 S) (hd : isD W = true) (h : c_is_count [W, .int 0, .int 8] S = some (.ok (.bl false), S)) (hr : gRepr S [W] = some (.str t)) (ht : PyData.strOk t = true) : m_law_f0 (LE rs k ps most x6 x7 (some (pageD ps most m)) x9 x10 x11 x12 x13 (some W) x15 x16 x17) S = some (.next, LE rs k ps most x6 x7 (some (pageD ps most m)) x9 x10 x11 x12 x13 (some W) x15 x16 x17, S) := by
  let E := LE rs k ps most x6 x7 (some (pageD ps most m)) x9 x10 x11 x12 x13 (some W) x15 x16 x17
  have told := told_num hs.ok (body4 (P := .lst []) (least_spread_bad (ps := ps) (m := m) (most := most) hs.ok hd h)) hr
  have okW : okD 8 (word "number" t) = true := ok_strs (l := ["number", t]) fun p hp => by
    simp only [List.mem_cons, List.not_mem_nil, or_false] at hp
    rcases hp with rfl | rfl
    · exact numOk
    · exact ht
  have hr2 : (mLst (mCons (mC (.str "number")) (mCons (mCB gRepr (mCons (mVar 14) mNil)) mNil))) E S = some (.ok (word "number" t), S) := v_lst (v_cons rfl (v_cons (v_cb (v_cons (v_var rfl) rfl) hr) rfl)) ⟨len_big (n := 2) rfl, rfl⟩
  show m_law_f0 E S = _
  unfold m_law_f0
  rw [v_ifF (v_val (v_op (v_call (n := 4) (v_cons rfl (v_cons (v_var rfl) (v_cons (v_lst rfl ⟨len_big (n := 0) rfl, rfl⟩) (v_cons (v_var rfl) rfl)))) rfl told) hr2 (ne_self rfl okW)))]
  rfl
/-- a loop that only looks -/
theorem look_loop {body : MS} {a : Int} {xs : List Int} (page : D) (ds : List D) (h : ∀ d ∈ ds, ∀ y6 y7 y9 y10 y11 y12 y13 y15 y16 y17, body (LE rs k ps most y6 y7 (some page) y9 y10 y11 y12 y13 (some d) y15 y16 y17) [poolC xs a] = some (.next, LE rs k ps most y6 y7 (some page) y9 y10 y11 y12 y13 (some d) y15 y16 y17, [poolC xs a])) (hp : isD page = true) (mi : MA)
    (hi : mi (LE rs k ps most x6 x7 (some page) x9 x10 x11 x12 x13 x14 x15 x16 x17) [poolC xs a] = some (.ok ds, [poolC xs a])) : ∃ y6 y7 y9 y10 y11 y12 y13 y14 y15 y16 y17, mFor mi (.nm 14) body (LE rs k ps most x6 x7 (some page) x9 x10 x11 x12 x13 x14 x15 x16 x17) [poolC xs a] = some (.next, LE rs k ps most y6 y7 (some page) y9 y10 y11 y12 y13 y14 y15 y16 y17, [poolC xs a]) := by
  have tp : trimO 1 (some page) = some page := by cases page <;> first | rfl | cases hp
  let I : List D → En → Store → Prop := fun _ env st => (∃ y6 y7 y9 y10 y11 y12 y13 y14 y15 y16 y17, env = LE rs k ps most y6 y7 (some page) y9 y10 y11 y12 y13 y14 y15 y16 y17) ∧ [poolC xs a] = st
  obtain ⟨env', st', hf, ⟨y6, y7, y9, y10, y11, y12, y13, y14, y15, y16, y17, rfl⟩, rfl⟩ := for_list (n := 1) (t := .nm 14) (body := body) (f := fun d => d) ds I (env := LE rs k ps most x6 x7 (some page) x9 x10 x11 x12 x13 x14 x15 x16 x17) (st := [poolC xs a]) ⟨⟨_, _, _, _, _, _, _, _, _, _, _, rfl⟩, rfl⟩ (by
    rintro pre d post _ _ e ⟨⟨y6, y7, y9, y10, y11, y12, y13, y14, y15, y16, y17, rfl⟩, rfl⟩
    exact ⟨_, _, _, rfl, h d (by rw [e]; simp) _ _ _ _ _ _ _ _ _ _, rfl, ⟨_, _, _, _, _, _, _, _, _, _, _, by rw [LE_trim, tp]⟩, rfl⟩)
  rw [List.map_id'] at hf
  exact ⟨y6, y7, y9, y10, y11, y12, y13, y14, y15, y16, y17, v_for (st1 := [poolC xs a]) hi hf⟩
end
end Own


namespace Own
open PySem L2 M
theorem crowd_inNon {ps : List Str} {most : Int} {st : Store} (hs : Ok st) : c_Crowd__ucontains_u [crowdD ps most, .non] st = some (.ok (.bl false), st) := by
  have h : c_is_word [.non] st = some (.ok (.bl false), st) := by
    refine fn_ret (env' := [some .non, none]) ?_ hs rfl
    simp [m_is_word, startE]
  refine fn_ret (env' := [some (crowdD ps most), some .non]) ?_ hs rfl
  show m_Crowd__ucontains_u [some (crowdD ps most), some .non] st = _
  unfold m_Crowd__ucontains_u
  refine v_ret ?_
  rw [v_andVF (v_call (n := 1) (v_cons (v_var rfl) rfl) rfl h)]
theorem zz_word : Word "zz" := ⟨by decide +kernel, by decide +kernel, by decide +kernel, by decide +kernel⟩
theorem zz_out : ("zz" : Str) ∉ menu := by decide +kernel
theorem v_nil {env : En} {st : Store} : mLst mNil env st = some (.ok (.lst []), st) := v_lst rfl ⟨len_big (n := 0) rfl, rfl⟩
theorem v_lst1 {m : ME} {env : En} {st st1 : Store} {d : D} (h : m env st = some (.ok d, st1)) (hd : isD d = true) : mLst (mCons m mNil) env st = some (.ok (.lst [d]), st1) := v_lst (v_cons h rfl) ⟨len_big (n := 1) rfl, by rw [List.all_cons, hd]; rfl⟩
theorem v_lst2 {m m2 : ME} {env : En} {st st1 st2 : Store} {d e : D} (h : m env st = some (.ok d, st1)) (h2 : m2 env st1 = some (.ok e, st2)) (hd : isD d = true) (he : isD e = true) : mLst (mCons m (mCons m2 mNil)) env st = some (.ok (.lst [d, e]), st2) := v_lst (v_cons h (v_cons h2 rfl)) ⟨len_big (n := 2) rfl, by rw [List.all_cons, List.all_cons, hd, he]; rfl⟩
theorem ixH {st : Store} {d : D} {ds : List D} : gIx st (.lst (d :: ds)) (.int 0) = some d := by
  show L2.atI (d :: ds) 0 = _
  rw [atI_nat (Int.le_refl _) (by rw [List.length_cons]; omega)]
  rfl
/-- len(least_left_out(page, s)[0]) -/
theorem law_turn {rs : List D} {ns : List Int} {k : Nat} (e : rs = ns.map D.int) (hk : k < 1000) (hn : ns = [] ∨ k < ns.length) (o2 o3 o4 o5 o6 o7 o8 o9 o10 o11 o12 o13 o14 o15 o16 o17 : Option D) : ∃ p2 p3 p4 p5 p6 p7 p8 p9 p10 p11 p12 p13 p14 p15 p16 p17 st', m_law_f6 [some (.ro rs), some (.int (k : Nat)), o2, o3, o4, o5, o6, o7, o8, o9, o10, o11, o12, o13, o14, o15, o16, o17] [] =
    some (.next, [some (.ro rs), some (.int (k : Nat)), p2, p3, p4, p5, p6, p7, p8, p9, p10, p11, p12, p13, p14, p15, p16, p17], st') := by
  subst e
  obtain ⟨xs, hop⟩ := opened_ok (ns := ns) (k := k) (many := 420) hk hn (by decide)
  obtain ⟨r1, hr1, r10, r11⟩ := draw_ok (ns := xs) (a := 0) (many := 6) (rest := []) Flat0.nil (by decide) (by decide)
  obtain ⟨d, hd, hw⟩ := words_ok (xs := xs) (a := 0 + 1) (n := 1 + r1) (by decide) (by omega)
  obtain ⟨r2, hr2, r20, r21⟩ := draw_ok (ns := xs) (a := 0 + 1 + 1) (many := 4) (rest := []) Flat0.nil (by decide) (by decide)
  let most : Int := 1 + r2
  have g := menu_people (d := d) (n := (1 + r1).toNat) hd (by omega)
  let ps := (menu.drop d).take (1 + r1).toNat
  have inMenu : ∀ p ∈ ps, p ∈ menu := fun p hp => ((List.take_sublist _ _).trans (List.drop_sublist _ _)).subset hp
  let rs := ns.map D.int
  have s1 : (mAsg (mCall 3 c_d_law_opened (mCons (mVar 0) (mCons (mVar 1) (mCons (mC (.int 420)) mNil)))) (.nm 2)) [some (.ro rs), some (.int (k : Nat)), o2, o3, o4, o5, o6, o7, o8, o9, o10, o11, o12, o13, o14, o15, o16, o17] [] = some (.next, [some (.ro rs), some (.int (k : Nat)), some (.ref 0), o3, o4, o5, o6, o7, o8, o9, o10, o11, o12, o13, o14, o15, o16, o17], [poolC xs 0]) :=
    v_asg (v_call (v_cons (v_var rfl) (v_cons (v_var rfl) (v_cons (d := .int ((420 : Nat) : Int)) rfl rfl))) rfl hop)
  have s2 : (mPar 3 4 (mCons (mCall 2 c_d_law_words (mCons (mVar 2) (mCons (mOp gAdd (mC (.int 1)) (mCall 2 c_d_law_draw (mCons (mVar 2) (mCons (mC (.int 6)) mNil)))) mNil))) (mCons (mOp gAdd (mC (.int 1)) (mCall 2 c_d_law_draw (mCons (mVar 2) (mCons (mC (.int 4)) mNil)))) mNil))) [some (.ro rs), some (.int (k : Nat)), some (.ref 0), o3, o4, o5, o6, o7, o8, o9, o10, o11, o12, o13, o14, o15, o16, o17] [poolC xs 0] =
      some (.next, [some (.ro rs), some (.int (k : Nat)), some (.ref 0), some (strsD ps), some (.int most), o5, o6, o7, o8, o9, o10, o11, o12, o13, o14, o15, o16, o17], [poolC xs (0 + 1 + 1 + 1)]) :=
    v_par (v_cons (v_call (n := 2) (v_cons (v_var rfl) (v_cons (v_op rfl (v_call (n := 2) (v_cons (v_var rfl) (v_cons rfl rfl)) rfl hr1) e_add) rfl)) rfl hw) (v_cons (v_op rfl (v_call (n := 2) (v_cons (v_var rfl) (v_cons rfl rfl)) rfl hr2) e_add) rfl))
  have s3 : (mAsg (mDisp2 [((mC (.str "words")), (mVar 3)), ((mC (.str "most")), (mVar 4))]) (.nm 5)) [some (.ro rs), some (.int (k : Nat)), some (.ref 0), some (strsD ps), some (.int most), o5, o6, o7, o8, o9, o10, o11, o12, o13, o14, o15, o16, o17] [poolC xs (0 + 1 + 1 + 1)] = some (.next, LE rs k ps most o6 o7 o8 o9 o10 o11 o12 o13 o14 o15 o16 o17, [poolC xs (0 + 1 + 1 + 1)]) := v_asg rfl
  -- the pages
  let I : List Int → En → Store → Prop := fun pre env st => ∃ a y6 y7 y8 y9 y10 y11 y12 y13 y14 y15 y16 y17, 0 ≤ a ∧ env = LE rs k ps most y6 y7 y8 y9 y10 y11 y12 y13 y14 y15 y16 y17 ∧ (pre ≠ [] → ∃ m, (∀ p, MarkOk most (m p)) ∧ y7 = some (.dT (marksD ps m)) ∧ y8 = some (pageD ps most m)) ∧ [poolC xs a] = st
  obtain ⟨env', st', hloop, a, y6, y7, y8, y9, y10, y11, y12, y13, y14, y15, y16, y17, ha, rfl, hm, rfl⟩ := for_list (n := 1) (t := .nm 6) (body := m_law_f5) (f := D.int) [0, 4] I (env := LE rs k ps most o6 o7 o8 o9 o10 o11 o12 o13 o14 o15 o16 o17) (st := [poolC xs (0 + 1 + 1 + 1)]) ⟨_, _, _, _, _, _, _, _, _, _, _, _, _, by decide, rfl, fun z => absurd rfl z, rfl⟩ (by
    rintro pre j post _ _ e ⟨a, y6, y7, y8, y9, y10, y11, y12, y13, y14, y15, y16, y17, ha, rfl, _, rfl⟩
    have hj : 0 ≤ j := by
      have : j ∈ ([0, 4] : List Int) := by rw [e]; simp
      simp only [List.mem_cons, List.not_mem_nil, or_false] at this
      omega
    obtain ⟨a', m, z9, z10, z11, z12, z13, z14, z15, z16, z17, ha', hmo, h⟩ := page_turn (rs := rs) (k := k) (ps := ps) (xs := xs) (most := most) (miss := j) (x7 := y7) (x8 := y8) (x9 := y9) (x10 := y10) (x11 := y11) (x12 := y12) (x13 := y13) (x14 := y14) (x15 := y15) (x16 := y16) (x17 := y17) ha g (by omega) (by omega) hj
    exact ⟨_, _, _, rfl, h, rfl, a', _, _, _, _, _, _, _, _, _, _, _, _, ha', LE_trim, fun _ => ⟨m, hmo, rfl, rfl⟩, rfl⟩)
  obtain ⟨m, hmo, rfl, rfl⟩ := hm (List.cons_ne_nil _ _)
  have hS : Flat0 [poolC xs a] := Flat0.nil.lst
  have s4 : mFor (mItL (mLst (mCons (mC (.int 0)) (mCons (mC (.int 4)) mNil)))) (.nm 6) m_law_f5 (LE rs k ps most o6 o7 o8 o9 o10 o11 o12 o13 o14 o15 o16 o17) [poolC xs (0 + 1 + 1 + 1)] = some (.next, LE rs k ps most y6 (some (.dT (marksD ps m))) (some (pageD ps most m)) y9 y10 y11 y12 y13 y14 y15 y16 y17, [poolC xs a]) :=
    v_for (st1 := [poolC xs (0 + 1 + 1 + 1)]) (ds := ([0, 4] : List Int).map D.int) (by rw [e_itL, v_lst2 (d := .int 0) (e := .int 4) rfl rfl rfl rfl, bnd_ok]; rfl) hloop
  -- no pages
  obtain ⟨t7, sh7⟩ := marks_repr (st := [poolC xs a]) g inMenu (show most ≤ 10 by omega) hmo
  obtain ⟨u6, u7, u9, u10, u11, u12, u13, u14, u15, u16, u17, s5⟩ := look_loop (rs := rs) (k := k) (ps := ps) (most := most) (x6 := y6) (x7 := some (.dT (marksD ps m))) (x9 := y9) (x10 := y10) (x11 := y11) (x12 := y12) (x13 := y13) (x14 := y14) (x15 := y15) (x16 := y16) (x17 := y17) (body := m_law_f3) (a := a) (xs := xs) (pageD ps most m) [.non, .dT (marksD ps m), .str "page"] (fun d hd y6 y7 y9 y10 y11 y12 y13 y15 y16 y17 => by
    simp only [List.mem_cons, List.not_mem_nil, or_false] at hd
    rcases hd with rfl | rfl | rfl
    · exact odd_page hS ⟨rfl, .non, fun _ => rfl⟩ non_shown
    · exact odd_page hS ⟨rfl, .dic, fun _ => rfl⟩ sh7
    · exact odd_page hS ⟨rfl, .str, fun _ => rfl⟩ (str_shown (by decide +kernel))) rfl (mItL (mLst (mCons (mC .non) (mCons (mVar 7) (mCons (mC (.str "page")) mNil))))) (by rw [e_itL, v_lst (v_cons (d := .non) rfl (v_cons (v_var (d := .dT (marksD ps m)) rfl) (v_cons (d := .str "page") rfl rfl))) ⟨len_big (n := 3) rfl, rfl⟩, bnd_ok])
  -- no people
  obtain ⟨p, l, hp⟩ : ∃ p l, ps = p :: l := by
    have := g.l1
    show ∃ p l, (menu.drop d).take (1 + r1).toNat = p :: l
    cases h : (menu.drop d).take (1 + r1).toNat with
    | nil => rw [h] at this; simp at this
    | cons p l => exact ⟨p, l, rfl⟩
  have hpm : p ∈ ps := by rw [hp]; exact List.mem_cons_self
  have lists := lists_all
  rw [Bool.and_eq_true] at lists
  have zzo : decide (("zz" : Str) ∈ ps) = false := decide_eq_false fun z => zz_out (inMenu _ z)
  obtain ⟨tk, shk⟩ := dK_shown (kvs := []) (st := [poolC xs a]) (by decide +kernel)
  obtain ⟨q6, q7, q9, q10, q11, q12, q13, q14, q15, q16, q17, s6⟩ := look_loop (rs := rs) (k := k) (ps := ps) (most := most) (x6 := u6) (x7 := u7) (x9 := u9) (x10 := u10) (x11 := u11) (x12 := u12) (x13 := u13) (x14 := u14) (x15 := u15) (x16 := u16) (x17 := u17) (body := m_law_f2) (a := a) (xs := xs) (pageD ps most m) [.non, .str "cy", .lst [.str "zz"], .lst [.str p, .str p], .dK [], .lst [.non]] (fun d hd y6 y7 y9 y10 y11 y12 y13 y15 y16 y17 => by
    simp only [List.mem_cons, List.not_mem_nil, or_false] at hd
    rcases hd with rfl | rfl | rfl | rfl | rfl | rfl
    · exact odd_people hS (together_none (t := .non) hS.ok rfl rfl (by decide) (by decide)) nofun nofun non_shown
    · exact odd_people hS (together_none (t := .str) hS.ok rfl rfl (by decide) (by decide)) nofun nofun (str_shown (by decide +kernel))
    · exact odd_people hS (together_out (inC := fun _ => false) hS.ok (fun d hd => by
        rw [List.mem_singleton.mp hd, crowd_in hS.ok zz_word, zzo]) (show 1 ≤ 1000 by decide) rfl) nofun nofun (sq_shown lists.1)
    · exact odd_people hS (together_twice hS.ok g hpm) nofun nofun (sq_shown (List.all_eq_true.mp twice_all p (inMenu p hpm)))
    · exact odd_people hS (together_none (t := .dic) hS.ok rfl rfl (by decide) (by decide)) nofun nofun shk
    · exact odd_people hS (together_out (inC := fun _ => false) hS.ok (fun d hd => by
        rw [List.mem_singleton.mp hd, crowd_inNon hS.ok]) (show 1 ≤ 1000 by decide) rfl) nofun nofun (sq_shown lists.2)) rfl (mItL (mLst (mCons (mC .non) (mCons (mC (.str "cy")) (mCons (mLst (mCons (mC (.str "zz")) mNil)) (mCons (mLst (mCons (mOp gIx (mVar 3) (mC (.int 0))) (mCons (mOp gIx (mVar 3) (mC (.int 0))) mNil))) (mCons mDNil (mCons (mLst (mCons (mC .non) mNil)) mNil)))))))) (by
      have ix : (mOp gIx (mVar 3) (mC (.int 0))) (LE rs k ps most u6 u7 (some (pageD ps most m)) u9 u10 u11 u12 u13 u14 u15 u16 u17) [poolC xs a] = some (.ok (.str p), [poolC xs a]) := v_op (v_var (d := strsD ps) rfl) rfl (by rw [hp]; exact ixH)
      rw [e_itL, v_lst (v_cons (d := .non) rfl (v_cons (d := .str "cy") rfl (v_cons (v_lst1 (d := .str "zz") rfl rfl) (v_cons (v_lst2 ix ix rfl rfl) (v_cons (d := .dK []) rfl (v_cons (v_lst1 (d := .non) rfl rfl) rfl)))))) ⟨len_big (n := 6) rfl, rfl⟩, bnd_ok])
  -- no spreads
  have nums : ∀ i ∈ ([0 - 1, 2, 3, 4, 5, 9] : List Int), gRepr [poolC xs a] [.int i] = some (.str (toString i)) ∧ PyData.strOk (toString i) = true := fun i hi => by
    have := List.all_eq_true.mp nums_all i hi
    rw [Bool.and_eq_true, decide_eq_true_iff] at this
    refine ⟨?_, this.2⟩
    show (if i.natAbs.log2 < 1920 then _ else none) = _
    rw [if_pos this.1]
  have hmost : most + 1 ∈ ([0 - 1, 2, 3, 4, 5, 9] : List Int) := by
    have : most + 1 = 2 ∨ most + 1 = 3 ∨ most + 1 = 4 ∨ most + 1 = 5 := by omega
    rcases this with h | h | h | h <;> rw [h] <;> decide
  have n1 := nums (0 - 1) (by decide)
  have n9 := nums 9 (by decide)
  have nm := nums (most + 1) hmost
  have m1 : 1 ≤ most := by omega
  obtain ⟨v6, v7, v9, v10, v11, v12, v13, v14, v15, v16, v17, s7⟩ := look_loop (rs := rs) (k := k) (ps := ps) (most := most) (x6 := q6) (x7 := q7) (x9 := q9) (x10 := q10) (x11 := q11) (x12 := q12) (x13 := q13) (x14 := q14) (x15 := q15) (x16 := q16) (x17 := q17) (body := m_law_f1) (a := a) (xs := xs) (pageD ps most m) [.non, .int (0 - 1), .int (most + 1), .bl true, .str "0"] (fun d hd y6 y7 y9 y10 y11 y12 y13 y15 y16 y17 => by
    simp only [List.mem_cons, List.not_mem_nil, or_false] at hd
    rcases hd with rfl | rfl | rfl | rfl | rfl
    · exact odd_spread hS g rfl (count_non hS.ok) rfl (by decide +kernel : PyData.strOk "None" = true)
    · exact odd_spread hS g rfl (by rw [count_ok hS.ok]; rfl) n1.1 n1.2
    · exact odd_spread hS g rfl (by rw [count_ok hS.ok, decide_eq_false (show ¬ most + 1 ≤ most by omega), Bool.and_false]) nm.1 nm.2
    · exact odd_spread hS g rfl (count_bl hS.ok) rfl (by decide +kernel : PyData.strOk "True" = true)
    · exact odd_spread hS g rfl (count_str hS.ok) (strNum (by decide +kernel)) (by decide +kernel)) rfl (mItL (mLst (mCons (mC .non) (mCons (mOp gSub (mC (.int 0)) (mC (.int 1))) (mCons (mOp gAdd (mVar 4) (mC (.int 1))) (mCons (mC (.bl true)) (mCons (mC (.str "0")) mNil))))))) (by
      rw [e_itL, v_lst (v_cons (d := .non) rfl (v_cons (v_op (g := gSub) rfl rfl e_iop) (v_cons (v_op (v_var (d := .int most) rfl) rfl e_add) (v_cons (d := .bl true) rfl (v_cons (d := .str "0") rfl rfl))))) ⟨len_big (n := 5) rfl, rfl⟩, bnd_ok])
  obtain ⟨w6, w7, w9, w10, w11, w12, w13, w14, w15, w16, w17, s8⟩ := look_loop (rs := rs) (k := k) (ps := ps) (most := most) (x6 := v6) (x7 := v7) (x9 := v9) (x10 := v10) (x11 := v11) (x12 := v12) (x13 := v13) (x14 := v14) (x15 := v15) (x16 := v16) (x17 := v17) (body := m_law_f0) (a := a) (xs := xs) (pageD ps most m) [.non, .int (0 - 1), .int 9, .bl true, .str "0"] (fun d hd y6 y7 y9 y10 y11 y12 y13 y15 y16 y17 => by
    simp only [List.mem_cons, List.not_mem_nil, or_false] at hd
    rcases hd with rfl | rfl | rfl | rfl | rfl
    · exact odd_number hS rfl (count_non hS.ok) rfl (by decide +kernel : PyData.strOk "None" = true)
    · exact odd_number hS rfl (by rw [count_ok hS.ok]; rfl) n1.1 n1.2
    · exact odd_number hS rfl (by rw [count_ok hS.ok]; rfl) n9.1 n9.2
    · exact odd_number hS rfl (count_bl hS.ok) rfl (by decide +kernel : PyData.strOk "True" = true)
    · exact odd_number hS rfl (count_str hS.ok) (strNum (by decide +kernel)) (by decide +kernel)) rfl (mItL (mLst (mCons (mC .non) (mCons (mOp gSub (mC (.int 0)) (mC (.int 1))) (mCons (mC (.int 9)) (mCons (mC (.bl true)) (mCons (mC (.str "0")) mNil))))))) (by
      rw [e_itL, v_lst (v_cons (d := .non) rfl (v_cons (v_op (g := gSub) rfl rfl e_iop) (v_cons (d := .int 9) rfl (v_cons (d := .bl true) rfl (v_cons (d := .str "0") rfl rfl))))) ⟨len_big (n := 5) rfl, rfl⟩, bnd_ok])
  refine ⟨some (.ref 0), some (strsD ps), some (.int most), some (gameD ps most), w6, w7, some (pageD ps most m), w9, w10, w11, w12, w13, w14, w15, w16, w17, [poolC xs a], ?_⟩
  unfold m_law_f6
  rw [v_seq s1, v_seq s2, v_seq s3, v_seq s4, v_seq s5, v_seq s6, v_seq s7, s8]
theorem law_true (ns : List Int) (h : ns.length ≤ 63) : ∃ st, c_law [.ro (ns.map D.int)] [] = some (.ok (.bl true), st) := by
  let rs := ns.map D.int
  have hlen : (ns.map D.int).length = ns.length := List.length_map _
  obtain ⟨n, hn, hn6⟩ : ∃ n : Nat, (∀ env : En, env[0]? = some (some (.ro rs)) → mRng1 (mCons (mCB gMax2 (mCons (mC (.int 1)) (mCons (mCB gMin2 (mCons (mCB gLenA (mCons (mVar 0) mNil)) (mCons (mC (.int 6)) mNil))) mNil))) mNil) env [] = some (.ok ((List.range n).map fun i => D.int (i : Nat)), [])) ∧ n ≤ 6 ∧ (ns = [] ∨ n ≤ ns.length) := by
    let x : Int := if (6 : Int) < ((ns.map D.int).length : Int) then 6 else ((ns.map D.int).length : Int)
    let y : Int := if x > 1 then x else 1
    have hx : 0 ≤ x ∧ x ≤ 6 ∧ x ≤ ns.length := by
      show 0 ≤ (if (6 : Int) < ((ns.map D.int).length : Int) then 6 else ((ns.map D.int).length : Int)) ∧ (if (6 : Int) < ((ns.map D.int).length : Int) then 6 else ((ns.map D.int).length : Int)) ≤ 6 ∧ (if (6 : Int) < ((ns.map D.int).length : Int) then 6 else ((ns.map D.int).length : Int)) ≤ ns.length
      rw [hlen]
      split <;> omega
    have hy : 1 ≤ y ∧ y ≤ 6 ∧ (ns = [] ∨ y ≤ ns.length) := by
      show 1 ≤ (if x > 1 then x else 1) ∧ (if x > 1 then x else 1) ≤ 6 ∧ (ns = [] ∨ (if x > 1 then x else 1) ≤ ns.length)
      rcases ns with _ | ⟨a, l⟩
      · refine ⟨?_, ?_, .inl rfl⟩ <;> split <;> omega
      · have : 1 ≤ (a :: l).length := by rw [List.length_cons]; omega
        refine ⟨?_, ?_, .inr ?_⟩ <;> split <;> omega
    refine ⟨y.toNat, fun env he => ?_, by omega, hy.2.2.imp id fun z => by omega⟩
    rw [e_rng1, v_cb (v_cons rfl (v_cons (v_cb (v_cons (v_cb (v_cons (v_var he) rfl) e_len_ro) (v_cons rfl rfl)) e_min2) rfl)) e_max2, bnd_ok, e_rngK (by show 0 ≤ y; omega) (by show y ≤ 1000000; omega)]
  let I : List Nat → En → Store → Prop := fun _ env st => (∃ o1 o2 o3 o4 o5 o6 o7 o8 o9 o10 o11 o12 o13 o14 o15 o16 o17, env = [some (.ro rs), o1, o2, o3, o4, o5, o6, o7, o8, o9, o10, o11, o12, o13, o14, o15, o16, o17]) ∧ st = []
  obtain ⟨env', st', hloop, ⟨o1, o2, o3, o4, o5, o6, o7, o8, o9, o10, o11, o12, o13, o14, o15, o16, o17, rfl⟩, rfl⟩ := for_list (n := 0) (t := .nm 1) (body := m_law_f6) (f := fun i : Nat => D.int (i : Nat)) (List.range n) I (env := [some (.ro rs), none, none, none, none, none, none, none, none, none, none, none, none, none, none, none, none, none]) (st := []) ⟨⟨_, _, _, _, _, _, _, _, _, _, _, _, _, _, _, _, _, rfl⟩, rfl⟩ (by
    rintro pre k post _ _ e ⟨⟨o1, o2, o3, o4, o5, o6, o7, o8, o9, o10, o11, o12, o13, o14, o15, o16, o17, rfl⟩, rfl⟩
    have hk : k < n := by
      have : k ∈ List.range n := by rw [e]; simp
      exact List.mem_range.mp this
    obtain ⟨p2, p3, p4, p5, p6, p7, p8, p9, p10, p11, p12, p13, p14, p15, p16, p17, st', ht⟩ := law_turn (ns := ns) (rs := rs) (k := k) rfl (by omega) (hn6.2.imp id fun z => by omega) o2 o3 o4 o5 o6 o7 o8 o9 o10 o11 o12 o13 o14 o15 o16 o17
    exact ⟨_, _, _, rfl, ht, rfl, ⟨_, _, _, _, _, _, _, _, _, _, _, _, _, _, _, _, _, rfl⟩, rfl⟩)
  refine ⟨[], fn_ret (env' := [some (.ro rs), o1, o2, o3, o4, o5, o6, o7, o8, o9, o10, o11, o12, o13, o14, o15, o16, o17]) ?_ rfl rfl⟩
  show m_law [some (.ro rs), none, none, none, none, none, none, none, none, none, none, none, none, none, none, none, none, none] [] = _
  unfold m_law
  rw [v_seq (v_for (st1 := []) (hn _ rfl) hloop)]
  rfl
theorem law_ok {P : Program} {w : World} {K : PySem.W.Frag} {mg : Str → Option Value} {base : Heap} {B : Gb} {k : Nat} {f : Addr} {fd : FuncData} {ps : List Str} (hB : B.K = K) (F : FnG P w K mg base (L2.CX P w) k f fd ps (spM B c_law 1)) : FnG P w K mg base (L2.CX P w) k f fd ps (spLaw K) := law_okG hB law_true F
end Own


namespace Own
open PySem PySem.Spec PyProof.Rows L2 M
/-! ### facts -/
structure Ad where
  t_LETTERS : Tok
  t_MOST_SIGNS : Tok
  t_MOST_PEOPLE : Tok
  t_MOST_MARK : Tok
  C0 : Addr
  C4 : Addr
  C5 : Addr
  C6 : Addr
  C7 : Addr
  f_d_law_numbers : Addr
  fd_d_law_numbers : FuncData
  f_d_law_opened : Addr
  fd_d_law_opened : FuncData
  f_d_law_draw : Addr
  fd_d_law_draw : FuncData
  f_d_law_words : Addr
  fd_d_law_words : FuncData
  f_d_law_pairs : Addr
  fd_d_law_pairs : FuncData
  f_d_law_marks : Addr
  fd_d_law_marks : FuncData
  f_check_crowd : Addr
  fd_check_crowd : FuncData
  f_Crowd_pairs : Addr
  fd_Crowd_pairs : FuncData
  f_is_word : Addr
  fd_is_word : FuncData
  f_Crowd__ucontains_u : Addr
  fd_Crowd__ucontains_u : FuncData
  f_Crowd_is_pair : Addr
  fd_Crowd_is_pair : FuncData
  f_is_count : Addr
  fd_is_count : FuncData
  f_is_mark : Addr
  fd_is_mark : FuncData
  f_Page_new : Addr
  fd_Page_new : FuncData
  f_are_people : Addr
  fd_are_people : FuncData
  f_Crowd_new : Addr
  fd_Crowd_new : FuncData
  f_d_law_clashes : Addr
  fd_d_law_clashes : FuncData
  f_BadArgument_new : Addr
  fd_BadArgument_new : FuncData
  f_BadNumber_new : Addr
  fd_BadNumber_new : FuncData
  f_check_spread : Addr
  fd_check_spread : FuncData
  f_couples : Addr
  fd_couples : FuncData
  f_Crowd_people : Addr
  fd_Crowd_people : FuncData
  p_Crowd_people : Addr
  f_differs_by : Addr
  fd_differs_by : FuncData
  f_clashes : Addr
  fd_clashes : FuncData
  f_goes_together : Addr
  fd_goes_together : FuncData
  f_least_left_out : Addr
  fd_least_left_out : FuncData
  f_always_left_out : Addr
  fd_always_left_out : FuncData
  f_least_spread : Addr
  fd_least_spread : FuncData
  f_d_law_told : Addr
  fd_d_law_told : FuncData
  f_law : Addr
  fd_law : FuncData
def cAof (A : Ad) : Nat → Addr
  | 0 => A.C0
  | 4 => A.C4
  | 5 => A.C5
  | 6 => A.C6
  | 7 => A.C7
  | _ => 0
def gb (K : PySem.W.Frag) (A : Ad) : Gb := ⟨K, cAof A⟩
structure Txt (P : Program) (w : World) (K : PySem.W.Frag) (mg : Str → Option Value) (base : Heap) (A : Ad) : Prop where
  n_range : mg "range" = none
  n_int : mg "int" = none
  n_max : mg "max" = none
  n_len : mg "len" = none
  n_isinstance : mg "isinstance" = none
  n_all : mg "all" = none
  n_str : mg "str" = none
  n_tuple : mg "tuple" = none
  n_bool : mg "bool" = none
  n_dict : mg "dict" = none
  n_list : mg "list" = none
  n_enumerate : mg "enumerate" = none
  n_any : mg "any" = none
  n_repr : mg "repr" = none
  n_min : mg "min" = none
  g_LETTERS : mg "LETTERS" = some (.str "abcdefghijklmnopqrstuvwxyz" A.t_LETTERS)
  g_MOST_SIGNS : mg "MOST_SIGNS" = some (.int 8 A.t_MOST_SIGNS)
  g_MOST_PEOPLE : mg "MOST_PEOPLE" = some (.int 8 A.t_MOST_PEOPLE)
  g_MOST_MARK : mg "MOST_MARK" = some (.int 10 A.t_MOST_MARK)
  g_MarksError : mg "MarksError" = some (.ref A.C0)
  g_BadArgument : mg "BadArgument" = some (.ref A.C4)
  g_BadNumber : mg "BadNumber" = some (.ref A.C5)
  g_Crowd : mg "Crowd" = some (.ref A.C6)
  g_Page : mg "Page" = some (.ref A.C7)
  F_d_law_numbers : Fun K "_law_numbers" "_law_numbers" s_d_law_numbers A.f_d_law_numbers A.fd_d_law_numbers
  b_d_law_numbers : Binds K A.fd_d_law_numbers ps_d_law_numbers []
  k_d_law_numbers : PySem.W.keepIn K (.ref A.f_d_law_numbers) = true
  g_d_law_numbers : mg "_law_numbers" = some (.ref A.f_d_law_numbers)
  F_d_law_opened : Fun K "_law_opened" "_law_opened" s_d_law_opened A.f_d_law_opened A.fd_d_law_opened
  b_d_law_opened : Binds K A.fd_d_law_opened ps_d_law_opened []
  k_d_law_opened : PySem.W.keepIn K (.ref A.f_d_law_opened) = true
  g_d_law_opened : mg "_law_opened" = some (.ref A.f_d_law_opened)
  F_d_law_draw : Fun K "_law_draw" "_law_draw" s_d_law_draw A.f_d_law_draw A.fd_d_law_draw
  b_d_law_draw : Binds K A.fd_d_law_draw ps_d_law_draw []
  k_d_law_draw : PySem.W.keepIn K (.ref A.f_d_law_draw) = true
  g_d_law_draw : mg "_law_draw" = some (.ref A.f_d_law_draw)
  F_d_law_words : Fun K "_law_words" "_law_words" s_d_law_words A.f_d_law_words A.fd_d_law_words
  b_d_law_words : Binds K A.fd_d_law_words ps_d_law_words []
  k_d_law_words : PySem.W.keepIn K (.ref A.f_d_law_words) = true
  g_d_law_words : mg "_law_words" = some (.ref A.f_d_law_words)
  F_d_law_pairs : Fun K "_law_pairs" "_law_pairs" s_d_law_pairs A.f_d_law_pairs A.fd_d_law_pairs
  b_d_law_pairs : Binds K A.fd_d_law_pairs ps_d_law_pairs []
  k_d_law_pairs : PySem.W.keepIn K (.ref A.f_d_law_pairs) = true
  g_d_law_pairs : mg "_law_pairs" = some (.ref A.f_d_law_pairs)
  F_d_law_marks : Fun K "_law_marks" "_law_marks" s_d_law_marks A.f_d_law_marks A.fd_d_law_marks
  b_d_law_marks : Binds K A.fd_d_law_marks ps_d_law_marks []
  k_d_law_marks : PySem.W.keepIn K (.ref A.f_d_law_marks) = true
  g_d_law_marks : mg "_law_marks" = some (.ref A.f_d_law_marks)
  F_check_crowd : Fun K "check_crowd" "check_crowd" s_check_crowd A.f_check_crowd A.fd_check_crowd
  b_check_crowd : Binds K A.fd_check_crowd ps_check_crowd []
  k_check_crowd : PySem.W.keepIn K (.ref A.f_check_crowd) = true
  g_check_crowd : mg "check_crowd" = some (.ref A.f_check_crowd)
  F_Crowd_pairs : Fun K "pairs" "Crowd.pairs" s_Crowd_pairs A.f_Crowd_pairs A.fd_Crowd_pairs
  b_Crowd_pairs : Binds K A.fd_Crowd_pairs ps_Crowd_pairs []
  k_Crowd_pairs : PySem.W.keepIn K (.ref A.f_Crowd_pairs) = true
  F_is_word : Fun K "is_word" "is_word" s_is_word A.f_is_word A.fd_is_word
  b_is_word : Binds K A.fd_is_word ps_is_word []
  k_is_word : PySem.W.keepIn K (.ref A.f_is_word) = true
  g_is_word : mg "is_word" = some (.ref A.f_is_word)
  F_Crowd__ucontains_u : Fun K "__contains__" "Crowd.__contains__" s_Crowd__ucontains_u A.f_Crowd__ucontains_u A.fd_Crowd__ucontains_u
  b_Crowd__ucontains_u : Binds K A.fd_Crowd__ucontains_u ps_Crowd__ucontains_u []
  k_Crowd__ucontains_u : PySem.W.keepIn K (.ref A.f_Crowd__ucontains_u) = true
  F_Crowd_is_pair : Fun K "is_pair" "Crowd.is_pair" s_Crowd_is_pair A.f_Crowd_is_pair A.fd_Crowd_is_pair
  b_Crowd_is_pair : Binds K A.fd_Crowd_is_pair ps_Crowd_is_pair []
  k_Crowd_is_pair : PySem.W.keepIn K (.ref A.f_Crowd_is_pair) = true
  F_is_count : Fun K "is_count" "is_count" s_is_count A.f_is_count A.fd_is_count
  b_is_count : Binds K A.fd_is_count ps_is_count []
  k_is_count : PySem.W.keepIn K (.ref A.f_is_count) = true
  g_is_count : mg "is_count" = some (.ref A.f_is_count)
  F_is_mark : Fun K "is_mark" "is_mark" s_is_mark A.f_is_mark A.fd_is_mark
  b_is_mark : Binds K A.fd_is_mark ps_is_mark []
  k_is_mark : PySem.W.keepIn K (.ref A.f_is_mark) = true
  g_is_mark : mg "is_mark" = some (.ref A.f_is_mark)
  F_Page_new : Fun K "__init__" "Page.__init__" s_Page_new A.f_Page_new A.fd_Page_new
  b_Page_new : Binds K A.fd_Page_new ps_Page_new []
  k_Page_new : PySem.W.keepIn K (.ref A.f_Page_new) = true
  F_are_people : Fun K "are_people" "are_people" s_are_people A.f_are_people A.fd_are_people
  b_are_people : Binds K A.fd_are_people ps_are_people []
  k_are_people : PySem.W.keepIn K (.ref A.f_are_people) = true
  g_are_people : mg "are_people" = some (.ref A.f_are_people)
  F_Crowd_new : Fun K "__init__" "Crowd.__init__" s_Crowd_new A.f_Crowd_new A.fd_Crowd_new
  b_Crowd_new : Binds K A.fd_Crowd_new ps_Crowd_new []
  k_Crowd_new : PySem.W.keepIn K (.ref A.f_Crowd_new) = true
  F_d_law_clashes : Fun K "_law_clashes" "_law_clashes" s_d_law_clashes A.f_d_law_clashes A.fd_d_law_clashes
  b_d_law_clashes : Binds K A.fd_d_law_clashes ps_d_law_clashes []
  k_d_law_clashes : PySem.W.keepIn K (.ref A.f_d_law_clashes) = true
  g_d_law_clashes : mg "_law_clashes" = some (.ref A.f_d_law_clashes)
  F_BadArgument_new : Fun K "__init__" "BadArgument.__init__" s_BadArgument_new A.f_BadArgument_new A.fd_BadArgument_new
  b_BadArgument_new : Binds K A.fd_BadArgument_new ps_BadArgument_new []
  k_BadArgument_new : PySem.W.keepIn K (.ref A.f_BadArgument_new) = true
  F_BadNumber_new : Fun K "__init__" "BadNumber.__init__" s_BadNumber_new A.f_BadNumber_new A.fd_BadNumber_new
  b_BadNumber_new : Binds K A.fd_BadNumber_new ps_BadNumber_new []
  k_BadNumber_new : PySem.W.keepIn K (.ref A.f_BadNumber_new) = true
  F_check_spread : Fun K "check_spread" "check_spread" s_check_spread A.f_check_spread A.fd_check_spread
  b_check_spread : Binds K A.fd_check_spread ps_check_spread []
  k_check_spread : PySem.W.keepIn K (.ref A.f_check_spread) = true
  g_check_spread : mg "check_spread" = some (.ref A.f_check_spread)
  F_couples : Fun K "couples" "couples" s_couples A.f_couples A.fd_couples
  b_couples : Binds K A.fd_couples ps_couples []
  k_couples : PySem.W.keepIn K (.ref A.f_couples) = true
  g_couples : mg "couples" = some (.ref A.f_couples)
  F_Crowd_people : Fun K "people" "Crowd.people" s_Crowd_people A.f_Crowd_people A.fd_Crowd_people
  b_Crowd_people : Binds K A.fd_Crowd_people ps_Crowd_people []
  k_Crowd_people : PySem.W.keepIn K (.ref A.f_Crowd_people) = true
  F_differs_by : Fun K "differs_by" "differs_by" s_differs_by A.f_differs_by A.fd_differs_by
  b_differs_by : Binds K A.fd_differs_by ps_differs_by []
  k_differs_by : PySem.W.keepIn K (.ref A.f_differs_by) = true
  g_differs_by : mg "differs_by" = some (.ref A.f_differs_by)
  F_clashes : Fun K "clashes" "clashes" s_clashes A.f_clashes A.fd_clashes
  b_clashes : Binds K A.fd_clashes ps_clashes []
  k_clashes : PySem.W.keepIn K (.ref A.f_clashes) = true
  g_clashes : mg "clashes" = some (.ref A.f_clashes)
  F_goes_together : Fun K "goes_together" "goes_together" s_goes_together A.f_goes_together A.fd_goes_together
  b_goes_together : Binds K A.fd_goes_together ps_goes_together []
  k_goes_together : PySem.W.keepIn K (.ref A.f_goes_together) = true
  g_goes_together : mg "goes_together" = some (.ref A.f_goes_together)
  F_least_left_out : Fun K "least_left_out" "least_left_out" s_least_left_out A.f_least_left_out A.fd_least_left_out
  b_least_left_out : Binds K A.fd_least_left_out ps_least_left_out []
  k_least_left_out : PySem.W.keepIn K (.ref A.f_least_left_out) = true
  g_least_left_out : mg "least_left_out" = some (.ref A.f_least_left_out)
  F_always_left_out : Fun K "always_left_out" "always_left_out" s_always_left_out A.f_always_left_out A.fd_always_left_out
  b_always_left_out : Binds K A.fd_always_left_out ps_always_left_out []
  k_always_left_out : PySem.W.keepIn K (.ref A.f_always_left_out) = true
  g_always_left_out : mg "always_left_out" = some (.ref A.f_always_left_out)
  F_least_spread : Fun K "least_spread" "least_spread" s_least_spread A.f_least_spread A.fd_least_spread
  b_least_spread : Binds K A.fd_least_spread ps_least_spread []
  k_least_spread : PySem.W.keepIn K (.ref A.f_least_spread) = true
  g_least_spread : mg "least_spread" = some (.ref A.f_least_spread)
  F_d_law_told : Fun K "_law_told" "_law_told" s_d_law_told A.f_d_law_told A.fd_d_law_told
  b_d_law_told : Binds K A.fd_d_law_told ps_d_law_told []
  k_d_law_told : PySem.W.keepIn K (.ref A.f_d_law_told) = true
  g_d_law_told : mg "_law_told" = some (.ref A.f_d_law_told)
  F_law : Fun K "law" "law" s_law A.f_law A.fd_law
  b_law : Binds K A.fd_law ps_law []
  k_law : PySem.W.keepIn K (.ref A.f_law) = true
  g_law : mg "law" = some (.ref A.f_law)
  ox_BadNumber : OexC K A.C5
  i_BadNumber : PySem.W.findIn K (.ref A.C5) "__init__" = some (some (.ref A.f_BadNumber_new))
  ti_BadNumber : PySem.W.typeIn K (.ref A.f_BadNumber_new) = some (.type "function")
  ox_BadArgument : OexC K A.C4
  i_BadArgument : PySem.W.findIn K (.ref A.C4) "__init__" = some (some (.ref A.f_BadArgument_new))
  ti_BadArgument : PySem.W.typeIn K (.ref A.f_BadArgument_new) = some (.type "function")
  oi_MarksError : OInitC K mg "MarksError" A.C0
  no_BadArgument_value : PySem.W.findIn K (.ref A.C4) "value" = some none
  no_BadNumber_number : PySem.W.findIn K (.ref A.C5) "number" = some none
  xf_BadArgument : XfC K A.C4
  xf_BadNumber : XfC K A.C5
  cl_Crowd : Cls K A.C6
  cl_Page : Cls K A.C7
  mk_Crowd : Mk K A.C6 A.f_Crowd_new
  mk_Page : Mk K A.C7 A.f_Page_new
  m_Crowd__ucontains_u : Meth K A.C6 "__contains__" A.f_Crowd__ucontains_u
  m_Crowd_pairs : Meth K A.C6 "pairs" A.f_Crowd_pairs
  m_Crowd_is_pair : Meth K A.C6 "is_pair" A.f_Crowd_is_pair
  p_Crowd_people : PropOf K A.C6 "people" A.p_Crowd_people A.f_Crowd_people
  fl_own_places_6 : KFl (gb K A) "own_places" [6]
  fl_most_6 : KFl (gb K A) "most" [6]
  fl_own_marks_7 : KFl (gb K A) "own_marks" [7]
  fl_crowd_7 : KFl (gb K A) "crowd" [7]
  isi : KIs (gb K A) [6, 7]
  ex_d_law_told_BadArgument : ∀ k ∈ ([4, 5] : List Nat), PySem.W.exmOne K (.ref ((gb K A).cA k)) (.ref A.C4) = some ((fun k => k == 4) k)
  ex_d_law_told_BadNumber : ∀ k ∈ ([4, 5] : List Nat), PySem.W.exmOne K (.ref ((gb K A).cA k)) (.ref A.C5) = some ((fun k => k == 5) k)
section
variable {P : Program} {w : World} {K : PySem.W.Frag} {mg : Str → Option Value} {base : Heap} {A : Ad}
theorem ok_d_law_numbers (T : Txt P w K mg base A) : FnOk P w K mg base (L2.CX P w) 1 A.f_d_law_numbers A.fd_d_law_numbers ps_d_law_numbers (spM (gb K A) c_d_law_numbers 3) := by
  refine T.F_d_law_numbers.okX sc_d_law_numbers (fun vs H Q E h => h.1) (fun cdv A0 outer s H vs Q E hr h => ⟨_, ?_, def_run (N := names_d_law_numbers) h⟩)
  have tk0 := takes_of (X := cxOf (L2.CX P w) P w K mg base names_d_law_numbers "_law_numbers" (defScope s_d_law_numbers) A.f_d_law_numbers cdv A0 outer s H E) rfl rfl rfl rfl
  have po0 := passes_of (X := cxOf (L2.CX P w) P w K mg base names_d_law_numbers "_law_numbers" (defScope s_d_law_numbers) A.f_d_law_numbers cdv A0 outer s H E) rfl
  exact (ms_cons (ms_set (i := 3) sc_d_law_numbers.nd rfl (by first | exact Or.inl rfl | exact Or.inr rfl) (m_callB (call_mx rfl) rc_max2 (by rfl) T.n_max (by decide +kernel) (m_cons (m_callTy call_int rc_int (by rfl) T.n_int (by decide +kernel) (m_cons (m_var (pv 0)) m_nil)) (m_cons (m_callTy call_int rc_int (by rfl) T.n_int (by decide +kernel) (m_cons (m_op op_sub (r2_I0 (da_int _)) (m_un un_neg r1_neg (m_c pe_int (fun _ => .int _))) (m_var (pv 0))) m_nil)) m_nil))))
    (ms_cons (ms_set (i := 4) sc_d_law_numbers.nd rfl (by first | exact Or.inl rfl | exact Or.inr rfl) (m_var (pv 3)))
    (ms_cons (ms_set (i := 5) sc_d_law_numbers.nd rfl (by first | exact Or.inl rfl | exact Or.inr rfl) (m_new m_nil))
    (ms_cons (ms_for po0 rfl (mi_rng1 rfl T.n_range (m_cons (m_var (pv 2)) m_nil)) (pg_name (i := 6) sc_d_law_numbers.nd rfl (by first | exact Or.inl rfl | exact Or.inr rfl)) tg_nm (ms_one (ms_if (PW.pt (m_and (m_tcmp op_ge (r2_I0 (da_bl _)) (m_var (pv 3)) (m_op op_pow (r2_I (da_int _)) (m_c pe_int (fun _ => .int _)) (m_c pe_int (fun _ => .int _))) (nomark _)) (pw_and1 (m_tcmp op_gt (r2_I0 (da_bl _)) (m_var (pv 4)) (m_c pe_int (fun _ => .int _)) (nomark _))))) (ms_cons (ms_expr (m_met PySem.F.slot_list_append PySem.F.type_list_append mt_append rm_append (m_var (pv 5)) (m_cons (m_op op_mod (r2_I (da_int _)) (m_callTy call_int rc_int (by rfl) T.n_int (by decide +kernel) (m_cons (m_var (pv 4)) m_nil)) (m_c pe_int (fun _ => .int _))) m_nil)))
    (ms_one (ms_set (i := 4) sc_d_law_numbers.nd rfl (by first | exact Or.inl rfl | exact Or.inr rfl) (m_op op_fdiv (r2_I (da_int _)) (m_var (pv 4)) (m_c pe_int (fun _ => .int _)))))) (ms_cons (ms_set (i := 7) sc_d_law_numbers.nd rfl (by first | exact Or.inl rfl | exact Or.inr rfl) (m_op op_mod (r2_I (da_int _)) (m_callTy call_int rc_int (by rfl) T.n_int (by decide +kernel) (m_cons (m_op op_pow (r2_I (da_int _)) (m_op op_addAny r2_add (m_op op_addAny r2_add (m_op op_mod (r2_I (da_int _)) (m_callTy call_int rc_int (by rfl) T.n_int (by decide +kernel) (m_cons (m_var (pv 3)) m_nil)) (m_c pe_int (fun _ => .int _))) (m_op op_mul (r2_I (da_int _)) (m_c pe_int (fun _ => .int _)) (m_var (pv 1)))) (m_c pe_int (fun _ => .int _))) (m_c pe_int (fun _ => .int _))) m_nil)) (m_c pe_int (fun _ => .int _))))
    (ms_cons (ms_set (i := 7) sc_d_law_numbers.nd rfl (by first | exact Or.inl rfl | exact Or.inr rfl) (m_op op_mod (r2_I (da_int _)) (m_callTy call_int rc_int (by rfl) T.n_int (by decide +kernel) (m_cons (m_op op_mul (r2_I (da_int _)) (m_op op_addAny r2_add (m_var (pv 7)) (m_op op_mul (r2_I (da_int _)) (m_c pe_int (fun _ => .int _)) (m_op op_addAny r2_add (m_var (pv 6)) (m_c pe_int (fun _ => .int _))))) (m_op op_addAny r2_add (m_var (pv 6)) (m_c pe_int (fun _ => .int _)))) m_nil)) (m_c pe_int (fun _ => .int _))))
    (ms_cons (ms_set (i := 7) sc_d_law_numbers.nd rfl (by first | exact Or.inl rfl | exact Or.inr rfl) (m_op op_mod (r2_I (da_int _)) (m_callTy call_int rc_int (by rfl) T.n_int (by decide +kernel) (m_cons (m_op op_mul (r2_I (da_int _)) (m_op op_mod (r2_I (da_int _)) (m_callTy call_int rc_int (by rfl) T.n_int (by decide +kernel) (m_cons (m_op op_pow (r2_I (da_int _)) (m_var (pv 7)) (m_c pe_int (fun _ => .int _))) m_nil)) (m_c pe_int (fun _ => .int _))) (m_c pe_int (fun _ => .int _))) m_nil)) (m_c pe_int (fun _ => .int _))))
    (ms_one (ms_expr (m_met PySem.F.slot_list_append PySem.F.type_list_append mt_append rm_append (m_var (pv 5)) (m_cons (m_op op_mod (r2_I (da_int _)) (m_callTy call_int rc_int (by rfl) T.n_int (by decide +kernel) (m_cons (m_op op_fdiv (r2_I (da_int _)) (m_var (pv 7)) (m_c pe_int (fun _ => .int _))) m_nil)) (m_c pe_int (fun _ => .int _))) m_nil))))))))))
    (ms_one (ms_ret (m_var (pv 5))))))))
theorem ok_d_law_opened (T : Txt P w K mg base A) : FnOk P w K mg base (L2.CX P w) 2 A.f_d_law_opened A.fd_d_law_opened ps_d_law_opened (spM (gb K A) c_d_law_opened 3) := by
  refine T.F_d_law_opened.okX sc_d_law_opened (fun vs H Q E h => h.1) (fun cdv A0 outer s H vs Q E hr h => ⟨_, ?_, def_runK (N := names_d_law_opened) h⟩)
  have tk0 := takes_of (X := cxOf (L2.CX P w) P w K mg base names_d_law_opened "_law_opened" (defScope s_d_law_opened) A.f_d_law_opened cdv A0 outer s H E) rfl rfl rfl rfl
  have po0 := passes_of (X := cxOf (L2.CX P w) P w K mg base names_d_law_opened "_law_opened" (defScope s_d_law_opened) A.f_d_law_opened cdv A0 outer s H E) rfl
  exact (ms_cons (ms_set (i := 3) sc_d_law_opened.nd rfl (by first | exact Or.inl rfl | exact Or.inr rfl) (m_ifExp (m_tcmp (op_neD (hu64 hr)) r2_ne (m_var (pv 0)) (m_lst m_nil) (nomark _)) (m_ix ix_any r2_ix (m_var (pv 0)) (m_var (pv 1)) (fun _ _ => rfl)) (m_c pe_int (fun _ => .int _))))
    (ms_one (ms_ret (m_new (m_cons (m_call (n := 3) (c := c_d_law_numbers) tk0 (ok_d_law_numbers T) (hr.mono (by decide)) rfl T.g_d_law_numbers T.k_d_law_numbers T.b_d_law_numbers (m_cons (m_var (pv 3)) (m_cons (m_var (pv 1)) (m_cons (m_var (pv 2)) m_nil)))) (m_cons (m_c pe_int (fun _ => .int _)) m_nil))))))
theorem ok_d_law_draw (T : Txt P w K mg base A) : FnOk P w K mg base (L2.CX P w) 1 A.f_d_law_draw A.fd_d_law_draw ps_d_law_draw (spM (gb K A) c_d_law_draw 2) := by
  refine T.F_d_law_draw.okX sc_d_law_draw (fun vs H Q E h => h.1) (fun cdv A0 outer s H vs Q E hr h => ⟨_, ?_, def_run (N := names_d_law_draw) h⟩)
  have tk0 := takes_of (X := cxOf (L2.CX P w) P w K mg base names_d_law_draw "_law_draw" (defScope s_d_law_draw) A.f_d_law_draw cdv A0 outer s H E) rfl rfl rfl rfl
  have po0 := passes_of (X := cxOf (L2.CX P w) P w K mg base names_d_law_draw "_law_draw" (defScope s_d_law_draw) A.f_d_law_draw cdv A0 outer s H E) rfl
  exact (ms_cons (ms_set (i := 2) sc_d_law_draw.nd rfl (by first | exact Or.inl rfl | exact Or.inr rfl) (m_ix ix_any r2_ix (m_var (pv 0)) (m_c pe_int (fun _ => .int _)) (fun _ _ => rfl)))
    (ms_cons (ms_put (m_op op_addAny r2_add (m_var (pv 2)) (m_c pe_int (fun _ => .int _))) (m_var (pv 0)) (m_c pe_int (fun _ => .int _)))
    (ms_one (ms_ret (m_ifExp (m_tcmp op_lt (r2_I0 (da_bl _)) (m_var (pv 2)) (m_callB call_lenA rc_lenA (by rfl) T.n_len (by decide +kernel) (m_cons (m_ix ix_any r2_ix (m_var (pv 0)) (m_c pe_int (fun _ => .int _)) (fun _ _ => rfl)) m_nil)) (nomark _)) (m_op op_mod (r2_I (da_int _)) (m_callTy call_int rc_int (by rfl) T.n_int (by decide +kernel) (m_cons (m_ix ix_any r2_ix (m_ix ix_any r2_ix (m_var (pv 0)) (m_c pe_int (fun _ => .int _)) (fun _ _ => rfl)) (m_var (pv 2)) (fun _ _ => rfl)) m_nil)) (m_var (pv 1))) (m_c pe_int (fun _ => .int _)))))))
theorem ok_d_law_words (T : Txt P w K mg base A) : FnOk P w K mg base (L2.CX P w) 2 A.f_d_law_words A.fd_d_law_words ps_d_law_words (spM (gb K A) c_d_law_words 2) := by
  refine T.F_d_law_words.okX sc_d_law_words (fun vs H Q E h => h.1) (fun cdv A0 outer s H vs Q E hr h => ⟨_, ?_, def_run (N := names_d_law_words) h⟩)
  have tk0 := takes_of (X := cxOf (L2.CX P w) P w K mg base names_d_law_words "_law_words" (defScope s_d_law_words) A.f_d_law_words cdv A0 outer s H E) rfl rfl rfl rfl
  have po0 := passes_of (X := cxOf (L2.CX P w) P w K mg base names_d_law_words "_law_words" (defScope s_d_law_words) A.f_d_law_words cdv A0 outer s H E) rfl
  exact (ms_one (ms_ret (m_sl rfl (m_sl rfl (m_lst (m_cons (m_c pe_str (fun _ => .str _)) (m_cons (m_c pe_str (fun _ => .str _)) (m_cons (m_c pe_str (fun _ => .str _)) (m_cons (m_c pe_str (fun _ => .str _)) (m_cons (m_c pe_str (fun _ => .str _)) (m_cons (m_c pe_str (fun _ => .str _)) m_nil))))))) (mo_some (m_call (n := 2) (c := c_d_law_draw) tk0 (ok_d_law_draw T) (hr.mono (by decide)) rfl T.g_d_law_draw T.k_d_law_draw T.b_d_law_draw (m_cons (m_var (pv 0)) (m_cons (m_c pe_int (fun _ => .int _)) m_nil)))) mo_none) mo_none (mo_some (m_var (pv 1))))))
theorem ok_d_law_pairs (T : Txt P w K mg base A) : FnOk P w K mg base (L2.CX P w) 1 A.f_d_law_pairs A.fd_d_law_pairs ps_d_law_pairs (spM (gb K A) c_d_law_pairs 1) := by
  refine T.F_d_law_pairs.okX sc_d_law_pairs (fun vs H Q E h => h.1) (fun cdv A0 outer s H vs Q E hr h => ⟨_, ?_, def_run (N := names_d_law_pairs) h⟩)
  have tk0 := takes_of (X := cxOf (L2.CX P w) P w K mg base names_d_law_pairs "_law_pairs" (defScope s_d_law_pairs) A.f_d_law_pairs cdv A0 outer s H E) rfl rfl rfl rfl
  have po0 := passes_of (X := cxOf (L2.CX P w) P w K mg base names_d_law_pairs "_law_pairs" (defScope s_d_law_pairs) A.f_d_law_pairs cdv A0 outer s H E) rfl
  exact (ms_cons (ms_set (i := 1) sc_d_law_pairs.nd rfl (by first | exact Or.inl rfl | exact Or.inr rfl) (m_lst m_nil))
    (ms_cons (ms_for po0 rfl (mi_list (m_var (pv 0))) (pg_name (i := 2) sc_d_law_pairs.nd rfl (by first | exact Or.inl rfl | exact Or.inr rfl)) tg_nm (ms_one (ms_set (i := 1) sc_d_law_pairs.nd rfl (by first | exact Or.inl rfl | exact Or.inr rfl) (m_op op_addAny r2_add (m_var (pv 1)) (m_lc (W0 := M.W0) (own := [("_law_other", 3)]) rfl sc_d_law_pairs.nd (mi_list (m_var (pv 0))) (blkOk_by (own := [("_law_other", 3)]) (N := names_d_law_pairs) (sc := defScope s_d_law_pairs) (by decide +kernel)) (fun _ _ _ _ _ => (pg_name (i := 3) sc_d_law_pairs.nd rfl (by first | exact Or.inl rfl | exact Or.inr rfl))) (fun _ _ _ _ _ => (mts_one (m_tcmp (op_neD (hu64 hr)) r2_ne (m_var (pv 3)) (m_var (pv 2)) (nomark _)))) (fun _ _ _ _ _ => (m_tup (m_cons (m_var (pv 2)) (m_cons (m_var (pv 3)) m_nil)))) tg_nm (by decide))))))
    (ms_one (ms_ret (m_var (pv 1))))))
theorem ok_d_law_marks (T : Txt P w K mg base A) : FnOk P w K mg base (L2.CX P w) 2 A.f_d_law_marks A.fd_d_law_marks ps_d_law_marks (spM (gb K A) c_d_law_marks 3) := by
  refine T.F_d_law_marks.okX sc_d_law_marks (fun vs H Q E h => h.1) (fun cdv A0 outer s H vs Q E hr h => ⟨_, ?_, def_run (N := names_d_law_marks) h⟩)
  have tk0 := takes_of (X := cxOf (L2.CX P w) P w K mg base names_d_law_marks "_law_marks" (defScope s_d_law_marks) A.f_d_law_marks cdv A0 outer s H E) rfl rfl rfl rfl
  have po0 := passes_of (X := cxOf (L2.CX P w) P w K mg base names_d_law_marks "_law_marks" (defScope s_d_law_marks) A.f_d_law_marks cdv A0 outer s H E) rfl
  exact (ms_cons (ms_set (i := 3) sc_d_law_marks.nd rfl (by first | exact Or.inl rfl | exact Or.inr rfl) m_dnewT)
    (ms_cons (ms_for po0 rfl (mi_list (m_call (n := 1) (c := c_d_law_pairs) tk0 (ok_d_law_pairs T) (hr.mono (by decide)) rfl T.g_d_law_pairs T.k_d_law_pairs T.b_d_law_pairs (m_cons (m_dgetR (hu_of hr) (m_var (pv 1)) (m_c pe_str (fun _ => .str _)) (fun _ _ => rfl)) m_nil))) (pg_name (i := 4) sc_d_law_marks.nd rfl (by first | exact Or.inl rfl | exact Or.inr rfl)) tg_nm (ms_cons (ms_set (i := 5) sc_d_law_marks.nd rfl (by first | exact Or.inl rfl | exact Or.inr rfl) (m_andV (m_cmp op_gt (r2_I0 (da_bl _)) (m_var (pv 2)) (m_c pe_int (fun _ => .int _)) (nomark _)) (m_one (m_cmp (op_eqD (hu64 hr)) r2_eq (m_call (n := 2) (c := c_d_law_draw) tk0 (ok_d_law_draw T) (hr.mono (by decide)) rfl T.g_d_law_draw T.k_d_law_draw T.b_d_law_draw (m_cons (m_var (pv 0)) (m_cons (m_var (pv 2)) m_nil))) (m_c pe_int (fun _ => .int _)) (nomark _)))))
    (ms_one (ms_dput (hu_of hr) (m_ifExp (m_val (m_var (pv 5))) (m_c pe_non (fun _ => .non)) (m_call (n := 2) (c := c_d_law_draw) tk0 (ok_d_law_draw T) (hr.mono (by decide)) rfl T.g_d_law_draw T.k_d_law_draw T.b_d_law_draw (m_cons (m_var (pv 0)) (m_cons (m_op op_addAny r2_add (m_dgetR (hu_of hr) (m_var (pv 1)) (m_c pe_str (fun _ => .str _)) (fun _ _ => rfl)) (m_c pe_int (fun _ => .int _))) m_nil)))) (m_var (pv 3)) (m_var (pv 4))))))
    (ms_one (ms_ret (m_var (pv 3))))))
theorem ok_check_crowd (T : Txt P w K mg base A) : FnOk P w K mg base (L2.CX P w) 1 A.f_check_crowd A.fd_check_crowd ps_check_crowd (spM (gb K A) c_check_crowd 1) := by
  refine T.F_check_crowd.okX sc_check_crowd (fun vs H Q E h => h.1) (fun cdv A0 outer s H vs Q E hr h => ⟨_, ?_, def_run (N := names_check_crowd) h⟩)
  have tk0 := takes_of (X := cxOf (L2.CX P w) P w K mg base names_check_crowd "check_crowd" (defScope s_check_crowd) A.f_check_crowd cdv A0 outer s H E) rfl rfl rfl rfl
  have po0 := passes_of (X := cxOf (L2.CX P w) P w K mg base names_check_crowd "check_crowd" (defScope s_check_crowd) A.f_check_crowd cdv A0 outer s H E) rfl
  exact (ms_one (ms_if (m_not (m_val (m_callB call_isiM (rc_isi T.isi) (by rfl) T.n_isinstance (by decide +kernel) (m_cons (m_var (pv 0)) (m_cons (m_c (pe_glob (v := .ref A.C6) rfl T.g_Crowd rfl) (fun _ => .cls 6)) m_nil))))) mss_never ms_nil))
theorem ok_Crowd_pairs (T : Txt P w K mg base A) : FnOk P w K mg base (L2.CX P w) 1 A.f_Crowd_pairs A.fd_Crowd_pairs ps_Crowd_pairs (spM (gb K A) c_Crowd_pairs 1) := by
  refine T.F_Crowd_pairs.okX sc_Crowd_pairs (fun vs H Q E h => h.1) (fun cdv A0 outer s H vs Q E hr h => ⟨_, ?_, def_run (N := names_Crowd_pairs) h⟩)
  have tk0 := takes_of (X := cxOf (L2.CX P w) P w K mg base names_Crowd_pairs "Crowd.pairs" (defScope s_Crowd_pairs) A.f_Crowd_pairs cdv A0 outer s H E) rfl rfl rfl rfl
  have po0 := passes_of (X := cxOf (L2.CX P w) P w K mg base names_Crowd_pairs "Crowd.pairs" (defScope s_Crowd_pairs) A.f_Crowd_pairs cdv A0 outer s H E) rfl
  exact (ms_one (ms_ret (m_lc2 (W0 := M.W0) (own := [("one", 1), ("other", 2)]) (vs1 := [2]) rfl sc_Crowd_pairs.nd (mi_dict (m_fld T.fl_own_places_6 rfl (m_var (pv 0)))) (blkOk_by (own := [("one", 1), ("other", 2)]) (N := names_Crowd_pairs) (sc := defScope s_Crowd_pairs) (by decide +kernel)) (by decide) (fun _ _ _ _ _ => (pg_name (i := 1) sc_Crowd_pairs.nd rfl (by first | exact Or.inl rfl | exact Or.inr rfl))) (fun _ _ _ _ _ => mts_nil) (fun _ _ _ _ _ => (mi_dict (m_fld T.fl_own_places_6 rfl (m_var (pv 0))))) (fun _ _ _ _ _ => (pg_name (i := 2) sc_Crowd_pairs.nd rfl (by first | exact Or.inl rfl | exact Or.inr rfl))) (fun _ _ _ _ _ => (mts_one (m_tcmp (op_neD (hu64 hr)) r2_ne (m_var (pv 1)) (m_var (pv 2)) (nomark _)))) (fun _ _ _ _ _ => (m_tup (m_cons (m_var (pv 1)) (m_cons (m_var (pv 2)) m_nil)))) tg_nm (by decide) tg_nm (by decide))))
theorem ok_is_word (T : Txt P w K mg base A) : FnOk P w K mg base (L2.CX P w) 1 A.f_is_word A.fd_is_word ps_is_word (spM (gb K A) c_is_word 1) := by
  refine T.F_is_word.okX sc_is_word (fun vs H Q E h => h.1) (fun cdv A0 outer s H vs Q E hr h => ⟨_, ?_, def_run (N := names_is_word) h⟩)
  have tk0 := takes_of (X := cxOf (L2.CX P w) P w K mg base names_is_word "is_word" (defScope s_is_word) A.f_is_word cdv A0 outer s H E) rfl rfl rfl rfl
  have po0 := passes_of (X := cxOf (L2.CX P w) P w K mg base names_is_word "is_word" (defScope s_is_word) A.f_is_word cdv A0 outer s H E) rfl
  exact (ms_cons (ms_if (PW.pt (m_or (m_not (m_val (m_callB call_isiM (rc_isi T.isi) (by rfl) T.n_isinstance (by decide +kernel) (m_cons (m_var (pv 0)) (m_cons (m_c (pe_bltn (v := .ty "str") (by rfl) T.n_str (by decide +kernel) rfl) (fun _ => .ty .str)) m_nil))))) (pw_or1 (m_not (m_tchain op_le (r2_I0 (da_bl _)) op_le (r2_I0 (da_bl _)) (m_c pe_int (fun _ => .int _)) (m_callB call_lenA rc_lenA (by rfl) T.n_len (by decide +kernel) (m_cons (m_var (pv 0)) m_nil)) (m_c (pe_glob (v := .int 8) rfl T.g_MOST_SIGNS ⟨_, rfl⟩) (fun _ => .int _))))))) (ms_one (ms_ret (m_c pe_bl (fun _ => .bl _)))) ms_nil)
    (ms_one (ms_ret (m_callB (cr_all rfl) rc_all (by rfl) T.n_all (by decide +kernel) (m_cons (m_lc (W0 := M.W0) (own := [("sign", 1)]) rfl sc_is_word.nd (mi_str (m_var (pv 0))) (blkOk_by (own := [("sign", 1)]) (N := names_is_word) (sc := defScope s_is_word) (by decide +kernel)) (fun _ _ _ _ _ => (pg_name (i := 1) sc_is_word.nd rfl (by first | exact Or.inl rfl | exact Or.inr rfl))) (fun _ _ _ _ _ => mts_nil) (fun _ _ _ _ _ => (m_cmp op_inSign r2_inSign (m_var (pv 1)) (m_c (pe_glob (v := .str "abcdefghijklmnopqrstuvwxyz") rfl T.g_LETTERS ⟨_, rfl⟩) (fun _ => .str _)) (by rfl))) tg_nm (by decide)) m_nil)))))
theorem ok_Crowd__ucontains_u (T : Txt P w K mg base A) : FnOk P w K mg base (L2.CX P w) 2 A.f_Crowd__ucontains_u A.fd_Crowd__ucontains_u ps_Crowd__ucontains_u (spM (gb K A) c_Crowd__ucontains_u 2) := by
  refine T.F_Crowd__ucontains_u.okX sc_Crowd__ucontains_u (fun vs H Q E h => h.1) (fun cdv A0 outer s H vs Q E hr h => ⟨_, ?_, def_run (N := names_Crowd__ucontains_u) h⟩)
  have tk0 := takes_of (X := cxOf (L2.CX P w) P w K mg base names_Crowd__ucontains_u "Crowd.__contains__" (defScope s_Crowd__ucontains_u) A.f_Crowd__ucontains_u cdv A0 outer s H E) rfl rfl rfl rfl
  have po0 := passes_of (X := cxOf (L2.CX P w) P w K mg base names_Crowd__ucontains_u "Crowd.__contains__" (defScope s_Crowd__ucontains_u) A.f_Crowd__ucontains_u cdv A0 outer s H E) rfl
  exact (ms_one (ms_ret (m_andV (m_call (n := 1) (c := c_is_word) tk0 (ok_is_word T) (hr.mono (by decide)) rfl T.g_is_word T.k_is_word T.b_is_word (m_cons (m_var (pv 1)) m_nil)) (m_one (m_din (hu_of hr) (m_var (pv 1)) (m_fld T.fl_own_places_6 rfl (m_var (pv 0))))))))
theorem ok_Crowd_is_pair (T : Txt P w K mg base A) : FnOk P w K mg base (L2.CX P w) 3 A.f_Crowd_is_pair A.fd_Crowd_is_pair ps_Crowd_is_pair (spM (gb K A) c_Crowd_is_pair 2) := by
  refine T.F_Crowd_is_pair.okX sc_Crowd_is_pair (fun vs H Q E h => h.1) (fun cdv A0 outer s H vs Q E hr h => ⟨_, ?_, def_run (N := names_Crowd_is_pair) h⟩)
  have tk0 := takes_of (X := cxOf (L2.CX P w) P w K mg base names_Crowd_is_pair "Crowd.is_pair" (defScope s_Crowd_is_pair) A.f_Crowd_is_pair cdv A0 outer s H E) rfl rfl rfl rfl
  have po0 := passes_of (X := cxOf (L2.CX P w) P w K mg base names_Crowd_is_pair "Crowd.is_pair" (defScope s_Crowd_is_pair) A.f_Crowd_is_pair cdv A0 outer s H E) rfl
  exact (ms_cons (ms_if (PW.pt (m_or (m_not (m_val (m_callB call_isiM (rc_isi T.isi) (by rfl) T.n_isinstance (by decide +kernel) (m_cons (m_var (pv 1)) (m_cons (m_c (pe_bltn (v := .ty "tuple") (by rfl) T.n_tuple (by decide +kernel) rfl) (fun _ => .ty .tup)) m_nil))))) (pw_or1 (m_tcmp (op_neD (hu64 hr)) r2_ne (m_callB call_lenA rc_lenA (by rfl) T.n_len (by decide +kernel) (m_cons (m_var (pv 1)) m_nil)) (m_c pe_int (fun _ => .int _)) (nomark _))))) (ms_one (ms_ret (m_c pe_bl (fun _ => .bl _)))) ms_nil)
    (ms_one (ms_ret (m_andV (m_cmpS (op_inO T.m_Crowd__ucontains_u (ok_Crowd__ucontains_u T) (hr.mono (by decide)) T.b_Crowd__ucontains_u) r2_inO (m_ix ix_any r2_ix (m_var (pv 1)) (m_c pe_int (fun _ => .int _)) (fun _ _ => rfl)) (m_var (pv 0)) (by rfl)) (m_andV (m_cmpS (op_inO T.m_Crowd__ucontains_u (ok_Crowd__ucontains_u T) (hr.mono (by decide)) T.b_Crowd__ucontains_u) r2_inO (m_ix ix_any r2_ix (m_var (pv 1)) (m_c pe_int (fun _ => .int _)) (fun _ _ => rfl)) (m_var (pv 0)) (by rfl)) (m_one (m_cmp (op_neD (hu64 hr)) r2_ne (m_ix ix_any r2_ix (m_var (pv 1)) (m_c pe_int (fun _ => .int _)) (fun _ _ => rfl)) (m_ix ix_any r2_ix (m_var (pv 1)) (m_c pe_int (fun _ => .int _)) (fun _ _ => rfl)) (nomark _))))))))
theorem ok_is_count (T : Txt P w K mg base A) : FnOk P w K mg base (L2.CX P w) 1 A.f_is_count A.fd_is_count ps_is_count (spM (gb K A) c_is_count 3) := by
  refine T.F_is_count.okX sc_is_count (fun vs H Q E h => h.1) (fun cdv A0 outer s H vs Q E hr h => ⟨_, ?_, def_run (N := names_is_count) h⟩)
  have tk0 := takes_of (X := cxOf (L2.CX P w) P w K mg base names_is_count "is_count" (defScope s_is_count) A.f_is_count cdv A0 outer s H E) rfl rfl rfl rfl
  have po0 := passes_of (X := cxOf (L2.CX P w) P w K mg base names_is_count "is_count" (defScope s_is_count) A.f_is_count cdv A0 outer s H E) rfl
  exact (ms_one (ms_ret (m_andV (m_callB call_isiM (rc_isi T.isi) (by rfl) T.n_isinstance (by decide +kernel) (m_cons (m_var (pv 0)) (m_cons (m_c (pe_bltn (v := .ty "int") (by rfl) T.n_int (by decide +kernel) rfl) (fun _ => .ty .int)) m_nil))) (m_andV (m_notV (m_callB call_isiM (rc_isi T.isi) (by rfl) T.n_isinstance (by decide +kernel) (m_cons (m_var (pv 0)) (m_cons (m_c (pe_bltn (v := .ty "bool") (by rfl) T.n_bool (by decide +kernel) rfl) (fun _ => .ty .bl)) m_nil)))) (m_one (m_chain op_le (r2_I0 (da_bl _)) op_le (r2_I0 (da_bl _)) (m_var (pv 1)) (m_var (pv 0)) (m_var (pv 2))))))))
theorem ok_is_mark (T : Txt P w K mg base A) : FnOk P w K mg base (L2.CX P w) 2 A.f_is_mark A.fd_is_mark ps_is_mark (spM (gb K A) c_is_mark 2) := by
  refine T.F_is_mark.okX sc_is_mark (fun vs H Q E h => h.1) (fun cdv A0 outer s H vs Q E hr h => ⟨_, ?_, def_run (N := names_is_mark) h⟩)
  have tk0 := takes_of (X := cxOf (L2.CX P w) P w K mg base names_is_mark "is_mark" (defScope s_is_mark) A.f_is_mark cdv A0 outer s H E) rfl rfl rfl rfl
  have po0 := passes_of (X := cxOf (L2.CX P w) P w K mg base names_is_mark "is_mark" (defScope s_is_mark) A.f_is_mark cdv A0 outer s H E) rfl
  exact (ms_one (ms_ret (m_orV (m_cmp op_isN r2_isN (m_var (pv 1)) (m_c pe_non (fun _ => .non)) (nomark _)) (m_one (m_call (n := 3) (c := c_is_count) tk0 (ok_is_count T) (hr.mono (by decide)) rfl T.g_is_count T.k_is_count T.b_is_count (m_cons (m_var (pv 1)) (m_cons (m_c pe_int (fun _ => .int _)) (m_cons (m_fld T.fl_most_6 rfl (m_var (pv 0))) m_nil))))))))
theorem ok_Page_new (T : Txt P w K mg base A) : FnOk P w K mg base (L2.CX P w) 4 A.f_Page_new A.fd_Page_new ps_Page_new (spM (gb K A) c_Page_new 3) := by
  refine T.F_Page_new.okX sc_Page_new (fun vs H Q E h => h.1) (fun cdv A0 outer s H vs Q E hr h => ⟨_, ?_, def_run (N := names_Page_new) h⟩)
  have tk0 := takes_of (X := cxOf (L2.CX P w) P w K mg base names_Page_new "Page.__init__" (defScope s_Page_new) A.f_Page_new cdv A0 outer s H E) rfl rfl rfl rfl
  have po0 := passes_of (X := cxOf (L2.CX P w) P w K mg base names_Page_new "Page.__init__" (defScope s_Page_new) A.f_Page_new cdv A0 outer s H E) rfl
  exact (ms_cons (ms_expr (m_call (n := 1) (c := c_check_crowd) tk0 (ok_check_crowd T) (hr.mono (by decide)) rfl T.g_check_crowd T.k_check_crowd T.b_check_crowd (m_cons (m_var (pv 1)) m_nil)))
    (ms_cons (ms_if (PW.pt (m_or (m_not (m_val (m_callB call_isiM (rc_isi T.isi) (by rfl) T.n_isinstance (by decide +kernel) (m_cons (m_var (pv 2)) (m_cons (m_c (pe_bltn (v := .ty "dict") (by rfl) T.n_dict (by decide +kernel) rfl) (fun _ => .ty .dic)) m_nil))))) (pw_or1 (m_tcmp (op_neD (hu64 hr)) r2_ne (m_callB call_lenA rc_lenA (by rfl) T.n_len (by decide +kernel) (m_cons (m_var (pv 2)) m_nil)) (m_callB call_lenA rc_lenA (by rfl) T.n_len (by decide +kernel) (m_cons (m_meth0 (cid := 6) (n := 1) (c := c_Crowd_pairs) tk0 rfl T.cl_Crowd T.m_Crowd_pairs (ok_Crowd_pairs T) (hr.mono (by decide)) T.b_Crowd_pairs (m_var (pv 1))) m_nil)) (nomark _))))) mss_never ms_nil)
    (ms_cons (ms_if (m_not (m_val (m_callB (cr_all rfl) rc_all (by rfl) T.n_all (by decide +kernel) (m_cons (m_lc (W0 := M.W0) (own := [("pair", 3)]) rfl sc_Page_new.nd (mi_dict (m_var (pv 2))) (blkOk_by (own := [("pair", 3)]) (N := names_Page_new) (sc := defScope s_Page_new) (by decide +kernel)) (fun _ _ _ _ _ => (pg_name (i := 3) sc_Page_new.nd rfl (by first | exact Or.inl rfl | exact Or.inr rfl))) (fun _ _ _ _ _ => mts_nil) (fun _ _ _ _ _ => (m_andV (m_meth (cid := 6) (n := 2) (c := c_Crowd_is_pair) takes0 rfl T.cl_Crowd T.m_Crowd_is_pair (ok_Crowd_is_pair T) (hr.mono (by decide)) T.b_Crowd_is_pair (m_var (pv 1)) (m_cons (m_var (pv 3)) m_nil)) (m_one (m_call (n := 2) (c := c_is_mark) takes0 (ok_is_mark T) (hr.mono (by decide)) rfl T.g_is_mark T.k_is_mark T.b_is_mark (m_cons (m_var (pv 1)) (m_cons (m_dgetR (hu_of hr) (m_var (pv 2)) (m_var (pv 3)) (fun _ _ => rfl)) m_nil)))))) tg_nm (by decide)) m_nil)))) mss_never ms_nil)
    (ms_cons (ms_sfld T.fl_crowd_7 rfl (m_var (pv 0)) (m_var (pv 1)))
    (ms_one (ms_sfld T.fl_own_marks_7 rfl (m_var (pv 0)) (m_dcT (W0 := M.W0) (own := [("pair", 3)]) (hu_of hr) rfl sc_Page_new.nd (mi_list (m_meth0 (cid := 6) (n := 1) (c := c_Crowd_pairs) tk0 rfl T.cl_Crowd T.m_Crowd_pairs (ok_Crowd_pairs T) (hr.mono (by decide)) T.b_Crowd_pairs (m_var (pv 1)))) (blkOk_by (own := [("pair", 3)]) (N := names_Page_new) (sc := defScope s_Page_new) (by decide +kernel)) (fun _ _ _ _ _ => (pg_name (i := 3) sc_Page_new.nd rfl (by first | exact Or.inl rfl | exact Or.inr rfl))) (fun _ _ _ _ _ => mts_nil) (fun _ _ _ _ _ => (m_var (pv 3))) (fun _ _ _ _ _ => (m_dgetR (hu_of hr) (m_var (pv 2)) (m_var (pv 3)) (fun _ _ => rfl))) tg_nm (by decide))))))))
theorem ok_are_people (T : Txt P w K mg base A) : FnOk P w K mg base (L2.CX P w) 2 A.f_are_people A.fd_are_people ps_are_people (spM (gb K A) c_are_people 1) := by
  refine T.F_are_people.okX sc_are_people (fun vs H Q E h => h.1) (fun cdv A0 outer s H vs Q E hr h => ⟨_, ?_, def_run (N := names_are_people) h⟩)
  have tk0 := takes_of (X := cxOf (L2.CX P w) P w K mg base names_are_people "are_people" (defScope s_are_people) A.f_are_people cdv A0 outer s H E) rfl rfl rfl rfl
  have po0 := passes_of (X := cxOf (L2.CX P w) P w K mg base names_are_people "are_people" (defScope s_are_people) A.f_are_people cdv A0 outer s H E) rfl
  exact (ms_cons (ms_if (PW.pt (m_or (m_not (m_val (m_callB call_isiM (rc_isi T.isi) (by rfl) T.n_isinstance (by decide +kernel) (m_cons (m_var (pv 0)) (m_cons (m_tup (m_cons (m_c (pe_bltn (v := .ty "list") (by rfl) T.n_list (by decide +kernel) rfl) (fun _ => .ty .lst)) (m_cons (m_c (pe_bltn (v := .ty "tuple") (by rfl) T.n_tuple (by decide +kernel) rfl) (fun _ => .ty .tup)) m_nil))) m_nil))))) (pw_or1 (m_not (m_tchain op_le (r2_I0 (da_bl _)) op_le (r2_I0 (da_bl _)) (m_c pe_int (fun _ => .int _)) (m_callB call_lenA rc_lenA (by rfl) T.n_len (by decide +kernel) (m_cons (m_var (pv 0)) m_nil)) (m_c (pe_glob (v := .int 8) rfl T.g_MOST_PEOPLE ⟨_, rfl⟩) (fun _ => .int _))))))) (ms_one (ms_ret (m_c pe_bl (fun _ => .bl _)))) ms_nil)
    (ms_one (ms_ret (m_andV (m_callB (cr_all rfl) rc_all (by rfl) T.n_all (by decide +kernel) (m_cons (m_lc (W0 := M.W0) (own := [("one", 1)]) rfl sc_are_people.nd (mi_list (m_var (pv 0))) (blkOk_by (own := [("one", 1)]) (N := names_are_people) (sc := defScope s_are_people) (by decide +kernel)) (fun _ _ _ _ _ => (pg_name (i := 1) sc_are_people.nd rfl (by first | exact Or.inl rfl | exact Or.inr rfl))) (fun _ _ _ _ _ => mts_nil) (fun _ _ _ _ _ => (m_call (n := 1) (c := c_is_word) takes0 (ok_is_word T) (hr.mono (by decide)) rfl T.g_is_word T.k_is_word T.b_is_word (m_cons (m_var (pv 1)) m_nil))) tg_nm (by decide)) m_nil)) (m_one (m_cmp (op_eqD (hu64 hr)) r2_eq (m_callB call_lenA rc_lenA (by rfl) T.n_len (by decide +kernel) (m_cons (m_dc (W0 := M.W0) (own := [("one", 1)]) rfl sc_are_people.nd (mi_list (m_var (pv 0))) (blkOk_by (own := [("one", 1)]) (N := names_are_people) (sc := defScope s_are_people) (by decide +kernel)) (fun _ _ _ _ _ => (pg_name (i := 1) sc_are_people.nd rfl (by first | exact Or.inl rfl | exact Or.inr rfl))) (fun _ _ _ _ _ => mts_nil) (fun _ _ _ _ _ => (m_var (pv 1))) (fun _ _ _ _ _ => (m_c pe_int (fun _ => .int _))) tg_nm (by decide)) m_nil)) (m_callB call_lenA rc_lenA (by rfl) T.n_len (by decide +kernel) (m_cons (m_var (pv 0)) m_nil)) (nomark _)))))))
theorem ok_Crowd_new (T : Txt P w K mg base A) : FnOk P w K mg base (L2.CX P w) 3 A.f_Crowd_new A.fd_Crowd_new ps_Crowd_new (spM (gb K A) c_Crowd_new 3) := by
  refine T.F_Crowd_new.okX sc_Crowd_new (fun vs H Q E h => h.1) (fun cdv A0 outer s H vs Q E hr h => ⟨_, ?_, def_run (N := names_Crowd_new) h⟩)
  have tk0 := takes_of (X := cxOf (L2.CX P w) P w K mg base names_Crowd_new "Crowd.__init__" (defScope s_Crowd_new) A.f_Crowd_new cdv A0 outer s H E) rfl rfl rfl rfl
  have po0 := passes_of (X := cxOf (L2.CX P w) P w K mg base names_Crowd_new "Crowd.__init__" (defScope s_Crowd_new) A.f_Crowd_new cdv A0 outer s H E) rfl
  exact (ms_cons (ms_if (m_not (m_val (m_call (n := 1) (c := c_are_people) tk0 (ok_are_people T) (hr.mono (by decide)) rfl T.g_are_people T.k_are_people T.b_are_people (m_cons (m_var (pv 1)) m_nil)))) mss_never ms_nil)
    (ms_cons (ms_if (m_not (m_val (m_call (n := 3) (c := c_is_count) tk0 (ok_is_count T) (hr.mono (by decide)) rfl T.g_is_count T.k_is_count T.b_is_count (m_cons (m_var (pv 2)) (m_cons (m_c pe_int (fun _ => .int _)) (m_cons (m_c (pe_glob (v := .int 10) rfl T.g_MOST_MARK ⟨_, rfl⟩) (fun _ => .int _)) m_nil)))))) mss_never ms_nil)
    (ms_cons (ms_sfld T.fl_own_places_6 rfl (m_var (pv 0)) (m_dc (W0 := M.W0) (own := [("at", 3), ("person", 4)]) rfl sc_Crowd_new.nd (mi_enum rfl T.n_enumerate rfl (m_var (pv 1))) (blkOk_by (own := [("at", 3), ("person", 4)]) (N := names_Crowd_new) (sc := defScope s_Crowd_new) (by decide +kernel)) (fun _ _ _ _ _ => (pg_tup (n := 2) rfl (pgs_cons (pg_name (i := 3) sc_Crowd_new.nd rfl (by first | exact Or.inl rfl | exact Or.inr rfl)) (pgs_cons (pg_name (i := 4) sc_Crowd_new.nd rfl (by first | exact Or.inl rfl | exact Or.inr rfl)) pgs_nil)))) (fun _ _ _ _ _ => mts_nil) (fun _ _ _ _ _ => (m_var (pv 4))) (fun _ _ _ _ _ => (m_var (pv 3))) (tg_tp (is := [3, 4])) (by decide)))
    (ms_one (ms_sfld T.fl_most_6 rfl (m_var (pv 0)) (m_var (pv 2)))))))
theorem ok_d_law_clashes (T : Txt P w K mg base A) : FnOk P w K mg base (L2.CX P w) 1 A.f_d_law_clashes A.fd_d_law_clashes ps_d_law_clashes (spM (gb K A) c_d_law_clashes 3) := by
  refine T.F_d_law_clashes.okX sc_d_law_clashes (fun vs H Q E h => h.1) (fun cdv A0 outer s H vs Q E hr h => ⟨_, ?_, def_run (N := names_d_law_clashes) h⟩)
  have tk0 := takes_of (X := cxOf (L2.CX P w) P w K mg base names_d_law_clashes "_law_clashes" (defScope s_d_law_clashes) A.f_d_law_clashes cdv A0 outer s H E) rfl rfl rfl rfl
  have po0 := passes_of (X := cxOf (L2.CX P w) P w K mg base names_d_law_clashes "_law_clashes" (defScope s_d_law_clashes) A.f_d_law_clashes cdv A0 outer s H E) rfl
  exact (ms_cons (ms_set (i := 3) sc_d_law_clashes.nd rfl (by first | exact Or.inl rfl | exact Or.inr rfl) (m_new m_nil))
    (ms_cons (ms_for po0 rfl (mi_enum rfl T.n_enumerate rfl (m_var (pv 0))) (pg_tup (n := 2) rfl (pgs_cons (pg_name (i := 4) sc_d_law_clashes.nd rfl (by first | exact Or.inl rfl | exact Or.inr rfl)) (pgs_cons (pg_name (i := 5) sc_d_law_clashes.nd rfl (by first | exact Or.inl rfl | exact Or.inr rfl)) pgs_nil))) (tg_tp (is := [4, 5])) (ms_one (ms_for po0 rfl (mi_list (m_sl rfl (m_var (pv 0)) (mo_some (m_op op_addAny r2_add (m_var (pv 4)) (m_c pe_int (fun _ => .int _)))) mo_none)) (pg_name (i := 6) sc_d_law_clashes.nd rfl (by first | exact Or.inl rfl | exact Or.inr rfl)) tg_nm (ms_one (ms_for po0 rfl (mi_list (m_lc (W0 := M.W0) (own := [("_law_word", 10)]) rfl sc_d_law_clashes.nd (mi_list (m_var (pv 0))) (blkOk_by (own := [("_law_word", 10)]) (N := names_d_law_clashes) (sc := defScope s_d_law_clashes) (by decide +kernel)) (fun _ _ _ _ _ => (pg_name (i := 10) sc_d_law_clashes.nd rfl (by first | exact Or.inl rfl | exact Or.inr rfl))) (fun _ _ _ _ _ => (mts_one (m_tcmp op_notInF r2_inF (m_var (pv 10)) (m_lst (m_cons (m_var (pv 5)) (m_cons (m_var (pv 6)) m_nil))) (by rfl)))) (fun _ _ _ _ _ => (m_var (pv 10))) tg_nm (by decide))) (pg_name (i := 7) sc_d_law_clashes.nd rfl (by first | exact Or.inl rfl | exact Or.inr rfl)) tg_nm (ms_cons (ms_par (i := 8) (j := 9) (by rfl) sc_d_law_clashes.nd rfl rfl (by decide) rfl rfl (m_cons (m_dgetR (hu_of hr) (m_var (pv 1)) (m_tup (m_cons (m_var (pv 5)) (m_cons (m_var (pv 7)) m_nil))) (fun _ _ => rfl)) (m_cons (m_dgetR (hu_of hr) (m_var (pv 1)) (m_tup (m_cons (m_var (pv 6)) (m_cons (m_var (pv 7)) m_nil))) (fun _ _ => rfl)) m_nil)) (by rfl))
    (ms_one (ms_if (PW.pt (m_and (m_tcmp op_notN r2_notN (m_var (pv 8)) (m_c pe_non (fun _ => .non)) (nomark _)) (m_and (m_tcmp op_notN r2_notN (m_var (pv 9)) (m_c pe_non (fun _ => .non)) (nomark _)) (pw_and1 (m_tcmp op_gt (r2_I0 (da_bl _)) (m_callB (call_mx rfl) rc_max2 (by rfl) T.n_max (by decide +kernel) (m_cons (m_callTy call_int rc_int (by rfl) T.n_int (by decide +kernel) (m_cons (m_op op_sub (r2_I0 (da_int _)) (m_var (pv 8)) (m_var (pv 9))) m_nil)) (m_cons (m_callTy call_int rc_int (by rfl) T.n_int (by decide +kernel) (m_cons (m_op op_sub (r2_I0 (da_int _)) (m_var (pv 9)) (m_var (pv 8))) m_nil)) m_nil))) (m_var (pv 2)) (nomark _)))))) (ms_one (ms_expr (m_met PySem.F.slot_list_append PySem.F.type_list_append mt_append rm_append (m_var (pv 3)) (m_cons (m_tup (m_cons (m_var (pv 5)) (m_cons (m_var (pv 6)) (m_cons (m_var (pv 7)) m_nil)))) m_nil)))) ms_nil))))))))
    (ms_one (ms_ret (m_var (pv 3))))))
theorem ok_BadArgument_new (T : Txt P w K mg base A) : FnOk P w K mg base (L2.CX P w) 1 A.f_BadArgument_new A.fd_BadArgument_new ps_BadArgument_new (spXI "value" K A.C4) := by
  refine T.F_BadArgument_new.okX sc_BadArgument_new (fun vs H Q E h => ?_) (fun cdv A0 outer s H vs Q E hr h => ⟨tEInit K "value" "not such an argument", ?_, pure_einit T.ox_BadArgument T.no_BadArgument_value _ _ _ _ h⟩)
  · obtain ⟨a, y, rfl, _⟩ := h
    rfl
  · exact pss_cons (ps_expr (pe_moinit T.oi_MarksError rfl (pa_cons (pv 0) (pa_cons pe_str pa_nil)))) (pss_one (ps_ost (pv 0) (pv 1)))
theorem ok_BadNumber_new (T : Txt P w K mg base A) : FnOk P w K mg base (L2.CX P w) 1 A.f_BadNumber_new A.fd_BadNumber_new ps_BadNumber_new (spXI "number" K A.C5) := by
  refine T.F_BadNumber_new.okX sc_BadNumber_new (fun vs H Q E h => ?_) (fun cdv A0 outer s H vs Q E hr h => ⟨tEInit K "number" "not such a number", ?_, pure_einit T.ox_BadNumber T.no_BadNumber_number _ _ _ _ h⟩)
  · obtain ⟨a, y, rfl, _⟩ := h
    rfl
  · exact pss_cons (ps_expr (pe_moinit T.oi_MarksError rfl (pa_cons (pv 0) (pa_cons pe_str pa_nil)))) (pss_one (ps_ost (pv 0) (pv 1)))
theorem ok_check_spread (T : Txt P w K mg base A) : FnOk P w K mg base (L2.CX P w) 3 A.f_check_spread A.fd_check_spread ps_check_spread (spM (gb K A) c_check_spread 2) := by
  refine T.F_check_spread.okX sc_check_spread (fun vs H Q E h => h.1) (fun cdv A0 outer s H vs Q E hr h => ⟨_, ?_, def_run (N := names_check_spread) h⟩)
  have tk0 := takes_of (X := cxOf (L2.CX P w) P w K mg base names_check_spread "check_spread" (defScope s_check_spread) A.f_check_spread cdv A0 outer s H E) rfl rfl rfl rfl
  have po0 := passes_of (X := cxOf (L2.CX P w) P w K mg base names_check_spread "check_spread" (defScope s_check_spread) A.f_check_spread cdv A0 outer s H E) rfl
  exact (ms_cons (ms_if (m_not (m_val (m_callB call_isiM (rc_isi T.isi) (by rfl) T.n_isinstance (by decide +kernel) (m_cons (m_var (pv 0)) (m_cons (m_c (pe_glob (v := .ref A.C7) rfl T.g_Page rfl) (fun _ => .cls 7)) m_nil))))) (ms_one (ms_raise (c := 4) rfl tk0 T.ox_BadArgument T.i_BadArgument T.ti_BadArgument (ok_BadArgument_new T) (hr.mono (by decide)) T.b_BadArgument_new rfl T.g_BadArgument (m_var (pv 0)))) ms_nil)
    (ms_one (ms_if (m_not (m_val (m_call (n := 3) (c := c_is_count) tk0 (ok_is_count T) (hr.mono (by decide)) rfl T.g_is_count T.k_is_count T.b_is_count (m_cons (m_var (pv 1)) (m_cons (m_c pe_int (fun _ => .int _)) (m_cons (m_fld T.fl_most_6 rfl (m_fld T.fl_crowd_7 rfl (m_var (pv 0)))) m_nil)))))) (ms_one (ms_raise (c := 5) rfl tk0 T.ox_BadNumber T.i_BadNumber T.ti_BadNumber (ok_BadNumber_new T) (hr.mono (by decide)) T.b_BadNumber_new rfl T.g_BadNumber (m_var (pv 1)))) ms_nil)))
theorem ok_couples (T : Txt P w K mg base A) : FnOk P w K mg base (L2.CX P w) 1 A.f_couples A.fd_couples ps_couples (spM (gb K A) c_couples 1) := by
  refine T.F_couples.okX sc_couples (fun vs H Q E h => h.1) (fun cdv A0 outer s H vs Q E hr h => ⟨_, ?_, def_run (N := names_couples) h⟩)
  have tk0 := takes_of (X := cxOf (L2.CX P w) P w K mg base names_couples "couples" (defScope s_couples) A.f_couples cdv A0 outer s H E) rfl rfl rfl rfl
  have po0 := passes_of (X := cxOf (L2.CX P w) P w K mg base names_couples "couples" (defScope s_couples) A.f_couples cdv A0 outer s H E) rfl
  exact (ms_one (ms_ret (m_lc2 (W0 := M.W0) (own := [("at", 1), ("one", 2), ("other", 3)]) (vs1 := [3]) rfl sc_couples.nd (mi_enum rfl T.n_enumerate rfl (m_var (pv 0))) (blkOk_by (own := [("at", 1), ("one", 2), ("other", 3)]) (N := names_couples) (sc := defScope s_couples) (by decide +kernel)) (by decide) (fun _ _ _ _ _ => (pg_tup (n := 2) rfl (pgs_cons (pg_name (i := 1) sc_couples.nd rfl (by first | exact Or.inl rfl | exact Or.inr rfl)) (pgs_cons (pg_name (i := 2) sc_couples.nd rfl (by first | exact Or.inl rfl | exact Or.inr rfl)) pgs_nil)))) (fun _ _ _ _ _ => mts_nil) (fun _ _ _ _ _ => (mi_list (m_sl rfl (m_var (pv 0)) (mo_some (m_op op_addAny r2_add (m_var (pv 1)) (m_c pe_int (fun _ => .int _)))) mo_none))) (fun _ _ _ _ _ => (pg_name (i := 3) sc_couples.nd rfl (by first | exact Or.inl rfl | exact Or.inr rfl))) (fun _ _ _ _ _ => mts_nil) (fun _ _ _ _ _ => (m_tup (m_cons (m_var (pv 2)) (m_cons (m_var (pv 3)) m_nil)))) (tg_tp (is := [1, 2])) (by decide) tg_nm (by decide))))
theorem ok_Crowd_people (T : Txt P w K mg base A) : FnOk P w K mg base (L2.CX P w) 1 A.f_Crowd_people A.fd_Crowd_people ps_Crowd_people (spM (gb K A) c_Crowd_people 1) := by
  refine T.F_Crowd_people.okX sc_Crowd_people (fun vs H Q E h => h.1) (fun cdv A0 outer s H vs Q E hr h => ⟨_, ?_, def_run (N := names_Crowd_people) h⟩)
  have tk0 := takes_of (X := cxOf (L2.CX P w) P w K mg base names_Crowd_people "Crowd.people" (defScope s_Crowd_people) A.f_Crowd_people cdv A0 outer s H E) rfl rfl rfl rfl
  have po0 := passes_of (X := cxOf (L2.CX P w) P w K mg base names_Crowd_people "Crowd.people" (defScope s_Crowd_people) A.f_Crowd_people cdv A0 outer s H E) rfl
  exact (ms_one (ms_ret (m_callTy (call_listA rfl) rc_listT (by rfl) T.n_list (by decide +kernel) (m_cons (m_fld T.fl_own_places_6 rfl (m_var (pv 0))) m_nil))))
theorem ok_differs_by (T : Txt P w K mg base A) : FnOk P w K mg base (L2.CX P w) 1 A.f_differs_by A.fd_differs_by ps_differs_by (spM (gb K A) c_differs_by 4) := by
  refine T.F_differs_by.okX sc_differs_by (fun vs H Q E h => h.1) (fun cdv A0 outer s H vs Q E hr h => ⟨_, ?_, def_run (N := names_differs_by) h⟩)
  have tk0 := takes_of (X := cxOf (L2.CX P w) P w K mg base names_differs_by "differs_by" (defScope s_differs_by) A.f_differs_by cdv A0 outer s H E) rfl rfl rfl rfl
  have po0 := passes_of (X := cxOf (L2.CX P w) P w K mg base names_differs_by "differs_by" (defScope s_differs_by) A.f_differs_by cdv A0 outer s H E) rfl
  exact (ms_cons (ms_if (m_tcmp op_inF r2_inF (m_var (pv 3)) (m_tup (m_cons (m_var (pv 1)) (m_cons (m_var (pv 2)) m_nil))) (by rfl)) (ms_one (ms_ret (m_c pe_int (fun _ => .int _)))) ms_nil)
    (ms_cons (ms_par (i := 4) (j := 5) (by rfl) sc_differs_by.nd rfl rfl (by decide) rfl rfl (m_cons (m_dgetR (hu_of hr) (m_fld T.fl_own_marks_7 rfl (m_var (pv 0))) (m_tup (m_cons (m_var (pv 1)) (m_cons (m_var (pv 3)) m_nil))) (fun _ _ => rfl)) (m_cons (m_dgetR (hu_of hr) (m_fld T.fl_own_marks_7 rfl (m_var (pv 0))) (m_tup (m_cons (m_var (pv 2)) (m_cons (m_var (pv 3)) m_nil))) (fun _ _ => rfl)) m_nil)) (by rfl))
    (ms_one (ms_ret (m_ifExp (PW.pt (m_or (m_tcmp op_isN r2_isN (m_var (pv 4)) (m_c pe_non (fun _ => .non)) (nomark _)) (pw_or1 (m_tcmp op_isN r2_isN (m_var (pv 5)) (m_c pe_non (fun _ => .non)) (nomark _))))) (m_c pe_int (fun _ => .int _)) (m_callB (call_mx rfl) rc_max2 (by rfl) T.n_max (by decide +kernel) (m_cons (m_callTy call_int rc_int (by rfl) T.n_int (by decide +kernel) (m_cons (m_op op_sub (r2_I0 (da_int _)) (m_var (pv 4)) (m_var (pv 5))) m_nil)) (m_cons (m_callTy call_int rc_int (by rfl) T.n_int (by decide +kernel) (m_cons (m_op op_sub (r2_I0 (da_int _)) (m_var (pv 5)) (m_var (pv 4))) m_nil)) m_nil))))))))
theorem ok_clashes (T : Txt P w K mg base A) : FnOk P w K mg base (L2.CX P w) 4 A.f_clashes A.fd_clashes ps_clashes (spM (gb K A) c_clashes 2) := by
  refine T.F_clashes.okX sc_clashes (fun vs H Q E h => h.1) (fun cdv A0 outer s H vs Q E hr h => ⟨_, ?_, def_run (N := names_clashes) h⟩)
  have tk0 := takes_of (X := cxOf (L2.CX P w) P w K mg base names_clashes "clashes" (defScope s_clashes) A.f_clashes cdv A0 outer s H E) rfl rfl rfl rfl
  have po0 := passes_of (X := cxOf (L2.CX P w) P w K mg base names_clashes "clashes" (defScope s_clashes) A.f_clashes cdv A0 outer s H E) rfl
  exact (ms_cons (ms_expr (m_call (n := 2) (c := c_check_spread) tk0 (ok_check_spread T) (hr.mono (by decide)) rfl T.g_check_spread T.k_check_spread T.b_check_spread (m_cons (m_var (pv 0)) (m_cons (m_var (pv 1)) m_nil))))
    (ms_cons (ms_set (i := 2) sc_clashes.nd rfl (by first | exact Or.inl rfl | exact Or.inr rfl) (m_new m_nil))
    (ms_cons (ms_for po0 rfl (mi_list (m_call (n := 1) (c := c_couples) tk0 (ok_couples T) (hr.mono (by decide)) rfl T.g_couples T.k_couples T.b_couples (m_cons (m_prop (cid := 6) (c := c_Crowd_people) T.cl_Crowd T.p_Crowd_people (ok_Crowd_people T) (hr.mono (by decide)) T.b_Crowd_people (m_fld T.fl_crowd_7 rfl (m_var (pv 0)))) m_nil))) (pg_tup (n := 2) rfl (pgs_cons (pg_name (i := 3) sc_clashes.nd rfl (by first | exact Or.inl rfl | exact Or.inr rfl)) (pgs_cons (pg_name (i := 4) sc_clashes.nd rfl (by first | exact Or.inl rfl | exact Or.inr rfl)) pgs_nil))) (tg_tp (is := [3, 4])) (ms_one (ms_for po0 rfl (mi_list (m_prop (cid := 6) (c := c_Crowd_people) T.cl_Crowd T.p_Crowd_people (ok_Crowd_people T) (hr.mono (by decide)) T.b_Crowd_people (m_fld T.fl_crowd_7 rfl (m_var (pv 0))))) (pg_name (i := 5) sc_clashes.nd rfl (by first | exact Or.inl rfl | exact Or.inr rfl)) tg_nm (ms_one (ms_if (m_tcmp op_gt (r2_I0 (da_bl _)) (m_call (n := 4) (c := c_differs_by) tk0 (ok_differs_by T) (hr.mono (by decide)) rfl T.g_differs_by T.k_differs_by T.b_differs_by (m_cons (m_var (pv 0)) (m_cons (m_var (pv 3)) (m_cons (m_var (pv 4)) (m_cons (m_var (pv 5)) m_nil))))) (m_var (pv 1)) (nomark _)) (ms_one (ms_expr (m_met PySem.F.slot_list_append PySem.F.type_list_append mt_append rm_append (m_var (pv 2)) (m_cons (m_tup (m_cons (m_var (pv 3)) (m_cons (m_var (pv 4)) (m_cons (m_var (pv 5)) m_nil)))) m_nil)))) ms_nil)))))
    (ms_one (ms_ret (m_var (pv 2)))))))
theorem ok_goes_together (T : Txt P w K mg base A) : FnOk P w K mg base (L2.CX P w) 5 A.f_goes_together A.fd_goes_together ps_goes_together (spM (gb K A) c_goes_together 3) := by
  refine T.F_goes_together.okX sc_goes_together (fun vs H Q E h => h.1) (fun cdv A0 outer s H vs Q E hr h => ⟨_, ?_, def_run (N := names_goes_together) h⟩)
  have tk0 := takes_of (X := cxOf (L2.CX P w) P w K mg base names_goes_together "goes_together" (defScope s_goes_together) A.f_goes_together cdv A0 outer s H E) rfl rfl rfl rfl
  have po0 := passes_of (X := cxOf (L2.CX P w) P w K mg base names_goes_together "goes_together" (defScope s_goes_together) A.f_goes_together cdv A0 outer s H E) rfl
  exact (ms_cons (ms_if (m_not (m_val (m_callB call_isiM (rc_isi T.isi) (by rfl) T.n_isinstance (by decide +kernel) (m_cons (m_var (pv 0)) (m_cons (m_c (pe_glob (v := .ref A.C7) rfl T.g_Page rfl) (fun _ => .cls 7)) m_nil))))) (ms_one (ms_raise (c := 4) rfl tk0 T.ox_BadArgument T.i_BadArgument T.ti_BadArgument (ok_BadArgument_new T) (hr.mono (by decide)) T.b_BadArgument_new rfl T.g_BadArgument (m_var (pv 0)))) ms_nil)
    (ms_cons (ms_if (PW.pt (m_or (m_not (m_val (m_callB call_isiM (rc_isi T.isi) (by rfl) T.n_isinstance (by decide +kernel) (m_cons (m_var (pv 1)) (m_cons (m_tup (m_cons (m_c (pe_bltn (v := .ty "list") (by rfl) T.n_list (by decide +kernel) rfl) (fun _ => .ty .lst)) (m_cons (m_c (pe_bltn (v := .ty "tuple") (by rfl) T.n_tuple (by decide +kernel) rfl) (fun _ => .ty .tup)) m_nil))) m_nil))))) (pw_or1 (m_not (m_val (m_callB (cr_all rfl) rc_all (by rfl) T.n_all (by decide +kernel) (m_cons (m_lc (W0 := M.W0) (own := [("person", 3)]) rfl sc_goes_together.nd (mi_seq (m_var (pv 1))) (blkOk_by (own := [("person", 3)]) (N := names_goes_together) (sc := defScope s_goes_together) (by decide +kernel)) (fun _ _ _ _ _ => (pg_name (i := 3) sc_goes_together.nd rfl (by first | exact Or.inl rfl | exact Or.inr rfl))) (fun _ _ _ _ _ => mts_nil) (fun _ _ _ _ _ => (m_cmpS (op_inO T.m_Crowd__ucontains_u (ok_Crowd__ucontains_u T) (hr.mono (by decide)) T.b_Crowd__ucontains_u) r2_inO (m_var (pv 3)) (m_fld T.fl_crowd_7 rfl (m_var (pv 0))) (by rfl))) tg_nm (by decide)) m_nil))))))) (ms_one (ms_raise (c := 4) rfl tk0 T.ox_BadArgument T.i_BadArgument T.ti_BadArgument (ok_BadArgument_new T) (hr.mono (by decide)) T.b_BadArgument_new rfl T.g_BadArgument (m_var (pv 1)))) ms_nil)
    (ms_cons (ms_if (m_tcmp (op_neD (hu64 hr)) r2_ne (m_callB call_lenA rc_lenA (by rfl) T.n_len (by decide +kernel) (m_cons (m_dc (W0 := M.W0) (own := [("person", 3)]) rfl sc_goes_together.nd (mi_seq (m_var (pv 1))) (blkOk_by (own := [("person", 3)]) (N := names_goes_together) (sc := defScope s_goes_together) (by decide +kernel)) (fun _ _ _ _ _ => (pg_name (i := 3) sc_goes_together.nd rfl (by first | exact Or.inl rfl | exact Or.inr rfl))) (fun _ _ _ _ _ => mts_nil) (fun _ _ _ _ _ => (m_var (pv 3))) (fun _ _ _ _ _ => (m_c pe_int (fun _ => .int _))) tg_nm (by decide)) m_nil)) (m_callB call_lenA rc_lenA (by rfl) T.n_len (by decide +kernel) (m_cons (m_var (pv 1)) m_nil)) (nomark _)) (ms_one (ms_raise (c := 4) rfl tk0 T.ox_BadArgument T.i_BadArgument T.ti_BadArgument (ok_BadArgument_new T) (hr.mono (by decide)) T.b_BadArgument_new rfl T.g_BadArgument (m_var (pv 1)))) ms_nil)
    (ms_cons (ms_expr (m_call (n := 2) (c := c_check_spread) tk0 (ok_check_spread T) (hr.mono (by decide)) rfl T.g_check_spread T.k_check_spread T.b_check_spread (m_cons (m_var (pv 0)) (m_cons (m_var (pv 2)) m_nil))))
    (ms_one (ms_ret (m_notV (m_callB (cr_any rfl) rc_any (by rfl) T.n_any (by decide +kernel) (m_cons (m_lc (W0 := M.W0) (own := [("one", 4), ("other", 5), ("marked", 6)]) rfl sc_goes_together.nd (mi_list (m_call (n := 2) (c := c_clashes) tk0 (ok_clashes T) (hr.mono (by decide)) rfl T.g_clashes T.k_clashes T.b_clashes (m_cons (m_var (pv 0)) (m_cons (m_var (pv 2)) m_nil)))) (blkOk_by (own := [("one", 4), ("other", 5), ("marked", 6)]) (N := names_goes_together) (sc := defScope s_goes_together) (by decide +kernel)) (fun _ _ _ _ _ => (pg_tup (n := 3) rfl (pgs_cons (pg_name (i := 4) sc_goes_together.nd rfl (by first | exact Or.inl rfl | exact Or.inr rfl)) (pgs_cons (pg_name (i := 5) sc_goes_together.nd rfl (by first | exact Or.inl rfl | exact Or.inr rfl)) (pgs_cons (pg_name (i := 6) sc_goes_together.nd rfl (by first | exact Or.inl rfl | exact Or.inr rfl)) pgs_nil))))) (fun _ _ _ _ _ => mts_nil) (fun _ _ _ _ _ => (m_andV (m_cmp op_inF r2_inF (m_var (pv 4)) (m_var (pv 1)) (by rfl)) (m_one (m_cmp op_inF r2_inF (m_var (pv 5)) (m_var (pv 1)) (by rfl))))) (tg_tp (is := [4, 5, 6])) (by decide)) m_nil)))))))))
theorem ok_least_left_out (T : Txt P w K mg base A) : FnOk P w K mg base (L2.CX P w) 5 A.f_least_left_out A.fd_least_left_out ps_least_left_out (spM (gb K A) c_least_left_out 2) := by
  refine T.F_least_left_out.okX sc_least_left_out (fun vs H Q E h => h.1) (fun cdv A0 outer s H vs Q E hr h => ⟨_, ?_, def_run (N := names_least_left_out) h⟩)
  have tk0 := takes_of (X := cxOf (L2.CX P w) P w K mg base names_least_left_out "least_left_out" (defScope s_least_left_out) A.f_least_left_out cdv A0 outer s H E) rfl rfl rfl rfl
  have po0 := passes_of (X := cxOf (L2.CX P w) P w K mg base names_least_left_out "least_left_out" (defScope s_least_left_out) A.f_least_left_out cdv A0 outer s H E) rfl
  exact (ms_cons (ms_set (i := 2) sc_least_left_out.nd rfl (by first | exact Or.inl rfl | exact Or.inr rfl) (m_callTy (call_listA rfl) rc_listT (by rfl) T.n_list (by decide +kernel) (m_cons (m_dcT (W0 := M.W0) (own := [("one", 6), ("other", 7), ("marked", 8)]) (hu_of hr) rfl sc_least_left_out.nd (mi_list (m_call (n := 2) (c := c_clashes) tk0 (ok_clashes T) (hr.mono (by decide)) rfl T.g_clashes T.k_clashes T.b_clashes (m_cons (m_var (pv 0)) (m_cons (m_var (pv 1)) m_nil)))) (blkOk_by (own := [("one", 6), ("other", 7), ("marked", 8)]) (N := names_least_left_out) (sc := defScope s_least_left_out) (by decide +kernel)) (fun _ _ _ _ _ => (pg_tup (n := 3) rfl (pgs_cons (pg_name (i := 6) sc_least_left_out.nd rfl (by first | exact Or.inl rfl | exact Or.inr rfl)) (pgs_cons (pg_name (i := 7) sc_least_left_out.nd rfl (by first | exact Or.inl rfl | exact Or.inr rfl)) (pgs_cons (pg_name (i := 8) sc_least_left_out.nd rfl (by first | exact Or.inl rfl | exact Or.inr rfl)) pgs_nil))))) (fun _ _ _ _ _ => mts_nil) (fun _ _ _ _ _ => (m_tup (m_cons (m_var (pv 6)) (m_cons (m_var (pv 7)) m_nil)))) (fun _ _ _ _ _ => (m_c pe_int (fun _ => .int _))) (tg_tp (is := [6, 7, 8])) (by decide)) m_nil)))
    mss_never)
theorem ok_always_left_out (T : Txt P w K mg base A) : FnOk P w K mg base (L2.CX P w) 6 A.f_always_left_out A.fd_always_left_out ps_always_left_out (spM (gb K A) c_always_left_out 2) := by
  refine T.F_always_left_out.okX sc_always_left_out (fun vs H Q E h => h.1) (fun cdv A0 outer s H vs Q E hr h => ⟨_, ?_, def_run (N := names_always_left_out) h⟩)
  have tk0 := takes_of (X := cxOf (L2.CX P w) P w K mg base names_always_left_out "always_left_out" (defScope s_always_left_out) A.f_always_left_out cdv A0 outer s H E) rfl rfl rfl rfl
  have po0 := passes_of (X := cxOf (L2.CX P w) P w K mg base names_always_left_out "always_left_out" (defScope s_always_left_out) A.f_always_left_out cdv A0 outer s H E) rfl
  exact (ms_cons (ms_set (i := 2) sc_always_left_out.nd rfl (by first | exact Or.inl rfl | exact Or.inr rfl) (m_call (n := 2) (c := c_least_left_out) tk0 (ok_least_left_out T) (hr.mono (by decide)) rfl T.g_least_left_out T.k_least_left_out T.b_least_left_out (m_cons (m_var (pv 0)) (m_cons (m_var (pv 1)) m_nil))))
    mss_never)
theorem ok_least_spread (T : Txt P w K mg base A) : FnOk P w K mg base (L2.CX P w) 3 A.f_least_spread A.fd_least_spread ps_least_spread (spM (gb K A) c_least_spread 2) := by
  refine T.F_least_spread.okX sc_least_spread (fun vs H Q E h => h.1) (fun cdv A0 outer s H vs Q E hr h => ⟨_, ?_, def_run (N := names_least_spread) h⟩)
  have tk0 := takes_of (X := cxOf (L2.CX P w) P w K mg base names_least_spread "least_spread" (defScope s_least_spread) A.f_least_spread cdv A0 outer s H E) rfl rfl rfl rfl
  have po0 := passes_of (X := cxOf (L2.CX P w) P w K mg base names_least_spread "least_spread" (defScope s_least_spread) A.f_least_spread cdv A0 outer s H E) rfl
  exact (ms_cons (ms_if (m_not (m_val (m_callB call_isiM (rc_isi T.isi) (by rfl) T.n_isinstance (by decide +kernel) (m_cons (m_var (pv 0)) (m_cons (m_c (pe_glob (v := .ref A.C7) rfl T.g_Page rfl) (fun _ => .cls 7)) m_nil))))) (ms_one (ms_raise (c := 4) rfl tk0 T.ox_BadArgument T.i_BadArgument T.ti_BadArgument (ok_BadArgument_new T) (hr.mono (by decide)) T.b_BadArgument_new rfl T.g_BadArgument (m_var (pv 0)))) ms_nil)
    (ms_cons (ms_if (m_not (m_val (m_call (n := 3) (c := c_is_count) tk0 (ok_is_count T) (hr.mono (by decide)) rfl T.g_is_count T.k_is_count T.b_is_count (m_cons (m_var (pv 1)) (m_cons (m_c pe_int (fun _ => .int _)) (m_cons (m_c pe_int (fun _ => .int _)) m_nil)))))) (ms_one (ms_raise (c := 5) rfl tk0 T.ox_BadNumber T.i_BadNumber T.ti_BadNumber (ok_BadNumber_new T) (hr.mono (by decide)) T.b_BadNumber_new rfl T.g_BadNumber (m_var (pv 1)))) ms_nil)
    mss_never))
theorem ok_d_law_told (T : Txt P w K mg base A) : FnG P w K mg base (L2.CX P w) 7 A.f_d_law_told A.fd_d_law_told ps_d_law_told (spM (gb K A) c_d_law_told 4) := by
  refine okG T.F_d_law_told sc_d_law_told (fun vs H Q E h => h.1) (fun cdv A0 outer s H vs Q E hr h => ⟨_, ?_, def_run (N := names_d_law_told) h⟩)
  have tk0 := takes_of (X := cxOf (L2.CX P w) P w K mg base names_d_law_told "_law_told" (defScope s_d_law_told) A.f_d_law_told cdv A0 outer s H E) rfl rfl rfl rfl
  have po0 := passes_of (X := cxOf (L2.CX P w) P w K mg base names_d_law_told "_law_told" (defScope s_d_law_told) A.f_d_law_told cdv A0 outer s H E) rfl
  exact (ms_cons (ms_trys (ids := [4, 5]) rfl rfl sc_d_law_told.nd (fun W pn xe tk po => (ms_one (ms_if (m_tcmp (op_eqD (hu64 hr.room)) r2_eq (m_var (pv 0)) (m_c pe_int (fun _ => .int _)) (nomark _)) (ms_one (ms_expr (m_call (n := 3) (c := c_goes_together) tk (ok_goes_together T) (hr.room.mono (by decide)) rfl T.g_goes_together T.k_goes_together T.b_goes_together (m_cons (m_var (pv 1)) (m_cons (m_var (pv 2)) (m_cons (m_var (pv 3)) m_nil)))))) (ms_one (ms_if (m_tcmp (op_eqD (hu64 hr.room)) r2_eq (m_var (pv 0)) (m_c pe_int (fun _ => .int _)) (nomark _)) (ms_one (ms_expr (m_call (n := 2) (c := c_clashes) tk (ok_clashes T) (hr.room.mono (by decide)) rfl T.g_clashes T.k_clashes T.b_clashes (m_cons (m_var (pv 1)) (m_cons (m_var (pv 3)) m_nil))))) (ms_one (ms_if (m_tcmp (op_eqD (hu64 hr.room)) r2_eq (m_var (pv 0)) (m_c pe_int (fun _ => .int _)) (nomark _)) (ms_one (ms_expr (m_call (n := 2) (c := c_least_left_out) tk (ok_least_left_out T) (hr.room.mono (by decide)) rfl T.g_least_left_out T.k_least_left_out T.b_least_left_out (m_cons (m_var (pv 1)) (m_cons (m_var (pv 3)) m_nil))))) (ms_one (ms_if (m_tcmp (op_eqD (hu64 hr.room)) r2_eq (m_var (pv 0)) (m_c pe_int (fun _ => .int _)) (nomark _)) (ms_one (ms_expr (m_call (n := 2) (c := c_always_left_out) tk (ok_always_left_out T) (hr.room.mono (by decide)) rfl T.g_always_left_out T.k_always_left_out T.b_always_left_out (m_cons (m_var (pv 1)) (m_cons (m_var (pv 3)) m_nil))))) (ms_one (ms_expr (m_call (n := 2) (c := c_least_spread) tk (ok_least_spread T) (hr.room.mono (by decide)) rfl T.g_least_spread T.k_least_spread T.b_least_spread (m_cons (m_var (pv 1)) (m_cons (m_var (pv 3)) m_nil)))))))))))))) (.one (hit := (fun k => k == 4)) (i := 4) (mx := fun z => (mRet (mLst (mCons (mC (.str "argument")) (mCons (mCB gReprT (mCons (mXf z 4 "value") mNil)) mNil))))) T.ex_d_law_told_BadArgument rfl rfl ⟨rfl, by decide, Or.inl T.g_BadArgument⟩ (fun a oe cls d pn z hz hf => (ms_one (ms_ret (m_lst (m_cons (m_c pe_str (fun _ => .str _)) (m_cons (m_callB (call_reprAny hr.none_ hr.room.units) rc_reprT (by rfl) T.n_repr (by decide +kernel) (m_cons (m_xf (k := 4) T.xf_BadArgument T.no_BadArgument_value hz hf (pv 4)) m_nil)) m_nil)))))) (.one (hit := (fun k => k == 5)) (i := 4) (mx := fun z => (mRet (mLst (mCons (mC (.str "number")) (mCons (mCB gRepr (mCons (mXf z 5 "number") mNil)) mNil))))) T.ex_d_law_told_BadNumber rfl rfl ⟨rfl, by decide, Or.inl T.g_BadNumber⟩ (fun a oe cls d pn z hz hf => (ms_one (ms_ret (m_lst (m_cons (m_c pe_str (fun _ => .str _)) (m_cons (m_callB call_repr rc_repr (by rfl) T.n_repr (by decide +kernel) (m_cons (m_xf (k := 5) T.xf_BadNumber T.no_BadNumber_number hz hf (pv 4)) m_nil)) m_nil)))))) .last)))
    (ms_one (ms_ret (m_lst (m_cons (m_c pe_str (fun _ => .str _)) m_nil)))))
theorem ok_law (T : Txt P w K mg base A) : FnG P w K mg base (L2.CX P w) 8 A.f_law A.fd_law ps_law (spM (gb K A) c_law 1) := by
  refine okG T.F_law sc_law (fun vs H Q E h => h.1) (fun cdv A0 outer s H vs Q E hr h => ⟨_, ?_, def_run (N := names_law) h⟩)
  have tk0 := takes_of (X := cxOf (L2.CX P w) P w K mg base names_law "law" (defScope s_law) A.f_law cdv A0 outer s H E) rfl rfl rfl rfl
  have po0 := passes_of (X := cxOf (L2.CX P w) P w K mg base names_law "law" (defScope s_law) A.f_law cdv A0 outer s H E) rfl
  exact (ms_cons (ms_for po0 rfl (mi_rng1 rfl T.n_range (m_cons (m_callB (call_mx rfl) rc_max2 (by rfl) T.n_max (by decide +kernel) (m_cons (m_c pe_int (fun _ => .int _)) (m_cons (m_callB (call_mn rfl) rc_min2 (by rfl) T.n_min (by decide +kernel) (m_cons (m_callB call_lenA rc_lenA (by rfl) T.n_len (by decide +kernel) (m_cons (m_var (pv 0)) m_nil)) (m_cons (m_c pe_int (fun _ => .int _)) m_nil))) m_nil))) m_nil)) (pg_name (i := 1) sc_law.nd rfl (by first | exact Or.inl rfl | exact Or.inr rfl)) tg_nm (ms_cons (ms_set (i := 2) sc_law.nd rfl (by first | exact Or.inl rfl | exact Or.inr rfl) (m_call (n := 3) (c := c_d_law_opened) tk0 (ok_d_law_opened T) (hr.room.mono (by decide)) rfl T.g_d_law_opened T.k_d_law_opened T.b_d_law_opened (m_cons (m_var (pv 0)) (m_cons (m_var (pv 1)) (m_cons (m_c pe_int (fun _ => .int _)) m_nil)))))
    (ms_cons (ms_par (i := 3) (j := 4) (by rfl) sc_law.nd rfl rfl (by decide) rfl rfl (m_cons (m_call (n := 2) (c := c_d_law_words) tk0 (ok_d_law_words T) (hr.room.mono (by decide)) rfl T.g_d_law_words T.k_d_law_words T.b_d_law_words (m_cons (m_var (pv 2)) (m_cons (m_op op_addAny r2_add (m_c pe_int (fun _ => .int _)) (m_call (n := 2) (c := c_d_law_draw) tk0 (ok_d_law_draw T) (hr.room.mono (by decide)) rfl T.g_d_law_draw T.k_d_law_draw T.b_d_law_draw (m_cons (m_var (pv 2)) (m_cons (m_c pe_int (fun _ => .int _)) m_nil)))) m_nil))) (m_cons (m_op op_addAny r2_add (m_c pe_int (fun _ => .int _)) (m_call (n := 2) (c := c_d_law_draw) tk0 (ok_d_law_draw T) (hr.room.mono (by decide)) rfl T.g_d_law_draw T.k_d_law_draw T.b_d_law_draw (m_cons (m_var (pv 2)) (m_cons (m_c pe_int (fun _ => .int _)) m_nil)))) m_nil)) (by rfl))
    (ms_cons (ms_set (i := 5) sc_law.nd rfl (by first | exact Or.inl rfl | exact Or.inr rfl) (m_disp (mp_cons (m_c pe_str (fun _ => .str _)) (m_var (pv 3)) (mp_cons (m_c pe_str (fun _ => .str _)) (m_var (pv 4)) mp_nil)) (by rfl) (by rfl) (fun z => nomatch z) (by decide)))
    (ms_cons (ms_for po0 rfl (mi_list (m_lst (m_cons (m_c pe_int (fun _ => .int _)) (m_cons (m_c pe_int (fun _ => .int _)) m_nil)))) (pg_name (i := 6) sc_law.nd rfl (by first | exact Or.inl rfl | exact Or.inr rfl)) tg_nm (ms_cons (ms_set (i := 7) sc_law.nd rfl (by first | exact Or.inl rfl | exact Or.inr rfl) (m_call (n := 3) (c := c_d_law_marks) tk0 (ok_d_law_marks T) (hr.room.mono (by decide)) rfl T.g_d_law_marks T.k_d_law_marks T.b_d_law_marks (m_cons (m_var (pv 2)) (m_cons (m_var (pv 5)) (m_cons (m_var (pv 6)) m_nil)))))
    (ms_cons (ms_set (i := 8) sc_law.nd rfl (by first | exact Or.inl rfl | exact Or.inr rfl) (m_make (cid := 7) (n := 3) (c := c_Page_new) tk0 T.mk_Page (ok_Page_new T) (hr.room.mono (by decide)) rfl T.g_Page T.b_Page_new (m_cons (m_make (cid := 6) (n := 3) (c := c_Crowd_new) tk0 T.mk_Crowd (ok_Crowd_new T) (hr.room.mono (by decide)) rfl T.g_Crowd T.b_Crowd_new (m_cons (m_var (pv 3)) (m_cons (m_var (pv 4)) m_nil))) (m_cons (m_var (pv 7)) m_nil))))
    (ms_one (ms_for po0 rfl (mi_rng1 rfl T.n_range (m_cons (m_op op_addAny r2_add (m_var (pv 4)) (m_c pe_int (fun _ => .int _))) m_nil)) (pg_name (i := 9) sc_law.nd rfl (by first | exact Or.inl rfl | exact Or.inr rfl)) tg_nm (ms_cons (ms_set (i := 10) sc_law.nd rfl (by first | exact Or.inl rfl | exact Or.inr rfl) (m_call (n := 3) (c := c_d_law_clashes) tk0 (ok_d_law_clashes T) (hr.room.mono (by decide)) rfl T.g_d_law_clashes T.k_d_law_clashes T.b_d_law_clashes (m_cons (m_var (pv 3)) (m_cons (m_var (pv 7)) (m_cons (m_var (pv 9)) m_nil)))))
    (ms_cons (ms_if (m_tcmp (op_neD (hu64 hr.room)) r2_ne (m_call (n := 2) (c := c_clashes) tk0 (ok_clashes T) (hr.room.mono (by decide)) rfl T.g_clashes T.k_clashes T.b_clashes (m_cons (m_var (pv 8)) (m_cons (m_var (pv 9)) m_nil))) (m_var (pv 10)) (nomark _)) mss_never ms_nil)
    (ms_cons (ms_set (i := 11) sc_law.nd rfl (by first | exact Or.inl rfl | exact Or.inr rfl) (m_lc (W0 := M.W0) (own := [("_law_word", 15)]) rfl sc_law.nd (mi_list (m_var (pv 3))) (blkOk_by (own := [("_law_word", 15)]) (N := names_law) (sc := defScope s_law) (by decide +kernel)) (fun _ _ _ _ _ => (pg_name (i := 15) sc_law.nd rfl (by first | exact Or.inl rfl | exact Or.inr rfl))) (fun _ _ _ _ _ => (mts_one (m_tcmp op_gt (r2_I0 (da_bl _)) (m_call (n := 2) (c := c_d_law_draw) takes0 (ok_d_law_draw T) (hr.room.mono (by decide)) rfl T.g_d_law_draw T.k_d_law_draw T.b_d_law_draw (m_cons (m_var (pv 2)) (m_cons (m_c pe_int (fun _ => .int _)) m_nil))) (m_c pe_int (fun _ => .int _)) (nomark _)))) (fun _ _ _ _ _ => (m_var (pv 15))) tg_nm (by decide)))
    (ms_cons (ms_set (i := 12) sc_law.nd rfl (by first | exact Or.inl rfl | exact Or.inr rfl) (m_cmp (op_eqD (hu64 hr.room)) r2_eq (m_lc (W0 := M.W0) (own := [("_law_row", 17)]) rfl sc_law.nd (mi_list (m_var (pv 10))) (blkOk_by (own := [("_law_row", 17)]) (N := names_law) (sc := defScope s_law) (by decide +kernel)) (fun _ _ _ _ _ => (pg_name (i := 17) sc_law.nd rfl (by first | exact Or.inl rfl | exact Or.inr rfl))) (fun _ _ _ _ _ => (mts_one (PW.pt (m_and (m_tcmp op_inF r2_inF (m_ix ix_any r2_ix (m_var (pv 17)) (m_c pe_int (fun _ => .int _)) (fun _ _ => rfl)) (m_var (pv 11)) (by rfl)) (pw_and1 (m_tcmp op_inF r2_inF (m_ix ix_any r2_ix (m_var (pv 17)) (m_c pe_int (fun _ => .int _)) (fun _ _ => rfl)) (m_var (pv 11)) (by rfl))))))) (fun _ _ _ _ _ => (m_var (pv 17))) tg_nm (by decide)) (m_lst m_nil) (nomark _)))
    (ms_cons (ms_set (i := 13) sc_law.nd rfl (by first | exact Or.inl rfl | exact Or.inr rfl) (m_lst (m_cons (m_call (n := 3) (c := c_goes_together) tk0 (ok_goes_together T) (hr.room.mono (by decide)) rfl T.g_goes_together T.k_goes_together T.b_goes_together (m_cons (m_var (pv 8)) (m_cons (m_var (pv 11)) (m_cons (m_var (pv 9)) m_nil)))) (m_cons (m_call (n := 3) (c := c_goes_together) tk0 (ok_goes_together T) (hr.room.mono (by decide)) rfl T.g_goes_together T.k_goes_together T.b_goes_together (m_cons (m_var (pv 8)) (m_cons (m_callTy call_tuple rc_tuple (by rfl) T.n_tuple (by decide +kernel) (m_cons (m_rev (m_var (pv 11))) m_nil)) (m_cons (m_var (pv 9)) m_nil)))) m_nil))))
    (ms_one (ms_if (m_tcmp (op_neD (hu64 hr.room)) r2_ne (m_var (pv 13)) (m_lst (m_cons (m_var (pv 12)) (m_cons (m_var (pv 12)) m_nil))) (nomark _)) mss_never ms_nil))))))))))))
    (ms_cons (ms_for po0 rfl (mi_list (m_lst (m_cons (m_c pe_non (fun _ => .non)) (m_cons (m_var (pv 7)) (m_cons (m_c pe_str (fun _ => .str _)) m_nil))))) (pg_name (i := 14) sc_law.nd rfl (by first | exact Or.inl rfl | exact Or.inr rfl)) tg_nm (ms_one (ms_if (m_tcmp (op_neD (hu64 hr.room)) r2_ne (m_lc (W0 := M.W0) (own := [("_law_way", 16)]) rfl sc_law.nd (mi_rng1 rfl T.n_range (m_cons (m_c pe_int (fun _ => .int _)) m_nil)) (blkOk_by (own := [("_law_way", 16)]) (N := names_law) (sc := defScope s_law) (by decide +kernel)) (fun _ _ _ _ _ => (pg_name (i := 16) sc_law.nd rfl (by first | exact Or.inl rfl | exact Or.inr rfl))) (fun _ _ _ _ _ => mts_nil) (fun _ _ _ _ _ => (m_callG (n := 4) (c := c_d_law_told) takes0 (ok_d_law_told T) (hr.mono (by decide)) rfl T.g_d_law_told T.k_d_law_told T.b_d_law_told (m_cons (m_var (pv 16)) (m_cons (m_var (pv 14)) (m_cons (m_c pe_non (fun _ => .non)) (m_cons (m_c pe_non (fun _ => .non)) m_nil)))))) tg_nm (by decide)) (m_op op_rep r2_mulL (m_lst (m_cons (m_lst (m_cons (m_c pe_str (fun _ => .str _)) (m_cons (m_callB (call_reprAny hr.none_ hr.room.units) rc_reprT (by rfl) T.n_repr (by decide +kernel) (m_cons (m_var (pv 14)) m_nil)) m_nil))) m_nil)) (m_c pe_int (fun _ => .int _))) (nomark _)) mss_never ms_nil)))
    (ms_cons (ms_for po0 rfl (mi_list (m_lst (m_cons (m_c pe_non (fun _ => .non)) (m_cons (m_c pe_str (fun _ => .str _)) (m_cons (m_lst (m_cons (m_c pe_str (fun _ => .str _)) m_nil)) (m_cons (m_lst (m_cons (m_ix ix_any r2_ix (m_var (pv 3)) (m_c pe_int (fun _ => .int _)) (fun _ _ => rfl)) (m_cons (m_ix ix_any r2_ix (m_var (pv 3)) (m_c pe_int (fun _ => .int _)) (fun _ _ => rfl)) m_nil))) (m_cons m_dnil (m_cons (m_lst (m_cons (m_c pe_non (fun _ => .non)) m_nil)) m_nil)))))))) (pg_name (i := 14) sc_law.nd rfl (by first | exact Or.inl rfl | exact Or.inr rfl)) tg_nm (ms_one (ms_if (m_tcmp (op_neD (hu64 hr.room)) r2_ne (m_callG (n := 4) (c := c_d_law_told) tk0 (ok_d_law_told T) (hr.mono (by decide)) rfl T.g_d_law_told T.k_d_law_told T.b_d_law_told (m_cons (m_c pe_int (fun _ => .int _)) (m_cons (m_var (pv 8)) (m_cons (m_var (pv 14)) (m_cons (m_c pe_non (fun _ => .non)) m_nil))))) (m_lst (m_cons (m_c pe_str (fun _ => .str _)) (m_cons (m_callB (call_reprAll hr.none_ hr.room.units) rc_reprK (by rfl) T.n_repr (by decide +kernel) (m_cons (m_var (pv 14)) m_nil)) m_nil))) (nomark _)) mss_never ms_nil)))
    (ms_cons (ms_for po0 rfl (mi_list (m_lst (m_cons (m_c pe_non (fun _ => .non)) (m_cons (m_op op_sub (r2_I0 (da_int _)) (m_c pe_int (fun _ => .int _)) (m_c pe_int (fun _ => .int _))) (m_cons (m_op op_addAny r2_add (m_var (pv 4)) (m_c pe_int (fun _ => .int _))) (m_cons (m_c pe_bl (fun _ => .bl _)) (m_cons (m_c pe_str (fun _ => .str _)) m_nil))))))) (pg_name (i := 14) sc_law.nd rfl (by first | exact Or.inl rfl | exact Or.inr rfl)) tg_nm (ms_one (ms_if (m_tcmp (op_neD (hu64 hr.room)) r2_ne (m_lc (W0 := M.W0) (own := [("_law_way", 16)]) rfl sc_law.nd (mi_rng1 rfl T.n_range (m_cons (m_c pe_int (fun _ => .int _)) m_nil)) (blkOk_by (own := [("_law_way", 16)]) (N := names_law) (sc := defScope s_law) (by decide +kernel)) (fun _ _ _ _ _ => (pg_name (i := 16) sc_law.nd rfl (by first | exact Or.inl rfl | exact Or.inr rfl))) (fun _ _ _ _ _ => mts_nil) (fun _ _ _ _ _ => (m_callG (n := 4) (c := c_d_law_told) takes0 (ok_d_law_told T) (hr.mono (by decide)) rfl T.g_d_law_told T.k_d_law_told T.b_d_law_told (m_cons (m_var (pv 16)) (m_cons (m_var (pv 8)) (m_cons (m_lst m_nil) (m_cons (m_var (pv 14)) m_nil)))))) tg_nm (by decide)) (m_op op_rep r2_mulL (m_lst (m_cons (m_lst (m_cons (m_c pe_str (fun _ => .str _)) (m_cons (m_callB call_repr rc_repr (by rfl) T.n_repr (by decide +kernel) (m_cons (m_var (pv 14)) m_nil)) m_nil))) m_nil)) (m_c pe_int (fun _ => .int _))) (nomark _)) mss_never ms_nil)))
    (ms_one (ms_for po0 rfl (mi_list (m_lst (m_cons (m_c pe_non (fun _ => .non)) (m_cons (m_op op_sub (r2_I0 (da_int _)) (m_c pe_int (fun _ => .int _)) (m_c pe_int (fun _ => .int _))) (m_cons (m_c pe_int (fun _ => .int _)) (m_cons (m_c pe_bl (fun _ => .bl _)) (m_cons (m_c pe_str (fun _ => .str _)) m_nil))))))) (pg_name (i := 14) sc_law.nd rfl (by first | exact Or.inl rfl | exact Or.inr rfl)) tg_nm (ms_one (ms_if (m_tcmp (op_neD (hu64 hr.room)) r2_ne (m_callG (n := 4) (c := c_d_law_told) tk0 (ok_d_law_told T) (hr.mono (by decide)) rfl T.g_d_law_told T.k_d_law_told T.b_d_law_told (m_cons (m_c pe_int (fun _ => .int _)) (m_cons (m_var (pv 8)) (m_cons (m_lst m_nil) (m_cons (m_var (pv 14)) m_nil))))) (m_lst (m_cons (m_c pe_str (fun _ => .str _)) (m_cons (m_callB call_repr rc_repr (by rfl) T.n_repr (by decide +kernel) (m_cons (m_var (pv 14)) m_nil)) m_nil))) (nomark _)) mss_never ms_nil))))))))))))
    (ms_one (ms_ret (m_c pe_bl (fun _ => .bl _)))))
end
theorem all_mk {P : Program} {w : World} {K : PySem.W.Frag} {h : Heap} {mg : Str → Option Value} {fa : Addr} (X : K.In h) (G : h.Ns mainGlobals mg) (hfa : mg "law" = some (.ref fa))
    {t_LETTERS t_MOST_SIGNS t_MOST_PEOPLE t_MOST_MARK : Tok}
    {C0 C4 C5 C6 C7 f_d_law_numbers f_d_law_opened f_d_law_draw f_d_law_words f_d_law_pairs f_d_law_marks f_check_crowd f_Crowd_pairs f_is_word f_Crowd__ucontains_u f_Crowd_is_pair f_is_count f_is_mark f_Page_new f_are_people f_Crowd_new f_d_law_clashes f_BadArgument_new f_BadNumber_new f_check_spread f_couples f_Crowd_people p_Crowd_people f_differs_by f_clashes f_goes_together f_least_left_out f_always_left_out f_least_spread f_d_law_told f_law N5 N4 : Addr}
    {oc_d_law_numbers kV_d_law_numbers dc_d_law_numbers pm_d_law_numbers cd_d_law_numbers ct_d_law_numbers oc_d_law_opened kV_d_law_opened dc_d_law_opened pm_d_law_opened cd_d_law_opened ct_d_law_opened oc_d_law_draw kV_d_law_draw dc_d_law_draw pm_d_law_draw cd_d_law_draw ct_d_law_draw oc_d_law_words kV_d_law_words dc_d_law_words pm_d_law_words cd_d_law_words ct_d_law_words oc_d_law_pairs kV_d_law_pairs dc_d_law_pairs pm_d_law_pairs cd_d_law_pairs ct_d_law_pairs oc_d_law_marks kV_d_law_marks dc_d_law_marks pm_d_law_marks cd_d_law_marks ct_d_law_marks oc_check_crowd kV_check_crowd dc_check_crowd pm_check_crowd cd_check_crowd ct_check_crowd oc_Crowd_pairs kV_Crowd_pairs dc_Crowd_pairs pm_Crowd_pairs cd_Crowd_pairs ct_Crowd_pairs oc_is_word kV_is_word dc_is_word pm_is_word cd_is_word ct_is_word oc_Crowd__ucontains_u kV_Crowd__ucontains_u dc_Crowd__ucontains_u pm_Crowd__ucontains_u cd_Crowd__ucontains_u ct_Crowd__ucontains_u oc_Crowd_is_pair kV_Crowd_is_pair dc_Crowd_is_pair pm_Crowd_is_pair cd_Crowd_is_pair ct_Crowd_is_pair oc_is_count kV_is_count dc_is_count pm_is_count cd_is_count ct_is_count oc_is_mark kV_is_mark dc_is_mark pm_is_mark cd_is_mark ct_is_mark oc_Page_new kV_Page_new dc_Page_new pm_Page_new cd_Page_new ct_Page_new oc_are_people kV_are_people dc_are_people pm_are_people cd_are_people ct_are_people oc_Crowd_new kV_Crowd_new dc_Crowd_new pm_Crowd_new cd_Crowd_new ct_Crowd_new oc_d_law_clashes kV_d_law_clashes dc_d_law_clashes pm_d_law_clashes cd_d_law_clashes ct_d_law_clashes oc_BadArgument_new kV_BadArgument_new dc_BadArgument_new pm_BadArgument_new cd_BadArgument_new ct_BadArgument_new oc_BadNumber_new kV_BadNumber_new dc_BadNumber_new pm_BadNumber_new cd_BadNumber_new ct_BadNumber_new oc_check_spread kV_check_spread dc_check_spread pm_check_spread cd_check_spread ct_check_spread oc_couples kV_couples dc_couples pm_couples cd_couples ct_couples oc_Crowd_people kV_Crowd_people dc_Crowd_people pm_Crowd_people cd_Crowd_people ct_Crowd_people oc_differs_by kV_differs_by dc_differs_by pm_differs_by cd_differs_by ct_differs_by oc_clashes kV_clashes dc_clashes pm_clashes cd_clashes ct_clashes oc_goes_together kV_goes_together dc_goes_together pm_goes_together cd_goes_together ct_goes_together oc_least_left_out kV_least_left_out dc_least_left_out pm_least_left_out cd_least_left_out ct_least_left_out oc_always_left_out kV_always_left_out dc_always_left_out pm_always_left_out cd_always_left_out ct_always_left_out oc_least_spread kV_least_spread dc_least_spread pm_least_spread cd_least_spread ct_least_spread oc_d_law_told kV_d_law_told dc_d_law_told pm_d_law_told cd_d_law_told ct_d_law_told oc_law kV_law dc_law pm_law cd_law ct_law : Value}
    {od_d_law_numbers an_d_law_numbers od_d_law_opened an_d_law_opened od_d_law_draw an_d_law_draw od_d_law_words an_d_law_words od_d_law_pairs an_d_law_pairs od_d_law_marks an_d_law_marks od_check_crowd an_check_crowd od_Crowd_pairs an_Crowd_pairs od_is_word an_is_word od_Crowd__ucontains_u an_Crowd__ucontains_u od_Crowd_is_pair an_Crowd_is_pair od_is_count an_is_count od_is_mark an_is_mark od_Page_new an_Page_new od_are_people an_are_people od_Crowd_new an_Crowd_new od_d_law_clashes an_d_law_clashes od_BadArgument_new an_BadArgument_new od_BadNumber_new an_BadNumber_new od_check_spread an_check_spread od_couples an_couples od_Crowd_people an_Crowd_people od_differs_by an_differs_by od_clashes an_clashes od_goes_together an_goes_together od_least_left_out an_least_left_out od_always_left_out an_always_left_out od_least_spread an_least_spread od_d_law_told an_d_law_told od_law an_law dd5 dd4 : Option Addr}
    {sl_d_law_numbers sl_d_law_opened sl_d_law_draw sl_d_law_words sl_d_law_pairs sl_d_law_marks sl_check_crowd sl_Crowd_pairs sl_is_word sl_Crowd__ucontains_u sl_Crowd_is_pair sl_is_count sl_is_mark sl_Page_new sl_are_people sl_Crowd_new sl_d_law_clashes sl_BadArgument_new sl_BadNumber_new sl_check_spread sl_couples sl_Crowd_people sl_differs_by sl_clashes sl_goes_together sl_least_left_out sl_always_left_out sl_least_spread sl_d_law_told sl_law : Array (Option Value)}
    {re_Crowd_people bs5 su5 bs4 su4 : List Value}
    {nm5 qn5 nm4 qn4 : Str}
    {sn5 sn4 : List Str}
    {ab5 ab4 : Bool}
    {co5 co4 : Option Bool}
    {m0_5 m1_5 m2_5 m3_5 m5_5 m0_4 m1_4 m2_4 m3_4 m5_4 : Option Value}
    (z_range : PySem.W.nsIn K mainGlobals "range" = some none)
    (z_int : PySem.W.nsIn K mainGlobals "int" = some none)
    (z_max : PySem.W.nsIn K mainGlobals "max" = some none)
    (z_len : PySem.W.nsIn K mainGlobals "len" = some none)
    (z_isinstance : PySem.W.nsIn K mainGlobals "isinstance" = some none)
    (z_all : PySem.W.nsIn K mainGlobals "all" = some none)
    (z_str : PySem.W.nsIn K mainGlobals "str" = some none)
    (z_tuple : PySem.W.nsIn K mainGlobals "tuple" = some none)
    (z_bool : PySem.W.nsIn K mainGlobals "bool" = some none)
    (z_dict : PySem.W.nsIn K mainGlobals "dict" = some none)
    (z_list : PySem.W.nsIn K mainGlobals "list" = some none)
    (z_enumerate : PySem.W.nsIn K mainGlobals "enumerate" = some none)
    (z_any : PySem.W.nsIn K mainGlobals "any" = some none)
    (z_repr : PySem.W.nsIn K mainGlobals "repr" = some none)
    (z_min : PySem.W.nsIn K mainGlobals "min" = some none)
    (q_LETTERS : PySem.W.nsIn K mainGlobals "LETTERS" = some (some (.str "abcdefghijklmnopqrstuvwxyz" t_LETTERS)))
    (q_MOST_SIGNS : PySem.W.nsIn K mainGlobals "MOST_SIGNS" = some (some (.int 8 t_MOST_SIGNS)))
    (q_MOST_PEOPLE : PySem.W.nsIn K mainGlobals "MOST_PEOPLE" = some (some (.int 8 t_MOST_PEOPLE)))
    (q_MOST_MARK : PySem.W.nsIn K mainGlobals "MOST_MARK" = some (some (.int 10 t_MOST_MARK)))
    (a_MarksError : PySem.W.nsIn K mainGlobals "MarksError" = some (some (.ref C0)))
    (a_BadArgument : PySem.W.nsIn K mainGlobals "BadArgument" = some (some (.ref C4)))
    (a_BadNumber : PySem.W.nsIn K mainGlobals "BadNumber" = some (some (.ref C5)))
    (a_Crowd : PySem.W.nsIn K mainGlobals "Crowd" = some (some (.ref C6)))
    (a_Page : PySem.W.nsIn K mainGlobals "Page" = some (some (.ref C7)))
    (a_d_law_numbers : PySem.W.nsIn K mainGlobals "_law_numbers" = some (some (.ref f_d_law_numbers)))
    (l_d_law_numbers : K.lookup f_d_law_numbers = some ⟨oc_d_law_numbers, od_d_law_numbers, .func (PySem.W.fnOf "_law_numbers" "_law_numbers" (defArgs s_d_law_numbers) (defBody s_d_law_numbers) (defScope s_d_law_numbers) .none kV_d_law_numbers dc_d_law_numbers pm_d_law_numbers an_d_law_numbers cd_d_law_numbers ct_d_law_numbers), sl_d_law_numbers⟩)
    (c_d_law_numbers : PySem.W.codeIn K cd_d_law_numbers "_law_numbers" = true)
    (k_d_law_numbers : PySem.W.keepIn K (.ref f_d_law_numbers) = true)
    (a_d_law_opened : PySem.W.nsIn K mainGlobals "_law_opened" = some (some (.ref f_d_law_opened)))
    (l_d_law_opened : K.lookup f_d_law_opened = some ⟨oc_d_law_opened, od_d_law_opened, .func (PySem.W.fnOf "_law_opened" "_law_opened" (defArgs s_d_law_opened) (defBody s_d_law_opened) (defScope s_d_law_opened) .none kV_d_law_opened dc_d_law_opened pm_d_law_opened an_d_law_opened cd_d_law_opened ct_d_law_opened), sl_d_law_opened⟩)
    (c_d_law_opened : PySem.W.codeIn K cd_d_law_opened "_law_opened" = true)
    (k_d_law_opened : PySem.W.keepIn K (.ref f_d_law_opened) = true)
    (a_d_law_draw : PySem.W.nsIn K mainGlobals "_law_draw" = some (some (.ref f_d_law_draw)))
    (l_d_law_draw : K.lookup f_d_law_draw = some ⟨oc_d_law_draw, od_d_law_draw, .func (PySem.W.fnOf "_law_draw" "_law_draw" (defArgs s_d_law_draw) (defBody s_d_law_draw) (defScope s_d_law_draw) .none kV_d_law_draw dc_d_law_draw pm_d_law_draw an_d_law_draw cd_d_law_draw ct_d_law_draw), sl_d_law_draw⟩)
    (c_d_law_draw : PySem.W.codeIn K cd_d_law_draw "_law_draw" = true)
    (k_d_law_draw : PySem.W.keepIn K (.ref f_d_law_draw) = true)
    (a_d_law_words : PySem.W.nsIn K mainGlobals "_law_words" = some (some (.ref f_d_law_words)))
    (l_d_law_words : K.lookup f_d_law_words = some ⟨oc_d_law_words, od_d_law_words, .func (PySem.W.fnOf "_law_words" "_law_words" (defArgs s_d_law_words) (defBody s_d_law_words) (defScope s_d_law_words) .none kV_d_law_words dc_d_law_words pm_d_law_words an_d_law_words cd_d_law_words ct_d_law_words), sl_d_law_words⟩)
    (c_d_law_words : PySem.W.codeIn K cd_d_law_words "_law_words" = true)
    (k_d_law_words : PySem.W.keepIn K (.ref f_d_law_words) = true)
    (a_d_law_pairs : PySem.W.nsIn K mainGlobals "_law_pairs" = some (some (.ref f_d_law_pairs)))
    (l_d_law_pairs : K.lookup f_d_law_pairs = some ⟨oc_d_law_pairs, od_d_law_pairs, .func (PySem.W.fnOf "_law_pairs" "_law_pairs" (defArgs s_d_law_pairs) (defBody s_d_law_pairs) (defScope s_d_law_pairs) .none kV_d_law_pairs dc_d_law_pairs pm_d_law_pairs an_d_law_pairs cd_d_law_pairs ct_d_law_pairs), sl_d_law_pairs⟩)
    (c_d_law_pairs : PySem.W.codeIn K cd_d_law_pairs "_law_pairs" = true)
    (k_d_law_pairs : PySem.W.keepIn K (.ref f_d_law_pairs) = true)
    (a_d_law_marks : PySem.W.nsIn K mainGlobals "_law_marks" = some (some (.ref f_d_law_marks)))
    (l_d_law_marks : K.lookup f_d_law_marks = some ⟨oc_d_law_marks, od_d_law_marks, .func (PySem.W.fnOf "_law_marks" "_law_marks" (defArgs s_d_law_marks) (defBody s_d_law_marks) (defScope s_d_law_marks) .none kV_d_law_marks dc_d_law_marks pm_d_law_marks an_d_law_marks cd_d_law_marks ct_d_law_marks), sl_d_law_marks⟩)
    (c_d_law_marks : PySem.W.codeIn K cd_d_law_marks "_law_marks" = true)
    (k_d_law_marks : PySem.W.keepIn K (.ref f_d_law_marks) = true)
    (a_check_crowd : PySem.W.nsIn K mainGlobals "check_crowd" = some (some (.ref f_check_crowd)))
    (l_check_crowd : K.lookup f_check_crowd = some ⟨oc_check_crowd, od_check_crowd, .func (PySem.W.fnOf "check_crowd" "check_crowd" (defArgs s_check_crowd) (defBody s_check_crowd) (defScope s_check_crowd) .none kV_check_crowd dc_check_crowd pm_check_crowd an_check_crowd cd_check_crowd ct_check_crowd), sl_check_crowd⟩)
    (c_check_crowd : PySem.W.codeIn K cd_check_crowd "check_crowd" = true)
    (k_check_crowd : PySem.W.keepIn K (.ref f_check_crowd) = true)
    (a_Crowd_pairs : PySem.W.findIn K (.ref C6) "pairs" = some (some (.ref f_Crowd_pairs)))
    (l_Crowd_pairs : K.lookup f_Crowd_pairs = some ⟨oc_Crowd_pairs, od_Crowd_pairs, .func (PySem.W.fnOf "pairs" "Crowd.pairs" (defArgs s_Crowd_pairs) (defBody s_Crowd_pairs) (defScope s_Crowd_pairs) .none kV_Crowd_pairs dc_Crowd_pairs pm_Crowd_pairs an_Crowd_pairs cd_Crowd_pairs ct_Crowd_pairs), sl_Crowd_pairs⟩)
    (c_Crowd_pairs : PySem.W.codeIn K cd_Crowd_pairs "Crowd.pairs" = true)
    (k_Crowd_pairs : PySem.W.keepIn K (.ref f_Crowd_pairs) = true)
    (a_is_word : PySem.W.nsIn K mainGlobals "is_word" = some (some (.ref f_is_word)))
    (l_is_word : K.lookup f_is_word = some ⟨oc_is_word, od_is_word, .func (PySem.W.fnOf "is_word" "is_word" (defArgs s_is_word) (defBody s_is_word) (defScope s_is_word) .none kV_is_word dc_is_word pm_is_word an_is_word cd_is_word ct_is_word), sl_is_word⟩)
    (c_is_word : PySem.W.codeIn K cd_is_word "is_word" = true)
    (k_is_word : PySem.W.keepIn K (.ref f_is_word) = true)
    (a_Crowd__ucontains_u : PySem.W.findIn K (.ref C6) "__contains__" = some (some (.ref f_Crowd__ucontains_u)))
    (l_Crowd__ucontains_u : K.lookup f_Crowd__ucontains_u = some ⟨oc_Crowd__ucontains_u, od_Crowd__ucontains_u, .func (PySem.W.fnOf "__contains__" "Crowd.__contains__" (defArgs s_Crowd__ucontains_u) (defBody s_Crowd__ucontains_u) (defScope s_Crowd__ucontains_u) .none kV_Crowd__ucontains_u dc_Crowd__ucontains_u pm_Crowd__ucontains_u an_Crowd__ucontains_u cd_Crowd__ucontains_u ct_Crowd__ucontains_u), sl_Crowd__ucontains_u⟩)
    (c_Crowd__ucontains_u : PySem.W.codeIn K cd_Crowd__ucontains_u "Crowd.__contains__" = true)
    (k_Crowd__ucontains_u : PySem.W.keepIn K (.ref f_Crowd__ucontains_u) = true)
    (a_Crowd_is_pair : PySem.W.findIn K (.ref C6) "is_pair" = some (some (.ref f_Crowd_is_pair)))
    (l_Crowd_is_pair : K.lookup f_Crowd_is_pair = some ⟨oc_Crowd_is_pair, od_Crowd_is_pair, .func (PySem.W.fnOf "is_pair" "Crowd.is_pair" (defArgs s_Crowd_is_pair) (defBody s_Crowd_is_pair) (defScope s_Crowd_is_pair) .none kV_Crowd_is_pair dc_Crowd_is_pair pm_Crowd_is_pair an_Crowd_is_pair cd_Crowd_is_pair ct_Crowd_is_pair), sl_Crowd_is_pair⟩)
    (c_Crowd_is_pair : PySem.W.codeIn K cd_Crowd_is_pair "Crowd.is_pair" = true)
    (k_Crowd_is_pair : PySem.W.keepIn K (.ref f_Crowd_is_pair) = true)
    (a_is_count : PySem.W.nsIn K mainGlobals "is_count" = some (some (.ref f_is_count)))
    (l_is_count : K.lookup f_is_count = some ⟨oc_is_count, od_is_count, .func (PySem.W.fnOf "is_count" "is_count" (defArgs s_is_count) (defBody s_is_count) (defScope s_is_count) .none kV_is_count dc_is_count pm_is_count an_is_count cd_is_count ct_is_count), sl_is_count⟩)
    (c_is_count : PySem.W.codeIn K cd_is_count "is_count" = true)
    (k_is_count : PySem.W.keepIn K (.ref f_is_count) = true)
    (a_is_mark : PySem.W.nsIn K mainGlobals "is_mark" = some (some (.ref f_is_mark)))
    (l_is_mark : K.lookup f_is_mark = some ⟨oc_is_mark, od_is_mark, .func (PySem.W.fnOf "is_mark" "is_mark" (defArgs s_is_mark) (defBody s_is_mark) (defScope s_is_mark) .none kV_is_mark dc_is_mark pm_is_mark an_is_mark cd_is_mark ct_is_mark), sl_is_mark⟩)
    (c_is_mark : PySem.W.codeIn K cd_is_mark "is_mark" = true)
    (k_is_mark : PySem.W.keepIn K (.ref f_is_mark) = true)
    (a_Page_new : PySem.W.findIn K (.ref C7) "__init__" = some (some (.ref f_Page_new)))
    (l_Page_new : K.lookup f_Page_new = some ⟨oc_Page_new, od_Page_new, .func (PySem.W.fnOf "__init__" "Page.__init__" (defArgs s_Page_new) (defBody s_Page_new) (defScope s_Page_new) .none kV_Page_new dc_Page_new pm_Page_new an_Page_new cd_Page_new ct_Page_new), sl_Page_new⟩)
    (c_Page_new : PySem.W.codeIn K cd_Page_new "Page.__init__" = true)
    (k_Page_new : PySem.W.keepIn K (.ref f_Page_new) = true)
    (a_are_people : PySem.W.nsIn K mainGlobals "are_people" = some (some (.ref f_are_people)))
    (l_are_people : K.lookup f_are_people = some ⟨oc_are_people, od_are_people, .func (PySem.W.fnOf "are_people" "are_people" (defArgs s_are_people) (defBody s_are_people) (defScope s_are_people) .none kV_are_people dc_are_people pm_are_people an_are_people cd_are_people ct_are_people), sl_are_people⟩)
    (c_are_people : PySem.W.codeIn K cd_are_people "are_people" = true)
    (k_are_people : PySem.W.keepIn K (.ref f_are_people) = true)
    (a_Crowd_new : PySem.W.findIn K (.ref C6) "__init__" = some (some (.ref f_Crowd_new)))
    (l_Crowd_new : K.lookup f_Crowd_new = some ⟨oc_Crowd_new, od_Crowd_new, .func (PySem.W.fnOf "__init__" "Crowd.__init__" (defArgs s_Crowd_new) (defBody s_Crowd_new) (defScope s_Crowd_new) .none kV_Crowd_new dc_Crowd_new pm_Crowd_new an_Crowd_new cd_Crowd_new ct_Crowd_new), sl_Crowd_new⟩)
    (c_Crowd_new : PySem.W.codeIn K cd_Crowd_new "Crowd.__init__" = true)
    (k_Crowd_new : PySem.W.keepIn K (.ref f_Crowd_new) = true)
    (a_d_law_clashes : PySem.W.nsIn K mainGlobals "_law_clashes" = some (some (.ref f_d_law_clashes)))
    (l_d_law_clashes : K.lookup f_d_law_clashes = some ⟨oc_d_law_clashes, od_d_law_clashes, .func (PySem.W.fnOf "_law_clashes" "_law_clashes" (defArgs s_d_law_clashes) (defBody s_d_law_clashes) (defScope s_d_law_clashes) .none kV_d_law_clashes dc_d_law_clashes pm_d_law_clashes an_d_law_clashes cd_d_law_clashes ct_d_law_clashes), sl_d_law_clashes⟩)
    (c_d_law_clashes : PySem.W.codeIn K cd_d_law_clashes "_law_clashes" = true)
    (k_d_law_clashes : PySem.W.keepIn K (.ref f_d_law_clashes) = true)
    (a_BadArgument_new : PySem.W.findIn K (.ref C4) "__init__" = some (some (.ref f_BadArgument_new)))
    (l_BadArgument_new : K.lookup f_BadArgument_new = some ⟨oc_BadArgument_new, od_BadArgument_new, .func (PySem.W.fnOf "__init__" "BadArgument.__init__" (defArgs s_BadArgument_new) (defBody s_BadArgument_new) (defScope s_BadArgument_new) .none kV_BadArgument_new dc_BadArgument_new pm_BadArgument_new an_BadArgument_new cd_BadArgument_new ct_BadArgument_new), sl_BadArgument_new⟩)
    (c_BadArgument_new : PySem.W.codeIn K cd_BadArgument_new "BadArgument.__init__" = true)
    (k_BadArgument_new : PySem.W.keepIn K (.ref f_BadArgument_new) = true)
    (a_BadNumber_new : PySem.W.findIn K (.ref C5) "__init__" = some (some (.ref f_BadNumber_new)))
    (l_BadNumber_new : K.lookup f_BadNumber_new = some ⟨oc_BadNumber_new, od_BadNumber_new, .func (PySem.W.fnOf "__init__" "BadNumber.__init__" (defArgs s_BadNumber_new) (defBody s_BadNumber_new) (defScope s_BadNumber_new) .none kV_BadNumber_new dc_BadNumber_new pm_BadNumber_new an_BadNumber_new cd_BadNumber_new ct_BadNumber_new), sl_BadNumber_new⟩)
    (c_BadNumber_new : PySem.W.codeIn K cd_BadNumber_new "BadNumber.__init__" = true)
    (k_BadNumber_new : PySem.W.keepIn K (.ref f_BadNumber_new) = true)
    (a_check_spread : PySem.W.nsIn K mainGlobals "check_spread" = some (some (.ref f_check_spread)))
    (l_check_spread : K.lookup f_check_spread = some ⟨oc_check_spread, od_check_spread, .func (PySem.W.fnOf "check_spread" "check_spread" (defArgs s_check_spread) (defBody s_check_spread) (defScope s_check_spread) .none kV_check_spread dc_check_spread pm_check_spread an_check_spread cd_check_spread ct_check_spread), sl_check_spread⟩)
    (c_check_spread : PySem.W.codeIn K cd_check_spread "check_spread" = true)
    (k_check_spread : PySem.W.keepIn K (.ref f_check_spread) = true)
    (a_couples : PySem.W.nsIn K mainGlobals "couples" = some (some (.ref f_couples)))
    (l_couples : K.lookup f_couples = some ⟨oc_couples, od_couples, .func (PySem.W.fnOf "couples" "couples" (defArgs s_couples) (defBody s_couples) (defScope s_couples) .none kV_couples dc_couples pm_couples an_couples cd_couples ct_couples), sl_couples⟩)
    (c_couples : PySem.W.codeIn K cd_couples "couples" = true)
    (k_couples : PySem.W.keepIn K (.ref f_couples) = true)
    (a_Crowd_people : PySem.W.findIn K (.ref C6) "people" = some (some (.ref p_Crowd_people)))
    (pg_Crowd_people : PySem.W.specialIn K (.ref p_Crowd_people) "__get__" = some (some (.builtin "property.__get__")))
    (pt_Crowd_people : PySem.W.takesIn K (.ref p_Crowd_people) = some true)
    (pr_Crowd_people : PySem.W.recIn K p_Crowd_people "property" = some (.ref f_Crowd_people :: re_Crowd_people))
    (l_Crowd_people : K.lookup f_Crowd_people = some ⟨oc_Crowd_people, od_Crowd_people, .func (PySem.W.fnOf "people" "Crowd.people" (defArgs s_Crowd_people) (defBody s_Crowd_people) (defScope s_Crowd_people) .none kV_Crowd_people dc_Crowd_people pm_Crowd_people an_Crowd_people cd_Crowd_people ct_Crowd_people), sl_Crowd_people⟩)
    (c_Crowd_people : PySem.W.codeIn K cd_Crowd_people "Crowd.people" = true)
    (k_Crowd_people : PySem.W.keepIn K (.ref f_Crowd_people) = true)
    (a_differs_by : PySem.W.nsIn K mainGlobals "differs_by" = some (some (.ref f_differs_by)))
    (l_differs_by : K.lookup f_differs_by = some ⟨oc_differs_by, od_differs_by, .func (PySem.W.fnOf "differs_by" "differs_by" (defArgs s_differs_by) (defBody s_differs_by) (defScope s_differs_by) .none kV_differs_by dc_differs_by pm_differs_by an_differs_by cd_differs_by ct_differs_by), sl_differs_by⟩)
    (c_differs_by : PySem.W.codeIn K cd_differs_by "differs_by" = true)
    (k_differs_by : PySem.W.keepIn K (.ref f_differs_by) = true)
    (a_clashes : PySem.W.nsIn K mainGlobals "clashes" = some (some (.ref f_clashes)))
    (l_clashes : K.lookup f_clashes = some ⟨oc_clashes, od_clashes, .func (PySem.W.fnOf "clashes" "clashes" (defArgs s_clashes) (defBody s_clashes) (defScope s_clashes) .none kV_clashes dc_clashes pm_clashes an_clashes cd_clashes ct_clashes), sl_clashes⟩)
    (c_clashes : PySem.W.codeIn K cd_clashes "clashes" = true)
    (k_clashes : PySem.W.keepIn K (.ref f_clashes) = true)
    (a_goes_together : PySem.W.nsIn K mainGlobals "goes_together" = some (some (.ref f_goes_together)))
    (l_goes_together : K.lookup f_goes_together = some ⟨oc_goes_together, od_goes_together, .func (PySem.W.fnOf "goes_together" "goes_together" (defArgs s_goes_together) (defBody s_goes_together) (defScope s_goes_together) .none kV_goes_together dc_goes_together pm_goes_together an_goes_together cd_goes_together ct_goes_together), sl_goes_together⟩)
    (c_goes_together : PySem.W.codeIn K cd_goes_together "goes_together" = true)
    (k_goes_together : PySem.W.keepIn K (.ref f_goes_together) = true)
    (a_least_left_out : PySem.W.nsIn K mainGlobals "least_left_out" = some (some (.ref f_least_left_out)))
    (l_least_left_out : K.lookup f_least_left_out = some ⟨oc_least_left_out, od_least_left_out, .func (PySem.W.fnOf "least_left_out" "least_left_out" (defArgs s_least_left_out) (defBody s_least_left_out) (defScope s_least_left_out) .none kV_least_left_out dc_least_left_out pm_least_left_out an_least_left_out cd_least_left_out ct_least_left_out), sl_least_left_out⟩)
    (c_least_left_out : PySem.W.codeIn K cd_least_left_out "least_left_out" = true)
    (k_least_left_out : PySem.W.keepIn K (.ref f_least_left_out) = true)
    (a_always_left_out : PySem.W.nsIn K mainGlobals "always_left_out" = some (some (.ref f_always_left_out)))
    (l_always_left_out : K.lookup f_always_left_out = some ⟨oc_always_left_out, od_always_left_out, .func (PySem.W.fnOf "always_left_out" "always_left_out" (defArgs s_always_left_out) (defBody s_always_left_out) (defScope s_always_left_out) .none kV_always_left_out dc_always_left_out pm_always_left_out an_always_left_out cd_always_left_out ct_always_left_out), sl_always_left_out⟩)
    (c_always_left_out : PySem.W.codeIn K cd_always_left_out "always_left_out" = true)
    (k_always_left_out : PySem.W.keepIn K (.ref f_always_left_out) = true)
    (a_least_spread : PySem.W.nsIn K mainGlobals "least_spread" = some (some (.ref f_least_spread)))
    (l_least_spread : K.lookup f_least_spread = some ⟨oc_least_spread, od_least_spread, .func (PySem.W.fnOf "least_spread" "least_spread" (defArgs s_least_spread) (defBody s_least_spread) (defScope s_least_spread) .none kV_least_spread dc_least_spread pm_least_spread an_least_spread cd_least_spread ct_least_spread), sl_least_spread⟩)
    (c_least_spread : PySem.W.codeIn K cd_least_spread "least_spread" = true)
    (k_least_spread : PySem.W.keepIn K (.ref f_least_spread) = true)
    (a_d_law_told : PySem.W.nsIn K mainGlobals "_law_told" = some (some (.ref f_d_law_told)))
    (l_d_law_told : K.lookup f_d_law_told = some ⟨oc_d_law_told, od_d_law_told, .func (PySem.W.fnOf "_law_told" "_law_told" (defArgs s_d_law_told) (defBody s_d_law_told) (defScope s_d_law_told) .none kV_d_law_told dc_d_law_told pm_d_law_told an_d_law_told cd_d_law_told ct_d_law_told), sl_d_law_told⟩)
    (c_d_law_told : PySem.W.codeIn K cd_d_law_told "_law_told" = true)
    (k_d_law_told : PySem.W.keepIn K (.ref f_d_law_told) = true)
    (a_law : PySem.W.nsIn K mainGlobals "law" = some (some (.ref f_law)))
    (l_law : K.lookup f_law = some ⟨oc_law, od_law, .func (PySem.W.fnOf "law" "law" (defArgs s_law) (defBody s_law) (defScope s_law) .none kV_law dc_law pm_law an_law cd_law ct_law), sl_law⟩)
    (c_law : PySem.W.codeIn K cd_law "law" = true)
    (k_law : PySem.W.keepIn K (.ref f_law) = true)
    (x_BadNumber : K.lookup C5 = some (excClassObj nm5 qn5 C5 N5 bs5 [.ref C0, .type "ValueError", .type "Exception", .type "BaseException", .type "object"] true sn5 su5 ab5 co5 dd5 m0_5 m1_5 m2_5 m3_5 m5_5 "ValueError.__new__"))
    (sa_BadNumber : PySem.W.findIn K (.ref C5) "__setattr__" = some (some (.builtin "object.__setattr__")))
    (be_BadNumber : PySem.W.subIn K (.ref C5) (.type "BaseException") = some true)
    (ty_BadNumber : PySem.W.typeIn K (.ref C5) = some (.type "type"))
    (kc_BadNumber : PySem.W.keepIn K (.ref C5) = true)
    (ti_BadNumber : PySem.W.typeIn K (.ref f_BadNumber_new) = some (.type "function"))
    (x_BadArgument : K.lookup C4 = some (excClassObj nm4 qn4 C4 N4 bs4 [.ref C0, .type "ValueError", .type "Exception", .type "BaseException", .type "object"] true sn4 su4 ab4 co4 dd4 m0_4 m1_4 m2_4 m3_4 m5_4 "ValueError.__new__"))
    (sa_BadArgument : PySem.W.findIn K (.ref C4) "__setattr__" = some (some (.builtin "object.__setattr__")))
    (be_BadArgument : PySem.W.subIn K (.ref C4) (.type "BaseException") = some true)
    (ty_BadArgument : PySem.W.typeIn K (.ref C4) = some (.type "type"))
    (kc_BadArgument : PySem.W.keepIn K (.ref C4) = true)
    (ti_BadArgument : PySem.W.typeIn K (.ref f_BadArgument_new) = some (.type "function"))
    (og_MarksError : PySem.W.specialIn K (.ref C0) "__getattribute__" = some (some (.builtin "type.__getattribute__")))
    (or_MarksError : PySem.W.readsIn K C0 (.type "type") = true)
    (of_MarksError : PySem.W.findCls K (.ref C0) (.type "type") "__init__" = some (.val (.builtin "ValueError.__init__")))
    (no_BadArgument_value : PySem.W.findIn K (.ref C4) "value" = some none)
    (no_BadNumber_number : PySem.W.findIn K (.ref C5) "number" = some none)
    (ga_BadArgument : PySem.W.findIn K (.ref C4) "__getattribute__" = some (some (.builtin "BaseException.__getattribute__")))
    (gg_BadArgument : PySem.W.findIn K (.ref C4) "__getattr__" = some none)
    (hd_BadArgument : PySem.W.hasDictIn K C4 = true)
    (ga_BadNumber : PySem.W.findIn K (.ref C5) "__getattribute__" = some (some (.builtin "BaseException.__getattribute__")))
    (gg_BadNumber : PySem.W.findIn K (.ref C5) "__getattr__" = some none)
    (hd_BadNumber : PySem.W.hasDictIn K C5 = true)
    (gs0 : PySem.W.specialIn K (.builtin "object.__class__") "__get__" = some (some (.builtin "getset_descriptor.__get__")))
    (gs1 : PySem.W.takesIn K (.builtin "object.__class__") = some true)
    (pg_Crowd : PySem.W.plainGet K C6 Str.empty = true)
    (hd_Crowd : PySem.W.hasDictIn K C6 = true)
    (po_Crowd : PySem.W.plainOver K C6 = true)
    (sa_Crowd : PySem.W.findIn K (.ref C6) "__setattr__" = some (some (.builtin "object.__setattr__")))
    (pg_Page : PySem.W.plainGet K C7 Str.empty = true)
    (hd_Page : PySem.W.hasDictIn K C7 = true)
    (po_Page : PySem.W.plainOver K C7 = true)
    (sa_Page : PySem.W.findIn K (.ref C7) "__setattr__" = some (some (.builtin "object.__setattr__")))
    (mm_Crowd : PySem.W.makesIn K C6 = true)
    (mf_Crowd : PySem.W.isFn K (.ref f_Crowd_new) = true)
    (kc_Crowd : PySem.W.keepIn K (.ref C6) = true)
    (mm_Page : PySem.W.makesIn K C7 = true)
    (mf_Page : PySem.W.isFn K (.ref f_Page_new) = true)
    (kc_Page : PySem.W.keepIn K (.ref C7) = true)
    (mf_Crowd__ucontains_u : PySem.W.isFn K (.ref f_Crowd__ucontains_u) = true)
    (mf_Crowd_pairs : PySem.W.isFn K (.ref f_Crowd_pairs) = true)
    (mf_Crowd_is_pair : PySem.W.isFn K (.ref f_Crowd_is_pair) = true)
    (na_own_places_6 : PySem.W.findIn K (.ref C6) "own_places" = some none)
    (na_most_6 : PySem.W.findIn K (.ref C6) "most" = some none)
    (na_own_marks_7 : PySem.W.findIn K (.ref C7) "own_marks" = some none)
    (na_crowd_7 : PySem.W.findIn K (.ref C7) "crowd" = some none)
    (hc_Crowd : PySem.W.findIn K (.ref C6) "__class__" = some (some (.builtin "object.__class__")))
    (hm_Crowd : PySem.W.mroIn K C6 (.type "object") = some true)
    (ic_Crowd : PySem.W.isClsIn K C6 = true)
    (ty_Crowd : PySem.W.typeIn K (.ref C6) = some (.type "type"))
    (b0_Crowd : PySem.W.subIn K (.type "NoneType") (.ref C6) = some false)
    (c0_Crowd : PySem.W.subIn K (.ref C6) (.type "NoneType") = some false)
    (b1_Crowd : PySem.W.subIn K (.type "bool") (.ref C6) = some false)
    (c1_Crowd : PySem.W.subIn K (.ref C6) (.type "bool") = some false)
    (b2_Crowd : PySem.W.subIn K (.type "int") (.ref C6) = some false)
    (c2_Crowd : PySem.W.subIn K (.ref C6) (.type "int") = some false)
    (b3_Crowd : PySem.W.subIn K (.type "str") (.ref C6) = some false)
    (c3_Crowd : PySem.W.subIn K (.ref C6) (.type "str") = some false)
    (b4_Crowd : PySem.W.subIn K (.type "list") (.ref C6) = some false)
    (c4_Crowd : PySem.W.subIn K (.ref C6) (.type "list") = some false)
    (b5_Crowd : PySem.W.subIn K (.type "tuple") (.ref C6) = some false)
    (c5_Crowd : PySem.W.subIn K (.ref C6) (.type "tuple") = some false)
    (b6_Crowd : PySem.W.subIn K (.type "dict") (.ref C6) = some false)
    (c6_Crowd : PySem.W.subIn K (.ref C6) (.type "dict") = some false)
    (su_Crowd_Crowd : PySem.W.subIn K (.ref C6) (.ref C6) = some true)
    (su_Crowd_Page : PySem.W.subIn K (.ref C6) (.ref C7) = some false)
    (ne_6_7 : C6 ≠ C7)
    (hc_Page : PySem.W.findIn K (.ref C7) "__class__" = some (some (.builtin "object.__class__")))
    (hm_Page : PySem.W.mroIn K C7 (.type "object") = some true)
    (ic_Page : PySem.W.isClsIn K C7 = true)
    (ty_Page : PySem.W.typeIn K (.ref C7) = some (.type "type"))
    (b0_Page : PySem.W.subIn K (.type "NoneType") (.ref C7) = some false)
    (c0_Page : PySem.W.subIn K (.ref C7) (.type "NoneType") = some false)
    (b1_Page : PySem.W.subIn K (.type "bool") (.ref C7) = some false)
    (c1_Page : PySem.W.subIn K (.ref C7) (.type "bool") = some false)
    (b2_Page : PySem.W.subIn K (.type "int") (.ref C7) = some false)
    (c2_Page : PySem.W.subIn K (.ref C7) (.type "int") = some false)
    (b3_Page : PySem.W.subIn K (.type "str") (.ref C7) = some false)
    (c3_Page : PySem.W.subIn K (.ref C7) (.type "str") = some false)
    (b4_Page : PySem.W.subIn K (.type "list") (.ref C7) = some false)
    (c4_Page : PySem.W.subIn K (.ref C7) (.type "list") = some false)
    (b5_Page : PySem.W.subIn K (.type "tuple") (.ref C7) = some false)
    (c5_Page : PySem.W.subIn K (.ref C7) (.type "tuple") = some false)
    (b6_Page : PySem.W.subIn K (.type "dict") (.ref C7) = some false)
    (c6_Page : PySem.W.subIn K (.ref C7) (.type "dict") = some false)
    (su_Page_Crowd : PySem.W.subIn K (.ref C7) (.ref C6) = some false)
    (ne_7_6 : C7 ≠ C6)
    (su_Page_Page : PySem.W.subIn K (.ref C7) (.ref C7) = some true)
    (su_BadArgument_BadNumber : PySem.W.subIn K (.ref C4) (.ref C5) = some false)
    (su_BadNumber_BadNumber : PySem.W.subIn K (.ref C5) (.ref C5) = some true)
    (su_BadArgument_BadArgument : PySem.W.subIn K (.ref C4) (.ref C4) = some true)
    (su_BadNumber_BadArgument : PySem.W.subIn K (.ref C5) (.ref C4) = some false)
    : ∃ fd : FuncData, (∀ (s : Shared) (v : Value), BindsTo s fd ⟨[v], []⟩ [("_law_script", v)]) ∧ ∀ base : Heap, K.In base → base.Ns mainGlobals mg → FnG P w K mg base (L2.CX P w) 8 fa fd ["_law_script"] (spLaw K) := by
  have e := hfa.symm.trans (PySem.W.mg_of X G a_law)
  cases e
  have ko_Crowd : KOne K C6 := kOne_of ⟨pg_Crowd, hd_Crowd, po_Crowd, sa_Crowd⟩ hc_Crowd hm_Crowd ic_Crowd ty_Crowd b0_Crowd b1_Crowd b2_Crowd b3_Crowd b4_Crowd b5_Crowd b6_Crowd c0_Crowd c1_Crowd c2_Crowd c3_Crowd c4_Crowd c5_Crowd c6_Crowd
  have ko_Page : KOne K C7 := kOne_of ⟨pg_Page, hd_Page, po_Page, sa_Page⟩ hc_Page hm_Page ic_Page ty_Page b0_Page b1_Page b2_Page b3_Page b4_Page b5_Page b6_Page c0_Page c1_Page c2_Page c3_Page c4_Page c5_Page c6_Page
  have T : ∀ base : Heap, Txt P w K mg base ⟨t_LETTERS, t_MOST_SIGNS, t_MOST_PEOPLE, t_MOST_MARK, C0, C4, C5, C6, C7, f_d_law_numbers, PySem.W.fnOf "_law_numbers" "_law_numbers" (defArgs s_d_law_numbers) (defBody s_d_law_numbers) (defScope s_d_law_numbers) .none kV_d_law_numbers dc_d_law_numbers pm_d_law_numbers an_d_law_numbers cd_d_law_numbers ct_d_law_numbers, f_d_law_opened, PySem.W.fnOf "_law_opened" "_law_opened" (defArgs s_d_law_opened) (defBody s_d_law_opened) (defScope s_d_law_opened) .none kV_d_law_opened dc_d_law_opened pm_d_law_opened an_d_law_opened cd_d_law_opened ct_d_law_opened, f_d_law_draw, PySem.W.fnOf "_law_draw" "_law_draw" (defArgs s_d_law_draw) (defBody s_d_law_draw) (defScope s_d_law_draw) .none kV_d_law_draw dc_d_law_draw pm_d_law_draw an_d_law_draw cd_d_law_draw ct_d_law_draw, f_d_law_words, PySem.W.fnOf "_law_words" "_law_words" (defArgs s_d_law_words) (defBody s_d_law_words) (defScope s_d_law_words) .none kV_d_law_words dc_d_law_words pm_d_law_words an_d_law_words cd_d_law_words ct_d_law_words, f_d_law_pairs, PySem.W.fnOf "_law_pairs" "_law_pairs" (defArgs s_d_law_pairs) (defBody s_d_law_pairs) (defScope s_d_law_pairs) .none kV_d_law_pairs dc_d_law_pairs pm_d_law_pairs an_d_law_pairs cd_d_law_pairs ct_d_law_pairs, f_d_law_marks, PySem.W.fnOf "_law_marks" "_law_marks" (defArgs s_d_law_marks) (defBody s_d_law_marks) (defScope s_d_law_marks) .none kV_d_law_marks dc_d_law_marks pm_d_law_marks an_d_law_marks cd_d_law_marks ct_d_law_marks, f_check_crowd, PySem.W.fnOf "check_crowd" "check_crowd" (defArgs s_check_crowd) (defBody s_check_crowd) (defScope s_check_crowd) .none kV_check_crowd dc_check_crowd pm_check_crowd an_check_crowd cd_check_crowd ct_check_crowd, f_Crowd_pairs, PySem.W.fnOf "pairs" "Crowd.pairs" (defArgs s_Crowd_pairs) (defBody s_Crowd_pairs) (defScope s_Crowd_pairs) .none kV_Crowd_pairs dc_Crowd_pairs pm_Crowd_pairs an_Crowd_pairs cd_Crowd_pairs ct_Crowd_pairs, f_is_word, PySem.W.fnOf "is_word" "is_word" (defArgs s_is_word) (defBody s_is_word) (defScope s_is_word) .none kV_is_word dc_is_word pm_is_word an_is_word cd_is_word ct_is_word, f_Crowd__ucontains_u, PySem.W.fnOf "__contains__" "Crowd.__contains__" (defArgs s_Crowd__ucontains_u) (defBody s_Crowd__ucontains_u) (defScope s_Crowd__ucontains_u) .none kV_Crowd__ucontains_u dc_Crowd__ucontains_u pm_Crowd__ucontains_u an_Crowd__ucontains_u cd_Crowd__ucontains_u ct_Crowd__ucontains_u, f_Crowd_is_pair, PySem.W.fnOf "is_pair" "Crowd.is_pair" (defArgs s_Crowd_is_pair) (defBody s_Crowd_is_pair) (defScope s_Crowd_is_pair) .none kV_Crowd_is_pair dc_Crowd_is_pair pm_Crowd_is_pair an_Crowd_is_pair cd_Crowd_is_pair ct_Crowd_is_pair, f_is_count, PySem.W.fnOf "is_count" "is_count" (defArgs s_is_count) (defBody s_is_count) (defScope s_is_count) .none kV_is_count dc_is_count pm_is_count an_is_count cd_is_count ct_is_count, f_is_mark, PySem.W.fnOf "is_mark" "is_mark" (defArgs s_is_mark) (defBody s_is_mark) (defScope s_is_mark) .none kV_is_mark dc_is_mark pm_is_mark an_is_mark cd_is_mark ct_is_mark, f_Page_new, PySem.W.fnOf "__init__" "Page.__init__" (defArgs s_Page_new) (defBody s_Page_new) (defScope s_Page_new) .none kV_Page_new dc_Page_new pm_Page_new an_Page_new cd_Page_new ct_Page_new, f_are_people, PySem.W.fnOf "are_people" "are_people" (defArgs s_are_people) (defBody s_are_people) (defScope s_are_people) .none kV_are_people dc_are_people pm_are_people an_are_people cd_are_people ct_are_people, f_Crowd_new, PySem.W.fnOf "__init__" "Crowd.__init__" (defArgs s_Crowd_new) (defBody s_Crowd_new) (defScope s_Crowd_new) .none kV_Crowd_new dc_Crowd_new pm_Crowd_new an_Crowd_new cd_Crowd_new ct_Crowd_new, f_d_law_clashes, PySem.W.fnOf "_law_clashes" "_law_clashes" (defArgs s_d_law_clashes) (defBody s_d_law_clashes) (defScope s_d_law_clashes) .none kV_d_law_clashes dc_d_law_clashes pm_d_law_clashes an_d_law_clashes cd_d_law_clashes ct_d_law_clashes, f_BadArgument_new, PySem.W.fnOf "__init__" "BadArgument.__init__" (defArgs s_BadArgument_new) (defBody s_BadArgument_new) (defScope s_BadArgument_new) .none kV_BadArgument_new dc_BadArgument_new pm_BadArgument_new an_BadArgument_new cd_BadArgument_new ct_BadArgument_new, f_BadNumber_new, PySem.W.fnOf "__init__" "BadNumber.__init__" (defArgs s_BadNumber_new) (defBody s_BadNumber_new) (defScope s_BadNumber_new) .none kV_BadNumber_new dc_BadNumber_new pm_BadNumber_new an_BadNumber_new cd_BadNumber_new ct_BadNumber_new, f_check_spread, PySem.W.fnOf "check_spread" "check_spread" (defArgs s_check_spread) (defBody s_check_spread) (defScope s_check_spread) .none kV_check_spread dc_check_spread pm_check_spread an_check_spread cd_check_spread ct_check_spread, f_couples, PySem.W.fnOf "couples" "couples" (defArgs s_couples) (defBody s_couples) (defScope s_couples) .none kV_couples dc_couples pm_couples an_couples cd_couples ct_couples, f_Crowd_people, PySem.W.fnOf "people" "Crowd.people" (defArgs s_Crowd_people) (defBody s_Crowd_people) (defScope s_Crowd_people) .none kV_Crowd_people dc_Crowd_people pm_Crowd_people an_Crowd_people cd_Crowd_people ct_Crowd_people, p_Crowd_people, f_differs_by, PySem.W.fnOf "differs_by" "differs_by" (defArgs s_differs_by) (defBody s_differs_by) (defScope s_differs_by) .none kV_differs_by dc_differs_by pm_differs_by an_differs_by cd_differs_by ct_differs_by, f_clashes, PySem.W.fnOf "clashes" "clashes" (defArgs s_clashes) (defBody s_clashes) (defScope s_clashes) .none kV_clashes dc_clashes pm_clashes an_clashes cd_clashes ct_clashes, f_goes_together, PySem.W.fnOf "goes_together" "goes_together" (defArgs s_goes_together) (defBody s_goes_together) (defScope s_goes_together) .none kV_goes_together dc_goes_together pm_goes_together an_goes_together cd_goes_together ct_goes_together, f_least_left_out, PySem.W.fnOf "least_left_out" "least_left_out" (defArgs s_least_left_out) (defBody s_least_left_out) (defScope s_least_left_out) .none kV_least_left_out dc_least_left_out pm_least_left_out an_least_left_out cd_least_left_out ct_least_left_out, f_always_left_out, PySem.W.fnOf "always_left_out" "always_left_out" (defArgs s_always_left_out) (defBody s_always_left_out) (defScope s_always_left_out) .none kV_always_left_out dc_always_left_out pm_always_left_out an_always_left_out cd_always_left_out ct_always_left_out, f_least_spread, PySem.W.fnOf "least_spread" "least_spread" (defArgs s_least_spread) (defBody s_least_spread) (defScope s_least_spread) .none kV_least_spread dc_least_spread pm_least_spread an_least_spread cd_least_spread ct_least_spread, f_d_law_told, PySem.W.fnOf "_law_told" "_law_told" (defArgs s_d_law_told) (defBody s_d_law_told) (defScope s_d_law_told) .none kV_d_law_told dc_d_law_told pm_d_law_told an_d_law_told cd_d_law_told ct_d_law_told, fa, PySem.W.fnOf "law" "law" (defArgs s_law) (defBody s_law) (defScope s_law) .none kV_law dc_law pm_law an_law cd_law ct_law⟩ := fun base =>
    { n_range := PySem.W.mg_none_of X G z_range,
      n_int := PySem.W.mg_none_of X G z_int,
      n_max := PySem.W.mg_none_of X G z_max,
      n_len := PySem.W.mg_none_of X G z_len,
      n_isinstance := PySem.W.mg_none_of X G z_isinstance,
      n_all := PySem.W.mg_none_of X G z_all,
      n_str := PySem.W.mg_none_of X G z_str,
      n_tuple := PySem.W.mg_none_of X G z_tuple,
      n_bool := PySem.W.mg_none_of X G z_bool,
      n_dict := PySem.W.mg_none_of X G z_dict,
      n_list := PySem.W.mg_none_of X G z_list,
      n_enumerate := PySem.W.mg_none_of X G z_enumerate,
      n_any := PySem.W.mg_none_of X G z_any,
      n_repr := PySem.W.mg_none_of X G z_repr,
      n_min := PySem.W.mg_none_of X G z_min,
      g_LETTERS := PySem.W.mg_of X G q_LETTERS,
      g_MOST_SIGNS := PySem.W.mg_of X G q_MOST_SIGNS,
      g_MOST_PEOPLE := PySem.W.mg_of X G q_MOST_PEOPLE,
      g_MOST_MARK := PySem.W.mg_of X G q_MOST_MARK,
      g_MarksError := PySem.W.mg_of X G a_MarksError,
      g_BadArgument := PySem.W.mg_of X G a_BadArgument,
      g_BadNumber := PySem.W.mg_of X G a_BadNumber,
      g_Crowd := PySem.W.mg_of X G a_Crowd,
      g_Page := PySem.W.mg_of X G a_Page,
      F_d_law_numbers := fun_mk (st := s_d_law_numbers) l_d_law_numbers c_d_law_numbers k_d_law_numbers,
      b_d_law_numbers := (fun_mk (st := s_d_law_numbers) l_d_law_numbers c_d_law_numbers k_d_law_numbers).binds (ps := ps_d_law_numbers) fun _ _ _ _ _ _ us hl => match us, hl with | [_, _, _], _ => rfl,
      k_d_law_numbers := k_d_law_numbers,
      g_d_law_numbers := PySem.W.mg_of X G a_d_law_numbers,
      F_d_law_opened := fun_mk (st := s_d_law_opened) l_d_law_opened c_d_law_opened k_d_law_opened,
      b_d_law_opened := (fun_mk (st := s_d_law_opened) l_d_law_opened c_d_law_opened k_d_law_opened).binds (ps := ps_d_law_opened) fun _ _ _ _ _ _ us hl => match us, hl with | [_, _, _], _ => rfl,
      k_d_law_opened := k_d_law_opened,
      g_d_law_opened := PySem.W.mg_of X G a_d_law_opened,
      F_d_law_draw := fun_mk (st := s_d_law_draw) l_d_law_draw c_d_law_draw k_d_law_draw,
      b_d_law_draw := (fun_mk (st := s_d_law_draw) l_d_law_draw c_d_law_draw k_d_law_draw).binds (ps := ps_d_law_draw) fun _ _ _ _ _ _ us hl => match us, hl with | [_, _], _ => rfl,
      k_d_law_draw := k_d_law_draw,
      g_d_law_draw := PySem.W.mg_of X G a_d_law_draw,
      F_d_law_words := fun_mk (st := s_d_law_words) l_d_law_words c_d_law_words k_d_law_words,
      b_d_law_words := (fun_mk (st := s_d_law_words) l_d_law_words c_d_law_words k_d_law_words).binds (ps := ps_d_law_words) fun _ _ _ _ _ _ us hl => match us, hl with | [_, _], _ => rfl,
      k_d_law_words := k_d_law_words,
      g_d_law_words := PySem.W.mg_of X G a_d_law_words,
      F_d_law_pairs := fun_mk (st := s_d_law_pairs) l_d_law_pairs c_d_law_pairs k_d_law_pairs,
      b_d_law_pairs := (fun_mk (st := s_d_law_pairs) l_d_law_pairs c_d_law_pairs k_d_law_pairs).binds (ps := ps_d_law_pairs) fun _ _ _ _ _ _ us hl => match us, hl with | [_], _ => rfl,
      k_d_law_pairs := k_d_law_pairs,
      g_d_law_pairs := PySem.W.mg_of X G a_d_law_pairs,
      F_d_law_marks := fun_mk (st := s_d_law_marks) l_d_law_marks c_d_law_marks k_d_law_marks,
      b_d_law_marks := (fun_mk (st := s_d_law_marks) l_d_law_marks c_d_law_marks k_d_law_marks).binds (ps := ps_d_law_marks) fun _ _ _ _ _ _ us hl => match us, hl with | [_, _, _], _ => rfl,
      k_d_law_marks := k_d_law_marks,
      g_d_law_marks := PySem.W.mg_of X G a_d_law_marks,
      F_check_crowd := fun_mk (st := s_check_crowd) l_check_crowd c_check_crowd k_check_crowd,
      b_check_crowd := (fun_mk (st := s_check_crowd) l_check_crowd c_check_crowd k_check_crowd).binds (ps := ps_check_crowd) fun _ _ _ _ _ _ us hl => match us, hl with | [_], _ => rfl,
      k_check_crowd := k_check_crowd,
      g_check_crowd := PySem.W.mg_of X G a_check_crowd,
      F_Crowd_pairs := fun_mk (st := s_Crowd_pairs) l_Crowd_pairs c_Crowd_pairs k_Crowd_pairs,
      b_Crowd_pairs := (fun_mk (st := s_Crowd_pairs) l_Crowd_pairs c_Crowd_pairs k_Crowd_pairs).binds (ps := ps_Crowd_pairs) fun _ _ _ _ _ _ us hl => match us, hl with | [_], _ => rfl,
      k_Crowd_pairs := k_Crowd_pairs,
      F_is_word := fun_mk (st := s_is_word) l_is_word c_is_word k_is_word,
      b_is_word := (fun_mk (st := s_is_word) l_is_word c_is_word k_is_word).binds (ps := ps_is_word) fun _ _ _ _ _ _ us hl => match us, hl with | [_], _ => rfl,
      k_is_word := k_is_word,
      g_is_word := PySem.W.mg_of X G a_is_word,
      F_Crowd__ucontains_u := fun_mk (st := s_Crowd__ucontains_u) l_Crowd__ucontains_u c_Crowd__ucontains_u k_Crowd__ucontains_u,
      b_Crowd__ucontains_u := (fun_mk (st := s_Crowd__ucontains_u) l_Crowd__ucontains_u c_Crowd__ucontains_u k_Crowd__ucontains_u).binds (ps := ps_Crowd__ucontains_u) fun _ _ _ _ _ _ us hl => match us, hl with | [_, _], _ => rfl,
      k_Crowd__ucontains_u := k_Crowd__ucontains_u,
      F_Crowd_is_pair := fun_mk (st := s_Crowd_is_pair) l_Crowd_is_pair c_Crowd_is_pair k_Crowd_is_pair,
      b_Crowd_is_pair := (fun_mk (st := s_Crowd_is_pair) l_Crowd_is_pair c_Crowd_is_pair k_Crowd_is_pair).binds (ps := ps_Crowd_is_pair) fun _ _ _ _ _ _ us hl => match us, hl with | [_, _], _ => rfl,
      k_Crowd_is_pair := k_Crowd_is_pair,
      F_is_count := fun_mk (st := s_is_count) l_is_count c_is_count k_is_count,
      b_is_count := (fun_mk (st := s_is_count) l_is_count c_is_count k_is_count).binds (ps := ps_is_count) fun _ _ _ _ _ _ us hl => match us, hl with | [_, _, _], _ => rfl,
      k_is_count := k_is_count,
      g_is_count := PySem.W.mg_of X G a_is_count,
      F_is_mark := fun_mk (st := s_is_mark) l_is_mark c_is_mark k_is_mark,
      b_is_mark := (fun_mk (st := s_is_mark) l_is_mark c_is_mark k_is_mark).binds (ps := ps_is_mark) fun _ _ _ _ _ _ us hl => match us, hl with | [_, _], _ => rfl,
      k_is_mark := k_is_mark,
      g_is_mark := PySem.W.mg_of X G a_is_mark,
      F_Page_new := fun_mk (st := s_Page_new) l_Page_new c_Page_new k_Page_new,
      b_Page_new := (fun_mk (st := s_Page_new) l_Page_new c_Page_new k_Page_new).binds (ps := ps_Page_new) fun _ _ _ _ _ _ us hl => match us, hl with | [_, _, _], _ => rfl,
      k_Page_new := k_Page_new,
      F_are_people := fun_mk (st := s_are_people) l_are_people c_are_people k_are_people,
      b_are_people := (fun_mk (st := s_are_people) l_are_people c_are_people k_are_people).binds (ps := ps_are_people) fun _ _ _ _ _ _ us hl => match us, hl with | [_], _ => rfl,
      k_are_people := k_are_people,
      g_are_people := PySem.W.mg_of X G a_are_people,
      F_Crowd_new := fun_mk (st := s_Crowd_new) l_Crowd_new c_Crowd_new k_Crowd_new,
      b_Crowd_new := (fun_mk (st := s_Crowd_new) l_Crowd_new c_Crowd_new k_Crowd_new).binds (ps := ps_Crowd_new) fun _ _ _ _ _ _ us hl => match us, hl with | [_, _, _], _ => rfl,
      k_Crowd_new := k_Crowd_new,
      F_d_law_clashes := fun_mk (st := s_d_law_clashes) l_d_law_clashes c_d_law_clashes k_d_law_clashes,
      b_d_law_clashes := (fun_mk (st := s_d_law_clashes) l_d_law_clashes c_d_law_clashes k_d_law_clashes).binds (ps := ps_d_law_clashes) fun _ _ _ _ _ _ us hl => match us, hl with | [_, _, _], _ => rfl,
      k_d_law_clashes := k_d_law_clashes,
      g_d_law_clashes := PySem.W.mg_of X G a_d_law_clashes,
      F_BadArgument_new := fun_mk (st := s_BadArgument_new) l_BadArgument_new c_BadArgument_new k_BadArgument_new,
      b_BadArgument_new := (fun_mk (st := s_BadArgument_new) l_BadArgument_new c_BadArgument_new k_BadArgument_new).binds (ps := ps_BadArgument_new) fun _ _ _ _ _ _ us hl => match us, hl with | [_, _], _ => rfl,
      k_BadArgument_new := k_BadArgument_new,
      F_BadNumber_new := fun_mk (st := s_BadNumber_new) l_BadNumber_new c_BadNumber_new k_BadNumber_new,
      b_BadNumber_new := (fun_mk (st := s_BadNumber_new) l_BadNumber_new c_BadNumber_new k_BadNumber_new).binds (ps := ps_BadNumber_new) fun _ _ _ _ _ _ us hl => match us, hl with | [_, _], _ => rfl,
      k_BadNumber_new := k_BadNumber_new,
      F_check_spread := fun_mk (st := s_check_spread) l_check_spread c_check_spread k_check_spread,
      b_check_spread := (fun_mk (st := s_check_spread) l_check_spread c_check_spread k_check_spread).binds (ps := ps_check_spread) fun _ _ _ _ _ _ us hl => match us, hl with | [_, _], _ => rfl,
      k_check_spread := k_check_spread,
      g_check_spread := PySem.W.mg_of X G a_check_spread,
      F_couples := fun_mk (st := s_couples) l_couples c_couples k_couples,
      b_couples := (fun_mk (st := s_couples) l_couples c_couples k_couples).binds (ps := ps_couples) fun _ _ _ _ _ _ us hl => match us, hl with | [_], _ => rfl,
      k_couples := k_couples,
      g_couples := PySem.W.mg_of X G a_couples,
      F_Crowd_people := fun_mk (st := s_Crowd_people) l_Crowd_people c_Crowd_people k_Crowd_people,
      b_Crowd_people := (fun_mk (st := s_Crowd_people) l_Crowd_people c_Crowd_people k_Crowd_people).binds (ps := ps_Crowd_people) fun _ _ _ _ _ _ us hl => match us, hl with | [_], _ => rfl,
      k_Crowd_people := k_Crowd_people,
      F_differs_by := fun_mk (st := s_differs_by) l_differs_by c_differs_by k_differs_by,
      b_differs_by := (fun_mk (st := s_differs_by) l_differs_by c_differs_by k_differs_by).binds (ps := ps_differs_by) fun _ _ _ _ _ _ us hl => match us, hl with | [_, _, _, _], _ => rfl,
      k_differs_by := k_differs_by,
      g_differs_by := PySem.W.mg_of X G a_differs_by,
      F_clashes := fun_mk (st := s_clashes) l_clashes c_clashes k_clashes,
      b_clashes := (fun_mk (st := s_clashes) l_clashes c_clashes k_clashes).binds (ps := ps_clashes) fun _ _ _ _ _ _ us hl => match us, hl with | [_, _], _ => rfl,
      k_clashes := k_clashes,
      g_clashes := PySem.W.mg_of X G a_clashes,
      F_goes_together := fun_mk (st := s_goes_together) l_goes_together c_goes_together k_goes_together,
      b_goes_together := (fun_mk (st := s_goes_together) l_goes_together c_goes_together k_goes_together).binds (ps := ps_goes_together) fun _ _ _ _ _ _ us hl => match us, hl with | [_, _, _], _ => rfl,
      k_goes_together := k_goes_together,
      g_goes_together := PySem.W.mg_of X G a_goes_together,
      F_least_left_out := fun_mk (st := s_least_left_out) l_least_left_out c_least_left_out k_least_left_out,
      b_least_left_out := (fun_mk (st := s_least_left_out) l_least_left_out c_least_left_out k_least_left_out).binds (ps := ps_least_left_out) fun _ _ _ _ _ _ us hl => match us, hl with | [_, _], _ => rfl,
      k_least_left_out := k_least_left_out,
      g_least_left_out := PySem.W.mg_of X G a_least_left_out,
      F_always_left_out := fun_mk (st := s_always_left_out) l_always_left_out c_always_left_out k_always_left_out,
      b_always_left_out := (fun_mk (st := s_always_left_out) l_always_left_out c_always_left_out k_always_left_out).binds (ps := ps_always_left_out) fun _ _ _ _ _ _ us hl => match us, hl with | [_, _], _ => rfl,
      k_always_left_out := k_always_left_out,
      g_always_left_out := PySem.W.mg_of X G a_always_left_out,
      F_least_spread := fun_mk (st := s_least_spread) l_least_spread c_least_spread k_least_spread,
      b_least_spread := (fun_mk (st := s_least_spread) l_least_spread c_least_spread k_least_spread).binds (ps := ps_least_spread) fun _ _ _ _ _ _ us hl => match us, hl with | [_, _], _ => rfl,
      k_least_spread := k_least_spread,
      g_least_spread := PySem.W.mg_of X G a_least_spread,
      F_d_law_told := fun_mk (st := s_d_law_told) l_d_law_told c_d_law_told k_d_law_told,
      b_d_law_told := (fun_mk (st := s_d_law_told) l_d_law_told c_d_law_told k_d_law_told).binds (ps := ps_d_law_told) fun _ _ _ _ _ _ us hl => match us, hl with | [_, _, _, _], _ => rfl,
      k_d_law_told := k_d_law_told,
      g_d_law_told := PySem.W.mg_of X G a_d_law_told,
      F_law := fun_mk (st := s_law) l_law c_law k_law,
      b_law := (fun_mk (st := s_law) l_law c_law k_law).binds (ps := ps_law) fun _ _ _ _ _ _ us hl => match us, hl with | [_], _ => rfl,
      k_law := k_law,
      g_law := PySem.W.mg_of X G a_law,
      ox_BadNumber := ⟨⟨_, _, _, _, _, _, _, _, _, _, _, _, _, _, _, x_BadNumber, by rfl⟩, sa_BadNumber, be_BadNumber, ty_BadNumber, kc_BadNumber⟩,
      i_BadNumber := a_BadNumber_new,
      ti_BadNumber := ti_BadNumber,
      ox_BadArgument := ⟨⟨_, _, _, _, _, _, _, _, _, _, _, _, _, _, _, x_BadArgument, by rfl⟩, sa_BadArgument, be_BadArgument, ty_BadArgument, kc_BadArgument⟩,
      i_BadArgument := a_BadArgument_new,
      ti_BadArgument := ti_BadArgument,
      oi_MarksError := ⟨PySem.W.mg_of X G a_MarksError, og_MarksError, or_MarksError, of_MarksError⟩,
      no_BadArgument_value := no_BadArgument_value,
      no_BadNumber_number := no_BadNumber_number,
      xf_BadArgument := ⟨ga_BadArgument, gg_BadArgument, be_BadArgument, hd_BadArgument⟩,
      xf_BadNumber := ⟨ga_BadNumber, gg_BadNumber, be_BadNumber, hd_BadNumber⟩,
      cl_Crowd := ⟨pg_Crowd, hd_Crowd, po_Crowd, sa_Crowd⟩,
      cl_Page := ⟨pg_Page, hd_Page, po_Page, sa_Page⟩,
      mk_Crowd := ⟨mm_Crowd, a_Crowd_new, mf_Crowd, kc_Crowd⟩,
      mk_Page := ⟨mm_Page, a_Page_new, mf_Page, kc_Page⟩,
      m_Crowd__ucontains_u := ⟨a_Crowd__ucontains_u, mf_Crowd__ucontains_u, k_Crowd__ucontains_u⟩,
      m_Crowd_pairs := ⟨a_Crowd_pairs, mf_Crowd_pairs, k_Crowd_pairs⟩,
      m_Crowd_is_pair := ⟨a_Crowd_is_pair, mf_Crowd_is_pair, k_Crowd_is_pair⟩,
      p_Crowd_people := ⟨a_Crowd_people, pg_Crowd_people, pt_Crowd_people, _, pr_Crowd_people⟩,
      fl_own_places_6 := ⟨(all_cons ⟨pg_Crowd, hd_Crowd, po_Crowd, sa_Crowd⟩ (fun _ h => nomatch h)), (all_cons na_own_places_6 (fun _ h => nomatch h))⟩,
      fl_most_6 := ⟨(all_cons ⟨pg_Crowd, hd_Crowd, po_Crowd, sa_Crowd⟩ (fun _ h => nomatch h)), (all_cons na_most_6 (fun _ h => nomatch h))⟩,
      fl_own_marks_7 := ⟨(all_cons ⟨pg_Page, hd_Page, po_Page, sa_Page⟩ (fun _ h => nomatch h)), (all_cons na_own_marks_7 (fun _ h => nomatch h))⟩,
      fl_crowd_7 := ⟨(all_cons ⟨pg_Page, hd_Page, po_Page, sa_Page⟩ (fun _ h => nomatch h)), (all_cons na_crowd_7 (fun _ h => nomatch h))⟩,
      isi := ⟨(all_cons ko_Crowd.cl (all_cons ko_Page.cl (fun _ h => nomatch h))), (all_cons ko_Crowd.ha (all_cons ko_Page.ha (fun _ h => nomatch h))), (all_cons ko_Crowd.hm (all_cons ko_Page.hm (fun _ h => nomatch h))), gs0, gs1, (all_cons (all_cons (own_kit ic_Crowd ty_Crowd su_Crowd_Crowd (.inl rfl)) (all_cons (own_kit ic_Page ty_Page su_Crowd_Page (.inr ne_6_7)) (fun _ h => nomatch h))) (all_cons (all_cons (own_kit ic_Crowd ty_Crowd su_Page_Crowd (.inr ne_7_6)) (all_cons (own_kit ic_Page ty_Page su_Page_Page (.inl rfl)) (fun _ h => nomatch h))) (fun _ h => nomatch h))), (fun t => (all_cons (ko_Crowd.bo t) (all_cons (ko_Page.bo t) (fun _ h => nomatch h)))), (all_cons ko_Crowd.ob (all_cons ko_Page.ob (fun _ h => nomatch h)))⟩,
      ex_d_law_told_BadArgument := (all_cons (PySem.W.exm_ref be_BadArgument hd_BadArgument ty_BadArgument su_BadArgument_BadArgument) (all_cons (PySem.W.exm_ref be_BadArgument hd_BadArgument ty_BadArgument su_BadNumber_BadArgument) (fun _ h => nomatch h))),
      ex_d_law_told_BadNumber := (all_cons (PySem.W.exm_ref be_BadNumber hd_BadNumber ty_BadNumber su_BadArgument_BadNumber) (all_cons (PySem.W.exm_ref be_BadNumber hd_BadNumber ty_BadNumber su_BadNumber_BadNumber) (fun _ h => nomatch h))) }
  exact ⟨_, fun s v => .of_eq rfl, fun base _ _ => law_ok rfl (ok_law (T base))⟩
end Own


open PySem PySem.W PyProof.Rows L2 M
set_option maxRecDepth 100000 in
set_option maxHeartbeats 0 in
theorem PySem.Challenge.cw_ownmarks_k82_clashes_holds : PySem.Challenge.rw_ownmarks_k82_clashes.Holds := by
  w_on; o_law; k_head; (case hw => w_witness2)
  k_fill
  refine M.walkMG (l := PySem.Challenge.rw_ownmarks_k82_clashes) 8 "_law_script" rfl rfl ⟨rfl, by decide, by decide⟩ (fun w h Y => PySem.W.kIn_of Y) ?F
  case F =>
    intro w mg fa h KX G hmg
    refine' Own.all_mk KX G hmg ?z_range ?z_int ?z_max ?z_len ?z_isinstance ?z_all ?z_str ?z_tuple ?z_bool ?z_dict ?z_list ?z_enumerate ?z_any ?z_repr ?z_min ?q_LETTERS ?q_MOST_SIGNS ?q_MOST_PEOPLE ?q_MOST_MARK ?a_MarksError ?a_BadArgument ?a_BadNumber ?a_Crowd ?a_Page ?a_d_law_numbers ?l_d_law_numbers ?c_d_law_numbers ?k_d_law_numbers ?a_d_law_opened ?l_d_law_opened ?c_d_law_opened ?k_d_law_opened ?a_d_law_draw ?l_d_law_draw ?c_d_law_draw ?k_d_law_draw ?a_d_law_words ?l_d_law_words ?c_d_law_words ?k_d_law_words ?a_d_law_pairs ?l_d_law_pairs ?c_d_law_pairs ?k_d_law_pairs ?a_d_law_marks ?l_d_law_marks ?c_d_law_marks ?k_d_law_marks ?a_check_crowd ?l_check_crowd ?c_check_crowd ?k_check_crowd ?a_Crowd_pairs ?l_Crowd_pairs ?c_Crowd_pairs ?k_Crowd_pairs ?a_is_word ?l_is_word ?c_is_word ?k_is_word ?a_Crowd__ucontains_u ?l_Crowd__ucontains_u ?c_Crowd__ucontains_u ?k_Crowd__ucontains_u ?a_Crowd_is_pair ?l_Crowd_is_pair ?c_Crowd_is_pair ?k_Crowd_is_pair ?a_is_count ?l_is_count ?c_is_count ?k_is_count ?a_is_mark ?l_is_mark ?c_is_mark ?k_is_mark ?a_Page_new ?l_Page_new ?c_Page_new ?k_Page_new ?a_are_people ?l_are_people ?c_are_people ?k_are_people ?a_Crowd_new ?l_Crowd_new ?c_Crowd_new ?k_Crowd_new ?a_d_law_clashes ?l_d_law_clashes ?c_d_law_clashes ?k_d_law_clashes ?a_BadArgument_new ?l_BadArgument_new ?c_BadArgument_new ?k_BadArgument_new ?a_BadNumber_new ?l_BadNumber_new ?c_BadNumber_new ?k_BadNumber_new ?a_check_spread ?l_check_spread ?c_check_spread ?k_check_spread ?a_couples ?l_couples ?c_couples ?k_couples ?a_Crowd_people ?pg_Crowd_people ?pt_Crowd_people ?pr_Crowd_people ?l_Crowd_people ?c_Crowd_people ?k_Crowd_people ?a_differs_by ?l_differs_by ?c_differs_by ?k_differs_by ?a_clashes ?l_clashes ?c_clashes ?k_clashes ?a_goes_together ?l_goes_together ?c_goes_together ?k_goes_together ?a_least_left_out ?l_least_left_out ?c_least_left_out ?k_least_left_out ?a_always_left_out ?l_always_left_out ?c_always_left_out ?k_always_left_out ?a_least_spread ?l_least_spread ?c_least_spread ?k_least_spread ?a_d_law_told ?l_d_law_told ?c_d_law_told ?k_d_law_told ?a_law ?l_law ?c_law ?k_law ?x_BadNumber ?sa_BadNumber ?be_BadNumber ?ty_BadNumber ?kc_BadNumber ?ti_BadNumber ?x_BadArgument ?sa_BadArgument ?be_BadArgument ?ty_BadArgument ?kc_BadArgument ?ti_BadArgument ?og_MarksError ?or_MarksError ?of_MarksError ?no_BadArgument_value ?no_BadNumber_number ?ga_BadArgument ?gg_BadArgument ?hd_BadArgument ?ga_BadNumber ?gg_BadNumber ?hd_BadNumber ?gs0 ?gs1 ?pg_Crowd ?hd_Crowd ?po_Crowd ?sa_Crowd ?pg_Page ?hd_Page ?po_Page ?sa_Page ?mm_Crowd ?mf_Crowd ?kc_Crowd ?mm_Page ?mf_Page ?kc_Page ?mf_Crowd__ucontains_u ?mf_Crowd_pairs ?mf_Crowd_is_pair ?na_own_places_6 ?na_most_6 ?na_own_marks_7 ?na_crowd_7 ?hc_Crowd ?hm_Crowd ?ic_Crowd ?ty_Crowd ?b0_Crowd ?c0_Crowd ?b1_Crowd ?c1_Crowd ?b2_Crowd ?c2_Crowd ?b3_Crowd ?c3_Crowd ?b4_Crowd ?c4_Crowd ?b5_Crowd ?c5_Crowd ?b6_Crowd ?c6_Crowd ?su_Crowd_Crowd ?su_Crowd_Page ?ne_6_7 ?hc_Page ?hm_Page ?ic_Page ?ty_Page ?b0_Page ?c0_Page ?b1_Page ?c1_Page ?b2_Page ?c2_Page ?b3_Page ?c3_Page ?b4_Page ?c4_Page ?b5_Page ?c5_Page ?b6_Page ?c6_Page ?su_Page_Crowd ?ne_7_6 ?su_Page_Page ?su_BadArgument_BadNumber ?su_BadNumber_BadNumber ?su_BadArgument_BadArgument ?su_BadNumber_BadArgument
    (case z_range => k_is)
    (case z_int => k_is)
    (case z_max => k_is)
    (case z_len => k_is)
    (case z_isinstance => k_is)
    (case z_all => k_is)
    (case z_str => k_is)
    (case z_tuple => k_is)
    (case z_bool => k_is)
    (case z_dict => k_is)
    (case z_list => k_is)
    (case z_enumerate => k_is)
    (case z_any => k_is)
    (case z_repr => k_is)
    (case z_min => k_is)
    (case q_LETTERS => k_is)
    (case q_MOST_SIGNS => k_is)
    (case q_MOST_PEOPLE => k_is)
    (case q_MOST_MARK => k_is)
    (case a_MarksError => k_is)
    (case a_BadArgument => k_is)
    (case a_BadNumber => k_is)
    (case a_Crowd => k_is)
    (case a_Page => k_is)
    (case a_d_law_numbers => k_is)
    (case l_d_law_numbers => k_is)
    (case c_d_law_numbers => k_is)
    (case k_d_law_numbers => k_is)
    (case a_d_law_opened => k_is)
    (case l_d_law_opened => k_is)
    (case c_d_law_opened => k_is)
    (case k_d_law_opened => k_is)
    (case a_d_law_draw => k_is)
    (case l_d_law_draw => k_is)
    (case c_d_law_draw => k_is)
    (case k_d_law_draw => k_is)
    (case a_d_law_words => k_is)
    (case l_d_law_words => k_is)
    (case c_d_law_words => k_is)
    (case k_d_law_words => k_is)
    (case a_d_law_pairs => k_is)
    (case l_d_law_pairs => k_is)
    (case c_d_law_pairs => k_is)
    (case k_d_law_pairs => k_is)
    (case a_d_law_marks => k_is)
    (case l_d_law_marks => k_is)
    (case c_d_law_marks => k_is)
    (case k_d_law_marks => k_is)
    (case a_check_crowd => k_is)
    (case l_check_crowd => k_is)
    (case c_check_crowd => k_is)
    (case k_check_crowd => k_is)
    (case a_Crowd_pairs => k_is)
    (case l_Crowd_pairs => k_is)
    (case c_Crowd_pairs => k_is)
    (case k_Crowd_pairs => k_is)
    (case a_is_word => k_is)
    (case l_is_word => k_is)
    (case c_is_word => k_is)
    (case k_is_word => k_is)
    (case a_Crowd__ucontains_u => k_is)
    (case l_Crowd__ucontains_u => k_is)
    (case c_Crowd__ucontains_u => k_is)
    (case k_Crowd__ucontains_u => k_is)
    (case a_Crowd_is_pair => k_is)
    (case l_Crowd_is_pair => k_is)
    (case c_Crowd_is_pair => k_is)
    (case k_Crowd_is_pair => k_is)
    (case a_is_count => k_is)
    (case l_is_count => k_is)
    (case c_is_count => k_is)
    (case k_is_count => k_is)
    (case a_is_mark => k_is)
    (case l_is_mark => k_is)
    (case c_is_mark => k_is)
    (case k_is_mark => k_is)
    (case a_Page_new => k_is)
    (case l_Page_new => k_is)
    (case c_Page_new => k_is)
    (case k_Page_new => k_is)
    (case a_are_people => k_is)
    (case l_are_people => k_is)
    (case c_are_people => k_is)
    (case k_are_people => k_is)
    (case a_Crowd_new => k_is)
    (case l_Crowd_new => k_is)
    (case c_Crowd_new => k_is)
    (case k_Crowd_new => k_is)
    (case a_d_law_clashes => k_is)
    (case l_d_law_clashes => k_is)
    (case c_d_law_clashes => k_is)
    (case k_d_law_clashes => k_is)
    (case a_BadArgument_new => k_is)
    (case l_BadArgument_new => k_is)
    (case c_BadArgument_new => k_is)
    (case k_BadArgument_new => k_is)
    (case a_BadNumber_new => k_is)
    (case l_BadNumber_new => k_is)
    (case c_BadNumber_new => k_is)
    (case k_BadNumber_new => k_is)
    (case a_check_spread => k_is)
    (case l_check_spread => k_is)
    (case c_check_spread => k_is)
    (case k_check_spread => k_is)
    (case a_couples => k_is)
    (case l_couples => k_is)
    (case c_couples => k_is)
    (case k_couples => k_is)
    (case a_Crowd_people => k_is)
    (case pg_Crowd_people => k_is)
    (case pt_Crowd_people => k_is)
    (case pr_Crowd_people => k_is)
    (case l_Crowd_people => k_is)
    (case c_Crowd_people => k_is)
    (case k_Crowd_people => k_is)
    (case a_differs_by => k_is)
    (case l_differs_by => k_is)
    (case c_differs_by => k_is)
    (case k_differs_by => k_is)
    (case a_clashes => k_is)
    (case l_clashes => k_is)
    (case c_clashes => k_is)
    (case k_clashes => k_is)
    (case a_goes_together => k_is)
    (case l_goes_together => k_is)
    (case c_goes_together => k_is)
    (case k_goes_together => k_is)
    (case a_least_left_out => k_is)
    (case l_least_left_out => k_is)
    (case c_least_left_out => k_is)
    (case k_least_left_out => k_is)
    (case a_always_left_out => k_is)
    (case l_always_left_out => k_is)
    (case c_always_left_out => k_is)
    (case k_always_left_out => k_is)
    (case a_least_spread => k_is)
    (case l_least_spread => k_is)
    (case c_least_spread => k_is)
    (case k_least_spread => k_is)
    (case a_d_law_told => k_is)
    (case l_d_law_told => k_is)
    (case c_d_law_told => k_is)
    (case k_d_law_told => k_is)
    (case a_law => k_is)
    (case l_law => k_is)
    (case c_law => k_is)
    (case k_law => k_is)
    (case x_BadNumber => k_is)
    (case sa_BadNumber => k_is)
    (case be_BadNumber => k_is)
    (case ty_BadNumber => k_is)
    (case kc_BadNumber => k_is)
    (case ti_BadNumber => k_is)
    (case x_BadArgument => k_is)
    (case sa_BadArgument => k_is)
    (case be_BadArgument => k_is)
    (case ty_BadArgument => k_is)
    (case kc_BadArgument => k_is)
    (case ti_BadArgument => k_is)
    (case og_MarksError => k_is)
    (case or_MarksError => k_is)
    (case of_MarksError => k_is)
    (case no_BadArgument_value => k_is)
    (case no_BadNumber_number => k_is)
    (case ga_BadArgument => k_is)
    (case gg_BadArgument => k_is)
    (case hd_BadArgument => k_is)
    (case ga_BadNumber => k_is)
    (case gg_BadNumber => k_is)
    (case hd_BadNumber => k_is)
    (case gs0 => k_is)
    (case gs1 => k_is)
    (case pg_Crowd => k_is)
    (case hd_Crowd => k_is)
    (case po_Crowd => k_is)
    (case sa_Crowd => k_is)
    (case pg_Page => k_is)
    (case hd_Page => k_is)
    (case po_Page => k_is)
    (case sa_Page => k_is)
    (case mm_Crowd => k_is)
    (case mf_Crowd => k_is)
    (case kc_Crowd => k_is)
    (case mm_Page => k_is)
    (case mf_Page => k_is)
    (case kc_Page => k_is)
    (case mf_Crowd__ucontains_u => k_is)
    (case mf_Crowd_pairs => k_is)
    (case mf_Crowd_is_pair => k_is)
    (case na_own_places_6 => k_is)
    (case na_most_6 => k_is)
    (case na_own_marks_7 => k_is)
    (case na_crowd_7 => k_is)
    (case hc_Crowd => k_is)
    (case hm_Crowd => k_is)
    (case ic_Crowd => k_is)
    (case ty_Crowd => k_is)
    (case b0_Crowd => k_is)
    (case c0_Crowd => k_is)
    (case b1_Crowd => k_is)
    (case c1_Crowd => k_is)
    (case b2_Crowd => k_is)
    (case c2_Crowd => k_is)
    (case b3_Crowd => k_is)
    (case c3_Crowd => k_is)
    (case b4_Crowd => k_is)
    (case c4_Crowd => k_is)
    (case b5_Crowd => k_is)
    (case c5_Crowd => k_is)
    (case b6_Crowd => k_is)
    (case c6_Crowd => k_is)
    (case su_Crowd_Crowd => k_is)
    (case su_Crowd_Page => k_is)
    (case ne_6_7 => decide)
    (case hc_Page => k_is)
    (case hm_Page => k_is)
    (case ic_Page => k_is)
    (case ty_Page => k_is)
    (case b0_Page => k_is)
    (case c0_Page => k_is)
    (case b1_Page => k_is)
    (case c1_Page => k_is)
    (case b2_Page => k_is)
    (case c2_Page => k_is)
    (case b3_Page => k_is)
    (case c3_Page => k_is)
    (case b4_Page => k_is)
    (case c4_Page => k_is)
    (case b5_Page => k_is)
    (case c5_Page => k_is)
    (case b6_Page => k_is)
    (case c6_Page => k_is)
    (case su_Page_Crowd => k_is)
    (case ne_7_6 => decide)
    (case su_Page_Page => k_is)
    (case su_BadArgument_BadNumber => k_is)
    (case su_BadNumber_BadNumber => k_is)
    (case su_BadArgument_BadArgument => k_is)
    (case su_BadNumber_BadArgument => k_is)

