import PyProof.Rows.All
import Wide.All
import OpenK.AllK
import Wide.FinOn
import HandS.ForMost
import HandS.Exc
import HandS.ExcInit
import HandS.DictComp
import HandS.IsInst
import HandS.Wide
import KE.GoesEnum
import HandS.TryOnly
import HandS.TryMany
import HandS.ExcOwn
import HandS.ExcIs
import HandS.ExcField
import HandS.CallSlots
import HandS.WordsExc
import KE.KExcIs
import HandS.TupAny
import PySem.Challenge.RW_ownmarks_k03_crowds_refused
set_option Elab.async false
set_option linter.all false
set_option maxRecDepth 100000
set_option maxHeartbeats 4000000
/-! rules of our own, over the hand layer -/
namespace L2
open PySem PySem.Spec PyProof.Rows

/-! ### either of two rules -/
theorem pe_or2 {X : Cx} {e : Expr} {t u : TE} (h1 : PE X e t) (h2 : PE X e u) : PE X e (fun σ H Q => t σ H Q ∨ u σ H Q) :=
  ⟨fun pins s σ H Q I h => h.elim (h1.run pins s σ H Q I) (h2.run pins s σ H Q I)⟩
theorem pi_or2 {X : Cx} {tg it : Expr} {t u : TI} (h1 : PI X tg it t) (h2 : PI X tg it u) : PI X tg it (fun σ H Q => t σ H Q ∨ u σ H Q) :=
  ⟨fun pins s σ H Q I h => h.elim (h1.run pins s σ H Q I) (h2.run pins s σ H Q I)⟩
theorem OpR.or2 {X : Cx} {f : Value → Value → Sem Value} {r r' : R2} (h : OpR X f r) (h' : OpR X f r') : OpR X f (fun x y H Q => r x y H Q ∨ r' x y H Q) :=
  fun pins s σ H x y v u Q I rx ry q => q.elim (h pins s σ H x y v u Q I rx ry) (h' pins s σ H x y v u Q I rx ry)
theorem CallR.or2 {X : Cx} {f : Value} {r r' : List V → Hp → VK → Prop} (h : CallR X f r) (h' : CallR X f r') : CallR X f (fun xs H Q => r xs H Q ∨ r' xs H Q) :=
  fun pins s σ H xs us Q I rx q => q.elim (h pins s σ H xs us Q I rx) (h' pins s σ H xs us Q I rx)

/-! ### enumerate(v) of what begins -/
/-- the object that counts, over the iterator at it -/
def counter (it : Addr) : Obj := { cls := .type "enumerate", data := .fields #[.none, .bool false, .ref it, rawInt 0, .none, .none] }
def withCounter (h : Heap) (o : Obj) : Heap := (h.push o).push (counter h.objs.size)
theorem withCounter_keeps {h : Heap} {o : Obj} : ∀ b u, h.get? b = some u → (withCounter h o).get? b = some u := fun _ _ k => Heap.get?_push_of_some _ (Heap.get?_push_of_some _ k)
theorem withCounter_enum {h : Heap} {o : Obj} : IsEnum (withCounter h o) (h.objs.size + 1) h.objs.size 0 .none := by
  have last := Heap.get?_push_size (h.push o) (o := counter h.objs.size) rfl
  rwa [Heap.size_push] at last
theorem withCounter_iter {h : Heap} {o : Obj} (f : o.isFreed = false) : (withCounter h o).get? h.objs.size = some o := Heap.get?_push_of_some _ (Heap.get?_push_size _ f)
theorem counts_new {v : Value} {o : Obj} {Hd : Heap → Prop} (B : Begins v o Hd) :
    Meets (Builtin.«enumerate.__new__» ⟨[.type "enumerate", v], []⟩) (fun _ R s => Hd s.heap ∧ R (.ok (.ret (.ref (s.heap.push o).objs.size))) { s with heap := withCounter s.heap o }) := by
  refine .of_wp fun P W A0 R0 s0 hyp => ?_
  cases s0
  rename_i h0 g0 d0 t0 os0
  have known := sub_enumerate
  have begun : ∀ {A1 : Around} {E1 : Value → Shared → Prop} {Q1 : Value → Shared → Prop}, Q1 (.ref h0.objs.size) ⟨h0.push o, g0, d0, t0, os0⟩ → wpAny (model P W) A1 (pyIter v) Q1 E1 ⟨h0, g0, d0, t0, os0⟩ :=
    fun {A1 E1 Q1} q => B.iter P W A1 E1 _ Q1 hyp.1 q
  wp_walk using begun
  refine wpAny_stack_any fun _ => wpAny_pure ?_
  split
  · rename_i cl _ _ _ _ _
    by_cases e : (cl == Value.type "enumerate") = true
    · rw [e]
      wp_walk using begun
      exact ⟨_, rfl, hyp.2⟩
    · rw [Bool.not_eq_true] at e
      rw [e]
      wp_walk using begun
      exact ⟨_, rfl, hyp.2⟩
  · wp_walk using begun
    exact ⟨_, rfl, hyp.2⟩
theorem counts_call {P : Program} {W : World} {A : Around} {E : Value → Shared → Prop} {s : Shared} {v : Value} {o : Obj} {Hd : Heap → Prop} {Q : Value → Shared → Prop} (B : Begins v o Hd) (there : Hd s.heap)
    (k : Q (.ref (s.heap.objs.size + 1)) { s with heap := withCounter s.heap o }) : wpAny (model P W) A (call (.type "enumerate") [v]) Q E s := by
  have top : (s.heap.push o).objs.size = s.heap.objs.size + 1 := Heap.size_push ..
  refine callType_new F.called_enumerate (by decide) (F.typeCall_enumerate_1 v) (F.newCall_enumerate_1 v) (fun x => F.args_object_init_2 x v) F.entry_enumerate_new (counts_new B) ⟨there, ?_⟩
  rw [top]
  exact ⟨⟨_, withCounter_enum, rfl⟩, k⟩

/-! ### a walk by enumerate over a tuple -/
def Itet (K : PySem.W.Frag) (a : Addr) : It :=
  ⟨fun i H => ∃ (xs : List V) (x : V), SqT K H a xs ∧ xs[i]? = some x, fun i H v H' => ∃ T x, v = .ref T ∧ H T = none ∧ H' = upd H T (.tup [.int (i : Nat), x]) ∧ ∀ xs, SqT K H a xs → xs[i]? = some x, fun i H => ∃ xs : List V, SqT K H a xs ∧ xs.length = i⟩
/-- behind i items: the counter at e, the iterator at it, the tuple at a -/
structure Counting (a e it : Addr) (i : Nat) (h : Heap) : Prop where
  cnt : ∃ old, IsEnum h e it (i : Int) old
  itr : h.IsTupleIter it a i
  ne : e ≠ it
theorem Counting.obj {a e it : Addr} {i : Nat} {h : Heap} (c : Counting a e it i h) : ∀ b, b ∈ [e, it] → ∃ o, h.get? b = some o ∧ ∀ v, o.data ≠ .cell v := by
  intro b hb
  rcases List.mem_cons.mp hb with rfl | hb
  · exact c.cnt.elim fun _ k => ⟨_, k, fun _ z => by cases z⟩
  · cases List.mem_singleton.mp hb
    obtain ⟨o, k, _, dt⟩ := c.itr
    exact ⟨o, k, fun _ z => by cases dt.symm.trans z⟩
theorem Counting.keep {a e it : Addr} {i : Nat} {h h' : Heap} (c : Counting a e it i h) (k : ∀ b, b ∈ [e, it] → ∀ o, h.get? b = some o → h'.get? b = some o) : Counting a e it i h' :=
  ⟨c.cnt.elim fun old z => ⟨old, k e List.mem_cons_self _ z⟩, c.itr.at (k it (List.mem_cons_of_mem _ List.mem_cons_self)), c.ne⟩
section
variable {X : Cx} {a e it : Addr} {i : Nat} {pins : List (Addr × Obj)} {s : Shared} {σ : St} {H : Hp} {E : Value → Shared → Prop}
theorem counting_item {elts : List Expr} {kk : Nat} {tpos : Pos} (hae : a ≠ e) (hai : a ≠ it) (calm : X.calm = true) (I : Inv X pins σ H s) (free : ∀ b, b ∈ [e, it] → FpOk X pins H b) (c : Counting a e it i s.heap) (go : (Itet X.K a).go i H) :
    wpAny (model X.prog X.w) X.A (pyNext (.ref e)) (fun r s1 => ∃ u, r = some u ∧ wpAny (model X.prog X.w) X.A (letOwnedTupleGo (.Tuple elts kk tpos) (.ref e) u)
      (fun _ s2 => ∃ x H', Inv X pins σ H' s2 ∧ RelV x u ∧ (Itet X.K a).yld i H x H' ∧ Counting a e it (i + 1) s2.heap ∧ ∀ b, b ∈ [e, it] → H' b = none) E s1) E s := by
  obtain ⟨xs, x, seq, at_⟩ := go
  obtain ⟨vals, same, tup, _⟩ := I.tuple seq
  obtain ⟨w, hw, rw'⟩ := same.get at_
  obtain ⟨old, cnt⟩ := c.cnt
  have inside : i < vals.toArray.size := by simpa using (List.getElem?_eq_some_iff.mp hw).1
  have apart : e ∉ [it, a] := fun z => (List.mem_cons.mp z).elim c.ne fun z => hae (List.mem_singleton.mp z).symm
  refine wpAny_pyNext_enum_itemD (Draws.tuple (prog := X.prog) (w := X.w) (A := X.A.in1) (I.ok.hd calm) it a hai vals.toArray) cnt ⟨c.itr, tup⟩ inside c.ne apart fun y h1 tk drawn out left pair size kept => ?_
  obtain rfl : w = y := Option.some.inj ((show vals.toArray[i]? = some w by simpa using hw).symm.trans drawn)
  refine ⟨_, rfl, wpAny_letOwnedTupleGo_enum (s := { s with heap := h1, toks := tk + 1 }) out fun h2 cnt2 but => ?_⟩
  have low : ∀ b, b ∈ [e, it] → b < s.heap.objs.size := fun b hb => let ⟨_, k, _⟩ := c.obj b hb; Heap.lt_size k
  have pair2 : h2.get? s.heap.objs.size = some { cls := .type "tuple", data := .seq #[.int i tk, w] } := (but.2 _ (Nat.ne_of_gt (low e List.mem_cons_self))).trans pair
  refine ⟨.ref s.heap.objs.size, _, I.turnedNew (ob := .tup [.int (i : Nat), x]) (ch := [e, it]) (fun b o out k => ?_) free (Nat.le_refl _) ⟨(show 2 ≤ sizeLine by decide), [.int i tk, w], .cons ⟨tk, rfl⟩ (.cons rw' .nil), _, pair2, rfl, _, rfl⟩, rfl,
    ⟨_, x, rfl, I.hok.fresh (Nat.le_refl _), rfl, fun ys other => I.tuple_inj seq other ▸ at_⟩, ⟨⟨w, by simpa using cnt2⟩, left.1.at fun o k => (but.2 it c.ne.symm).trans k, c.ne⟩, fun b hb => ?_⟩
  · have be : b ≠ e := fun z => out (z ▸ List.mem_cons_self)
    have bi : b ≠ it := fun z => out (z ▸ List.mem_cons_of_mem _ List.mem_cons_self)
    exact (but.2 b be).trans (kept b o be bi k)
  · rw [upd_ne (Nat.ne_of_lt (low b hb))]
    exact (free b hb).1
theorem counting_done (hai : a ≠ it) (calm : X.calm = true) (I : Inv X pins σ H s) (free : ∀ b, b ∈ [e, it] → FpOk X pins H b) (c : Counting a e it i s.heap) (stop : (Itet X.K a).stop i H) :
    wpAny (model X.prog X.w) X.A (pyNext (.ref e)) (fun r s1 => r = none ∧ Inv X pins σ H s1) E s := by
  obtain ⟨xs, seq, size⟩ := stop
  obtain ⟨vals, same, tup, _⟩ := I.tuple seq
  obtain ⟨old, cnt⟩ := c.cnt
  have all : vals.toArray.size = i := by rw [List.size_toArray, ← same.length, size]
  refine wpAny_pyNext_enum_endD (Draws.tuple (prog := X.prog) (w := X.w) (A := X.A.in1) (I.ok.hd calm) it a hai vals.toArray) cnt ⟨all ▸ c.itr, tup⟩ fun h1 ext => ⟨rfl, ?_⟩
  have f := free it (List.mem_cons_of_mem _ List.mem_cons_self)
  exact I.turned (t' := s.toks) ext f.1 f.2.1 f.2.2.2.1 f.2.2.2.2.1 f.2.2.2.2.2
end
theorem turn_count {P : Program} {w : World} {K : PySem.W.Frag} {elts : List Expr} {kk : Nat} {tpos : Pos} {a e it : Addr} (hae : a ≠ e) (hai : a ≠ it) : Turn P w K (.Tuple elts kk tpos) (Itet K a) [e, it] e (Counting a e it) where
  mem := List.mem_cons_self
  obj := fun _ _ c => c.obj
  keep := fun _ _ _ c k => c.keep k
  item := by
    rintro X rfl rfl rfl calm i pins s σ H E I free c go
    exact counting_item hae hai calm I free c go
  done := by
    rintro X rfl rfl rfl calm i pins s σ H E I free c stop
    exact counting_done hai calm I free c stop
  self := fun _ _ _ _ _ c k => c.cnt.elim fun _ z => wpAny_pyIter_enum z k
def iEnumT (K : PySem.W.Frag) (ta : TA) : TI := fun σ H R => ta σ H fun vs H1 => ∃ a xs, vs = [.ref a] ∧ SqT K H1 a xs ∧ R (Itet K a) H1
theorem pi_enumT {X : Cx} {e : Expr} {ta : TA} {p pos tpos : Pos} {elts : List Expr} {kk : Nat} (hg : Gl X "enumerate") (hm : X.mg "enumerate" = none) (ha : PA X [e] ta) (hs : starEach [e] X.env = [(false, eval e X.env)] := by rfl) :
    PI X (.Tuple elts kk tpos) (.Call (.Name "enumerate" p) [e] [] pos) (iEnumT X.K ta) := ⟨fun pins s σ H R I h =>
  Call_ (ld_blt I hg hm boot_enumerate (PyProof.Rows.callWith_type1 (thn (ha.run pos pins s σ H _ I h) fun us s1 got => by
    obtain ⟨vs, H1, I1, same, a, xs, rfl, seq, q⟩ := got
    obtain ⟨u, rfl, ru⟩ := vals1 same
    cases ru
    obtain ⟨vals, _, tup, _⟩ := I1.tuple seq
    have low : a < s1.heap.objs.size := let ⟨_, k, _⟩ := tup; Heap.lt_size k
    refine counts_call (begins_tuple a vals.toArray) tup (wpAny_pyIter_enum withCounter_enum ?_)
    have new : ∀ b, b ∈ [s1.heap.objs.size + 1, s1.heap.objs.size] → s1.heap.objs.size ≤ b := fun b hb => by
      rcases List.mem_cons.mp hb with rfl | hb
      · exact Nat.le_succ _
      · exact Nat.le_of_eq (List.mem_singleton.mp hb).symm
    exact ⟨_, [s1.heap.objs.size + 1, s1.heap.objs.size], Counting a _ _, Itet X.K a, H1, rfl, I1.kept (t' := s1.toks) withCounter_keeps, turn_count (Nat.ne_of_lt (Nat.lt_succ_of_lt low)) (Nat.ne_of_lt low),
      ⟨⟨_, withCounter_enum⟩, ⟨_, withCounter_iter rfl, rfl, rfl⟩, Nat.succ_ne_self _⟩, fun b hb => I1.fpOk (new b hb) (I1.hok.fresh (new b hb)), q⟩) hs rfl))⟩

/-! ### M.__init__(self, ..), M an own class over ValueError without one of its own -/
structure OInitC (K : PySem.W.Frag) (mg : Str → Option Value) (x : Str) (M : Addr) : Prop where
  gM : mg x = some (.ref M)
  hg : PySem.W.specialIn K (.ref M) "__getattribute__" = some (some (.builtin "type.__getattribute__"))
  hr : PySem.W.readsIn K M (.type "type") = true
  hf : PySem.W.findCls K (.ref M) (.type "type") "__init__" = some (.val (.builtin "ValueError.__init__"))
theorem pe_moinit {X : Cx} {x : Str} {M : Addr} {e : Expr} {es : List Expr} {ta : TA} {p1 p2 pos : Pos} {pl : Sem Bool} (T : OInitC X.K X.mg x M) (hg : Gl X x) (ha : PA X (e :: es) ta)
    (text : eval (.Call (.Attribute (.Name x p1) "__init__" p2) (e :: es) [] pos) X.env = (do
      let c ← eval (.Name x p1) X.env
      standAt p2.atName
      let (g, before) ← holding [c] (getMethod c "__init__" pl)
      callWith pos g before (backTo pos (starEach (e :: es) X.env)) (backToKw pos (keywordEach [] X.env))) := by rfl)
    (name : (x == ("__debug__" : Str)) = false := by decide) (one : starEach (e :: es) X.env = (false, eval e X.env) :: starEach es X.env := by rfl) (rest : (backTo pos (starEach es X.env)).any (·.1) = false := by rfl) :
    PE X (.Call (.Attribute (.Name x p1) "__init__" p2) (e :: es) [] pos) (tVeI X.K ta) := ⟨fun pins s σ H Q I h => by
  have args : wpAny (model X.prog X.w) X.A (callWith pos (Value.builtin "ValueError.__init__") [] (backTo pos (starEach (e :: es) X.env)) (backToKw pos (keywordEach [] X.env))) (EP X pins σ Q) X.xe { s with toks := s.toks + 1 } := by
    refine PyProof.Rows.callWith_method1 (thn (ha.run pos pins _ σ H _ (I.tok _) h) fun us s1 got => ?_) one rest
    obtain ⟨vs, H1, I1, same, a, C, more, rfl, few, ox, at_, q⟩ := got
    cases same with
    | cons first others =>
      cases first
      have := others.length
      exact oinit_ok ox I1 at_ (by rw [sizeLine_eq]; omega) fun s2 J => ⟨.non, H1, J, rfl, q⟩
  exact PySem.W.methodCall_KW (ld_glob I hg T.gM (PySem.W.method_cls I.kIn T.hg (PySem.W.cls_value I.kIn T.hr T.hf (by decide +kernel) args)) name) text⟩
end L2


namespace L2
open PySem PySem.Spec PyProof.Rows
/-- isinstance(e, c), e the caught exception at a that has an own dict -/
def rIsX (K : PySem.W.Frag) (a : Addr) (cls : Value) (d : Option Addr) : List V → Hp → VK → Prop := fun xs H Q => ∃ (D : Addr) (c : V) (cv : Value) (b : Bool) (dd : Addr) (fs : List (Str × V)), xs = [.ref a, c] ∧ cls = .ref D ∧ ExcC K D ∧ d = some dd ∧ H dd = some (.xd fs) ∧ (∀ u, RelV c u → u = cv) ∧ PySem.W.kitOne K (.ref D) cv = some b ∧ Q (.bl b) H
theorem call_isX {X : Cx} {a : Addr} {oe : Obj} {cls : Value} {d : Option Addr} {pn : List (Addr × Obj)} (hz : Zc cls d oe) (hf : ∃ vs, oe.data = .fields vs) : CallR (X.suite a ((a, oe) :: pn)) (.builtin "isinstance") (rIsX X.K a cls d) := by
  rintro pins s σ H _ us Q I same ⟨D, c, cv, b, dd, fs, rfl, rfl, C, rfl, ed, known, answer, q⟩
  obtain ⟨u1, u2, rfl, r1, r2⟩ := vals2 same
  cases r1
  obtain rfl := known u2 r2
  have there := (I.pin (a, oe) (List.mem_append_left _ List.mem_cons_self)).1
  obtain ⟨vs, fields⟩ := hf
  obtain ⟨mA, ns, _⟩ := (show ObjOk X.prog X.w H s.heap dd (.xd fs) from I.hok dd _ ed)
  obtain ⟨od, es, ep, hod, _⟩ := ns
  have inst : PySem.W.InstAt s.heap a oe D (some od) := ⟨there, hz.1, by unfold PySem.W.notCls; rw [fields], by rw [hz.2]; exact hod⟩
  have isClass : (PySem.W.clsIn X.K D).isSome = true := by
    obtain ⟨cd, k, _⟩ := PySem.W.any_some C.hd
    rw [k]
    rfl
  exact PySem.W.kia_one (PySem.W.kitx_exc isClass C.hg C.hk C.hs C.ha C.hn C.ht C.hm) I.kIn inst answer (fun z => by cases z) fun tk => ⟨.bl b, H, I.kept (t' := tk) (fun _ _ k => k), rfl, q⟩

/-! ### C(..) where what is raised is wished for at the caller's slots -/
section
variable {X : Cx} {k : Nat} {f C : Addr} {fd : FuncData} {ps : List Str} {sp : Sp} {E : St → XK} {x : Str} {p pos : Pos} {e : Expr} {es : List Expr} {t : TA}
/-- what is asked of the heap in which the arguments stand: for every new instance, with its own dict, the promise of __init__ -/
def MakeWish (C : Addr) (sp : Sp) (vs : List V) (H : Hp) (Q : VK) (out : XK) : Prop := ∀ o dx, H o = none → H dx = none → dx ≠ o → sp (.ref o :: vs) (upd (upd H dx (.own o)) o (.ins C dx [])) (fun v H2 => v = .non ∧ Q (.ref o) H2) out
theorem made_call {pins : List (Addr × Obj)} {σ : St} {H : Hp} {s : Shared} {Q : VK} {us : List Value} {vs : List V} (M : Mk X.K C f) (F : FnOk X.prog X.w X.K X.mg X.base (L2.CX X.prog X.w) k f fd ps sp) (room : Room (k + 1) X.A) (bd : Binds X.K fd ps [])
    (out : PassesAt (L2.CX X.prog X.w) X σ (E σ)) (I : Inv X pins σ H s) (args : Vals vs us) (wish : MakeWish C sp vs H Q (E σ)) : wpAny (model X.prog X.w) X.A (call (.ref C) us) (EP X pins σ Q) X.xe s := by
  generalize hn : s.heap.objs.size = n at *
  have freeAt : ∀ a, n ≤ a → H a = none := fun a h => I.hok.fresh (hn ▸ h)
  have J := Inv.made (C := C) I
  rw [hn] at J
  have goal := wish (n + 1) n (freeAt _ (Nat.le_succ n)) (freeAt _ (Nat.le_refl n)) (Nat.ne_of_lt (Nat.lt_succ_self n))
  have all : Vals (.ref (n + 1) :: vs) (.ref (n + 1) :: us) := .cons rfl args
  have bound := bd _ (.ref (n + 1) :: us) J.kIn (by rw [List.append_nil, ← all.length]; exact F.len _ _ _ _ goal)
  rw [List.append_nil] at bound
  have body := F.run (X.A.under (.builtin "type.__call__" ⟨.ref C :: us, []⟩)) X.stack _ _ ⟨.ref (n + 1) :: us, []⟩ _ _ _ (E σ) (room.make C us []) (J.env0.make C us []) bound all goal
  refine wpAny_call (make_map I.kIn M.makes M.init (beq_iff_eq.mp M.fn) ?_)
  rw [hn]
  refine codeAny_mono body fun r s' h => ?_
  match r, h with
  | .error er, h => exact out pins _ _ er s' J h
  | .ok (.ret u), h =>
    obtain ⟨v, H', K', same, rfl, q⟩ := J.after h
    exact ⟨same, .ref (n + 1), H', K', rfl, q⟩
def tMakeS (C : Addr) (sp : Sp) (E : St → XK) (t : TA) : TE := fun σ H Q => t σ H fun vs H1 => MakeWish C sp vs H1 Q (E σ)
theorem pe_makeS (M : Mk X.K C f) (F : FnOk X.prog X.w X.K X.mg X.base (L2.CX X.prog X.w) k f fd ps sp) (room : Room (k + 1) X.A) (hg : Gl X x) (hm : X.mg x = some (.ref C)) (bd : Binds X.K fd ps []) (out : ∀ σ, PassesAt (L2.CX X.prog X.w) X σ (E σ))
    (ha : PA X (e :: es) t) (name : (x == ("__debug__" : Str)) = false := by decide) (one : starEach (e :: es) X.env = (false, eval e X.env) :: starEach es X.env := by rfl) (rest : (backTo pos (starEach es X.env)).any (·.1) = false := by rfl) :
    PE X (.Call (.Name x p) (e :: es) [] pos) (tMakeS C sp E t) := ⟨fun pins s σ H Q I h =>
  wpAny_Call_Name_kw (ld_glob I hg hm (PySem.W.callWith_K (h₀ := X.base) I.ok.mod.kin M.kp (thn (ha.run pos pins s σ H _ I h) fun us s1 ⟨vs, H1, J, same, wish⟩ => ⟨J.kIn, made_call M F room bd (out σ) J same wish⟩) one rest) name)⟩
end

/-! ### raise X(y), X an own error that keeps its one field f -/
/-- the promise of its __init__ -/
def spXI (f : Str) (K : PySem.W.Frag) (C : Addr) : Sp := fun vs H Q _ => ∃ (a : Addr) (y : V), vs = [.ref a, y] ∧ H a = some (exo a C none) ∧ ∀ dx, H dx = none → dx ≠ a → Q .non (upd (upd H dx (exd dx [(f, y)])) a (exo a C (some dx)))
theorem mkO_k {f : Str} {K : PySem.W.Frag} {C : Addr} {y : V} {H1 : Hp} {Q : XK} (k : ∀ (d : Addr) (H' : Hp), H1 d = none → Same H1 H' → H' d = some (.xd [(f, y)]) → Q (.ref C) (some d) H') :
    [y].length ≤ 1000 ∧ ∀ a, H1 a = none → spXI f K C (.ref a :: ([y] ++ [])) (upd H1 a (exo a C none))
      (fun v H2 => v = .non ∧ ∃ (d : Addr) (fs : List (Str × V)), H2 a = some (exo a C (some d)) ∧ H2 d = some (exd d fs) ∧ H1 d = none ∧ Q (.ref C) (some d) (upd (del H2 a) d (.xd fs))) (fun _ _ _ => False) := by
  refine ⟨(by show 1 ≤ 1000; decide), fun a ha => ⟨a, y, rfl, upd_same, fun dx hdx hne => ⟨rfl, dx, [(f, y)], upd_same, ?_, ?_, ?_⟩⟩⟩
  · rw [upd_ne hne, upd_same]
  · rw [upd_ne hne] at hdx
    exact hdx
  · have hdx' : H1 dx = none := by
      rw [upd_ne hne] at hdx
      exact hdx
    refine k dx _ hdx' (fun b o e => ?_) upd_same
    have hbd : b ≠ dx := ne_of_none e hdx'
    have hba : b ≠ a := ne_of_none e ha
    rw [upd_ne hbd, del_ne hba, upd_ne hba, upd_ne hbd, upd_ne hba]
    exact e
end L2


/-! The M layer: pure data D, a store of cells, mirrors as shallow functions, one soundness lemma a construct. -/
namespace M
open PySem PySem.Spec PyProof.Rows L2

/-! ### data -/
inductive Tag where
  | non | bl | int | str | lst | tup | dic
  deriving DecidableEq
def Tag.name : Tag → String
  | .non => "NoneType" | .bl => "bool" | .int => "int" | .str => "str" | .lst => "list" | .tup => "tuple" | .dic => "dict"
inductive D where
  | non | bl (b : Bool) | int (i : Int) | str (x : Str) | ty (n : Tag)
  | lst (xs : List D) | tup (xs : List D) | ro (xs : List D)
  | dK (kvs : List (Key × D)) | dT (kvs : List (List Key × D))
  | obj (c : Nat) (fs : List (Str × D))
  | ptr (a : Addr) | cls (c : Nat) | ref (i : Nat)
inductive Cell where
  | lst (xs : List D) | dK (kvs : List (Key × D)) | dT (kvs : List (List Key × D)) | ins (c : Nat) (fs : List (Str × D)) | dead
abbrev Store := List Cell
/-- c: the live cells' addresses by index; h: what is hidden (a comprehension's list while it grows) -/
structure Lv where
  c : List (Option Addr)
  h : List Addr
def Dic (o : HO) : Prop := (∃ kvs, o = .dK kvs) ∨ ∃ kvs, o = .dT kvs
/-- what was there stays; a dict may be frozen -/
def Rl (H H' : Hp) : Prop := ∀ a o, H a = some o → H' a = some o ∨ (Dic o ∧ ∃ ob, H' a = some (.frz ob o))
theorem Rl.of_same {H H' : Hp} (s : Same H H') : Rl H H' := fun a o h => .inl (s a o h)
theorem Rl.stays {H H' : Hp} (s : Rl H H') {a : Addr} {o : HO} (h : H a = some o) (n : ¬ Dic o) : H' a = some o := (s a o h).elim id fun z => absurd z.1 n
theorem Rl.trans {H H1 H2 : Hp} (s : Rl H H1) (t : Rl H1 H2) : Rl H H2 := fun a o h => by
  rcases s a o h with h1 | ⟨d, ob, h1⟩
  · exact t a o h1
  · refine .inr ⟨d, ob, t.stays h1 ?_⟩
    rintro (⟨_, z⟩ | ⟨_, z⟩) <;> cases z
theorem Rl.lst {H H' : Hp} (s : Rl H H') (a : Addr) (vs : List V) (h : H a = some (.lst vs)) : H' a = some (.lst vs) := s.stays h (by rintro (⟨_, z⟩ | ⟨_, z⟩) <;> cases z)
theorem Rl.tup {H H' : Hp} (s : Rl H H') (a : Addr) (vs : List V) (h : H a = some (.tup vs)) : H' a = some (.tup vs) := s.stays h (by rintro (⟨_, z⟩ | ⟨_, z⟩) <;> cases z)
theorem Rl.ins {H H' : Hp} (s : Rl H H') (a C dx : Addr) (fs : List (Str × V)) (h : H a = some (.ins C dx fs)) : H' a = some (.ins C dx fs) := s.stays h (by rintro (⟨_, z⟩ | ⟨_, z⟩) <;> cases z)
theorem Rl.xd {H H' : Hp} (s : Rl H H') (a : Addr) (fs : List (Str × V)) (h : H a = some (.xd fs)) : H' a = some (.xd fs) := s.stays h (by rintro (⟨_, z⟩ | ⟨_, z⟩) <;> cases z)
theorem Rl.frz {H H' : Hp} (s : Rl H H') (a : Addr) (o : Obj) (u : HO) (h : H a = some (.frz o u)) : H' a = some (.frz o u) := s.stays h (by rintro (⟨_, z⟩ | ⟨_, z⟩) <;> cases z)
theorem Rl.rd {H H' : Hp} (s : Rl H H') (a : Addr) (u : HO) (h : Rd H a u) : Rd H' a u := by
  rcases h with h | ⟨o, h⟩
  · rcases s a u h with q | ⟨_, ob, q⟩
    · exact .inl q
    · exact .inr ⟨ob, q⟩
  · exact .inr ⟨o, s.frz a o u h⟩
/-- the facts of the code, and which class stands behind a number -/
structure Gb where
  K : PySem.W.Frag
  cA : Nat → Addr
/-- .. and what else is known at a point, and stays -/
structure Gm extends Gb where
  P : L2.St → Hp → Prop
  up : ∀ (σ : L2.St) (H H' : Hp), Rl H H' → P σ H → P σ H'
instance : Coe Gm Gb := ⟨Gm.toGb⟩
def Gm.flat (B : Gb) : Gm := ⟨B, fun _ _ => True, fun _ _ _ _ _ => True.intro⟩
def Gm.of (K : PySem.W.Frag) (cA : Nat → Addr) : Gm := Gm.flat ⟨K, cA⟩
/-- what is known hangs on no name -/
def Flat (G : Gm) : Prop := ∀ σ σ' H, G.P σ H → G.P σ' H

/-- the heap without the live cells -/
def off (L : Lv) (H : Hp) : Hp := fun a => if some a ∈ L.c ∨ a ∈ L.h then none else H a
theorem off_some {L : Lv} {H : Hp} {a : Addr} {o : HO} (h : off L H a = some o) : H a = some o ∧ ¬ (some a ∈ L.c ∨ a ∈ L.h) := by
  unfold off at h
  split at h
  · cases h
  · exact ⟨h, by assumption⟩
theorem off_of {L : Lv} {H : Hp} {a : Addr} {o : HO} (h : H a = some o) (n : ¬ (some a ∈ L.c ∨ a ∈ L.h)) : off L H a = some o := by
  unfold off
  rw [if_neg n]
  exact h

mutual
inductive Da (G : Gb) (H : Hp) : V → D → Prop
  | non : Da G H .non .non
  | bl (b : Bool) : Da G H (.bl b) (.bl b)
  | int (i : Int) : Da G H (.int i) (.int i)
  | str (x : Str) : Da G H (.str x) (.str x)
  | ty (n : Tag) : Da G H (.ty n.name) (.ty n)
  | ptr (a : Addr) : Da G H (.ref a) (.ptr a)
  | cls (c : Nat) : Da G H (.ref (G.cA c)) (.cls c)
  | lst {a : Addr} {vs : List V} {ds : List D} (h : H a = some (.lst vs)) (r : Das G H vs ds) : Da G H (.ref a) (.lst ds)
  | tup {a : Addr} {vs : List V} {ds : List D} (h : H a = some (.tup vs)) (r : Das G H vs ds) : Da G H (.ref a) (.tup ds)
  | ro {a : Addr} {vs : List V} {ds : List D} (h : SqL G.K H a vs) (r : Das G H vs ds) : Da G H (.ref a) (.ro ds)
  | dK {a : Addr} {vs : List (Key × V)} {ds : List (Key × D)} (h : Rd H a (.dK vs)) (r : DasK G H vs ds) : Da G H (.ref a) (.dK ds)
  | dT {a : Addr} {vs : List (List Key × V)} {ds : List (List Key × D)} (h : Rd H a (.dT vs)) (r : DasT G H vs ds) : Da G H (.ref a) (.dT ds)
  | obj {a dx : Addr} {c : Nat} {vs : List (Str × V)} {ds : List (Str × D)} (h : H a = some (.ins (G.cA c) dx vs)) (r : DasF G H vs ds) : Da G H (.ref a) (.obj c ds)
inductive Das (G : Gb) (H : Hp) : List V → List D → Prop
  | nil : Das G H [] []
  | cons {v : V} {vs : List V} {d : D} {ds : List D} (h : Da G H v d) (r : Das G H vs ds) : Das G H (v :: vs) (d :: ds)
inductive DasK (G : Gb) (H : Hp) : List (Key × V) → List (Key × D) → Prop
  | nil : DasK G H [] []
  | cons {k : Key} {v : V} {vs : List (Key × V)} {d : D} {ds : List (Key × D)} (h : Da G H v d) (r : DasK G H vs ds) : DasK G H ((k, v) :: vs) ((k, d) :: ds)
inductive DasT (G : Gb) (H : Hp) : List (List Key × V) → List (List Key × D) → Prop
  | nil : DasT G H [] []
  | cons {k : List Key} {v : V} {vs : List (List Key × V)} {d : D} {ds : List (List Key × D)} (h : Da G H v d) (r : DasT G H vs ds) : DasT G H ((k, v) :: vs) ((k, d) :: ds)
inductive DasF (G : Gb) (H : Hp) : List (Str × V) → List (Str × D) → Prop
  | nil : DasF G H [] []
  | cons {k : Str} {v : V} {vs : List (Str × V)} {d : D} {ds : List (Str × D)} (h : Da G H v d) (r : DasF G H vs ds) : DasF G H ((k, v) :: vs) ((k, d) :: ds)
end

/-- live cells: more, or dead -/
structure Le (L L' : Lv) : Prop where
  len : L.c.length ≤ L'.c.length
  at_ : ∀ (i : Nat) (a : Addr), i < L.c.length → L'.c[i]? = some (some a) → L.c[i]? = some (some a)
theorem Le.refl (L : Lv) : Le L L := ⟨Nat.le_refl _, fun _ _ _ h => h⟩
theorem Le.trans {L L1 L2 : Lv} (a : Le L L1) (b : Le L1 L2) : Le L L2 :=
  ⟨Nat.le_trans a.len b.len, fun i x hi h => a.at_ i x hi (b.at_ i x (Nat.lt_of_lt_of_le hi a.len) h)⟩

section
variable {G : Gb} {L L' : Lv} {H H' : Hp}
theorem Rl.sq {K : PySem.W.Frag} {a : Addr} {xs : List V} (r : Rl H H') (h : SqL K H a xs) : SqL K H' a xs := by
  rcases h with h | h
  · exact .inl (r.rd _ _ h)
  · exact .inr h
mutual
theorem Da.mono (s : Rl H H') : ∀ (d : D) (v : V), Da G H v d → Da G H' v d
  | .non, _, h => by cases h; exact .non
  | .bl _, _, h => by cases h; exact .bl _
  | .int _, _, h => by cases h; exact .int _
  | .str _, _, h => by cases h; exact .str _
  | .ty _, _, h => by cases h; exact .ty _
  | .ptr _, _, h => by cases h; exact .ptr _
  | .cls _, _, h => by cases h; exact .cls _
  | .ref i, _, h => nomatch h
  | .lst ds, _, h => by
    cases h with
    | lst h r => exact .lst (s.lst _ _ h) (Das.mono s ds _ r)
  | .tup ds, _, h => by
    cases h with
    | tup h r => exact .tup (s.tup _ _ h) (Das.mono s ds _ r)
  | .ro ds, _, h => by
    cases h with
    | ro h r => exact .ro (s.sq h) (Das.mono s ds _ r)
  | .dK ds, _, h => by
    cases h with
    | dK h r => exact .dK (s.rd _ _ h) (DasK.mono s ds _ r)
  | .dT ds, _, h => by
    cases h with
    | dT h r => exact .dT (s.rd _ _ h) (DasT.mono s ds _ r)
  | .obj c ds, _, h => by
    cases h with
    | obj h r => exact .obj (s.ins _ _ _ _ h) (DasF.mono s ds _ r)
theorem Das.mono (s : Rl H H') : ∀ (ds : List D) (vs : List V), Das G H vs ds → Das G H' vs ds
  | [], _, h => by cases h; exact .nil
  | d :: ds, _, h => by
    cases h with
    | cons h r => exact .cons (Da.mono s d _ h) (Das.mono s ds _ r)
theorem DasK.mono (s : Rl H H') : ∀ (ds : List (Key × D)) (vs : List (Key × V)), DasK G H vs ds → DasK G H' vs ds
  | [], _, h => by cases h; exact .nil
  | (k, d) :: ds, _, h => by
    cases h with
    | cons h r => exact .cons (Da.mono s d _ h) (DasK.mono s ds _ r)
theorem DasT.mono (s : Rl H H') : ∀ (ds : List (List Key × D)) (vs : List (List Key × V)), DasT G H vs ds → DasT G H' vs ds
  | [], _, h => by cases h; exact .nil
  | (k, d) :: ds, _, h => by
    cases h with
    | cons h r => exact .cons (Da.mono s d _ h) (DasT.mono s ds _ r)
theorem DasF.mono (s : Rl H H') : ∀ (ds : List (Str × D)) (vs : List (Str × V)), DasF G H vs ds → DasF G H' vs ds
  | [], _, h => by cases h; exact .nil
  | (k, d) :: ds, _, h => by
    cases h with
    | cons h r => exact .cons (Da.mono s d _ h) (DasF.mono s ds _ r)
end
theorem Das.length : ∀ {ds : List D} {vs : List V}, Das G H vs ds → vs.length = ds.length
  | [], _, h => by cases h; rfl
  | d :: ds, _, h => by
    cases h with
    | cons h r => simp [Das.length r]
theorem Das.get : ∀ {ds : List D} {vs : List V} {i : Nat} {v : V}, Das G H vs ds → vs[i]? = some v → ∃ d, ds[i]? = some d ∧ Da G H v d
  | [], _, _, _, h, e => by cases h; simp at e
  | d :: ds, _, 0, v, h, e => by
    cases h with
    | cons h r =>
      simp at e
      subst e
      exact ⟨d, rfl, h⟩
  | d :: ds, _, i + 1, v, h, e => by
    cases h with
    | cons h r => exact Das.get (i := i) r (by simpa using e)
theorem Das.getD : ∀ {ds : List D} {vs : List V} {i : Nat} {d : D}, Das G H vs ds → ds[i]? = some d → ∃ v, vs[i]? = some v ∧ Da G H v d
  | [], _, _, _, h, e => by simp at e
  | d :: ds, _, 0, x, h, e => by
    cases h with
    | cons h r =>
      simp at e
      subst e
      exact ⟨_, rfl, h⟩
  | d :: ds, _, i + 1, x, h, e => by
    cases h with
    | cons h r =>
      obtain ⟨v, q, z⟩ := Das.getD (i := i) r (by simpa using e)
      exact ⟨v, by simpa using q, z⟩
theorem Das.append : ∀ {ds es : List D} {vs us : List V}, Das G H vs ds → Das G H us es → Das G H (vs ++ us) (ds ++ es)
  | [], _, _, _, h, g => by cases h; exact g
  | d :: ds, _, _, _, h, g => by
    cases h with
    | cons h r => exact .cons h (Das.append r g)
theorem Das.take : ∀ {ds : List D} {vs : List V} (n : Nat), Das G H vs ds → Das G H (vs.take n) (ds.take n)
  | [], _, n, h => by cases h; simp; exact .nil
  | d :: ds, _, 0, h => .nil
  | d :: ds, _, n + 1, h => by
    cases h with
    | cons h r => exact .cons h (Das.take n r)
theorem Das.drop : ∀ {ds : List D} {vs : List V} (n : Nat), Das G H vs ds → Das G H (vs.drop n) (ds.drop n)
  | [], _, n, h => by cases h; simp; exact .nil
  | d :: ds, _, 0, h => h
  | d :: ds, _, n + 1, h => by
    cases h with
    | cons h r => exact Das.drop n r
theorem Das.erase : ∀ {ds : List D} {vs : List V} (n : Nat), Das G H vs ds → Das G H (vs.eraseIdx n) (ds.eraseIdx n)
  | [], _, n, h => by cases h; simp; exact .nil
  | d :: ds, _, 0, h => by
    cases h with
    | cons h r => exact r
  | d :: ds, _, n + 1, h => by
    cases h with
    | cons h r => exact .cons h (Das.erase n r)
theorem Das.reverse : ∀ {ds : List D} {vs : List V}, Das G H vs ds → Das G H vs.reverse ds.reverse
  | [], _, h => by cases h; exact .nil
  | d :: ds, _, h => by
    cases h with
    | cons h r =>
      rw [List.reverse_cons, List.reverse_cons]
      exact (Das.reverse r).append (.cons h .nil)
theorem Das.ints : ∀ (ns : List Int), Das G H (ns.map V.int) (ns.map D.int)
  | [] => .nil
  | n :: ns => .cons (.int n) (Das.ints ns)
end

/-- what a name or an argument may hold: data, or a live cell -/
inductive Va (G : Gb) (L : Lv) (H : Hp) : V → D → Prop
  | d {v : V} {d : D} (h : Da G H v d) : Va G L H v d
  | ref {a : Addr} {i : Nat} (hi : i < L.c.length) (h : ∀ b, L.c[i]? = some (some b) → a = b) : Va G L H (.ref a) (.ref i)
inductive Vas (G : Gb) (L : Lv) (H : Hp) : List V → List D → Prop
  | nil : Vas G L H [] []
  | cons {v : V} {vs : List V} {d : D} {ds : List D} (h : Va G L H v d) (r : Vas G L H vs ds) : Vas G L H (v :: vs) (d :: ds)
inductive VasF (G : Gb) (L : Lv) (H : Hp) : List (Str × V) → List (Str × D) → Prop
  | nil : VasF G L H [] []
  | cons {k : Str} {v : V} {vs : List (Str × V)} {d : D} {ds : List (Str × D)} (h : Va G L H v d) (r : VasF G L H vs ds) : VasF G L H ((k, v) :: vs) ((k, d) :: ds)
section
variable {G : Gb} {L L' : Lv} {H H' : Hp}
theorem Va.mono (l : Le L L') (s : Rl H H') {v : V} {d : D} (h : Va G L H v d) : Va G L' H' v d := by
  cases h with
  | d h => exact .d (Da.mono s d v h)
  | ref hi h => exact .ref (Nat.lt_of_lt_of_le hi l.len) fun b q => h b (l.at_ _ b hi q)
theorem Vas.mono (l : Le L L') (s : Rl H H') : ∀ {vs : List V} {ds : List D}, Vas G L H vs ds → Vas G L' H' vs ds
  | _, _, .nil => .nil
  | _, _, .cons h r => .cons (h.mono l s) (Vas.mono l s r)
theorem VasF.mono (l : Le L L') (s : Rl H H') : ∀ {vs : List (Str × V)} {ds : List (Str × D)}, VasF G L H vs ds → VasF G L' H' vs ds
  | _, _, .nil => .nil
  | _, _, .cons h r => .cons (h.mono l s) (VasF.mono l s r)
/-- no live cell -/
def isD : D → Bool
  | .ref _ => false
  | _ => true
theorem Va.da {v : V} {d : D} (h : Va G L H v d) (p : isD d = true) : Da G H v d := by
  cases h with
  | d h => exact h
  | ref _ _ => cases p
theorem Vas.das : ∀ {vs : List V} {ds : List D}, Vas G L H vs ds → ds.all isD = true → Das G H vs ds
  | _, _, .nil, _ => .nil
  | _, _, .cons h r, p => by
    rw [List.all_cons, Bool.and_eq_true] at p
    exact .cons (h.da p.1) (Vas.das r p.2)
theorem VasF.das : ∀ {vs : List (Str × V)} {ds : List (Str × D)}, VasF G L H vs ds → (ds.all fun p => isD p.2) = true → DasF G H vs ds
  | _, _, .nil, _ => .nil
  | _, _, .cons h r, p => by
    rw [List.all_cons, Bool.and_eq_true] at p
    exact .cons (h.da p.1) (VasF.das r p.2)
theorem Das.vas : ∀ {ds : List D} {vs : List V}, Das G H vs ds → Vas G L H vs ds
  | [], _, h => by cases h; exact .nil
  | d :: ds, _, h => by
    cases h with
    | cons h r => exact .cons (.d h) (Das.vas r)
theorem DasF.vas : ∀ {ds : List (Str × D)} {vs : List (Str × V)}, DasF G H vs ds → VasF G L H vs ds
  | [], _, h => by cases h; exact .nil
  | (k, d) :: ds, _, h => by
    cases h with
    | cons h r => exact .cons (.d h) (DasF.vas r)
theorem Vas.length : ∀ {vs : List V} {ds : List D}, Vas G L H vs ds → vs.length = ds.length
  | _, _, .nil => rfl
  | _, _, .cons h r => by simp [Vas.length r]
end

/-! ### the store and the heap -/
def CellR (G : Gb) (L : Lv) (H : Hp) : Option Addr → Cell → Prop
  | none, .dead => True
  | some a, .lst ds => ∃ vs, H a = some (.lst vs) ∧ Das G (off L H) vs ds
  | some a, .dK ds => ∃ vs, H a = some (.dK vs) ∧ DasK G (off L H) vs ds
  | some a, .dT ds => ∃ vs, H a = some (.dT vs) ∧ DasT G (off L H) vs ds
  | some a, .ins c ds => ∃ dx vs, H a = some (.ins (G.cA c) dx vs) ∧ VasF G L (off L H) vs ds
  | _, _ => False
/-- what is hidden: there, no tuple -/
def HidOk (o : Option HO) : Prop := o ≠ none ∧ ∀ xs, o ≠ some (.tup xs)
structure Rep (G : Gb) (L : Lv) (st : Store) (H : Hp) : Prop where
  len : L.c.length = st.length
  inj : ∀ (i j : Nat) (a : Addr), L.c[i]? = some (some a) → L.c[j]? = some (some a) → i = j
  cell : ∀ (i : Nat) (x : Option Addr) (c : Cell), L.c[i]? = some x → st[i]? = some c → CellR G L H x c
  hid : ∀ a ∈ L.h, HidOk (H a) ∧ some a ∉ L.c
structure Ev (L : Lv) (H : Hp) (L' : Lv) (H' : Hp) : Prop where
  le : Le L L'
  new : ∀ (i : Nat) (a : Addr), L.c.length ≤ i → L'.c[i]? = some (some a) → H a = none
  same : Rl (off L H) (off L' H')
  there : ∀ a, H' a = none → H a = none
  hh : L'.h = L.h
  keep : ∀ a ∈ L.h, H' a = H a
section
variable {G : Gb} {L L1 L2 : Lv} {H H1 H2 : Hp} {st : Store}
theorem no_at {α : Type} {L : List α} {i : Nat} {x : α} (hi : L.length ≤ i) (h : L[i]? = some x) : False := by
  rw [List.getElem?_eq_none_iff.mpr hi] at h
  cases h
theorem Ev.refl (L : Lv) (H : Hp) : Ev L H L H := ⟨Le.refl L, fun i a hi h => (no_at hi h).elim, Rl.of_same (Same.refl _), fun _ h => h, rfl, fun _ _ => rfl⟩
theorem Ev.trans (a : Ev L H L1 H1) (b : Ev L1 H1 L2 H2) : Ev L H L2 H2 :=
  ⟨a.le.trans b.le, fun i x hi h => by
    by_cases q : i < L1.c.length
    · exact a.new i x hi (b.le.at_ i x q h)
    · exact a.there x (b.new i x (Nat.le_of_not_lt q) h), a.same.trans b.same, fun x h => a.there x (b.there x h), b.hh.trans a.hh, fun x h => (b.keep x (by rw [a.hh]; exact h)).trans (a.keep x h)⟩
theorem Ev.da (e : Ev L H L1 H1) {v : V} {d : D} (h : Da G (off L H) v d) : Da G (off L1 H1) v d := Da.mono (e.same) d v h
theorem Ev.va (e : Ev L H L1 H1) {v : V} {d : D} (h : Va G L (off L H) v d) : Va G L1 (off L1 H1) v d := h.mono e.le (e.same)
theorem Ev.vas (e : Ev L H L1 H1) {v : List V} {d : List D} (h : Vas G L (off L H) v d) : Vas G L1 (off L1 H1) v d := h.mono e.le (e.same)
theorem Ev.das (e : Ev L H L1 H1) {v : List V} {d : List D} (h : Das G (off L H) v d) : Das G (off L1 H1) v d := Das.mono (e.same) d v h
theorem Ev.dasK (e : Ev L H L1 H1) {v : List (Key × V)} {d : List (Key × D)} (h : DasK G (off L H) v d) : DasK G (off L1 H1) v d := DasK.mono (e.same) d v h
theorem Ev.dasT (e : Ev L H L1 H1) {v : List (List Key × V)} {d : List (List Key × D)} (h : DasT G (off L H) v d) : DasT G (off L1 H1) v d := DasT.mono (e.same) d v h
theorem Ev.dasF (e : Ev L H L1 H1) {v : List (Str × V)} {d : List (Str × D)} (h : DasF G (off L H) v d) : DasF G (off L1 H1) v d := DasF.mono (e.same) d v h
theorem mem_live {a : Addr} (h : some a ∈ L.c) : ∃ i : Nat, L.c[i]? = some (some a) := List.mem_iff_getElem?.mp h
theorem Rep.live (R : Rep G L st H) {a : Addr} (h : some a ∈ L.c) : H a ≠ none := by
  obtain ⟨i, hi⟩ := mem_live h
  have hl : i < st.length := by rw [← R.len]; exact (List.getElem?_eq_some_iff.mp hi).1
  have q := R.cell i _ st[i] hi (List.getElem?_eq_getElem hl)
  intro z
  cases e : st[i] <;> rw [e] at q <;> simp only [CellR] at q
  · obtain ⟨vs, q, _⟩ := q; rw [z] at q; cases q
  · obtain ⟨vs, q, _⟩ := q; rw [z] at q; cases q
  · obtain ⟨vs, q, _⟩ := q; rw [z] at q; cases q
  · obtain ⟨dx, vs, q, _⟩ := q; rw [z] at q; cases q
theorem Rep.fresh (R : Rep G L st H) {a : Addr} (h : H a = none) : ¬ (some a ∈ L.c ∨ a ∈ L.h) := fun q => q.elim (fun q => R.live q h) fun q => (R.hid a q).1.1 h
/-- a cell's relation under a step that leaves the live ones -/
theorem CellR.ev (e : Ev L H L1 H1) {x : Option Addr} {c : Cell} (k : ∀ a o, x = some a → H a = some o → H1 a = some o) (h : CellR G L H x c) : CellR G L1 H1 x c := by
  cases x with
  | none => cases c <;> first | exact h | exact h.elim
  | some a =>
    cases c with
    | lst ds => obtain ⟨vs, q, r⟩ := h; exact ⟨vs, k _ _ rfl q, e.das r⟩
    | dK ds => obtain ⟨vs, q, r⟩ := h; exact ⟨vs, k _ _ rfl q, e.dasK r⟩
    | dT ds => obtain ⟨vs, q, r⟩ := h; exact ⟨vs, k _ _ rfl q, e.dasT r⟩
    | ins c ds => obtain ⟨dx, vs, q, r⟩ := h; exact ⟨dx, vs, k _ _ rfl q, r.mono e.le (e.same)⟩
    | dead => exact h.elim
/-- a new object that is no cell -/
theorem Ev.new1 (R : Rep G L st H) {p : Addr} {o : HO} (hp : H p = none) : Ev L H L (upd H p o) :=
  ⟨Le.refl L, fun i a hi h => (no_at hi h).elim, fun b u h => by
    obtain ⟨h1, h2⟩ := off_some h
    exact .inl (off_of (by rw [upd_ne (ne_of_none h1 hp)]; exact h1) h2),
    fun a h => by
    by_cases e : a = p
    · rw [e, upd_same] at h
      cases h
    · rw [upd_ne e] at h
      exact h, rfl, fun a ha => upd_ne fun z => R.fresh hp (.inr (z ▸ ha))⟩
theorem Rep.new1 (R : Rep G L st H) {p : Addr} {o : HO} (hp : H p = none) : Rep G L st (upd H p o) :=
  ⟨R.len, R.inj, fun i x c hx hc => CellR.ev (Ev.new1 R hp) (fun a u ea h => by rw [upd_ne (ne_of_none h hp)]; exact h) (R.cell i x c hx hc), fun a ha => ⟨by rw [(Ev.new1 (o := o) R hp).keep a ha]; exact (R.hid a ha).1, (R.hid a ha).2⟩⟩
theorem Ev.off_new (R : Rep G L st H) {p : Addr} {o : HO} (hp : H p = none) : off L (upd H p o) p = some o := off_of upd_same (R.fresh hp)
end

/-! ### results -/
structure Xn where
  c : Nat
  fs : List (Str × D)
inductive Rs (α : Type) where
  | ok (a : α) | err (x : Xn)
abbrev En := List (Option D)
abbrev ME := En → Store → Option (Rs D × Store)
abbrev MA := En → Store → Option (Rs (List D) × Store)
abbrev MT := En → Store → Option (Rs Bool × Store)
inductive Fl where
  | next | ret (d : D) | brk | cont | err (x : Xn)
abbrev MS := En → Store → Option (Fl × En × Store)
/-- go on with a value -/
def bnd {α β : Type} (m : Option (Rs α × Store)) (k : α → Store → Option (Rs β × Store)) : Option (Rs β × Store) :=
  match m with
  | some (.ok a, st) => k a st
  | some (.err x, st) => some (.err x, st)
  | none => none
@[simp] theorem bnd_ok {α β : Type} {a : α} {st : Store} {k : α → Store → Option (Rs β × Store)} : bnd (some (.ok a, st)) k = k a st := rfl
@[simp] theorem bnd_err {α β : Type} {x : Xn} {st : Store} {k : α → Store → Option (Rs β × Store)} : bnd (some (.err x, st)) k = some (.err x, st) := rfl
@[simp] theorem bnd_none {α β : Type} {k : α → Store → Option (Rs β × Store)} : bnd none k = none := rfl
structure EnvR (G : Gb) (L : Lv) (H : Hp) (σ : L2.St) (env : En) : Prop where
  len : σ.length = env.length
  at_ : ∀ (i : Nat) (d : D), env[i]? = some (some d) → ∃ v, σ[i]? = some (some v) ∧ Va G L H v d
theorem EnvR.ev {G : Gb} {L L1 : Lv} {H H1 : Hp} {σ : L2.St} {env : En} (e : Ev L H L1 H1) (h : EnvR G L (off L H) σ env) : EnvR G L1 (off L1 H1) σ env :=
  ⟨h.len, fun i d q => let ⟨v, q1, q2⟩ := h.at_ i d q; ⟨v, q1, e.va q2⟩⟩
/-- an exception of the own class c, its fields fs -/
def XnR (G : Gb) (H : Hp) (x : Xn) (cls : Value) (dd : Option Addr) : Prop := cls = .ref (G.cA x.c) ∧ ∃ (d : Addr) (vs : List (Str × V)), dd = some d ∧ H d = some (.xd vs) ∧ DasF G H vs x.fs
def ErrP (G : Gb) (L : Lv) (H : Hp) (st' : Store) (x : Xn) (k : Value → Option Addr → Hp → Prop) : Prop :=
  ∀ cls dd L' H', Ev L H L' H' → Rep G L' st' H' → XnR G (off L' H') x cls dd → k cls dd H'
def RPost (G : Gb) (W : WX) (σ : L2.St) (L : Lv) (H : Hp) (st' : Store) (Q : VK) : Rs D → Prop
  | .ok d => ∀ v L' H', Ev L H L' H' → Rep G L' st' H' → Va G L' (off L' H') v d → Q v H'
  | .err x => ErrP G L H st' x fun cls dd H' => W cls dd σ H'
def APost (G : Gb) (W : WX) (σ : L2.St) (L : Lv) (H : Hp) (st' : Store) (Q : List V → Hp → Prop) : Rs (List D) → Prop
  | .ok ds => ∀ vs L' H', Ev L H L' H' → Rep G L' st' H' → Vas G L' (off L' H') vs ds → Q vs H'
  | .err x => ErrP G L H st' x fun cls dd H' => W cls dd σ H'
def TPost (G : Gb) (W : WX) (σ : L2.St) (L : Lv) (H : Hp) (st' : Store) (Q : Bool → Hp → Prop) : Rs Bool → Prop
  | .ok b => ∀ L' H', Ev L H L' H' → Rep G L' st' H' → Q b H'
  | .err x => ErrP G L H st' x fun cls dd H' => W cls dd σ H'
def SPost (G : Gb) (W : WX) (L : Lv) (H : Hp) (env' : En) (st' : Store) (Dn : Ends) : Fl → Prop
  | .next => ∀ σ' L' H', Ev L H L' H' → Rep G L' st' H' → EnvR G L' (off L' H') σ' env' → Dn.nx σ' H'
  | .brk => ∀ σ' L' H', Ev L H L' H' → Rep G L' st' H' → EnvR G L' (off L' H') σ' env' → Dn.bk σ' H'
  | .cont => ∀ σ' L' H', Ev L H L' H' → Rep G L' st' H' → EnvR G L' (off L' H') σ' env' → Dn.ct σ' H'
  | .ret d => ∀ v L' H', Ev L H L' H' → Rep G L' st' H' → Va G L' (off L' H') v d → Dn.rt v H'
  | .err x => ∀ cls dd σ' L' H', Ev L H L' H' → Rep G L' st' H' → EnvR G L' (off L' H') σ' env' → XnR G (off L' H') x cls dd → W cls dd σ' H'
/-- at a point -/
structure At (G : Gm) (L : Lv) (st : Store) (σ : L2.St) (env : En) (H : Hp) : Prop where
  e : EnvR G L (off L H) σ env
  r : Rep G L st H
  p : G.P σ (off L H)
theorem At.ev {G : Gm} {L L1 : Lv} {st st1 : Store} {σ : L2.St} {env : En} {H H1 : Hp} (a : At G L st σ env H) (e : Ev L H L1 H1) (r : Rep G L1 st1 H1) : At G L1 st1 σ env H1 := ⟨a.e.ev e, r, G.up _ _ _ e.same a.p⟩
theorem At.to {G : Gm} {L L1 : Lv} {st st1 : Store} {σ σ1 : L2.St} {env env1 : En} {H H1 : Hp} (hF : Flat G) (a : At G L st σ env H) (e : Ev L H L1 H1) (r : Rep G L1 st1 H1) (n : EnvR G L1 (off L1 H1) σ1 env1) : At G L1 st1 σ1 env1 H1 := ⟨n, r, G.up _ _ _ e.same (hF _ _ _ a.p)⟩
def tM (G : Gm) (W : WX) (m : ME) : TE := fun σ H Q => ∃ L st env r st', At G L st σ env H ∧ m env st = some (r, st') ∧ RPost G W σ L H st' Q r
def tMA (G : Gm) (W : WX) (m : MA) : TA := fun σ H Q => ∃ L st env r st', At G L st σ env H ∧ m env st = some (r, st') ∧ APost G W σ L H st' Q r
def tMT (G : Gm) (W : WX) (m : MT) : TT := fun σ H Q => ∃ L st env r st', At G L st σ env H ∧ m env st = some (r, st') ∧ TPost G W σ L H st' Q r
def tMS (G : Gm) (W : WX) (m : MS) : TS := fun Dn σ H => ∃ L st env fl env' st', At G L st σ env H ∧ m env st = some (fl, env', st') ∧ SPost G W L H env' st' Dn fl
theorem ErrP.ev {G : Gb} {L L1 : Lv} {H H1 : Hp} {st' : Store} {x : Xn} {k : Value → Option Addr → Hp → Prop} (e : Ev L H L1 H1) (h : ErrP G L H st' x k) : ErrP G L1 H1 st' x k :=
  fun cls dd L' H' e1 r z => h cls dd L' H' (e.trans e1) r z
theorem RPost.ev {G : Gb} {W : WX} {σ : L2.St} {L L1 : Lv} {H H1 : Hp} {st' : Store} {Q : VK} {r : Rs D} (e : Ev L H L1 H1) (h : RPost G W σ L H st' Q r) : RPost G W σ L1 H1 st' Q r := by
  cases r with
  | ok d => exact fun v L' H' e1 => h v L' H' (e.trans e1)
  | err x => exact ErrP.ev e h
theorem APost.ev {G : Gb} {W : WX} {σ : L2.St} {L L1 : Lv} {H H1 : Hp} {st' : Store} {Q : List V → Hp → Prop} {r : Rs (List D)} (e : Ev L H L1 H1) (h : APost G W σ L H st' Q r) : APost G W σ L1 H1 st' Q r := by
  cases r with
  | ok d => exact fun v L' H' e1 => h v L' H' (e.trans e1)
  | err x => exact ErrP.ev e h
theorem TPost.ev {G : Gb} {W : WX} {σ : L2.St} {L L1 : Lv} {H H1 : Hp} {st' : Store} {Q : Bool → Hp → Prop} {r : Rs Bool} (e : Ev L H L1 H1) (h : TPost G W σ L H st' Q r) : TPost G W σ L1 H1 st' Q r := by
  cases r with
  | ok d => exact fun L' H' e1 => h L' H' (e.trans e1)
  | err x => exact ErrP.ev e h
theorem SPost.ev {G : Gb} {W : WX} {L L1 : Lv} {H H1 : Hp} {env' : En} {st' : Store} {Dn : Ends} {fl : Fl} (e : Ev L H L1 H1) (h : SPost G W L H env' st' Dn fl) : SPost G W L1 H1 env' st' Dn fl := by
  cases fl with
  | next => exact fun σ' L' H' e1 => h σ' L' H' (e.trans e1)
  | brk => exact fun σ' L' H' e1 => h σ' L' H' (e.trans e1)
  | cont => exact fun σ' L' H' e1 => h σ' L' H' (e.trans e1)
  | ret d => exact fun v L' H' e1 => h v L' H' (e.trans e1)
  | err x => exact fun cls dd σ' L' H' e1 => h cls dd σ' L' H' (e.trans e1)

/-! ### judgements -/
theorem PEimp {X : Cx} {e : Expr} {t u : TE} (h : PE X e t) (k : ∀ σ H Q, u σ H Q → t σ H Q) : PE X e u := ⟨fun pins s σ H Q I q => h.run pins s σ H Q I (k _ _ _ q)⟩
theorem PTimp {X : Cx} {e : Expr} {t u : TT} (h : PT X e t) (k : ∀ σ H Q, u σ H Q → t σ H Q) : PT X e u := ⟨fun pins s σ H Q I q => h.run pins s σ H Q I (k _ _ _ q)⟩
theorem PWimp {X : Cx} {e : Expr} {t u : TT} (h : PW X e t) (k : ∀ σ H Q, u σ H Q → t σ H Q) : PW X e u := ⟨fun wh pins s σ H Q I q => h.run wh pins s σ H Q I (k _ _ _ q)⟩
theorem PAimp {X : Cx} {e : List Expr} {t u : TA} (h : PA X e t) (k : ∀ σ H Q, u σ H Q → t σ H Q) : PA X e u := ⟨fun pos pins s σ H Q I q => h.run pos pins s σ H Q I (k _ _ _ q)⟩
theorem PSimp {X : Cx} {e : Stmt} {t u : TS} (h : PS X e t) (k : ∀ D σ H, u D σ H → t D σ H) : PS X e u := ⟨fun pins s σ H D I q => h.run pins s σ H D I (k _ _ _ q)⟩
theorem PSsimp {X : Cx} {e : List Stmt} {t u : TS} (h : PSs X e t) (k : ∀ D σ H, u D σ H → t D σ H) : PSs X e u := ⟨fun pins s σ H D I q => h.run pins s σ H D I (k _ _ _ q)⟩
end M


/-! The M layer: expressions, tests, statements, defs. -/
namespace M
open PySem PySem.Spec PyProof.Rows L2

/-! ### taking a bind apart -/
theorem bnd_cases {α β : Type} {m : Option (Rs α × Store)} {k : α → Store → Option (Rs β × Store)} {r : Rs β} {st' : Store} (h : bnd m k = some (r, st')) :
    (∃ a st1, m = some (.ok a, st1) ∧ k a st1 = some (r, st')) ∨ ∃ x, m = some (.err x, st') ∧ r = .err x := by
  cases m with
  | none => cases h
  | some p =>
    obtain ⟨q, st1⟩ := p
    cases q with
    | ok a => exact .inl ⟨a, st1, rfl, h⟩
    | err x =>
      have h' : some (Rs.err x, st1) = some (r, st') := h
      cases h'
      exact .inr ⟨x, rfl, rfl⟩
section
variable {G : Gm} {W : WX} {σ : L2.St} {L : Lv} {H : Hp} {st : Store} {env : En}
/-- an expression is read, then something is done with its value -/
theorem tM_bnd {β : Type} {ma : ME} {k : D → Store → Option (Rs β × Store)} {r : Rs β} {st' : Store} {Q : VK} (a : At G L st σ env H) (h : bnd (ma env st) k = some (r, st'))
    (err : ∀ x, r = .err x → ErrP G L H st' x fun cls dd H' => W cls dd σ H')
    (ok : ∀ d st1 v L1 H1, k d st1 = some (r, st') → Ev L H L1 H1 → At G L1 st1 σ env H1 → Va G L1 (off L1 H1) v d → Q v H1) : tM G W ma σ H Q := by
  rcases bnd_cases h with ⟨d, st1, h1, h2⟩ | ⟨x, h1, rfl⟩
  · exact ⟨L, st, env, _, _, a, h1, fun v L1 H1 e r1 dv => ok d st1 v L1 H1 h2 e (a.ev e r1) dv⟩
  · exact ⟨L, st, env, _, _, a, h1, err x rfl⟩
theorem tMA_bnd {β : Type} {ma : MA} {k : List D → Store → Option (Rs β × Store)} {r : Rs β} {st' : Store} {Q : List V → Hp → Prop} (a : At G L st σ env H) (h : bnd (ma env st) k = some (r, st'))
    (err : ∀ x, r = .err x → ErrP G L H st' x fun cls dd H' => W cls dd σ H')
    (ok : ∀ d st1 v L1 H1, k d st1 = some (r, st') → Ev L H L1 H1 → At G L1 st1 σ env H1 → Vas G L1 (off L1 H1) v d → Q v H1) : tMA G W ma σ H Q := by
  rcases bnd_cases h with ⟨d, st1, h1, h2⟩ | ⟨x, h1, rfl⟩
  · exact ⟨L, st, env, _, _, a, h1, fun v L1 H1 e r1 dv => ok d st1 v L1 H1 h2 e (a.ev e r1) dv⟩
  · exact ⟨L, st, env, _, _, a, h1, err x rfl⟩
theorem tMT_bnd {β : Type} {ma : MT} {k : Bool → Store → Option (Rs β × Store)} {r : Rs β} {st' : Store} {Q : Bool → Hp → Prop} (a : At G L st σ env H) (h : bnd (ma env st) k = some (r, st'))
    (err : ∀ x, r = .err x → ErrP G L H st' x fun cls dd H' => W cls dd σ H')
    (ok : ∀ d st1 L1 H1, k d st1 = some (r, st') → Ev L H L1 H1 → At G L1 st1 σ env H1 → Q d H1) : tMT G W ma σ H Q := by
  rcases bnd_cases h with ⟨d, st1, h1, h2⟩ | ⟨x, h1, rfl⟩
  · exact ⟨L, st, env, _, _, a, h1, fun L1 H1 e r1 => ok d st1 L1 H1 h2 e (a.ev e r1)⟩
  · exact ⟨L, st, env, _, _, a, h1, err x rfl⟩
theorem RPost.err {st' : Store} {Q : VK} {r : Rs D} (p : RPost G W σ L H st' Q r) : ∀ x, r = .err x → ErrP G L H st' x fun cls dd H' => W cls dd σ H' := by
  rintro x rfl
  exact p
theorem APost.err {st' : Store} {Q : List V → Hp → Prop} {r : Rs (List D)} (p : APost G W σ L H st' Q r) : ∀ x, r = .err x → ErrP G L H st' x fun cls dd H' => W cls dd σ H' := by
  rintro x rfl
  exact p
theorem TPost.err {st' : Store} {Q : Bool → Hp → Prop} {r : Rs Bool} (p : TPost G W σ L H st' Q r) : ∀ x, r = .err x → ErrP G L H st' x fun cls dd H' => W cls dd σ H' := by
  rintro x rfl
  exact p
end

/-! ### expressions -/
def mVar (i : Nat) : ME := fun env st => match env[i]? with
  | some (some d) => some (.ok d, st)
  | _ => none
def mC (d : D) : ME := fun _ st => some (.ok d, st)
/-- by values, reading the store -/
def mOp (g : Store → D → D → Option D) (ma mb : ME) : ME := fun env st => bnd (ma env st) fun x st => bnd (mb env st) fun y st => match g st x y with
  | some z => some (.ok z, st)
  | none => none
def mUn (g : Store → D → Option D) (ma : ME) : ME := fun env st => bnd (ma env st) fun x st => match g st x with
  | some z => some (.ok z, st)
  | none => none
def mNil : MA := fun _ st => some (.ok [], st)
def mCons (m : ME) (ms : MA) : MA := fun env st => bnd (m env st) fun d st => bnd (ms env st) fun ds st => some (.ok (d :: ds), st)
/-- a call by values -/
def mCB (g : Store → List D → Option D) (ma : MA) : ME := fun env st => bnd (ma env st) fun xs st => match g st xs with
  | some z => some (.ok z, st)
  | none => none
/-- .. that changes the store -/
def mCBS (g : Store → List D → Option (D × Store)) (ma : MA) : ME := fun env st => bnd (ma env st) fun xs st => match g st xs with
  | some (z, st) => some (.ok z, st)
  | none => none
def R2M (G : Gb) (r : R2) (g : Store → D → D → Option D) : Prop := ∀ (L : Lv) (st : Store) (H : Hp) (x y : V) (d e z : D) (Q : VK), Rep G L st H → Va G L (off L H) x d → Va G L (off L H) y e → g st d e = some z →
  (∀ v L' H', Ev L H L' H' → Rep G L' st H' → Va G L' (off L' H') v z → Q v H') → r x y H Q
def R1M (G : Gb) (r : V → Hp → VK → Prop) (g : Store → D → Option D) : Prop := ∀ (L : Lv) (st : Store) (H : Hp) (x : V) (d z : D) (Q : VK), Rep G L st H → Va G L (off L H) x d → g st d = some z →
  (∀ v L' H', Ev L H L' H' → Rep G L' st H' → Va G L' (off L' H') v z → Q v H') → r x H Q
def RCM (G : Gb) (r : List V → Hp → VK → Prop) (g : Store → List D → Option D) : Prop := ∀ (L : Lv) (st : Store) (H : Hp) (xs : List V) (ds : List D) (z : D) (Q : VK), Rep G L st H → Vas G L (off L H) xs ds → g st ds = some z →
  (∀ v L' H', Ev L H L' H' → Rep G L' st H' → Va G L' (off L' H') v z → Q v H') → r xs H Q
def RCMS (G : Gb) (r : List V → Hp → VK → Prop) (g : Store → List D → Option (D × Store)) : Prop := ∀ (L : Lv) (st st' : Store) (H : Hp) (xs : List V) (ds : List D) (z : D) (Q : VK), Rep G L st H → Vas G L (off L H) xs ds → g st ds = some (z, st') →
  (∀ v L' H', Ev L H L' H' → Rep G L' st' H' → Va G L' (off L' H') v z → Q v H') → r xs H Q
section
variable {G : Gm} {W : WX} {X : Cx} {a b c e : Expr} {es : List Expr} {ta tb tc te : TE} {t u : TT} {tas : TA} {ma mb mc : ME} {mas : MA} {mt mu : MT} {pos : Pos} {r r' : R2} {g g' : Store → D → D → Option D} {σ : L2.St} {H : Hp} {Q : VK}
theorem t_op (hr : R2M G r g) (h : tM G W (mOp g ma mb) σ H Q) : tOp r (tM G W ma) (tM G W mb) σ H Q := by
  obtain ⟨L, st, env, q, st', at_, hm, hp⟩ := h
  refine tM_bnd at_ hm hp.err fun d st1 v L1 H1 h1 e1 a1 dv => ?_
  refine tM_bnd a1 h1 (hp.ev e1).err fun d2 st2 v2 L2' H2 h2 e2 a2 dv2 => ?_
  cases hz : g st2 d d2 with
  | none => rw [hz] at h2; cases h2
  | some z =>
    rw [hz] at h2
    cases h2
    exact hr L2' _ H2 v v2 d d2 z Q a2.r (e2.va dv) dv2 hz fun v3 L3 H3 e3 => hp v3 L3 H3 ((e1.trans e2).trans e3)
theorem t_un {r1 : V → Hp → VK → Prop} {g1 : Store → D → Option D} (hr : R1M G r1 g1) (h : tM G W (mUn g1 ma) σ H Q) : tUn r1 (tM G W ma) σ H Q := by
  obtain ⟨L, st, env, q, st', at_, hm, hp⟩ := h
  refine tM_bnd at_ hm hp.err fun d st1 v L1 H1 h1 e1 a1 dv => ?_
  cases hz : g1 st1 d with
  | none => rw [hz] at h1; cases h1
  | some z =>
    rw [hz] at h1
    cases h1
    exact hr L1 _ H1 v d z Q a1.r dv hz fun v3 L3 H3 e3 => hp v3 L3 H3 (e1.trans e3)
theorem m_var {i : Nat} (h : PE X e (tVar i)) : PE X e (tM G W (mVar i)) := PEimp h fun σ H Q q => by
  obtain ⟨L, st, env, r, st', at_, hm, hp⟩ := q
  unfold mVar at hm
  split at hm
  · rename_i d hd
    cases hm
    obtain ⟨v, hv, dv⟩ := at_.e.at_ i d hd
    exact ⟨v, hv, hp v L H (Ev.refl L H) at_.r dv⟩
  · cases hm
theorem m_c {v : V} {d : D} (h : PE X e (tC v)) (hd : ∀ H, Da G H v d) : PE X e (tM G W (mC d)) := PEimp h fun σ H Q q => by
  obtain ⟨L, st, env, r, st', at_, hm, hp⟩ := q
  cases hm
  exact hp v L H (Ev.refl L H) at_.r (.d (hd _))
theorem m_op {op : Operator} (ho : OpR X (binaryOp op) r) (hr : R2M G r g) (ha : PE X a (tM G W ma)) (hb : PE X b (tM G W mb)) : PE X (.BinOp a op b pos) (tM G W (mOp g ma mb)) :=
  PEimp (pe_op ho ha hb) fun _ _ _ => t_op hr
theorem m_un {op : UnaryOp} {r1 : V → Hp → VK → Prop} {g1 : Store → D → Option D} (ho : UnR X (unaryOp op) r1) (hr : R1M G r1 g1) (ha : PE X a (tM G W ma)) : PE X (.UnaryOp op a pos) (tM G W (mUn g1 ma)) :=
  PEimp (pe_un ho ha) fun _ _ _ => t_un hr
theorem m_cmp {op : CmpOp} (ho : OpR X (compareOp op) r) (hr : R2M G r g) (ha : PE X a (tM G W ma)) (hb : PE X b (tM G W mb)) (hm : behindInMarks op b = false) : PE X (.Compare a [op] [b] pos) (tM G W (mOp g ma mb)) :=
  PEimp (pe_cmpR ho ha hb hm) fun _ _ _ => t_op hr
theorem m_ix {g : Store → D → D → Option D} (hr : IxR X r) (hm : R2M G r g) (ha : PE X a (tM G W ma)) (hb : PE X b (tM G W mb)) (hs : PlainIx b) : PE X (.Subscript a b pos) (tM G W (mOp g ma mb)) :=
  PEimp (pe_ix hr ha hb hs) fun _ _ _ => t_op hm
/-! tests -/
def mVal (m : ME) : MT := fun env st => bnd (m env st) fun d st => match d with
  | .bl k => some (.ok k, st)
  | _ => none
theorem Va.bl_inv {G : Gb} {L : Lv} {v : V} {k : Bool} (h : Va G L H v (.bl k)) : v = .bl k := by
  cases h with
  | d h => cases h; rfl
theorem t_val {Q : Bool → Hp → Prop} (h : tMT G W (mVal ma) σ H Q) : (tM G W ma) σ H fun x H1 => ∃ k, x = .bl k ∧ Q k H1 := by
  obtain ⟨L, st, env, q, st', at_, hm, hp⟩ := h
  refine tM_bnd at_ hm hp.err fun d st1 v L1 H1 h1 e1 a1 dv => ?_
  split at h1
  · cases h1
    exact ⟨_, Va.bl_inv dv, hp L1 H1 e1 a1.r⟩
  · cases h1
theorem m_val (h : PE X e (tM G W ma)) (he : ∀ whole, isTrue e X.env whole = (do let v ← whole; standAt e.pos; holding [v] (truthy v)) := by intro _; rfl) : PT X e (tMT G W (mVal ma)) :=
  PTimp (pt_val h he) fun _ _ _ => t_val
theorem m_tcmp {op : CmpOp} (ho : OpR X (compareOp op) r) (hr : R2M G r g) (ha : PE X a (tM G W ma)) (hb : PE X b (tM G W mb)) (hm : behindInMarks op b = false) : PT X (.Compare a [op] [b] pos) (tMT G W (mVal (mOp g ma mb))) :=
  PTimp (pt_cmpR ho ha hb hm) fun σ H Q q => by
    have q2 := t_val q
    exact t_op hr q2
/-- a op b op' c -/
def mChain (g g' : Store → D → D → Option D) (ma mb mc : ME) : ME := fun env st => bnd (ma env st) fun x st => bnd (mb env st) fun y st => match g st x y with
  | some (.bl true) => bnd (mc env st) fun z st => (match g' st y z with
    | some u => some (.ok u, st)
    | none => none)
  | some (.bl false) => some (.ok (.bl false), st)
  | _ => none
theorem t_chain (hr : R2M G r g) (hr' : R2M G r' g') (h : tM G W (mChain g g' ma mb mc) σ H Q) : tChain r r' (tM G W ma) (tM G W mb) (tM G W mc) σ H Q := by
  obtain ⟨L, st, env, q, st', at_, hm, hp⟩ := h
  refine tM_bnd at_ hm hp.err fun d st1 v L1 H1 h1 e1 a1 dv => ?_
  refine tM_bnd a1 h1 (hp.ev e1).err fun d2 st2 v2 L2' H2 h2 e2 a2 dv2 => ?_
  split at h2
  · rename_i hz
    refine hr L2' st2 H2 v v2 d d2 _ _ a2.r (e2.va dv) dv2 hz fun v3 L3 H3 e3 r3 d3 => ⟨true, Va.bl_inv d3, ?_⟩
    show tM G W mc σ H3 _
    have e13 := (e1.trans e2).trans e3
    refine tM_bnd (a2.ev e3 r3) h2 (hp.ev e13).err fun d4 st4 v4 L4 H4 h4 e4 a4 dv4 => ?_
    cases hz' : g' st4 d2 d4 with
    | none => rw [hz'] at h4; cases h4
    | some z =>
      rw [hz'] at h4
      cases h4
      exact hr' L4 _ H4 v2 v4 d2 d4 z Q a4.r (e4.va (e3.va dv2)) dv4 hz' fun v5 L5 H5 e5 => hp v5 L5 H5 ((e13.trans e4).trans e5)
  · rename_i hz
    cases h2
    refine hr L2' _ H2 v v2 d d2 _ _ a2.r (e2.va dv) dv2 hz fun v3 L3 H3 e3 r3 d3 => ⟨false, Va.bl_inv d3, ?_⟩
    show Q (.bl false) H3
    exact hp _ L3 H3 ((e1.trans e2).trans e3) r3 (.d (.bl false))
  · cases h2
theorem m_chain {op op' : CmpOp} (ho : OpR X (compareOp op) r) (hr : R2M G r g) (ho' : OpR X (compareOp op') r') (hr' : R2M G r' g') (ha : PE X a (tM G W ma)) (hb : PE X b (tM G W mb)) (hc : PE X c (tM G W mc))
    (hm : lastMarks [op, op'] [b, c] = false := by with_unfolding_all rfl) : PE X (.Compare a [op, op'] [b, c] pos) (tM G W (mChain g g' ma mb mc)) :=
  PEimp (pe_chain ho ho' ha hb hc hm) fun _ _ _ => t_chain hr hr'
theorem m_tchain {op op' : CmpOp} (ho : OpR X (compareOp op) r) (hr : R2M G r g) (ho' : OpR X (compareOp op') r') (hr' : R2M G r' g') (ha : PE X a (tM G W ma)) (hb : PE X b (tM G W mb)) (hc : PE X c (tM G W mc))
    (hm : lastMarks [op, op'] [b, c] = false := by with_unfolding_all rfl) : PT X (.Compare a [op, op'] [b, c] pos) (tMT G W (mVal (mChain g g' ma mb mc))) :=
  PTimp (pt_chain ho ho' ha hb hc hm) fun σ H Q q => by
    have q2 := t_val q
    exact t_chain hr hr' q2
/-! and, or, not, if -/
def mAnd (mt mu : MT) : MT := fun env st => bnd (mt env st) fun k st => if k = true then mu env st else some (.ok false, st)
def mOr (mt mu : MT) : MT := fun env st => bnd (mt env st) fun k st => if k = true then some (.ok true, st) else mu env st
def mNot (mt : MT) : MT := fun env st => bnd (mt env st) fun k st => some (.ok (!k), st)
theorem m_and {rest : List Expr} (ha : PT X a (tMT G W mt)) (hb : PW X (.BoolOp .And (b :: rest) pos) (tMT G W mu)) : PW X (.BoolOp .And (a :: b :: rest) pos) (tMT G W (mAnd mt mu)) :=
  PWimp (pw_and ha hb) fun σ H Q q => by
    obtain ⟨L, st, env, q, st', at_, hm, hp⟩ := q
    refine tMT_bnd at_ hm hp.err fun d st1 L1 H1 h1 e1 a1 => ?_
    cases d with
    | true => exact ⟨L1, st1, env, _, _, a1, h1, hp.ev e1⟩
    | false =>
      cases h1
      exact hp L1 H1 e1 a1.r
theorem m_or {rest : List Expr} (ha : PT X a (tMT G W mt)) (hb : PW X (.BoolOp .Or (b :: rest) pos) (tMT G W mu)) : PW X (.BoolOp .Or (a :: b :: rest) pos) (tMT G W (mOr mt mu)) :=
  PWimp (pw_or ha hb) fun σ H Q q => by
    obtain ⟨L, st, env, q, st', at_, hm, hp⟩ := q
    refine tMT_bnd at_ hm hp.err fun d st1 L1 H1 h1 e1 a1 => ?_
    cases d with
    | false => exact ⟨L1, st1, env, _, _, a1, h1, hp.ev e1⟩
    | true =>
      cases h1
      exact hp L1 H1 e1 a1.r
theorem m_not (ha : PT X a (tMT G W mt)) : PT X (.UnaryOp .Not a pos) (tMT G W (mNot mt)) :=
  PTimp (pt_not ha) fun σ H Q q => by
    obtain ⟨L, st, env, q, st', at_, hm, hp⟩ := q
    refine tMT_bnd at_ hm hp.err fun d st1 L1 H1 h1 e1 a1 => ?_
    cases h1
    exact hp L1 H1 e1 a1.r
def mAndV (ma mb : ME) : ME := fun env st => bnd (ma env st) fun d st => match d with
  | .bl true => mb env st
  | .bl false => some (.ok (.bl false), st)
  | _ => none
def mOrV (ma mb : ME) : ME := fun env st => bnd (ma env st) fun d st => match d with
  | .bl false => mb env st
  | .bl true => some (.ok (.bl true), st)
  | _ => none
def mNotV (ma : ME) : ME := fun env st => bnd (ma env st) fun d st => match d with
  | .bl k => some (.ok (.bl (!k)), st)
  | _ => none
theorem m_andV {rest : List Expr} (ha : PE X a (tM G W ma)) (hb : PE X (.BoolOp .And (b :: rest) pos) (tM G W mb)) : PE X (.BoolOp .And (a :: b :: rest) pos) (tM G W (mAndV ma mb)) :=
  PEimp (pe_and ha hb) fun σ H Q q => by
    obtain ⟨L, st, env, q, st', at_, hm, hp⟩ := q
    refine tM_bnd at_ hm hp.err fun d st1 v L1 H1 h1 e1 a1 dv => ?_
    split at h1
    · exact ⟨true, Va.bl_inv dv, L1, st1, env, _, _, a1, h1, hp.ev e1⟩
    · cases h1
      refine ⟨false, Va.bl_inv dv, ?_⟩
      show Q (.bl false) H1
      exact hp _ L1 H1 e1 a1.r (.d (.bl false))
    · cases h1
theorem m_orV {rest : List Expr} (ha : PE X a (tM G W ma)) (hb : PE X (.BoolOp .Or (b :: rest) pos) (tM G W mb)) : PE X (.BoolOp .Or (a :: b :: rest) pos) (tM G W (mOrV ma mb)) :=
  PEimp (pe_or ha hb) fun σ H Q q => by
    obtain ⟨L, st, env, q, st', at_, hm, hp⟩ := q
    refine tM_bnd at_ hm hp.err fun d st1 v L1 H1 h1 e1 a1 dv => ?_
    split at h1
    · exact ⟨false, Va.bl_inv dv, L1, st1, env, _, _, a1, h1, hp.ev e1⟩
    · cases h1
      refine ⟨true, Va.bl_inv dv, ?_⟩
      show Q (.bl true) H1
      exact hp _ L1 H1 e1 a1.r (.d (.bl true))
    · cases h1
theorem m_notV (ha : PE X a (tM G W ma)) : PE X (.UnaryOp .Not a pos) (tM G W (mNotV ma)) :=
  PEimp (pe_not ha) fun σ H Q q => by
    obtain ⟨L, st, env, q, st', at_, hm, hp⟩ := q
    refine tM_bnd at_ hm hp.err fun d st1 v L1 H1 h1 e1 a1 dv => ?_
    split at h1
    · cases h1
      exact ⟨_, Va.bl_inv dv, hp _ L1 H1 e1 a1.r (.d (.bl _))⟩
    · cases h1
theorem m_one {op} (h : PE X a (tM G W ma)) : PE X (.BoolOp op [a] pos) (tM G W ma) := pe_one h
def mIf (mt : MT) (ma mb : ME) : ME := fun env st => bnd (mt env st) fun k st => if k = true then ma env st else mb env st
theorem m_ifExp (hc : PT X c (tMT G W mt)) (ha : PE X a (tM G W ma)) (hb : PE X b (tM G W mb)) : PE X (.IfExp c a b pos) (tM G W (mIf mt ma mb)) :=
  PEimp (pe_ifExp hc ha hb) fun σ H Q q => by
    obtain ⟨L, st, env, q, st', at_, hm, hp⟩ := q
    refine tMT_bnd at_ hm hp.err fun d st1 L1 H1 h1 e1 a1 => ?_
    cases d with
    | true => exact ⟨L1, st1, env, _, _, a1, h1, hp.ev e1⟩
    | false => exact ⟨L1, st1, env, _, _, a1, h1, hp.ev e1⟩
/-! arguments -/
theorem m_nil : PA X [] (tMA G W mNil) := PAimp pa_nil fun σ H Q q => by
  obtain ⟨L, st, env, q, st', at_, hm, hp⟩ := q
  cases hm
  exact hp [] L H (Ev.refl L H) at_.r .nil
theorem t_cons {Q : List V → Hp → Prop} (h : tMA G W (mCons ma mas) σ H Q) : tCons (tM G W ma) (tMA G W mas) σ H Q := by
  obtain ⟨L, st, env, q, st', at_, hm, hp⟩ := h
  refine tM_bnd at_ hm hp.err fun d st1 v L1 H1 h1 e1 a1 dv => ?_
  refine tMA_bnd a1 h1 (hp.ev e1).err fun ds st2 vs L2' H2 h2 e2 a2 dvs => ?_
  cases h2
  exact hp _ L2' H2 (e1.trans e2) a2.r (.cons (e2.va dv) dvs)
theorem m_cons (ha : PE X e (tM G W ma)) (hr : PA X es (tMA G W mas)) (hs : starEach (e :: es) X.env = (false, eval e X.env) :: starEach es X.env := by rfl) : PA X (e :: es) (tMA G W (mCons ma mas)) :=
  PAimp (pa_cons ha hr hs) fun _ _ _ => t_cons
theorem t_cb {rc : List V → Hp → VK → Prop} {gc : Store → List D → Option D} (hr : RCM G rc gc) (h : tM G W (mCB gc mas) σ H Q) : (tMA G W mas) σ H fun vs H1 => rc vs H1 Q := by
  obtain ⟨L, st, env, q, st', at_, hm, hp⟩ := h
  refine tMA_bnd at_ hm hp.err fun ds st1 vs L1 H1 h1 e1 a1 dv => ?_
  cases hz : gc st1 ds with
  | none => rw [hz] at h1; cases h1
  | some z =>
    rw [hz] at h1
    cases h1
    exact hr L1 _ H1 vs ds z Q a1.r dv hz fun v3 L3 H3 e3 => hp v3 L3 H3 (e1.trans e3)
theorem t_cbs {rc : List V → Hp → VK → Prop} {gc : Store → List D → Option (D × Store)} (hr : RCMS G rc gc) (h : tM G W (mCBS gc mas) σ H Q) : (tMA G W mas) σ H fun vs H1 => rc vs H1 Q := by
  obtain ⟨L, st, env, q, st', at_, hm, hp⟩ := h
  refine tMA_bnd at_ hm hp.err fun ds st1 vs L1 H1 h1 e1 a1 dv => ?_
  cases hz : gc st1 ds with
  | none => rw [hz] at h1; cases h1
  | some z =>
    obtain ⟨z, st2⟩ := z
    rw [hz] at h1
    cases h1
    exact hr L1 _ _ H1 vs ds z Q a1.r dv hz fun v3 L3 H3 e3 => hp v3 L3 H3 (e1.trans e3)
section
variable {x : Str} {id : String} {p : Pos} {rc : List V → Hp → VK → Prop} {gc : Store → List D → Option D}
theorem m_callB (hc : CallR X (.builtin id) rc) (hr : RCM G rc gc) (hg : Gl X x) (hm : X.mg x = none) (hv : bootBuiltins x = some (.builtin id)) (ha : PA X (e :: es) (tMA G W mas)) (hn : x ≠ "__name__" := by decide) (hdb : (x == ("__debug__" : Str)) = false := by decide)
    (he : starEach (e :: es) X.env = (false, eval e X.env) :: starEach es X.env := by rfl) (hpl : (backTo pos (starEach es X.env)).any (·.1) = false := by rfl) : PE X (.Call (.Name x p) (e :: es) [] pos) (tM G W (mCB gc mas)) :=
  PEimp (pe_callB hc hg hm hv ha (hn := hn) (hdb := hdb) (he := he) (hpl := hpl)) fun _ _ _ => t_cb hr
theorem m_callTy (hc : CallR X (.type id) rc) (hr : RCM G rc gc) (hg : Gl X x) (hm : X.mg x = none) (hv : bootBuiltins x = some (.type id)) (ha : PA X (e :: es) (tMA G W mas)) (hn : x ≠ "__name__" := by decide) (hdb : (x == ("__debug__" : Str)) = false := by decide)
    (he : starEach (e :: es) X.env = (false, eval e X.env) :: starEach es X.env := by rfl) (hpl : (backTo pos (starEach es X.env)).any (·.1) = false := by rfl) : PE X (.Call (.Name x p) (e :: es) [] pos) (tM G W (mCB gc mas)) :=
  PEimp (pe_callTy hc hg hm hv ha (hn := hn) (hdb := hdb) (he := he) (hpl := hpl)) fun _ _ _ => t_cb hr
end
end
end M


/-! The M layer: statements, targets, loops, comprehensions, defs and calls. -/
namespace M
open PySem PySem.Spec PyProof.Rows L2

def bndS {α : Type} (m : Option (Rs α × Store)) (env : En) (k : α → Store → Option (Fl × En × Store)) : Option (Fl × En × Store) :=
  match m with
  | some (.ok a, st) => k a st
  | some (.err x, st) => some (.err x, env, st)
  | none => none
@[simp] theorem bndS_ok {α : Type} {a : α} {st : Store} {env : En} {k : α → Store → Option (Fl × En × Store)} : bndS (some (.ok a, st)) env k = k a st := rfl
@[simp] theorem bndS_err {α : Type} {x : Xn} {st : Store} {env : En} {k : α → Store → Option (Fl × En × Store)} : bndS (some (.err x, st)) env k = some (.err x, env, st) := rfl
@[simp] theorem bndS_none {α : Type} {env : En} {k : α → Store → Option (Fl × En × Store)} : bndS none env k = none := rfl
theorem bndS_cases {α : Type} {m : Option (Rs α × Store)} {env : En} {k : α → Store → Option (Fl × En × Store)} {fl : Fl} {env' : En} {st' : Store} (h : bndS m env k = some (fl, env', st')) :
    (∃ a st1, m = some (.ok a, st1) ∧ k a st1 = some (fl, env', st')) ∨ ∃ x, m = some (.err x, st') ∧ fl = .err x ∧ env' = env := by
  cases m with
  | none => cases h
  | some p =>
    obtain ⟨q, st1⟩ := p
    cases q with
    | ok a => exact .inl ⟨a, st1, rfl, h⟩
    | err x =>
      have h' : some (Fl.err x, env, st1) = some (fl, env', st') := h
      cases h'
      exact .inr ⟨x, rfl, rfl, rfl⟩
section
variable {G : Gm} {W : WX} {σ : L2.St} {L : Lv} {H : Hp} {st : Store} {env : En}
theorem SPost.err {env' : En} {st' : Store} {Dn : Ends} {fl : Fl} (a : At G L st σ env H) (p : SPost G W L H env' st' Dn fl) : ∀ x, fl = .err x → env' = env → ErrP G L H st' x fun cls dd H' => W cls dd σ H' := by
  rintro x rfl rfl
  exact fun cls dd L' H' e r z => p cls dd σ L' H' e r (a.e.ev e) z
theorem tM_bndS {ma : ME} {k : D → Store → Option (Fl × En × Store)} {fl : Fl} {env' : En} {st' : Store} {Q : VK} (a : At G L st σ env H) (h : bndS (ma env st) env k = some (fl, env', st'))
    (err : ∀ x, fl = .err x → env' = env → ErrP G L H st' x fun cls dd H' => W cls dd σ H')
    (ok : ∀ d st1 v L1 H1, k d st1 = some (fl, env', st') → Ev L H L1 H1 → At G L1 st1 σ env H1 → Va G L1 (off L1 H1) v d → Q v H1) : tM G W ma σ H Q := by
  rcases bndS_cases h with ⟨d, st1, h1, h2⟩ | ⟨x, h1, rfl, rfl⟩
  · exact ⟨L, st, env, _, _, a, h1, fun v L1 H1 e r1 dv => ok d st1 v L1 H1 h2 e (a.ev e r1) dv⟩
  · exact ⟨L, st, env', _, _, a, h1, err x rfl rfl⟩
theorem tMT_bndS {ma : MT} {k : Bool → Store → Option (Fl × En × Store)} {fl : Fl} {env' : En} {st' : Store} {Q : Bool → Hp → Prop} (a : At G L st σ env H) (h : bndS (ma env st) env k = some (fl, env', st'))
    (err : ∀ x, fl = .err x → env' = env → ErrP G L H st' x fun cls dd H' => W cls dd σ H')
    (ok : ∀ d st1 L1 H1, k d st1 = some (fl, env', st') → Ev L H L1 H1 → At G L1 st1 σ env H1 → Q d H1) : tMT G W ma σ H Q := by
  rcases bndS_cases h with ⟨d, st1, h1, h2⟩ | ⟨x, h1, rfl, rfl⟩
  · exact ⟨L, st, env, _, _, a, h1, fun L1 H1 e r1 => ok d st1 L1 H1 h2 e (a.ev e r1)⟩
  · exact ⟨L, st, env', _, _, a, h1, err x rfl rfl⟩
theorem tMA_bndS {ma : MA} {k : List D → Store → Option (Fl × En × Store)} {fl : Fl} {env' : En} {st' : Store} {Q : List V → Hp → Prop} (a : At G L st σ env H) (h : bndS (ma env st) env k = some (fl, env', st'))
    (err : ∀ x, fl = .err x → env' = env → ErrP G L H st' x fun cls dd H' => W cls dd σ H')
    (ok : ∀ d st1 v L1 H1, k d st1 = some (fl, env', st') → Ev L H L1 H1 → At G L1 st1 σ env H1 → Vas G L1 (off L1 H1) v d → Q v H1) : tMA G W ma σ H Q := by
  rcases bndS_cases h with ⟨d, st1, h1, h2⟩ | ⟨x, h1, rfl, rfl⟩
  · exact ⟨L, st, env, _, _, a, h1, fun v L1 H1 e r1 dv => ok d st1 v L1 H1 h2 e (a.ev e r1) dv⟩
  · exact ⟨L, st, env', _, _, a, h1, err x rfl rfl⟩
end

/-! ### blocks -/
def mNext : MS := fun env st => some (.next, env, st)
def mSeq (m k : MS) : MS := fun env st => match m env st with
  | some (.next, env', st') => k env' st'
  | r => r
def mDrop (m : ME) : MS := fun env st => bndS (m env st) env fun _ st => some (.next, env, st)
def mRet (m : ME) : MS := fun env st => bndS (m env st) env fun d st => some (.ret d, env, st)
def mRetN : MS := fun env st => some (.ret .non, env, st)
def mBrk : MS := fun env st => some (.brk, env, st)
def mCont : MS := fun env st => some (.cont, env, st)
def mIfS (mt : MT) (a b : MS) : MS := fun env st => bndS (mt env st) env fun k st => if k = true then a env st else b env st
def mNever : MS := fun _ _ => none
section
variable {G : Gm} {W : WX} {X : Cx} {s : Stmt} {ss : List Stmt} {e c : Expr} {m k : MS} {ma : ME} {mt : MT} {pos : Pos}
theorem ms_nil : PSs X [] (tMS G W mNext) := PSsimp pss_nil fun D σ H q => by
  obtain ⟨L, st, env, fl, env', st', at_, hm, hp⟩ := q
  cases hm
  exact hp σ L H (Ev.refl L H) at_.r at_.e
theorem ms_pass : PS X (.Pass pos) (tMS G W mNext) := PSimp ps_pass fun D σ H q => by
  obtain ⟨L, st, env, fl, env', st', at_, hm, hp⟩ := q
  cases hm
  exact hp σ L H (Ev.refl L H) at_.r at_.e
theorem ms_brk : PS X (.Break pos) (tMS G W mBrk) := PSimp ps_break fun D σ H q => by
  obtain ⟨L, st, env, fl, env', st', at_, hm, hp⟩ := q
  cases hm
  exact hp σ L H (Ev.refl L H) at_.r at_.e
theorem ms_cont : PS X (.Continue pos) (tMS G W mCont) := PSimp ps_continue fun D σ H q => by
  obtain ⟨L, st, env, fl, env', st', at_, hm, hp⟩ := q
  cases hm
  exact hp σ L H (Ev.refl L H) at_.r at_.e
theorem ms_never : PS X s (tMS G W mNever) := PSimp ps_never fun D σ H q => by
  obtain ⟨L, st, env, fl, env', st', at_, hm, hp⟩ := q
  cases hm
theorem t_seq {D : Ends} {σ : L2.St} {H : Hp} (hF : Flat G) (h : tMS G W (mSeq m k) D σ H) : tSeq (tMS G W m) (tMS G W k) D σ H := by
  obtain ⟨L, st, env, fl, env', st', at_, hm, hp⟩ := h
  unfold mSeq at hm
  split at hm
  · rename_i env1 st1 h1
    exact ⟨L, st, env, _, _, _, at_, h1, fun σ1 L1 H1 e1 r1 en1 => ⟨L1, st1, env1, _, _, _, at_.to hF e1 r1 en1, hm, hp.ev e1⟩⟩
  · rename_i hne
    refine ⟨L, st, env, _, _, _, at_, hm, ?_⟩
    cases fl with
    | next => exact (hne env' st' hm).elim
    | brk => exact hp
    | cont => exact hp
    | ret d => exact hp
    | err x => exact hp
theorem ms_cons (h1 : PS X s (tMS G W m)) (h2 : PSs X ss (tMS G W k)) (hF : Flat G := by exact fun _ _ _ h => h) : PSs X (s :: ss) (tMS G W (mSeq m k)) := PSsimp (pss_cons h1 h2) fun _ _ _ => t_seq hF
theorem ms_one (h1 : PS X s (tMS G W m)) : PSs X [s] (tMS G W m) := pss_one h1
theorem ms_expr (he : PE X e (tM G W ma)) (hs : swapsWith e none pos.line X.env = pure false := by rfl) : PS X (.Expr e pos) (tMS G W (mDrop ma)) := PSimp (ps_expr he hs) fun D σ H q => by
  obtain ⟨L, st, env, fl, env', st', at_, hm, hp⟩ := q
  refine tM_bndS at_ hm (hp.err at_) fun d st1 v L1 H1 h1 e1 a1 dv => ?_
  cases h1
  exact hp σ L1 H1 e1 a1.r a1.e
theorem ms_ret (he : PE X e (tM G W ma)) : PS X (.Return (some e) pos) (tMS G W (mRet ma)) := PSimp (ps_ret he) fun D σ H q => by
  obtain ⟨L, st, env, fl, env', st', at_, hm, hp⟩ := q
  refine tM_bndS at_ hm (hp.err at_) fun d st1 v L1 H1 h1 e1 a1 dv => ?_
  cases h1
  exact hp v L1 H1 e1 a1.r dv
theorem ms_retN : PS X (.Return none pos) (tMS G W mRetN) := PSimp ps_retN fun D σ H q => by
  obtain ⟨L, st, env, fl, env', st', at_, hm, hp⟩ := q
  cases hm
  exact hp .non L H (Ev.refl L H) at_.r (.d .non)
theorem ms_if {a b : List Stmt} (hc : PT X c (tMT G W mt)) (ha : PSs X a (tMS G W m)) (hb : PSs X b (tMS G W k)) : PS X (.If c a b pos) (tMS G W (mIfS mt m k)) := PSimp (ps_if hc ha hb) fun D σ H q => by
  obtain ⟨L, st, env, fl, env', st', at_, hm, hp⟩ := q
  refine tMT_bndS at_ hm (hp.err at_) fun d st1 L1 H1 h1 e1 a1 => ?_
  cases d with
  | true => exact ⟨L1, st1, env, _, _, _, a1, h1, hp.ev e1⟩
  | false => exact ⟨L1, st1, env, _, _, _, a1, h1, hp.ev e1⟩
end

/-! ### targets -/
/-- a name's slot, a tuple of names' slots -/
inductive Tg where
  | nm (i : Nat) | tp (is : List Nat)
def setL : List Nat → List D → En → Option En
  | [], [], env => some env
  | i :: is, d :: ds, env => setL is ds (env.set i (some d))
  | _, _, _ => none
def setT : Tg → D → En → Option En
  | .nm i, d, env => some (env.set i (some d))
  | .tp is, .tup ds, env => setL is ds env
  | _, _, _ => none
def Tg.slots : Tg → List Nat
  | .nm i => [i]
  | .tp is => is
structure TgOk (G : Gm) (g : TG) (t : Tg) : Prop where
  run : ∀ (L : Lv) (H : Hp) (st : Store) (v : V) (d : D) (σ : L2.St) (env env' : En) (Q : L2.St → Hp → Prop), At G L st σ env H → Va G L (off L H) v d → setT t d env = some env' →
    (∀ σ', At G L st σ' env' H → (∀ vs, (∀ i ∈ t.slots, i ∈ vs) → wipe σ' vs = wipe σ vs) → Q σ' H) → g v σ H Q
theorem wipe_set {i : Nat} {x : Option V} : ∀ {vs : List Nat} {σ : L2.St}, i ∈ vs → wipe (σ.set i x) vs = wipe σ vs
  | [], σ, h => by cases h
  | v :: vs, σ, h => by
    by_cases e : i ∈ vs
    · show (wipe (σ.set i x) vs).set v none = (wipe σ vs).set v none
      rw [wipe_set e]
    · have e2 : i = v := by
        rcases List.mem_cons.mp h with h | h
        · exact h
        · exact absurd h e
      subst e2
      show (wipe (σ.set i x) vs).set i none = (wipe σ vs).set i none
      have key : ∀ (us : List Nat) (τ : L2.St), (wipe (τ.set i x) us).set i none = (wipe τ us).set i none := by
        intro us
        induction us with
        | nil =>
          intro τ
          show (τ.set i x).set i none = τ.set i none
          rw [List.set_set]
        | cons u us ih =>
          intro τ
          show ((wipe (τ.set i x) us).set u none).set i none = ((wipe τ us).set u none).set i none
          by_cases q : u = i
          · rw [q, List.set_set, List.set_set]
            exact ih τ
          · rw [List.set_comm _ _ q, List.set_comm _ _ q, ih τ]
      exact key vs σ
theorem EnvR.set {G : Gb} {L : Lv} {H : Hp} {σ : L2.St} {env : En} (h : EnvR G L H σ env) (i : Nat) {v : V} {d : D} (hv : Va G L H v d) : EnvR G L H (σ.set i (some v)) (env.set i (some d)) :=
  ⟨by rw [List.length_set, List.length_set]; exact h.len, fun j x q => by
    by_cases e : i = j
    · subst e
      have hi : i < env.length := by
        have := (List.getElem?_eq_some_iff.mp q).1
        rw [List.length_set] at this
        exact this
      rw [List.getElem?_set_self hi] at q
      cases q
      exact ⟨v, List.getElem?_set_self (by rw [h.len]; exact hi), hv⟩
    · rw [List.getElem?_set_ne e] at q
      rw [List.getElem?_set_ne e]
      exact h.at_ j x q⟩
theorem tg_nm {G : Gm} {i : Nat} (hF : Flat G := by exact fun _ _ _ h => h) : TgOk G (gName i) (.nm i) := ⟨fun L H st v d σ env env' Q a dv hs k => by
  cases hs
  exact k _ ⟨a.e.set i dv, a.r, hF _ _ _ a.p⟩ fun vs hi => wipe_set (hi i (List.mem_singleton.mpr rfl))⟩
/-- the chain of names of a tuple target -/
def gNames : List Nat → TGs
  | [] => gNil
  | i :: is => gCons (gName i) (gNames is)
theorem gNames_run {G : Gm} {L : Lv} {H : Hp} {st : Store} {Q : L2.St → Hp → Prop} (hF : Flat G) : ∀ (is : List Nat) (ds : List D) (vs : List V) (σ : L2.St) (env env' : En), At G L st σ env H → Das G (off L H) vs ds → setL is ds env = some env' →
    (∀ σ', At G L st σ' env' H → (∀ us, (∀ i ∈ is, i ∈ us) → wipe σ' us = wipe σ us) → Q σ' H) → gNames is vs σ H Q
  | [], [], _, σ, env, env', a, h, hs, k => by
    cases h
    cases hs
    exact ⟨rfl, k σ a fun _ _ => rfl⟩
  | [], _ :: _, _, _, _, _, _, _, hs, _ => by cases hs
  | _ :: _, [], _, _, _, _, _, _, hs, _ => by cases hs
  | i :: is, d :: ds, _, σ, env, env', a, h, hs, k => by
    cases h with
    | @cons v vs _ _ h r =>
      refine ⟨v, vs, rfl, gNames_run hF is ds vs _ _ _ ⟨a.e.set i (.d h), a.r, hF _ _ _ a.p⟩ r hs fun σ' a' w => k σ' a' fun us hi => ?_⟩
      rw [w us fun j hj => hi j (List.mem_cons_of_mem _ hj), wipe_set (hi i List.mem_cons_self)]
theorem tg_tp {G : Gm} {K : PySem.W.Frag} {n : Nat} {is : List Nat} (hn : is.length = n := by rfl) (hF : Flat G := by exact fun _ _ _ h => h) : TgOk G (gTup K n (gNames is)) (.tp is) := ⟨fun L H st v d σ env env' Q a dv hs k => by
  cases d with
  | tup ds =>
    cases dv with
    | d dv =>
      cases dv with
      | @tup p vs _ h r =>
        have hl : ∀ (is : List Nat) (ds : List D) (env env' : En), setL is ds env = some env' → is.length = ds.length := by
          intro is
          induction is with
          | nil =>
            intro ds env env' h
            cases ds with
            | nil => rfl
            | cons _ _ => cases h
          | cons i is ih =>
            intro ds env env' h
            cases ds with
            | nil => cases h
            | cons d ds => simp [ih ds _ _ h]
        refine ⟨p, vs, rfl, .inl (.inl (off_some h).1), ?_, gNames_run hF is ds vs σ env env' a r hs k⟩
        rw [r.length, ← hl is ds _ _ hs, hn]
  | _ => cases hs⟩

def mAsg (m : ME) (t : Tg) : MS := fun env st => bndS (m env st) env fun d st => match setT t d env with
  | some env' => some (.next, env', st)
  | none => none
section
variable {G : Gm} {W : WX} {X : Cx} {e tg : Expr} {ma : ME} {mas : MA} {pos : Pos} {g : TG} {t : Tg}
theorem t_asg (ht : TgOk G g t) {D : Ends} {σ : L2.St} {H : Hp} (q : tMS G W (mAsg ma t) D σ H) : tAsg (tM G W ma) g D σ H := by
  obtain ⟨L, st, env, fl, env', st', at_, hm, hp⟩ := q
  refine tM_bndS at_ hm (hp.err at_) fun d st1 v L1 H1 h1 e1 a1 dv => ?_
  cases hz : setT t d env with
  | none => rw [hz] at h1; cases h1
  | some env2 =>
    rw [hz] at h1
    cases h1
    exact ht.run L1 H1 st' v d σ env env' _ a1 dv hz fun σ' a' _ => hp σ' L1 H1 e1 a'.r a'.e
theorem ms_set {i : Nat} {x : Str} {pos' : Pos} (hN : X.N.Nodup) (hi : X.N[i]? = some x) (hx : Loc X.env.scope x) (he : PE X e (tM G W ma)) (hs : swapsWith e (some (.Name x pos')) pos.line X.env = pure false := by rfl) (hf : X.fn x = true ∨ X.env.scope.names.lookup x = some .local := by first | exact .inl rfl | exact .inr rfl | assumption) (hF : Flat G := by exact fun _ _ _ h => h) :
    PS X (.Assign [.Name x pos'] e pos) (tMS G W (mAsg ma (.nm i))) := PSimp (ps_set hN hi hx he hs hf) fun _ _ _ => t_asg (tg_nm hF)
theorem ms_asg (he : PE X e (tM G W ma)) (hg : PG X tg g) (ht : TgOk G g t) (hs : swapsWithSole [tg] e pos.line X.env = pure false := by rfl) (hw : swappedStores [tg] e X.env = pure none := by rfl)
    (h1 : (assignEach [tg] X.env).map (·.2) = [assign tg X.env] := by rfl) : PS X (.Assign [tg] e pos) (tMS G W (mAsg ma t)) := PSimp (ps_asg he hg hs hw h1) fun _ _ _ => t_asg ht
/-- a, b = x, y -/
def mPar (i j : Nat) (ma : MA) : MS := fun env st => bndS (ma env st) env fun ds st => match ds with
  | [d, e] => some (.next, (env.set i (some d)).set j (some e), st)
  | _ => none
theorem ms_par {i j : Nat} {x y : Str} {a b : Expr} {px py pt : Pos} {kt k2 pt2} (hc : X.calm = true) (hN : X.N.Nodup) (hi : X.N[i]? = some x) (hj : X.N[j]? = some y) (hij : i ≠ j)
    (hx : X.env.scope.names.lookup x = some .local) (hy : X.env.scope.names.lookup y = some .local) (ha : PA X [a, b] (tMA G W mas))
    (hw : swappedStores [.Tuple [.Name x px, .Name y py] kt pt] (.Tuple [a, b] k2 pt2) X.env = pure (some [x, y]))
    (hs : swapsWithSole [.Tuple [.Name x px, .Name y py] kt pt] (.Tuple [a, b] k2 pt2) pos.line X.env = pure false := by rfl) :
    PS X (.Assign [.Tuple [.Name x px, .Name y py] kt pt] (.Tuple [a, b] k2 pt2) pos) (tMS G W (mPar i j mas)) := PSimp (ps_par hc hN hi hj hij hx hy ha hw hs) fun D σ H q => by
  obtain ⟨L, st, env, fl, env', st', at_, hm, hp⟩ := q
  refine tMA_bndS at_ hm (hp.err at_) fun ds st1 vs L1 H1 h1 e1 a1 dv => ?_
  split at h1
  · cases h1
    cases dv with
    | cons h r =>
      cases r with
      | cons h' r =>
        cases r
        exact ⟨_, _, rfl, hp _ L1 H1 e1 a1.r ((a1.e.set i h).set j h')⟩
  · cases h1
end
end M


/-! The M layer: trimming, walks, loops. -/
namespace M
open PySem PySem.Spec PyProof.Rows L2

/-! ### trimming: cells made since are let go -/
def Lv.trim (L : Lv) (n : Nat) : Lv := ⟨L.c.take n, L.h⟩
def refOk (n : Nat) : D → Bool
  | .ref i => decide (i < n)
  | _ => true
def cellOk (n : Nat) : Cell → Bool
  | .ins _ fs => fs.all fun p => refOk n p.2
  | _ => true
def trimO (n : Nat) : Option D → Option D
  | some (.ref i) => if i < n then some (.ref i) else none
  | o => o
def trimE (n : Nat) (env : En) : En := env.map (trimO n)
section
variable {G : Gb} {L L0 : Lv} {H H0 : Hp} {st : Store} {n : Nat}
theorem trim_same : Same (off L H) (off (L.trim n) H) := fun a o h => by
  obtain ⟨h1, h2⟩ := off_some h
  refine off_of h1 fun z => h2 ?_
  rcases z with z | z
  · exact .inl (List.mem_of_mem_take z)
  · exact .inr z
theorem take_get {α : Type} {l : List α} {i : Nat} {x : α} (h : (l.take n)[i]? = some x) : i < n ∧ l[i]? = some x := by
  have q := (List.getElem?_eq_some_iff.mp h).1
  rw [List.length_take] at q
  have hi : i < n := Nat.lt_of_lt_of_le q (Nat.min_le_left _ _)
  rw [List.getElem?_take, if_pos hi] at h
  exact ⟨hi, h⟩
theorem get_take {α : Type} {l : List α} {i : Nat} {x : α} (hi : i < n) (h : l[i]? = some x) : (l.take n)[i]? = some x := by
  rw [List.getElem?_take, if_pos hi]
  exact h
theorem Va.trim (hn : n ≤ L.c.length) {v : V} {d : D} (h : Va G L (off L H) v d) (k : refOk n d = true) : Va G (L.trim n) (off (L.trim n) H) v d := by
  cases h with
  | d h => exact .d (Da.mono (Rl.of_same trim_same) d v h)
  | @ref a i hi h =>
    have hi2 : i < n := of_decide_eq_true k
    refine .ref ?_ fun b q => h b (take_get q).2
    show i < (L.c.take n).length
    rw [List.length_take]
    exact Nat.lt_min.mpr ⟨hi2, hi⟩
theorem VasF.trim (hn : n ≤ L.c.length) : ∀ {vs : List (Str × V)} {ds : List (Str × D)}, VasF G L (off L H) vs ds → (ds.all fun p => refOk n p.2) = true → VasF G (L.trim n) (off (L.trim n) H) vs ds
  | _, _, .nil, _ => .nil
  | _, _, .cons h r, k => by
    rw [List.all_cons, Bool.and_eq_true] at k
    exact .cons (h.trim hn k.1) (VasF.trim hn r k.2)
theorem Rep.trim (R : Rep G L st H) (hn : n ≤ L.c.length) (k : (st.take n).all (cellOk n) = true) : Rep G (L.trim n) (st.take n) H where
  len := by
    show (L.c.take n).length = (st.take n).length
    rw [List.length_take, List.length_take, R.len]
  inj := fun i j a h1 h2 => R.inj i j a (take_get h1).2 (take_get h2).2
  cell := fun i x c hx hc => by
    have hc2 := (take_get hc).2
    have q := R.cell i x c (take_get hx).2 hc2
    have ck : cellOk n c = true := List.all_eq_true.mp k c (List.mem_of_getElem? hc)
    cases x with
    | none => cases c <;> first | exact q | exact q.elim
    | some a =>
      cases c with
      | lst ds => obtain ⟨vs, q1, r⟩ := q; exact ⟨vs, q1, Das.mono (Rl.of_same trim_same) _ _ r⟩
      | dK ds => obtain ⟨vs, q1, r⟩ := q; exact ⟨vs, q1, DasK.mono (Rl.of_same trim_same) _ _ r⟩
      | dT ds => obtain ⟨vs, q1, r⟩ := q; exact ⟨vs, q1, DasT.mono (Rl.of_same trim_same) _ _ r⟩
      | ins c ds => obtain ⟨dx, vs, q1, r⟩ := q; exact ⟨dx, vs, q1, r.trim hn ck⟩
      | dead => exact q.elim
  hid := fun a ha => ⟨(R.hid a ha).1, fun z => (R.hid a ha).2 (List.mem_of_mem_take z)⟩
theorem Ev.trim (e : Ev L0 H0 L H) (hn : L0.c.length = n) : Ev L0 H0 (L.trim n) H where
  le := ⟨by
    show L0.c.length ≤ (L.c.take n).length
    rw [List.length_take, hn]
    have := e.le.len
    omega, fun i a hi h => e.le.at_ i a hi (take_get h).2⟩
  new := fun i a hi h => absurd (take_get h).1 (by omega)
  same := e.same.trans (Rl.of_same trim_same)
  there := e.there
  hh := e.hh
  keep := e.keep
theorem EnvR.trim {σ : L2.St} {env : En} (hn : n ≤ L.c.length) (h : EnvR G L (off L H) σ env) : EnvR G (L.trim n) (off (L.trim n) H) σ (trimE n env) :=
  ⟨by
    unfold trimE
    rw [List.length_map]
    exact h.len, fun i d q => by
    unfold trimE at q
    rw [List.getElem?_map] at q
    cases e : env[i]? with
    | none => rw [e] at q; cases q
    | some o =>
      rw [e] at q
      have q2 : trimO n o = some d := Option.some.inj q
      cases o with
      | none => cases q2
      | some x =>
        obtain ⟨v, h1, h2⟩ := h.at_ i x e
        cases x with
        | ref j =>
          unfold trimO at q2
          dsimp only at q2
          split at q2
          · rename_i hj
            cases q2
            exact ⟨v, h1, h2.trim hn (decide_eq_true hj)⟩
          · cases q2
        | non => cases q2; exact ⟨v, h1, h2.trim hn rfl⟩
        | bl _ => cases q2; exact ⟨v, h1, h2.trim hn rfl⟩
        | int _ => cases q2; exact ⟨v, h1, h2.trim hn rfl⟩
        | str _ => cases q2; exact ⟨v, h1, h2.trim hn rfl⟩
        | ty _ => cases q2; exact ⟨v, h1, h2.trim hn rfl⟩
        | lst _ => cases q2; exact ⟨v, h1, h2.trim hn rfl⟩
        | tup _ => cases q2; exact ⟨v, h1, h2.trim hn rfl⟩
        | ro _ => cases q2; exact ⟨v, h1, h2.trim hn rfl⟩
        | dK _ => cases q2; exact ⟨v, h1, h2.trim hn rfl⟩
        | dT _ => cases q2; exact ⟨v, h1, h2.trim hn rfl⟩
        | obj _ _ => cases q2; exact ⟨v, h1, h2.trim hn rfl⟩
        | ptr _ => cases q2; exact ⟨v, h1, h2.trim hn rfl⟩
        | cls _ => cases q2; exact ⟨v, h1, h2.trim hn rfl⟩⟩
end

/-! ### walks -/
structure WalkD (G : Gb) (J : It) (ds : List D) (L0 : Lv) (H0 : Hp) : Prop where
  go : ∀ i L H, Rl (off L0 H0) (off L H) → i < ds.length → J.go i H
  yld : ∀ (i : Nat) L H (st : Store) (d : D), Rl (off L0 H0) (off L H) → Rep G L st H → ds[i]? = some d → ∀ x H', J.yld i H x H' → Ev L H L H' ∧ Rep G L st H' ∧ Da G (off L H') x d
  stop : ∀ L H, Rl (off L0 H0) (off L H) → J.stop ds.length H
def tMI (G : Gm) (W : WX) (mi : MA) : TI := fun σ H R => ∃ L st env r st', At G L st σ env H ∧ mi env st = some (r, st') ∧ (match r with
  | .ok ds => ∀ J L1 H1, Ev L H L1 H1 → Rep G L1 st' H1 → WalkD G J ds L1 H1 → R J H1
  | .err x => ErrP G L H st' x fun cls dd H' => W cls dd σ H')
theorem PIimp {X : Cx} {tg it : Expr} {t u : TI} (h : PI X tg it t) (k : ∀ σ H Q, u σ H Q → t σ H Q) : PI X tg it u := ⟨fun pins s σ H R I q => h.run pins s σ H R I (k _ _ _ q)⟩
section
variable {G : Gb} {L : Lv} {H : Hp} {st : Store} {a : Addr} {vs : List V} {ds : List D}
theorem walk_list (h : SqL G.K (off L H) a vs) (r : Das G (off L H) vs ds) : WalkD G (Itl G.K a) ds L H := by
  have sq : ∀ L' H', Rl (off L H) (off L' H') → SqL G.K H' a vs := fun L' H' e => by
    rcases h with h | h
    · rcases h with h | ⟨o, h⟩
      · exact .inl (.inl (off_some (e.lst _ _ h)).1)
      · exact .inl (.inr ⟨o, (off_some (e.frz _ _ _ h)).1⟩)
    · exact .inr h
  refine ⟨fun i L' H' e hi => ?_, fun i L' H' st d e R hd x H2 y => ?_, fun L' H' e => ⟨vs, sq _ _ e, by rw [r.length]; exact Nat.le_refl _⟩⟩
  · have hv : i < vs.length := by rw [r.length]; exact hi
    exact ⟨vs, vs[i], sq _ _ e, List.getElem?_eq_getElem hv⟩
  · obtain ⟨rfl, y⟩ := y
    refine ⟨Ev.refl _ _, R, ?_⟩
    obtain ⟨v, hv, dv⟩ := r.getD hd
    have hx := y vs (sq _ _ e)
    rw [hv] at hx
    cases hx
    exact Da.mono e _ _ dv
theorem walk_tup (h : off L H a = some (.tup vs)) (r : Das G (off L H) vs ds) : WalkD G (Itt G.K a) ds L H := by
  have sq : ∀ L' H', Rl (off L H) (off L' H') → SqT G.K H' a vs := fun L' H' e => .inl (.inl (off_some (e.tup _ _ h)).1)
  refine ⟨fun i L' H' e hi => ?_, fun i L' H' st d e R hd x H2 y => ?_, fun L' H' e => ⟨vs, sq _ _ e, by rw [r.length]; exact Nat.le_refl _⟩⟩
  · have hv : i < vs.length := by rw [r.length]; exact hi
    exact ⟨vs, vs[i], sq _ _ e, List.getElem?_eq_getElem hv⟩
  · obtain ⟨rfl, y⟩ := y
    refine ⟨Ev.refl _ _, R, ?_⟩
    obtain ⟨v, hv, dv⟩ := r.getD hd
    have hx := y vs (sq _ _ e)
    rw [hv] at hx
    cases hx
    exact Da.mono e _ _ dv
def intsFrom (lo : Int) (n : Nat) : List D := (List.range n).map fun i => .int (lo + (i : Nat))
theorem walk_range {lo : Int} {n : Nat} : WalkD G (Itr lo n) (intsFrom lo n) L H := by
  refine ⟨fun i L' H' e hi => ?_, fun i L' H' st d e R hd x H2 y => ?_, fun L' H' e => ?_⟩
  · show i < n
    simpa [intsFrom] using hi
  · obtain ⟨rfl, rfl⟩ := y
    refine ⟨Ev.refl _ _, R, ?_⟩
    unfold intsFrom at hd
    rw [List.getElem?_map] at hd
    cases e2 : (List.range n)[i]? with
    | none => rw [e2] at hd; cases hd
    | some j =>
      rw [e2] at hd
      have hj : j = i := by
        have := List.getElem?_eq_some_iff.mp e2
        obtain ⟨h1, h2⟩ := this
        simpa using h2.symm
      subst hj
      cases hd
      exact .int _
  · simp [intsFrom, Itr]
theorem Da.sq {v : V} (h : Da G H v (.lst ds)) : ∃ a vs, v = .ref a ∧ H a = some (.lst vs) ∧ Das G H vs ds := by
  cases h with
  | lst h r => exact ⟨_, _, rfl, h, r⟩
theorem Va.lst_inv {v : V} (h : Va G L H v (.lst ds)) : ∃ a vs, v = .ref a ∧ H a = some (.lst vs) ∧ Das G H vs ds := by
  cases h with
  | d h => exact h.sq
theorem Va.tup_inv {v : V} (h : Va G L H v (.tup ds)) : ∃ a vs, v = .ref a ∧ H a = some (.tup vs) ∧ Das G H vs ds := by
  cases h with
  | d h =>
    cases h with
    | tup h r => exact ⟨_, _, rfl, h, r⟩
theorem Va.ro_inv {v : V} (h : Va G L H v (.ro ds)) : ∃ a vs, v = .ref a ∧ SqL G.K H a vs ∧ Das G H vs ds := by
  cases h with
  | d h =>
    cases h with
    | ro h r => exact ⟨_, _, rfl, h, r⟩
theorem Va.int_inv {v : V} {i : Int} (h : Va G L H v (.int i)) : v = .int i := by
  cases h with
  | d h => cases h; rfl
theorem Va.str_inv {v : V} {i : Str} (h : Va G L H v (.str i)) : v = .str i := by
  cases h with
  | d h => cases h; rfl
theorem Va.non_inv {v : V} (h : Va G L H v .non) : v = .non := by
  cases h with
  | d h => cases h; rfl
theorem off_sq {K : PySem.W.Frag} {xs : List V} (h : SqL K (off L H) a xs) : SqL K H a xs := by
  rcases h with h | h
  · rcases h with h | ⟨o, h⟩
    · exact .inl (.inl (off_some h).1)
    · exact .inl (.inr ⟨o, (off_some h).1⟩)
  · exact .inr h
end
section
variable {G : Gm} {W : WX} {X : Cx} {tg e l : Expr} {ma : ME} {mas : MA}
/-- for x in a list | a tuple -/
def mItL (m : ME) : MA := fun env st => bnd (m env st) fun d st => match d with
  | .lst ds => some (.ok ds, st)
  | .ro ds => some (.ok ds, st)
  | _ => none
def mItT (m : ME) : MA := fun env st => bnd (m env st) fun d st => match d with
  | .tup ds => some (.ok ds, st)
  | _ => none
theorem bnd_err_of {α β γ : Type} {m : Option (Rs α × Store)} {k : α → Store → Option (Rs β × Store)} {r : Rs β} {st' : Store} (h : bnd m k = some (r, st')) : (∃ a st1, m = some (.ok a, st1) ∧ k a st1 = some (r, st')) ∨ ∃ x, m = some (.err x, st') ∧ r = .err x := bnd_cases h
theorem mi_list (hl : PE X l (tM G W ma)) (hK : G.K = X.K := by rfl) : PI X tg l (tMI G W (mItL ma)) := PIimp (pi_list hl) fun σ H R q => by
  obtain ⟨L, st, env, r, st', at_, hm, hp⟩ := q
  refine tM_bnd at_ hm (by rintro x rfl; exact hp) fun d st1 v L1 H1 h1 e1 a1 dv => ?_
  split at h1
  · cases h1
    obtain ⟨a, vs, rfl, h, rr⟩ := dv.lst_inv
    exact ⟨a, rfl, ⟨vs, .inl (.inl (off_some h).1)⟩, hK ▸ hp _ L1 H1 e1 a1.r (walk_list (G := G) (.inl (.inl h)) rr)⟩
  · cases h1
    obtain ⟨a, vs, rfl, h, rr⟩ := dv.ro_inv
    exact ⟨a, rfl, ⟨vs, hK ▸ off_sq h⟩, hK ▸ hp _ L1 H1 e1 a1.r (walk_list (G := G) h rr)⟩
  · cases h1
theorem mi_tup (hl : PE X l (tM G W ma)) (hK : G.K = X.K := by rfl) : PI X tg l (tMI G W (mItT ma)) := PIimp (pi_tup hl) fun σ H R q => by
  obtain ⟨L, st, env, r, st', at_, hm, hp⟩ := q
  refine tM_bnd at_ hm (by rintro x rfl; exact hp) fun d st1 v L1 H1 h1 e1 a1 dv => ?_
  split at h1
  · cases h1
    obtain ⟨a, vs, rfl, h, rr⟩ := dv.tup_inv
    exact ⟨a, rfl, ⟨vs, .inl (.inl (off_some h).1)⟩, hK ▸ hp _ L1 H1 e1 a1.r (walk_tup (G := G) h rr)⟩
  · cases h1
/-- either -/
def mItS (m : ME) : MA := fun env st => bnd (m env st) fun d st => match d with
  | .lst ds => some (.ok ds, st)
  | .ro ds => some (.ok ds, st)
  | .tup ds => some (.ok ds, st)
  | _ => none
theorem mi_seq (hl : PE X l (tM G W ma)) (hK : G.K = X.K := by rfl) : PI X tg l (tMI G W (mItS ma)) := PIimp (pi_or2 (mi_list hl hK) (mi_tup hl hK)) fun σ H R q => by
  obtain ⟨L, st, env, r, st', at_, hm, hp⟩ := q
  rcases bnd_cases hm with ⟨d, st1, h1, h2⟩ | ⟨x, h1, rfl⟩
  · cases d with
    | lst ds => exact .inl ⟨L, st, env, r, st', at_, by unfold mItL; rw [h1]; exact h2, hp⟩
    | ro ds => exact .inl ⟨L, st, env, r, st', at_, by unfold mItL; rw [h1]; exact h2, hp⟩
    | tup ds => exact .inr ⟨L, st, env, r, st', at_, by unfold mItT; rw [h1]; exact h2, hp⟩
    | _ => cases h2
  · exact .inl ⟨L, st, env, _, st', at_, by unfold mItL; rw [h1]; rfl, hp⟩
/-- range -/
def mRng1 (ma : MA) : MA := fun env st => bnd (ma env st) fun ds st => match ds with
  | [.int j] => if -(2 ^ 62) ≤ j ∧ j < 2 ^ 62 then some (.ok (intsFrom 0 j.toNat), st) else none
  | _ => none
def mRng2 (ma : MA) : MA := fun env st => bnd (ma env st) fun ds st => match ds with
  | [.int i, .int j] => if -(2 ^ 62) ≤ i ∧ i < 2 ^ 62 ∧ -(2 ^ 62) ≤ j ∧ j < 2 ^ 62 then some (.ok (intsFrom i (j - i).toNat), st) else none
  | _ => none
theorem mi_rng1 {a : Expr} {p pos : Pos} (hg : Gl X "range") (hm : X.mg "range" = none) (ha : PA X [a] (tMA G W mas)) (hs : starEach [a] X.env = [(false, eval a X.env)] := by rfl) : PI X tg (.Call (.Name "range" p) [a] [] pos) (tMI G W (mRng1 mas)) :=
  PIimp (pi_range1 hg hm ha hs) fun σ H R q => by
    obtain ⟨L, st, env, r, st', at_, hm, hp⟩ := q
    refine tMA_bnd at_ hm (by rintro x rfl; exact hp) fun d st1 v L1 H1 h1 e1 a1 dv => ?_
    split at h1
    · split at h1
      · rename_i j hj
        cases h1
        cases dv with
        | cons h t =>
          cases t
          cases h.int_inv
          exact ⟨j, rfl, hj.1, hj.2, hp _ L1 H1 e1 a1.r walk_range⟩
      · cases h1
    · cases h1
theorem mi_rng2 {a b : Expr} {p pos : Pos} (hg : Gl X "range") (hm : X.mg "range" = none) (ha : PA X [a, b] (tMA G W mas)) (hs : starEach [a, b] X.env = [(false, eval a X.env), (false, eval b X.env)] := by rfl) (hs2 : starEach [b] X.env = [(false, eval b X.env)] := by rfl) :
    PI X tg (.Call (.Name "range" p) [a, b] [] pos) (tMI G W (mRng2 mas)) :=
  PIimp (pi_range2 hg hm ha hs hs2) fun σ H R q => by
    obtain ⟨L, st, env, r, st', at_, hm, hp⟩ := q
    refine tMA_bnd at_ hm (by rintro x rfl; exact hp) fun d st1 v L1 H1 h1 e1 a1 dv => ?_
    split at h1
    · split at h1
      · rename_i i j hj
        cases h1
        cases dv with
        | cons h t =>
          cases t with
          | cons h' t =>
            cases t
            cases h.int_inv
            cases h'.int_inv
            exact ⟨i, j, rfl, hj, hp _ L1 H1 e1 a1.r walk_range⟩
      · cases h1
    · cases h1
end

/-! ### for -/
def forD (n : Nat) (t : Tg) (body : MS) : List D → En → Store → Option (Fl × En × Store)
  | [], env, st => some (.next, env, st)
  | d :: ds, env, st => match setT t d env with
    | none => none
    | some env1 => match body env1 st with
      | some (.next, env2, st2) => if (st2.take n).all (cellOk n) = true then forD n t body ds (trimE n env2) (st2.take n) else none
      | some (.cont, env2, st2) => if (st2.take n).all (cellOk n) = true then forD n t body ds (trimE n env2) (st2.take n) else none
      | some (.brk, env2, st2) => if (st2.take n).all (cellOk n) = true then some (.next, trimE n env2, st2.take n) else none
      | r => r
def mFor (mi : MA) (t : Tg) (body : MS) : MS := fun env st => bndS (mi env st) env fun ds st => forD st.length t body ds env st
section
variable {G : Gm} {W : WX} {X : Cx} {tg iter : Expr} {body : List Stmt} {mi : MA} {g : TG} {t : Tg} {mb : MS} {pos : Pos}
theorem t_for (hF : Flat G) (ht : TgOk G g t) {D0 : Ends} {σ : L2.St} {H : Hp} (q : tMS G W (mFor mi t mb) D0 σ H) : tFor (tMI G W mi) g (tMS G W mb) D0 σ H := by
  obtain ⟨L, st, env, fl, env', st', at_, hm, hp⟩ := q
  rcases bndS_cases hm with ⟨ds, st1, h1, h2⟩ | ⟨x, h1, rfl, rfl⟩
  · refine ⟨L, st, env, _, st1, at_, h1, fun J L1 H1 e1 r1 wk => ?_⟩
    have hn : L1.c.length = st1.length := r1.len
    refine ⟨fun i m σ' H' => ∃ L2 st2 env2, Ev L1 H1 L2 H' ∧ At G L2 st2 σ' env2 H' ∧ i ≤ ds.length ∧ m = ds.length - i ∧ forD st1.length t mb (ds.drop i) env2 st2 = some (fl, env', st'),
      ⟨ds.length, L1, st1, env, Ev.refl _ _, at_.ev e1 r1, Nat.zero_le _, rfl, h2⟩, ?_⟩
    rintro i m σ2 H2 ⟨L2', st2, env2, e2, a2, hi, rfl, hf⟩
    by_cases hlt : i < ds.length
    · have hd : ds[i]? = some ds[i] := List.getElem?_eq_getElem hlt
      have hdrop : ds.drop i = ds[i] :: ds.drop (i + 1) := List.drop_eq_getElem_cons hlt
      rw [hdrop] at hf
      refine .inr ⟨wk.go i L2' H2 e2.same hlt, fun σ' H' => ∃ L3 st2 env2, Ev L1 H1 L3 H' ∧ At G L3 st2 σ' env2 H' ∧ i + 1 ≤ ds.length ∧ forD st1.length t mb (ds.drop (i + 1)) env2 st2 = some (fl, env', st'),
        fun σ' H' ⟨L3, st3, env3, e3, a3, h3, f3⟩ => ⟨ds.length - (i + 1), by omega, L3, st3, env3, e3, a3, h3, rfl, f3⟩, fun x H3 y => ?_⟩
      obtain ⟨e3, r3, dx⟩ := wk.yld i L2' H2 st2 _ e2.same a2.r hd x H3 y
      have a3 := a2.ev e3 r3
      have e13 := e2.trans e3
      unfold forD at hf
      cases hz : setT t ds[i] env2 with
      | none => rw [hz] at hf; cases hf
      | some env3 =>
        rw [hz] at hf
        dsimp only at hf
        refine ht.run L2' H3 st2 x _ σ2 env2 env3 _ a3 (.d dx) hz fun σ4 a4 _ => ?_
        cases hb : mb env3 st2 with
        | none => rw [hb] at hf; cases hf
        | some p =>
          obtain ⟨fl2, env4, st4⟩ := p
          rw [hb] at hf
          refine ⟨L2', st2, env3, fl2, env4, st4, a4, hb, ?_⟩
          have cont : ∀ (hc : (st4.take st1.length).all (cellOk st1.length) = true) (hg : forD st1.length t mb (ds.drop (i + 1)) (trimE st1.length env4) (st4.take st1.length) = some (fl, env', st')) (σ' : L2.St) (L' : Lv) (H' : Hp), Ev L2' H3 L' H' → Rep G L' st4 H' → EnvR G L' (off L' H') σ' env4 →
              ∃ L3 st2 env2, Ev L1 H1 L3 H' ∧ At G L3 st2 σ' env2 H' ∧ i + 1 ≤ ds.length ∧ forD st1.length t mb (ds.drop (i + 1)) env2 st2 = some (fl, env', st') := fun hc hg σ' L' H' e5 r5 en5 => by
            have ee := e13.trans e5
            have hl : st1.length ≤ L'.c.length := by rw [← hn]; exact ee.le.len
            exact ⟨L'.trim st1.length, _, _, ee.trim hn, (at_.ev e1 r1).to hF (ee.trim hn) (r5.trim hl hc) (en5.trim hl), hlt, hg⟩
          cases fl2 with
          | next =>
            dsimp only at hf
            split at hf
            · rename_i hc
              exact cont hc hf
            · cases hf
          | cont =>
            dsimp only at hf
            split at hf
            · rename_i hc
              exact cont hc hf
            · cases hf
          | brk =>
            dsimp only at hf
            split at hf
            · rename_i hc
              cases hf
              intro σ' L' H' e5 r5 en5
              have ee := e13.trans e5
              have hl : st1.length ≤ L'.c.length := by rw [← hn]; exact ee.le.len
              exact hp σ' (L'.trim st1.length) H' (e1.trans (ee.trim hn)) (r5.trim hl hc) (en5.trim hl)
            · cases hf
          | ret d =>
            cases hf
            exact fun v L' H' e5 r5 dv => hp v L' H' (e1.trans (e13.trans e5)) r5 dv
          | err x =>
            cases hf
            exact fun cls dd σ' L' H' e5 r5 en5 xr => hp cls dd σ' L' H' (e1.trans (e13.trans e5)) r5 en5 xr
    · have hi2 : i = ds.length := by omega
      subst hi2
      rw [List.drop_length] at hf
      cases hf
      exact .inl ⟨wk.stop L2' H2 e2.same, hp σ2 L2' H2 (e1.trans e2) a2.r a2.e⟩
  · exact ⟨L, st, env', _, st', at_, h1, hp.err at_ x rfl rfl⟩
theorem ms_for (hpo : PassesOwn (model X.prog X.w) X.A X.env X.xe) (hc : X.calm = true) (hi : PI X tg iter (tMI G W mi)) (hg : PG X tg g) (ht : TgOk G g t) (hb : PSs X body (tMS G W mb))
    (hs : ∀ x, foldedSetIterable iter X.env x = pure x := by intro _; rfl) (hF : Flat G := by exact fun _ _ _ h => h) : PS X (.For tg iter body [] pos) (tMS G W (mFor mi t mb)) := PSimp (ps_for hpo hc hi hg hb hs) fun _ _ _ => t_for hF ht
end
end M


/-! The M layer: comprehensions, defs, calls. -/
namespace M
open PySem PySem.Spec PyProof.Rows L2

/-! ### hiding -/
section
variable {G : Gb} {L L2' : Lv} {H H2 : Hp} {st : Store} {p : Addr} {o o' : HO}
theorem off_hid (hp : p ∈ L.h) : off L (upd H p o) = off L H := by
  funext a
  unfold off
  by_cases e : a = p
  · subst e
    rw [if_pos (.inr hp), if_pos (.inr hp)]
  · rw [upd_ne e]
def Lv.hide (L : Lv) (p : Addr) : Lv := ⟨L.c, p :: L.h⟩
def Lv.back (L2' L : Lv) : Lv := ⟨L2'.c, L.h⟩
theorem hide_same (hp : H p = none) : Same (off L H) (off (L.hide p) (upd H p o)) := fun a u h => by
  obtain ⟨h1, h2⟩ := off_some h
  have ne : a ≠ p := ne_of_none h1 hp
  refine off_of (by rw [upd_ne ne]; exact h1) fun z => h2 ?_
  rcases z with z | z
  · exact .inl z
  · rcases List.mem_cons.mp z with z | z
    · exact absurd z ne
    · exact .inr z
theorem CellR.same {L1 : Lv} {H1 : Hp} {x : Option Addr} {c : Cell} (s : Same (off L H) (off L1 H1)) (l : L.c = L1.c) (k : ∀ a u, x = some a → H a = some u → H1 a = some u) (h : CellR G L H x c) : CellR G L1 H1 x c := by
  cases x with
  | none => cases c <;> first | exact h | exact h.elim
  | some a =>
    cases c with
    | lst ds => obtain ⟨vs, q, r⟩ := h; exact ⟨vs, k _ _ rfl q, Das.mono (Rl.of_same s) _ _ r⟩
    | dK ds => obtain ⟨vs, q, r⟩ := h; exact ⟨vs, k _ _ rfl q, DasK.mono (Rl.of_same s) _ _ r⟩
    | dT ds => obtain ⟨vs, q, r⟩ := h; exact ⟨vs, k _ _ rfl q, DasT.mono (Rl.of_same s) _ _ r⟩
    | ins c ds => obtain ⟨dx, vs, q, r⟩ := h; exact ⟨dx, vs, k _ _ rfl q, VasF.mono ⟨by rw [l]; exact Nat.le_refl _, fun i a _ z => by rw [l]; exact z⟩ (Rl.of_same s) r⟩
    | dead => exact h.elim
theorem Rep.hide (R : Rep G L st H) (hp : H p = none) (ho : ∀ xs, o ≠ .tup xs := by intro xs z; cases z) : Rep G (L.hide p) st (upd H p o) where
  len := R.len
  inj := R.inj
  cell := fun i x c hx hc => CellR.same (L := L) (H := H) (hide_same hp) rfl (fun a u ea h => by rw [upd_ne (ne_of_none h hp)]; exact h) (R.cell i x c hx hc)
  hid := fun a ha => by
    rcases List.mem_cons.mp ha with e | ha
    · subst e
      exact ⟨(by rw [upd_same]; exact ⟨(fun z => nomatch z), fun xs z => ho xs (Option.some.inj z)⟩), fun z => R.fresh hp (.inl z)⟩
    · have q := R.hid a ha
      have e : a ≠ p := fun e => q.1.1 (by rw [e]; exact hp)
      exact ⟨by rw [upd_ne e]; exact q.1, q.2⟩
theorem Rep.hupd (R : Rep G L st H) (hp : p ∈ L.h) (ho : ∀ xs, o ≠ .tup xs := by intro xs z; cases z) : Rep G L st (upd H p o) where
  len := R.len
  inj := R.inj
  cell := fun i x c hx hc => CellR.same (L := L) (H := H) (by rw [off_hid hp]; exact Same.refl _) rfl (fun a u ea h => by
    have ne : a ≠ p := fun z => (R.hid p hp).2 (by subst ea; rw [← z]; exact List.mem_of_getElem? hx)
    rw [upd_ne ne]
    exact h) (R.cell i x c hx hc)
  hid := fun a ha => by
    have q := R.hid a ha
    by_cases e : a = p
    · exact ⟨by rw [e, upd_same]; exact ⟨(fun z => nomatch z), fun xs z => ho xs (Option.some.inj z)⟩, q.2⟩
    · exact ⟨by rw [upd_ne e]; exact q.1, q.2⟩
/-- both at the start and now the hidden one is another -/
theorem Ev.hupd (e : Ev (L.hide p) (upd H p o) L2' H2) : Ev (L.hide p) (upd H p o') L2' (upd H2 p o') where
  le := e.le
  new := fun i a hi h => by
    have q := e.new i a hi h
    by_cases z : a = p
    · rw [z, upd_same] at q; cases q
    · rw [upd_ne z] at q ⊢; exact q
  same := by
    have h2 : p ∈ L2'.h := by rw [e.hh]; exact List.mem_cons_self
    have h1 : p ∈ (L.hide p).h := List.mem_cons_self
    have q := e.same
    rw [off_hid h1] at q
    rw [off_hid h2, off_hid h1]
    exact q
  there := fun a h => by
    by_cases z : a = p
    · rw [z, upd_same] at h; cases h
    · rw [upd_ne z] at h ⊢
      have := e.there a h
      rw [upd_ne z] at this
      exact this
  hh := e.hh
  keep := fun a ha => by
    by_cases z : a = p
    · rw [z, upd_same, upd_same]
    · rw [upd_ne z, upd_ne z]
      have := e.keep a ha
      rw [upd_ne z] at this
      exact this
theorem back_same (e : Ev (L.hide p) (upd H p o) L2' H2) : Same (off L2' H2) (off (L2'.back L) H2) := fun a u h => by
  obtain ⟨h1, h2⟩ := off_some h
  refine off_of h1 fun z => h2 ?_
  rcases z with z | z
  · exact .inl z
  · exact .inr (by rw [e.hh]; exact List.mem_cons_of_mem _ z)
theorem Ev.back (e : Ev (L.hide p) (upd H p o) L2' H2) (R : Rep G L st H) (hp : H p = none) : Ev L H (L2'.back L) H2 where
  le := ⟨e.le.len, e.le.at_⟩
  new := fun i a hi h => by
    have q := e.new i a hi h
    by_cases z : a = p
    · rw [z]; exact hp
    · rw [upd_ne z] at q; exact q
  same := ((Rl.of_same (hide_same hp)).trans e.same).trans (Rl.of_same (back_same e))
  there := fun a h => by
    have q := e.there a h
    by_cases z : a = p
    · rw [z]; exact hp
    · rw [upd_ne z] at q; exact q
  hh := rfl
  keep := fun a ha => by
    have q := e.keep a (List.mem_cons_of_mem _ ha)
    have z : a ≠ p := fun z => (R.hid a ha).1.1 (by rw [z]; exact hp)
    rw [upd_ne z] at q
    exact q
theorem Rep.back {st2 : Store} (e : Ev (L.hide p) (upd H p o) L2' H2) (R : Rep G L2' st2 H2) : Rep G (L2'.back L) st2 H2 where
  len := R.len
  inj := R.inj
  cell := fun i x c hx hc => CellR.same (L := L2') (H := H2) (back_same e) rfl (fun a u _ h => h) (R.cell i x c hx hc)
  hid := fun a ha => R.hid a (by rw [e.hh]; exact List.mem_cons_of_mem _ ha)
/-- the hidden one comes into sight -/
theorem back_at (e : Ev (L.hide p) (upd H p o) L2' H2) {st2 : Store} (R : Rep G L2' st2 H2) (R0 : Rep G L st H) (hp : H p = none) : off (L2'.back L) H2 p = some o := by
  have h1 : p ∈ (L.hide p).h := List.mem_cons_self
  refine off_of (by rw [e.keep p h1, upd_same]) fun z => ?_
  rcases z with z | z
  · exact (R.hid p (by rw [e.hh]; exact h1)).2 z
  · exact (R0.hid p z).1.1 hp
end

/-! ### list comprehensions -/
def wipeE (env : En) : List Nat → En
  | [] => env
  | v :: vs => (wipeE env vs).set v none
theorem EnvR.unset {G : Gb} {L : Lv} {H : Hp} {σ : L2.St} {env : En} (h : EnvR G L H σ env) (i : Nat) : EnvR G L H (σ.set i none) (env.set i none) :=
  ⟨by rw [List.length_set, List.length_set]; exact h.len, fun j x q => by
    by_cases e : i = j
    · subst e
      have hi : i < env.length := by
        have := (List.getElem?_eq_some_iff.mp q).1
        rw [List.length_set] at this
        exact this
      rw [List.getElem?_set_self hi] at q
      cases q
    · rw [List.getElem?_set_ne e] at q
      rw [List.getElem?_set_ne e]
      exact h.at_ j x q⟩
theorem EnvR.wipe {G : Gb} {L : Lv} {H : Hp} {σ : L2.St} {env : En} (h : EnvR G L H σ env) : ∀ vs : List Nat, EnvR G L H (L2.wipe σ vs) (wipeE env vs)
  | [] => h
  | v :: vs => (EnvR.wipe h vs).unset v
theorem wipe_wipe {σ : L2.St} : ∀ (vs us : List Nat), (∀ i ∈ vs, i ∈ us) → L2.wipe (L2.wipe σ vs) us = L2.wipe σ us
  | [], us, _ => rfl
  | v :: vs, us, h => by
    show L2.wipe ((L2.wipe σ vs).set v none) us = _
    rw [wipe_set (h v List.mem_cons_self), wipe_wipe vs us fun i hi => h i (List.mem_cons_of_mem _ hi)]
def tYesM : MT := fun _ st => some (.ok true, st)
def big : Nat := 1000000
def compD (t : Tg) (mt : MT) (me : ME) (env : En) : List D → Store → Option (List D × Store)
  | [], st => some ([], st)
  | d :: ds, st => match setT t d env with
    | none => none
    | some env1 => match mt env1 st with
      | some (.ok true, st1) => match me env1 st1 with
        | some (.ok y, st2) => if isD y = true then (match compD t mt me env ds st2 with
          | some (ys, st3) => some (y :: ys, st3)
          | none => none) else none
        | _ => none
      | some (.ok false, st1) => compD t mt me env ds st1
      | _ => none
def mLc (mi : MA) (t : Tg) (mt : MT) (me : ME) (vs : List Nat) : ME := fun env st => bnd (mi env st) fun ds st => match compD t mt me (wipeE env vs) ds st with
  | some (ys, st2) => if ys.length ≤ big then some (.ok (.lst ys), st2) else none
  | none => none
section
variable {G : Gm} {W W0 : WX} {X : Cx} {elt tg iter : Expr} {ifs : List Expr} {scope : Scope} {own : List (Str × Nat)} {pos : Pos} {mi : MA} {g : TG} {t : Tg} {mt : MT} {me : ME}
theorem t_lc {vs : List Nat} (hF : Flat G) (ht : TgOk G g t) (hsl : ∀ i ∈ t.slots, i ∈ vs) {σ : L2.St} {H : Hp} {Q : VK} (q : tM G W (mLc mi t mt me vs) σ H Q) : tLc (tMI G W mi) g (tMT G W0 mt) (tM G W0 me) vs σ H Q := by
  obtain ⟨L, st, env, r, st', at_, hm, hp⟩ := q
  rcases bnd_cases hm with ⟨ds, st1, h1, h2⟩ | ⟨x, h1, rfl⟩
  · refine ⟨L, st, env, _, st1, at_, h1, fun J L1 H1 e1 r1 wk p hpn => ?_⟩
    split at h2
    · rename_i ys0 stF hc
      split at h2
      · rename_i hbig
        cases h2
        have a1 := at_.ev e1 r1
        refine ⟨fun i m H' => ∃ L2' st2 acc accD ys, Ev (L1.hide p) (upd H1 p (.lst acc)) L2' H' ∧ Rep G L2' st2 H' ∧ Das G (off L2' H') acc accD ∧ i ≤ ds.length ∧ m = ds.length - i ∧
            compD t mt me (wipeE env vs) (ds.drop i) st2 = some (ys, st') ∧ accD ++ ys = ys0,
          ⟨ds.length, L1.hide p, st1, [], [], ys0, Ev.refl _ _, r1.hide hpn, .nil, Nat.zero_le _, rfl, hc, rfl⟩, ?_⟩
        rintro i m H2 ⟨L2', st2, acc, accD, ys, e2, r2, dacc, hi, rfl, hcc, heq⟩
        have sm := ((Rl.of_same (hide_same (L := L1) hpn)).trans e2.same)
        by_cases hlt : i < ds.length
        · have hd : ds[i]? = some ds[i] := List.getElem?_eq_getElem hlt
          have hdrop : ds.drop i = ds[i] :: ds.drop (i + 1) := List.drop_eq_getElem_cons hlt
          rw [hdrop] at hcc
          refine .inr ⟨wk.go i L2' H2 sm hlt, fun H' => ∃ L3 st3 acc accD ys, Ev (L1.hide p) (upd H1 p (.lst acc)) L3 H' ∧ Rep G L3 st3 H' ∧ Das G (off L3 H') acc accD ∧ i + 1 ≤ ds.length ∧
              compD t mt me (wipeE env vs) (ds.drop (i + 1)) st3 = some (ys, st') ∧ accD ++ ys = ys0,
            fun H' ⟨L3, st3, a3, aD3, y3, x1, x2, x3, x4, x5, x6⟩ => ⟨ds.length - (i + 1), by omega, L3, st3, a3, aD3, y3, x1, x2, x3, x4, rfl, x5, x6⟩, fun x H3 y => ?_⟩
          obtain ⟨e3, r3, dx⟩ := wk.yld i L2' H2 st2 _ sm r2 hd x H3 y
          have e13 := e2.trans e3
          unfold compD at hcc
          cases hz : setT t ds[i] (wipeE env vs) with
          | none => rw [hz] at hcc; cases hcc
          | some env3 =>
            rw [hz] at hcc
            dsimp only at hcc
            have enW : EnvR G L2' (off L2' H3) (L2.wipe σ vs) (wipeE env vs) := EnvR.wipe
              (⟨a1.e.len, fun j d q => by
                obtain ⟨v, q1, q2⟩ := a1.e.at_ j d q
                refine ⟨v, q1, ?_⟩
                exact Va.mono (L := L1) (⟨e13.le.len, e13.le.at_⟩ : Le L1 L2') ((Rl.of_same (hide_same (L := L1) hpn)).trans e13.same) q2⟩) vs
            refine ht.run L2' H3 st2 x _ _ _ env3 _ ⟨enW, r3, G.up _ _ _ ((Rl.of_same (hide_same (L := L1) hpn)).trans e13.same) (hF _ _ _ a1.p)⟩ (.d dx) hz fun σ4 a4 hw => ?_
            refine ⟨by rw [hw vs hsl, wipe_wipe vs vs fun _ h => h], ?_⟩
            cases hb : mt env3 st2 with
            | none => rw [hb] at hcc; cases hcc
            | some q =>
              obtain ⟨rb, st4⟩ := q
              rw [hb] at hcc
              cases rb with
              | err _ => cases hcc
              | ok b =>
                refine ⟨L2', st2, env3, _, st4, a4, hb, fun L4 H4 e4 r4 => ?_⟩
                cases b with
                | false =>
                  dsimp only at hcc
                  rw [if_neg Bool.false_ne_true]
                  exact ⟨L4, st4, acc, accD, ys, e13.trans e4, r4, e4.das (e3.das dacc), hlt, hcc, heq⟩
                | true =>
                  dsimp only at hcc
                  rw [if_pos rfl]
                  cases hv : me env3 st4 with
                  | none => rw [hv] at hcc; cases hcc
                  | some q =>
                    obtain ⟨rv, st5⟩ := q
                    rw [hv] at hcc
                    cases rv with
                    | err _ => cases hcc
                    | ok y =>
                      dsimp only at hcc
                      split at hcc
                      · rename_i hpure
                        split at hcc
                        · rename_i ys5 st6 hc5
                          cases hcc
                          refine ⟨L4, st4, env3, _, st5, a4.ev e4 r4, hv, fun v L5 H5 e5 r5 dv => ?_⟩
                          have e15 := (e13.trans e4).trans e5
                          have h1 : p ∈ (L1.hide p).h := List.mem_cons_self
                          have hp5 : p ∈ L5.h := by rw [e15.hh]; exact h1
                          have hat : H5 p = some (.lst acc) := by rw [e15.keep p h1, upd_same]
                          have dacc5 : Das G (off L5 H5) acc accD := e5.das (e4.das (e3.das dacc))
                          have hlen : acc.length < sizeLine := by
                            have q1 := dacc.length
                            have q2 : accD.length + (y :: ys5).length ≤ big := by rw [← List.length_append, heq]; exact hbig
                            rw [sizeLine_eq]
                            unfold big at q2
                            simp at q2
                            omega
                          refine ⟨acc, hat, hlen, L5, st5, acc ++ [v], accD ++ [y], ys5, e15.hupd, r5.hupd hp5, ?_, hlt, hc5, by rw [List.append_assoc]; exact heq⟩
                          rw [off_hid hp5]
                          exact dacc5.append (.cons (dv.da hpure) .nil)
                        · cases hcc
                      · cases hcc
        · have hi2 : i = ds.length := by omega
          subst hi2
          rw [List.drop_length] at hcc
          cases hcc
          rw [List.append_nil] at heq
          subst heq
          refine .inl ⟨wk.stop L2' H2 sm, ?_⟩
          exact hp _ (L2'.back L1) H2 (e1.trans (e2.back r1 hpn)) (Rep.back e2 r2) (.d (.lst (back_at e2 r2 r1 hpn) (Das.mono (Rl.of_same (back_same e2)) _ _ dacc)))
      · cases h2
    · cases h2
  · exact ⟨L, st, env, _, st', at_, h1, hp⟩
theorem m_lc (hc : X.calm = true) (hN : X.N.Nodup) (hi : PI X tg iter (tMI G W mi)) (ok : BlkOk X.N X.env.scope scope own)
    (hg : ∀ (s : Shared) (H : Hp) (C : Addr) (cl : List (Str × Addr)) (fp : List Addr), PG (X.blk s H scope (compEnvC scope cl C X.env) fp) tg g) (hT : ∀ (s : Shared) (H : Hp) (C : Addr) (cl : List (Str × Addr)) (fp : List Addr), PTs (X.blk s H scope (compEnvC scope cl C X.env) fp) ifs (tMT G W0 mt))
    (he : ∀ (s : Shared) (H : Hp) (C : Addr) (cl : List (Str × Addr)) (fp : List Addr), PE (X.blk s H scope (compEnvC scope cl C X.env) fp) elt (tM G W0 me)) (ht : TgOk G g t) (hsl : ∀ i ∈ t.slots, i ∈ own.map (·.2)) (hs : ∀ x, foldedSetIterable iter X.env x = pure x := by intro _; rfl) (hF : Flat G := by exact fun _ _ _ h => h) :
    PE X (.ListComp elt [⟨tg, iter, ifs, 0⟩] scope pos) (tM G W (mLc mi t mt me (own.map (·.2)))) := PEimp (pe_lc hc hN hi ok hg hT he hs) fun _ _ _ => t_lc hF ht hsl
theorem ms_setLc {i : Nat} {y : Str} {py spos : Pos} (hc : X.calm = true) (hN : X.N.Nodup) (hy : X.N[i]? = some y) (hyl : X.env.scope.names.lookup y = some .local)
    (hsw : swapsWith (.ListComp elt [⟨tg, iter, ifs, 0⟩] scope pos) (some (.Name y py)) spos.line X.env = pure true) (hi : PI X tg iter (tMI G W mi)) (ok : BlkOk X.N X.env.scope scope own)
    (hg : ∀ (s : Shared) (H : Hp) (C : Addr) (cl : List (Str × Addr)) (fp : List Addr), PG (X.blk s H scope (compEnvC scope cl C X.env) fp) tg g) (hT : ∀ (s : Shared) (H : Hp) (C : Addr) (cl : List (Str × Addr)) (fp : List Addr), PTs (X.blk s H scope (compEnvC scope cl C X.env) fp) ifs (tMT G W0 mt))
    (he : ∀ (s : Shared) (H : Hp) (C : Addr) (cl : List (Str × Addr)) (fp : List Addr), PE (X.blk s H scope (compEnvC scope cl C X.env) fp) elt (tM G W0 me)) (ht : TgOk G g t) (hsl : ∀ i ∈ t.slots, i ∈ own.map (·.2)) (hs : ∀ x, foldedSetIterable iter X.env x = pure x := by intro _; rfl) (hF : Flat G := by exact fun _ _ _ h => h) :
    PS X (.Assign [.Name y py] (.ListComp elt [⟨tg, iter, ifs, 0⟩] scope pos) spos) (tMS G W (mAsg (mLc mi t mt me (own.map (·.2))) (.nm i))) :=
  PSimp (ps_setLc hc hN hy hyl hsw hi ok hg hT he hs) fun D σ H q => by
    have q2 := t_asg (G := G) (tg_nm hF) q
    exact t_lc hF ht hsl q2
theorem mts_nil : PTs X [] (tMT G W tYesM) := ⟨fun pins s σ H Q I h => by
  refine pts_nil.run pins s σ H Q I ?_
  obtain ⟨L, st, env, r, st', at_, hm, hp⟩ := h
  cases hm
  exact hp L H (Ev.refl L H) at_.r⟩
theorem mts_one {c : Expr} (h : PT X c (tMT G W mt)) : PTs X [c] (tMT G W mt) := pts_one h
end
end M


/-! The M layer: defs, calls, instances, errors. -/
namespace M
open PySem PySem.Spec PyProof.Rows L2

/-! ### defs -/
abbrev Call := List D → Store → Option (Rs D × Store)
/-- what a def hands back: a cell made since comes as what it holds; cells made since are let go -/
def finD (n : Nat) (d : D) (st : Store) : Option (D × Store) :=
  if (st.take n).all (cellOk n) = true then
    match d with
    | .ref i => if i < n then some (.ref i, st.take n) else match st[i]? with
      | some (.lst ds) => some (.lst ds, st.take n)
      | some (.dK kvs) => some (.dK kvs, st.take n)
      | some (.dT kvs) => some (.dT kvs, st.take n)
      | some (.ins c fs) => if (fs.all fun p => isD p.2) = true then some (.obj c fs, st.take n) else none
      | _ => none
    | d => some (d, st.take n)
  else none
def startE (k : Nat) (ds : List D) : En := ds.map some ++ List.replicate (k - ds.length) none
def mkD (m : MS) (k : Nat) : Call := fun ds st => match m (startE k ds) st with
  | some (.next, _, st') => (match finD st.length .non st' with
    | some (d, st2) => some (.ok d, st2)
    | none => none)
  | some (.ret d, _, st') => (match finD st.length d st' with
    | some (d, st2) => some (.ok d, st2)
    | none => none)
  | some (.err x, _, st') => if (st'.take st.length).all (cellOk st.length) = true then some (.err x, st'.take st.length) else none
  | _ => none
/-- the same, the cells stay -/
def mkK (m : MS) (k : Nat) : Call := fun ds st => match m (startE k ds) st with
  | some (.next, _, st') => some (.ok .non, st')
  | some (.ret d, _, st') => some (.ok d, st')
  | some (.err x, _, st') => some (.err x, st')
  | _ => none
def spM (G : Gb) (c : Call) (n : Nat) : Sp := fun vs H Q E => vs.length = n ∧ ∃ L st ds r st', Rep G L st H ∧ Vas G L (off L H) vs ds ∧ c ds st = some (r, st') ∧ (match r with
  | .ok d => ∀ v L' H', Ev L H L' H' → Rep G L' st' H' → Va G L' (off L' H') v d → Q v H'
  | .err x => ErrP G L H st' x E)
section
variable {G : Gb} {L L0 : Lv} {H H0 : Hp} {st : Store} {n : Nat}
theorem fin_ok {d d' : D} {v : V} {st2 : Store} (R : Rep G L st H) (hv : Va G L (off L H) v d) (hn : n ≤ L.c.length) (h : finD n d st = some (d', st2)) :
    Rep G (L.trim n) st2 H ∧ Va G (L.trim n) (off (L.trim n) H) v d' := by
  unfold finD at h
  split at h
  · rename_i hk
    have rt := R.trim hn hk
    have key : ∀ {d : D}, isD d = true → Va G L (off L H) v d → Va G (L.trim n) (off (L.trim n) H) v d := fun {d} p q => .d (Da.mono (Rl.of_same trim_same) _ _ (q.da p))
    cases d with
    | ref i =>
      dsimp only at h
      split at h
      · rename_i hi
        cases h
        exact ⟨rt, hv.trim hn (decide_eq_true hi)⟩
      · rename_i hi
        cases hv with
        | d h => cases h
        | @ref a _ hil ha =>
          have hil2 : i < st.length := by rw [← R.len]; exact hil
          have hci : st[i]? = some st[i] := List.getElem?_eq_getElem hil2
          have hcl : L.c[i]? = some L.c[i] := List.getElem?_eq_getElem hil
          have cr := R.cell i _ _ hcl hci
          rw [hci] at h
          cases hx : L.c[i] with
          | none =>
            rw [hx] at cr
            cases hs : st[i] <;> rw [hs] at cr h <;> first | exact cr.elim | cases h
          | some b =>
            rw [hx] at cr hcl
            obtain rfl := ha b hcl
            have sight : ∀ {o : HO}, H a = some o → off (L.trim n) H a = some o := fun {o} e => off_of e fun z => by
              rcases z with z | z
              · obtain ⟨j, hj⟩ := mem_live z
                obtain ⟨hj1, hj2⟩ := take_get hj
                have := R.inj i j a hcl hj2
                omega
              · exact (R.hid a z).2 (List.mem_of_getElem? hcl)
            cases hs : st[i] with
            | lst ds =>
              rw [hs] at cr h
              cases h
              obtain ⟨vs, q, r⟩ := cr
              exact ⟨rt, .d (.lst (sight q) (Das.mono (Rl.of_same trim_same) _ _ r))⟩
            | dK ds =>
              rw [hs] at cr h
              cases h
              obtain ⟨vs, q, r⟩ := cr
              exact ⟨rt, .d (.dK (.inl (sight q)) (DasK.mono (Rl.of_same trim_same) _ _ r))⟩
            | dT ds =>
              rw [hs] at cr h
              cases h
              obtain ⟨vs, q, r⟩ := cr
              exact ⟨rt, .d (.dT (.inl (sight q)) (DasT.mono (Rl.of_same trim_same) _ _ r))⟩
            | ins c fs =>
              rw [hs] at cr h
              dsimp only at h
              split at h
              · rename_i hp
                cases h
                obtain ⟨dx, vs, q, r⟩ := cr
                exact ⟨rt, .d (.obj (sight q) (DasF.mono (Rl.of_same trim_same) _ _ (r.das hp)))⟩
              · cases h
            | dead => rw [hs] at h; cases h
    | non => cases h; exact ⟨rt, key rfl hv⟩
    | bl _ => cases h; exact ⟨rt, key rfl hv⟩
    | int _ => cases h; exact ⟨rt, key rfl hv⟩
    | str _ => cases h; exact ⟨rt, key rfl hv⟩
    | ty _ => cases h; exact ⟨rt, key rfl hv⟩
    | lst _ => cases h; exact ⟨rt, key rfl hv⟩
    | tup _ => cases h; exact ⟨rt, key rfl hv⟩
    | ro _ => cases h; exact ⟨rt, key rfl hv⟩
    | dK _ => cases h; exact ⟨rt, key rfl hv⟩
    | dT _ => cases h; exact ⟨rt, key rfl hv⟩
    | obj _ _ => cases h; exact ⟨rt, key rfl hv⟩
    | ptr _ => cases h; exact ⟨rt, key rfl hv⟩
    | cls _ => cases h; exact ⟨rt, key rfl hv⟩
  · cases h
theorem startR {vs : List V} {ds : List D} {N : List Str} (h : Vas G L (off L H) vs ds) : EnvR G L (off L H) (L2.start N vs) (startE N.length ds) := by
  have hl := h.length
  refine ⟨by unfold L2.start startE; simp [hl], fun i d q => ?_⟩
  unfold startE at q
  by_cases hi : i < ds.length
  · rw [List.getElem?_append_left (by simpa using hi), List.getElem?_map] at q
    have key : ∀ {vs : List V} {ds : List D} (i : Nat) (d : D), Vas G L (off L H) vs ds → ds[i]? = some d → ∃ v, vs[i]? = some v ∧ Va G L (off L H) v d := by
      intro vs ds i d r
      induction r generalizing i with
      | nil => intro e; simp at e
      | cons h r ih =>
        intro e
        cases i with
        | zero =>
          simp at e
          subst e
          exact ⟨_, rfl, h⟩
        | succ i =>
          obtain ⟨v, q1, q2⟩ := ih i (by simpa using e)
          exact ⟨v, by simpa using q1, q2⟩
    cases e : ds[i]? with
    | none => rw [e] at q; cases q
    | some x =>
      rw [e] at q
      cases q
      obtain ⟨v, q1, q2⟩ := key i _ h e
      refine ⟨v, ?_, q2⟩
      unfold L2.start
      rw [List.getElem?_append_left (by rw [List.length_map, hl]; exact hi), List.getElem?_map, q1]
      rfl
  · rw [List.getElem?_append_right (by simpa using Nat.le_of_not_lt hi)] at q
    rw [List.getElem?_replicate] at q
    split at q <;> cases q
theorem def_run {m : MS} {N : List Str} {k : Nat} {vs : List V} {Q : VK} {E : XK} (h : spM G (mkD m N.length) k vs H Q E) :
    tMS (Gm.flat G) (fun cls d _ H => E cls d H) m { nx := fun _ H' => Q .non H', rt := Q } (L2.start N vs) H := by
  obtain ⟨_, L, st, ds, r, st', R, va, hc, hp⟩ := h
  unfold mkD at hc
  have a : At (Gm.flat G) L st (L2.start N vs) (startE N.length ds) H := ⟨startR va, R, True.intro⟩
  cases hm : m (startE N.length ds) st with
  | none => rw [hm] at hc; cases hc
  | some q =>
    obtain ⟨fl, env', st1⟩ := q
    rw [hm] at hc
    refine ⟨L, st, _, fl, env', st1, a, hm, ?_⟩
    have hle : ∀ {L' : Lv} {H' : Hp}, Ev L H L' H' → st.length ≤ L'.c.length := fun {L' H'} e => by rw [← R.len]; exact e.le.len
    cases fl with
    | next =>
      intro σ' L' H' e r1 en1
      dsimp only at hc
      split at hc
      · rename_i d st2 hf
        cases hc
        obtain ⟨r2, v2⟩ := fin_ok r1 (.d .non) (hle e) hf
        exact hp _ _ _ (e.trim R.len) r2 v2
      · cases hc
    | ret d =>
      intro v L' H' e r1 dv
      dsimp only at hc
      split at hc
      · rename_i d' st2 hf
        cases hc
        obtain ⟨r2, v2⟩ := fin_ok r1 dv (hle e) hf
        exact hp _ _ _ (e.trim R.len) r2 v2
      · cases hc
    | brk => cases hc
    | cont => cases hc
    | err x =>
      intro cls dd σ' L' H' e r1 en1 xr
      dsimp only at hc
      split at hc
      · rename_i hk
        cases hc
        have xr2 : XnR G (off (L'.trim st.length) H') x cls dd := by
          obtain ⟨z1, d, vs, z2, z3, z4⟩ := xr
          exact ⟨z1, d, vs, z2, trim_same _ _ z3, DasF.mono (Rl.of_same trim_same) _ _ z4⟩
        exact hp cls dd _ _ (e.trim R.len) (r1.trim (hle e) hk) xr2
      · cases hc
theorem def_runK {m : MS} {N : List Str} {k : Nat} {vs : List V} {Q : VK} {E : XK} (h : spM G (mkK m N.length) k vs H Q E) :
    tMS (Gm.flat G) (fun cls d _ H => E cls d H) m { nx := fun _ H' => Q .non H', rt := Q } (L2.start N vs) H := by
  obtain ⟨_, L, st, ds, r, st', R, va, hc, hp⟩ := h
  unfold mkK at hc
  have a : At (Gm.flat G) L st (L2.start N vs) (startE N.length ds) H := ⟨startR va, R, True.intro⟩
  cases hm : m (startE N.length ds) st with
  | none => rw [hm] at hc; cases hc
  | some q =>
    obtain ⟨fl, env', st1⟩ := q
    rw [hm] at hc
    refine ⟨L, st, _, fl, env', st1, a, hm, ?_⟩
    cases fl with
    | next =>
      cases hc
      exact fun σ' L' H' e r1 en1 => hp _ _ _ e r1 (.d .non)
    | ret d =>
      cases hc
      exact fun v L' H' e r1 dv => hp _ _ _ e r1 dv
    | brk => cases hc
    | cont => cases hc
    | err x =>
      cases hc
      exact fun cls dd σ' L' H' e r1 en1 xr => hp cls dd L' H' e r1 xr
end

/-! ### calls -/
def mCall (n : Nat) (c : Call) (ma : MA) : ME := fun env st => bnd (ma env st) fun ds st => if ds.length = n then c ds st else none
section
variable {G : Gm} {W : WX} {σ : L2.St} {L : Lv} {H : Hp} {st : Store} {env : En} {Q : VK}
/-- the promise at the callee -/
theorem sp_of {c : Call} {n : Nat} {vs : List V} {ds : List D} {r : Rs D} {st' : Store} (a : At G L st σ env H) (va : Vas G L (off L H) vs ds) (hn : ds.length = n) (hc : c ds st = some (r, st')) (hp : RPost G W σ L H st' Q r) :
    spM G c n vs H Q (WE W σ) := by
  refine ⟨va.length.trans hn, L, st, ds, r, st', a.r, va, hc, ?_⟩
  cases r with
  | ok d => exact hp
  | err x => exact hp
end
section
variable {X : Cx} {G : Gm} {W : WX} {k n : Nat} {f C : Addr} {fd : FuncData} {ps : List Str} {c : Call} {x : Str} {p pos apos : Pos} {e o : Expr} {es : List Expr} {mas : MA} {mo : ME}
theorem m_call (tk : Takes X W) (F : FnOk X.prog X.w X.K X.mg X.base (L2.CX X.prog X.w) k f fd ps (spM G c n)) (hr : Room k X.A) (hg : Gl X x) (hm : X.mg x = some (.ref f)) (hk : PySem.W.keepIn X.K (.ref f) = true) (hb : Binds X.K fd ps [])
    (ha : PA X (e :: es) (tMA G W mas)) (hdb : (x == ("__debug__" : Str)) = false := by decide) (he : starEach (e :: es) X.env = (false, eval e X.env) :: starEach es X.env := by rfl) (hpl : (backTo pos (starEach es X.env)).any (·.1) = false := by rfl) :
    PE X (.Call (.Name x p) (e :: es) [] pos) (tM G W (mCall n c mas)) :=
  PEimp (pe_callSD F hr hg hm hk hb .nil (fun σ => passAt tk σ) ha hdb he hpl) fun σ H Q q => by
    obtain ⟨L, st, env, r, st', at_, hmm, hp⟩ := q
    refine tMA_bnd at_ hmm hp.err fun ds st1 vs L1 H1 h1 e1 a1 dv => ?_
    split at h1
    · rename_i hn
      rw [List.append_nil]
      exact sp_of a1 dv hn h1 (hp.ev e1)
    · cases h1
/-- a call without arguments, whose errors are not let through here -/
theorem m_call0 (F : FnOk X.prog X.w X.K X.mg X.base (L2.CX X.prog X.w) k f fd ps (spM G c 0)) (hr : Room k X.A) (hg : Gl X x) (hm : X.mg x = some (.ref f)) (hk : PySem.W.keepIn X.K (.ref f) = true) (hb : Binds X.K fd ps [])
    (hdb : (x == ("__debug__" : Str)) = false := by decide) :
    PE X (.Call (.Name x p) [] [] pos) (tM G W (fun env st => match c [] st with
      | some (.ok d, st) => some (.ok d, st)
      | _ => none)) :=
  PEimp (pe_call0 F hr hg hm hk hb .nil passL hdb) fun σ H Q q => by
    obtain ⟨L, st, env, r, st', at_, hmm, hp⟩ := q
    dsimp only at hmm
    split at hmm
    · rename_i d st2 hc
      cases hmm
      show spM G c 0 ([] ++ []) H Q _
      exact ⟨rfl, L, st, [], _, _, at_.r, .nil, hc, hp⟩
    · cases hmm

/-! ### instances -/
/-- C(e, ..): made, then its __init__; it comes as data -/
def mMk (cid n : Nat) (c : Call) (ma : MA) : ME := fun env st => bnd (ma env st) fun ds st => if ds.length + 1 = n then (match c (.ref st.length :: ds) (st ++ [.ins cid []]) with
  | some (.ok .non, st2) => (match finD st.length (.ref st.length) st2 with
    | some (d, st3) => some (.ok d, st3)
    | none => none)
  | some (.err x, st2) => if (st2.take st.length).all (cellOk st.length) = true then some (.err x, st2.take st.length) else none
  | _ => none) else none
def Lv.more (L : Lv) (p : Addr) : Lv := ⟨L.c ++ [some p], L.h⟩
theorem made_ev {G : Gb} {L : Lv} {H : Hp} {st : Store} {cid : Nat} {x dx : Addr} (R : Rep G L st H) (hx : H x = none) (hd : H dx = none) (ne : dx ≠ x) :
    Ev L H (L.more x) (upd (upd H dx (.own x)) x (.ins (G.cA cid) dx [])) ∧ Rep G (L.more x) (st ++ [.ins cid []]) (upd (upd H dx (.own x)) x (.ins (G.cA cid) dx [])) := by
  have nx : ¬ (some x ∈ L.c ∨ x ∈ L.h) := R.fresh hx
  have hup : ∀ b o, H b = some o → (upd (upd H dx (.own x)) x (.ins (G.cA cid) dx [])) b = some o := fun b o e => by
    rw [upd_ne (ne_of_none e hx), upd_ne (ne_of_none e hd)]
    exact e
  have ev : Ev L H (L.more x) (upd (upd H dx (.own x)) x (.ins (G.cA cid) dx [])) :=
    { le := ⟨by show L.c.length ≤ (L.c ++ [some x]).length; simp, fun i a hi h => by
        have h' : (L.c ++ [some x])[i]? = some (some a) := h
        rw [List.getElem?_append_left hi] at h'
        exact h'⟩
      new := fun i a hi h => by
        have h' : (L.c ++ [some x])[i]? = some (some a) := h
        rw [List.getElem?_append_right hi] at h'
        have : a = x := by
          cases hz : i - L.c.length with
          | zero => rw [hz] at h'; simp at h'; exact h'.symm
          | succ j => rw [hz] at h'; simp at h'
        rw [this]
        exact hx
      same := fun b o h => by
        obtain ⟨h1, h2⟩ := off_some h
        refine .inl (off_of (hup b o h1) fun z => ?_)
        rcases z with z | z
        · rcases List.mem_append.mp z with z | z
          · exact h2 (.inl z)
          · have : b = x := Option.some.inj (List.mem_singleton.mp z)
            rw [this, hx] at h1
            cases h1
        · exact h2 (.inr z)
      there := fun a h => by
        cases e : H a with
        | none => rfl
        | some o => rw [hup a o e] at h; cases h
      hh := rfl
      keep := fun a ha => by
        have q := (R.hid a ha).1.1
        cases e : H a with
        | none => exact absurd e q
        | some o => rw [hup a o e] }
  refine ⟨ev, ⟨by show (L.c ++ [some x]).length = _; simp [R.len], fun i j a h1 h2 => ?_, fun i y c h1 h2 => ?_, fun a ha => ⟨by rw [ev.keep a ha]; exact (R.hid a ha).1, fun z => ?_⟩⟩⟩
  · have at_x : ∀ i, (L.c ++ [some x])[i]? = some (some a) → (i < L.c.length ∧ L.c[i]? = some (some a)) ∨ (i = L.c.length ∧ a = x) := fun i h => by
      by_cases hi : i < L.c.length
      · rw [List.getElem?_append_left hi] at h
        exact .inl ⟨hi, h⟩
      · rw [List.getElem?_append_right (Nat.le_of_not_lt hi)] at h
        cases hz : i - L.c.length with
        | zero => rw [hz] at h; simp at h; exact .inr ⟨by omega, h.symm⟩
        | succ j => rw [hz] at h; simp at h
    rcases at_x i h1 with ⟨i1, i2⟩ | ⟨i1, i2⟩
    · rcases at_x j h2 with ⟨j1, j2⟩ | ⟨j1, j2⟩
      · exact R.inj i j a i2 j2
      · subst j2
        exact absurd (.inl (List.mem_of_getElem? i2)) nx
    · rcases at_x j h2 with ⟨j1, j2⟩ | ⟨j1, j2⟩
      · subst i2
        exact absurd (.inl (List.mem_of_getElem? j2)) nx
      · omega
  · have h1' : (L.c ++ [some x])[i]? = some y := h1
    by_cases hi : i < L.c.length
    · rw [List.getElem?_append_left hi] at h1'
      rw [List.getElem?_append_left (by rw [← R.len]; exact hi)] at h2
      exact CellR.ev ev (fun a o _ h => hup a o h) (R.cell i y c h1' h2)
    · rw [List.getElem?_append_right (Nat.le_of_not_lt hi)] at h1'
      rw [List.getElem?_append_right (by rw [← R.len]; exact Nat.le_of_not_lt hi), ← R.len] at h2
      cases hz : i - L.c.length with
      | zero =>
        rw [hz] at h1' h2
        simp at h1' h2
        subst h1' h2
        exact ⟨dx, [], upd_same, .nil⟩
      | succ j => rw [hz] at h1'; simp at h1'
  · rcases List.mem_append.mp z with z | z
    · exact (R.hid a ha).2 z
    · have : a = x := Option.some.inj (List.mem_singleton.mp z)
      exact (R.hid a ha).1.1 (by rw [this]; exact hx)
theorem m_make {cid : Nat} (tk : Takes X W) (Mk1 : Mk X.K (G.cA cid) f) (F : FnOk X.prog X.w X.K X.mg X.base (L2.CX X.prog X.w) k f fd ps (spM G c n)) (hr : Room (k + 1) X.A) (hg : Gl X x) (hm : X.mg x = some (.ref (G.cA cid))) (hb : Binds X.K fd ps [])
    (ha : PA X (e :: es) (tMA G W mas)) (hdb : (x == ("__debug__" : Str)) = false := by decide) (he : starEach (e :: es) X.env = (false, eval e X.env) :: starEach es X.env := by rfl) (hpl : (backTo pos (starEach es X.env)).any (·.1) = false := by rfl) :
    PE X (.Call (.Name x p) (e :: es) [] pos) (tM G W (mMk cid n c mas)) :=
  PEimp (pe_makeS Mk1 F hr hg hm hb (fun σ => passAt tk σ) ha hdb he hpl) fun σ H Q q => by
    obtain ⟨L, st, env, r, st', at_, hmm, hp⟩ := q
    refine tMA_bnd at_ hmm hp.err fun ds st1 vs L1 H1 h1 e1 a1 dv => ?_
    split at h1
    · rename_i hn
      intro y dx hy hdx ne
      obtain ⟨ev, R2⟩ := made_ev (G := G) (cid := cid) a1.r hy hdx ne
      have hlen : L1.c.length = st1.length := a1.r.len
      have hself : Va G (L1.more y) (off (L1.more y) (upd (upd H1 dx (.own y)) y (.ins (G.cA cid) dx []))) (.ref y) (.ref st1.length) := by
        refine .ref (by show st1.length < (L1.c ++ [some y]).length; simp [hlen]) fun b q => ?_
        have q' : (L1.c ++ [some y])[st1.length]? = some (some b) := q
        rw [List.getElem?_append_right (by omega)] at q'
        rw [hlen, Nat.sub_self] at q'
        simp at q'
        exact q'
      have hle : ∀ {L' : Lv} {H' : Hp}, Ev (L1.more y) (upd (upd H1 dx (.own y)) y (.ins (G.cA cid) dx [])) L' H' → st1.length ≤ L'.c.length := fun {L' H'} e => by
        rw [← hlen]
        exact (ev.trans e).le.len
      refine ⟨by simp [dv.length]; exact hn, L1.more y, st1 ++ [.ins cid []], .ref st1.length :: ds, ?_⟩
      cases hc : c (.ref st1.length :: ds) (st1 ++ [.ins cid []]) with
      | none => rw [hc] at h1; cases h1
      | some q =>
        obtain ⟨rr, st2⟩ := q
        rw [hc] at h1
        refine ⟨rr, st2, R2, .cons hself (ev.vas dv), rfl, ?_⟩
        cases rr with
        | ok d =>
          cases d with
          | non =>
            dsimp only at h1
            split at h1
            · rename_i d3 st3 hf
              cases h1
              intro v L' H' e2 r2 dv2
              refine ⟨dv2.non_inv, ?_⟩
              obtain ⟨r3, v3⟩ := fin_ok (v := .ref y) r2 (e2.va hself) (hle e2) hf
              exact hp _ _ _ (e1.trans ((ev.trans e2).trim hlen)) r3 v3
            · cases h1
          | _ => cases h1
        | err z =>
          dsimp only at h1
          split at h1
          · rename_i hk
            cases h1
            intro cls dd L' H' e2 r2 xr
            have xr2 : XnR G (off (L'.trim st1.length) H') z cls dd := by
              obtain ⟨z1, d, vs, z2, z3, z4⟩ := xr
              exact ⟨z1, d, vs, z2, trim_same _ _ z3, DasF.mono (Rl.of_same trim_same) _ _ z4⟩
            exact hp cls dd _ _ (e1.trans ((ev.trans e2).trim hlen)) (r2.trim (hle e2) hk) xr2
          · cases h1
    · cases h1
end
end M


/-! The M layer: operations on values. -/
namespace M
open PySem PySem.Spec PyProof.Rows L2

/-- a live cell as what it holds -/
def rd (st : Store) : D → D
  | .ref i => match st[i]? with
    | some (.lst ds) => .lst ds
    | some (.dK kvs) => .dK kvs
    | some (.dT kvs) => .dT kvs
    | _ => .ref i
  | d => d
section
variable {G : Gb} {L : Lv} {H : Hp} {st : Store}
theorem off_same : Same (off L H) H := fun a o h => (off_some h).1
theorem Va.up {v : V} {d : D} (h : Va G L (off L H) v d) (p : isD d = true) : Da G H v d := Da.mono (Rl.of_same off_same) _ _ (h.da p)
theorem rd_da (R : Rep G L st H) {v : V} {d : D} (h : Va G L (off L H) v d) (p : isD (rd st d) = true) : Da G H v (rd st d) := by
  cases d with
  | ref i =>
    cases h with
    | d h => cases h
    | @ref a _ hi ha =>
      have hi2 : i < st.length := by rw [← R.len]; exact hi
      have hci : st[i]? = some st[i] := List.getElem?_eq_getElem hi2
      have hcl : L.c[i]? = some L.c[i] := List.getElem?_eq_getElem hi
      have cr := R.cell i _ _ hcl hci
      unfold rd at p ⊢
      dsimp only at p ⊢
      rw [hci] at p ⊢
      cases hx : L.c[i] with
      | none =>
        rw [hx] at cr
        cases hs : st[i] <;> rw [hs] at cr p <;> first | exact cr.elim | cases p
      | some b =>
        rw [hx] at cr hcl
        obtain rfl := ha b hcl
        cases hs : st[i] with
        | lst ds => rw [hs] at cr; obtain ⟨vs, q, r⟩ := cr; exact .lst q (Das.mono (Rl.of_same off_same) _ _ r)
        | dK ds => rw [hs] at cr; obtain ⟨vs, q, r⟩ := cr; exact .dK (.inl q) (DasK.mono (Rl.of_same off_same) _ _ r)
        | dT ds => rw [hs] at cr; obtain ⟨vs, q, r⟩ := cr; exact .dT (.inl q) (DasT.mono (Rl.of_same off_same) _ _ r)
        | ins c fs => rw [hs] at p; cases p
        | dead => rw [hs] at cr; exact cr.elim
  | _ => exact h.up rfl
/-- a value of no address -/
theorem r_same {z : V} {d : D} {Q : VK} (hz : Da G (off L H) z d) (R : Rep G L st H) (k : ∀ v L' H', Ev L H L' H' → Rep G L' st H' → Va G L' (off L' H') v d → Q v H') : Q z H := k z L H (Ev.refl L H) R (.d hz)
/-- a new object -/
theorem r_new {p : Addr} {o : HO} {d : D} {Q : VK} (R : Rep G L st H) (hp : H p = none) (hd : Da G (off L (upd H p o)) (.ref p) d) (k : ∀ v L' H', Ev L H L' H' → Rep G L' st H' → Va G L' (off L' H') v d → Q v H') : Q (.ref p) (upd H p o) :=
  k _ L _ (Ev.new1 R hp) (R.new1 hp) (.d hd)
theorem new_same (R : Rep G L st H) {p : Addr} {o : HO} (hp : H p = none) : Rl (off L H) (off L (upd H p o)) := (Ev.new1 R hp).same
end

/-! ### data of the comparisons -/
mutual
def py : D → PyData
  | .non => .none
  | .bl b => .bool b
  | .int i => .int i
  | .str x => .str x
  | .lst xs => .list (pyL xs)
  | .ro xs => .list (pyL xs)
  | .tup xs => .tuple (pyL xs)
  | .dK _ | .dT _ | .obj _ _ | .ptr _ | .cls _ | .ref _ | .ty _ => .none
def pyL : List D → List PyData
  | [] => []
  | x :: xs => py x :: pyL xs
end
def okD : Nat → D → Bool
  | _, .non | _, .bl _ | _, .int _ => true
  | _, .str x => PyData.strOk x
  | n + 1, .lst xs => xs.all (okD n)
  | n + 1, .ro xs => xs.all (okD n)
  | n + 1, .tup xs => xs.all (okD n)
  | _, _ => false
theorem pyL_map : ∀ xs : List D, pyL xs = xs.map py
  | [] => by simp [pyL]
  | x :: xs => by simp [pyL, pyL_map xs]
theorem ok_all {n : Nat} (ih : ∀ d, okD n d = true → (py d).canLay0 = true ∧ (py d).depth ≤ n) : ∀ xs : List D, xs.all (okD n) = true → PyData.canLayAll0 (pyL xs) = true ∧ PyData.depthAll (pyL xs) ≤ n
  | [], _ => by simp [pyL, PyData.canLayAll0, PyData.depthAll]
  | x :: xs, h => by
    rw [List.all_cons, Bool.and_eq_true] at h
    obtain ⟨a, b⟩ := ih x h.1
    obtain ⟨c, d⟩ := ok_all ih xs h.2
    simp only [pyL, PyData.canLayAll0, PyData.depthAll, a, c, Bool.and_self, true_and]
    exact Nat.max_le.mpr ⟨b, d⟩
theorem ok_py : ∀ (n : Nat) (d : D), okD n d = true → (py d).canLay0 = true ∧ (py d).depth ≤ n := by
  intro n
  induction n with
  | zero =>
    intro d h
    cases d <;> simp [okD, py, PyData.canLay0, PyData.depth] at h ⊢
    exact h
  | succ n ih =>
    intro d h
    cases d with
    | lst xs =>
      obtain ⟨a, b⟩ := ok_all ih xs (by simpa [okD] using h)
      simp only [py, PyData.canLay0, PyData.depth]
      exact ⟨a, by omega⟩
    | ro xs =>
      obtain ⟨a, b⟩ := ok_all ih xs (by simpa [okD] using h)
      simp only [py, PyData.canLay0, PyData.depth]
      exact ⟨a, by omega⟩
    | tup xs =>
      obtain ⟨a, b⟩ := ok_all ih xs (by simpa [okD] using h)
      simp only [py, PyData.canLay0, PyData.depth]
      exact ⟨a, by omega⟩
    | str x => simp [okD, py, PyData.canLay0, PyData.depth] at h ⊢; exact h
    | non => simp [py, PyData.canLay0, PyData.depth]
    | bl _ => simp [py, PyData.canLay0, PyData.depth]
    | int _ => simp [py, PyData.canLay0, PyData.depth]
    | _ => simp [okD] at h
mutual
theorem da_dp {G : Gb} {H : Hp} : ∀ (n : Nat) (d : D) (v : V), okD n d = true → Da G H v d → Dp G.K H v (py d)
  | _, .non, _, _, h => by cases h; simp only [py]; exact .non
  | _, .bl _, _, _, h => by cases h; simp only [py]; exact .bl _
  | _, .int _, _, _, h => by cases h; simp only [py]; exact .int _
  | _, .str _, _, _, h => by cases h; simp only [py]; exact .str _
  | n + 1, .lst xs, _, k, h => by
    cases h with
    | lst h r =>
      simp only [py]
      exact .lst (.inl (.inl h)) (das_dp n xs _ (by simpa [okD] using k) r)
  | n + 1, .ro xs, _, k, h => by
    cases h with
    | ro h r =>
      simp only [py]
      exact .lst h (das_dp n xs _ (by simpa [okD] using k) r)
  | n + 1, .tup xs, _, k, h => by
    cases h with
    | tup h r =>
      simp only [py]
      exact .tup (.inl (.inl h)) (das_dp n xs _ (by simpa [okD] using k) r)
  | 0, .lst _, _, k, _ => by simp [okD] at k
  | 0, .ro _, _, k, _ => by simp [okD] at k
  | 0, .tup _, _, k, _ => by simp [okD] at k
  | n, .dK _, _, k, _ => by cases n <;> simp [okD] at k
  | n, .dT _, _, k, _ => by cases n <;> simp [okD] at k
  | n, .obj _ _, _, k, _ => by cases n <;> simp [okD] at k
  | n, .ptr _, _, k, _ => by cases n <;> simp [okD] at k
  | n, .cls _, _, k, _ => by cases n <;> simp [okD] at k
  | n, .ref _, _, k, _ => by cases n <;> simp [okD] at k
  | n, .ty _, _, k, _ => by cases n <;> simp [okD] at k
theorem das_dp {G : Gb} {H : Hp} : ∀ (n : Nat) (ds : List D) (vs : List V), ds.all (okD n) = true → Das G H vs ds → DpAll G.K H vs (pyL ds)
  | _, [], _, _, h => by cases h; simp only [pyL]; exact .nil
  | n, d :: ds, _, k, h => by
    rw [List.all_cons, Bool.and_eq_true] at k
    cases h with
    | cons h r =>
      simp only [pyL]
      exact .cons (da_dp n d _ k.1 h) (das_dp n ds _ k.2 r)
end
theorem ok_isD {n : Nat} {d : D} (h : okD n d = true) : isD d = true := by
  cases d <;> first | rfl | (cases n <;> simp [okD] at h)
/-! == on data -/
mutual
def eqvD : D → D → Bool
  | .non, .non => true
  | .bl a, .bl b => a == b
  | .bl a, .int j => (if a then 1 else 0) == j
  | .int i, .bl b => i == (if b then 1 else 0)
  | .int i, .int j => i == j
  | .str x, .str y => x == y
  | .lst xs, .lst ys => eqvL xs ys
  | .lst xs, .ro ys => eqvL xs ys
  | .ro xs, .lst ys => eqvL xs ys
  | .ro xs, .ro ys => eqvL xs ys
  | .tup xs, .tup ys => eqvL xs ys
  | _, _ => false
def eqvL : List D → List D → Bool
  | [], [] => true
  | x :: xs, y :: ys => eqvD x y && eqvL xs ys
  | _, _ => false
end
theorem eqv_all (ih : ∀ (x y : D), okD n x = true → okD n y = true → PyData.eqv (py x) (py y) = eqvD x y) : ∀ xs ys : List D, xs.all (okD n) = true → ys.all (okD n) = true → PyData.eqvAll (pyL xs) (pyL ys) = eqvL xs ys
  | [], [], _, _ => by simp [pyL, PyData.eqvAll, eqvL]
  | [], _ :: _, _, _ => by simp [pyL, PyData.eqvAll, eqvL]
  | _ :: _, [], _, _ => by simp [pyL, PyData.eqvAll, eqvL]
  | x :: xs, y :: ys, h, k => by
    rw [List.all_cons, Bool.and_eq_true] at h k
    simp only [pyL, PyData.eqvAll, eqvL]
    rw [ih x y h.1 k.1, eqv_all ih xs ys h.2 k.2]
theorem eqv_py : ∀ (n : Nat) (x y : D), okD n x = true → okD n y = true → PyData.eqv (py x) (py y) = eqvD x y := by
  intro n
  induction n with
  | zero =>
    intro x y hx hy
    cases x <;> simp [okD] at hx <;> cases y <;> simp [okD] at hy <;> simp [py, PyData.eqv, eqvD]
  | succ n ih =>
    intro x y hx hy
    cases x <;> simp [okD] at hx <;> cases y <;> simp [okD] at hy <;> simp [py, PyData.eqv, eqvD] <;>
      exact eqv_all ih _ _ (by simpa using hx) (by simpa using hy)
def gEq (st : Store) (x y : D) : Option D := if okD 8 (rd st x) = true ∧ okD 8 (rd st y) = true then some (.bl (eqvD (rd st x) (rd st y))) else none
def gNe (st : Store) (x y : D) : Option D := if okD 8 (rd st x) = true ∧ okD 8 (rd st y) = true then some (.bl (!eqvD (rd st x) (rd st y))) else none
theorem shaped_ok {d : D} (h : okD 8 d = true) : SeqAt.shaped (py d) = true := by
  obtain ⟨a, b⟩ := ok_py 8 d h
  unfold SeqAt.shaped
  rw [a, Bool.true_and]
  exact decide_eq_true (by omega)
theorem r2_eq {G : Gb} : R2M G (rEqD G.K) gEq := fun L st H x y d e z Q R dx dy hz k => by
  unfold gEq at hz
  split at hz
  · rename_i hk
    cases hz
    have a := rd_da R dx (ok_isD hk.1)
    have b := rd_da R dy (ok_isD hk.2)
    refine ⟨_, _, da_dp 8 _ _ hk.1 a, da_dp 8 _ _ hk.2 b, shaped_ok hk.1, shaped_ok hk.2, ?_⟩
    rw [eqv_py 8 _ _ hk.1 hk.2]
    exact r_same (.bl _) R k
  · cases hz
theorem r2_ne {G : Gb} : R2M G (rNeD G.K) gNe := fun L st H x y d e z Q R dx dy hz k => by
  unfold gNe at hz
  split at hz
  · rename_i hk
    cases hz
    have a := rd_da R dx (ok_isD hk.1)
    have b := rd_da R dy (ok_isD hk.2)
    refine ⟨_, _, da_dp 8 _ _ hk.1 a, da_dp 8 _ _ hk.2 b, shaped_ok hk.1, shaped_ok hk.2, ?_⟩
    rw [eqv_py 8 _ _ hk.1 hk.2]
    exact r_same (.bl _) R k
  · cases hz

/-! ### ints -/
def iop (f : Int → Int → D) (_ : Store) (x y : D) : Option D := match x, y with
  | .int i, .int j => some (f i j)
  | _, _ => none
def iopC (C : Int → Int → Prop) [∀ i j, Decidable (C i j)] (f : Int → Int → D) (_ : Store) (x y : D) : Option D := match x, y with
  | .int i, .int j => if C i j then some (f i j) else none
  | _, _ => none
theorem r2_I0 {G : Gb} {g : Int → Int → V} {f : Int → Int → D} (h : ∀ i j H, Da G H (g i j) (f i j)) : R2M G (rI0 g) (iop f) := fun L st H x y d e z Q R dx dy hz k => by
  unfold iop at hz
  split at hz
  · cases hz
    exact ⟨_, _, dx.int_inv, dy.int_inv, r_same (h _ _ _) R k⟩
  · cases hz
theorem r2_I {G : Gb} {C : Int → Int → Prop} [∀ i j, Decidable (C i j)] {g : Int → Int → V} {f : Int → Int → D} (h : ∀ i j H, Da G H (g i j) (f i j)) : R2M G (rI C g) (iopC C f) := fun L st H x y d e z Q R dx dy hz k => by
  unfold iopC at hz
  split at hz
  · split at hz
    · rename_i hc
      cases hz
      exact ⟨_, _, dx.int_inv, dy.int_inv, hc, r_same (h _ _ _) R k⟩
    · cases hz
  · cases hz
instance : ∀ i j, Decidable (CMul i j) := fun i j => by unfold CMul; exact inferInstance
instance : ∀ i j, Decidable (CDiv i j) := fun i j => by unfold CDiv; exact inferInstance
instance : ∀ i j, Decidable (CPow i j) := fun i j => by unfold CPow; exact inferInstance
abbrev gSub := iop fun i j => .int (i - j)
abbrev gMulI := iopC CMul fun i j => .int (i * j)
abbrev gMod := iopC (fun _ j => 0 < j) fun i j => .int (i % j)
abbrev gDiv := iopC CDiv fun i j => .int (i / j)
abbrev gPow := iopC CPow fun i j => .int (i ^ j.toNat)
abbrev gLt := iop fun i j => .bl (decide (i < j))
abbrev gLe := iop fun i j => .bl (decide (i ≤ j))
abbrev gGt := iop fun i j => .bl (decide (j < i))
abbrev gGe := iop fun i j => .bl (decide (j ≤ i))
theorem da_int {G : Gb} (f : Int → Int → Int) : ∀ i j H, Da G H (.int (f i j)) (.int (f i j)) := fun _ _ _ => .int _
theorem da_bl {G : Gb} (f : Int → Int → Bool) : ∀ i j H, Da G H (.bl (f i j)) (.bl (f i j)) := fun _ _ _ => .bl _

/-! ### + -/
def gAdd (st : Store) (x y : D) : Option D := match rd st x, rd st y with
  | .int i, .int j => some (.int (i + j))
  | .str a, .str b => if a.length + b.length ≤ big then some (.str (a ++ b)) else none
  | .lst a, .lst b => if a.length + b.length ≤ big then some (.lst (a ++ b)) else none
  | _, _ => none
def rAdd (K : PySem.W.Frag) : R2 := fun x y H Q => (rI0 (fun i j => .int (i + j)) x y H Q ∨ (∃ i j, x = .str i ∧ y = .str j ∧ i.length + j.length ≤ sizeLine ∧ Q (.str (i ++ j)) H)) ∨ rCat x y H Q
theorem op_addAny {X : Cx} : OpR X (binaryOp .Add) (rAdd X.K) := (op_add.or2 op_add_str).or2 op_cat
theorem Da.int_inv {G : Gb} {H : Hp} {v : V} {i : Int} (h : Da G H v (.int i)) : v = .int i := by cases h; rfl
theorem Da.str_inv {G : Gb} {H : Hp} {v : V} {i : Str} (h : Da G H v (.str i)) : v = .str i := by cases h; rfl
theorem big_line {n : Nat} (h : n ≤ big) : n ≤ sizeLine := by
  rw [sizeLine_eq]
  unfold big at h
  omega
/-- what is read stays read where data are wanted: the parts of a cell as data -/
theorem rd_off {G : Gb} {L : Lv} {H : Hp} {st : Store} (R : Rep G L st H) {v : V} {d : D} (h : Va G L (off L H) v d) {ds : List D} (e : rd st d = .lst ds) : ∃ a vs, v = .ref a ∧ H a = some (.lst vs) ∧ Das G (off L H) vs ds := by
  cases d with
  | ref i =>
    cases h with
    | d h => cases h
    | @ref a _ hi ha =>
      have hi2 : i < st.length := by rw [← R.len]; exact hi
      have hci : st[i]? = some st[i] := List.getElem?_eq_getElem hi2
      have hcl : L.c[i]? = some L.c[i] := List.getElem?_eq_getElem hi
      have cr := R.cell i _ _ hcl hci
      unfold rd at e
      dsimp only at e
      rw [hci] at e
      cases hx : L.c[i] with
      | none =>
        rw [hx] at cr
        cases hs : st[i] <;> rw [hs] at cr e <;> first | exact cr.elim | cases e
      | some b =>
        rw [hx] at cr hcl
        obtain rfl := ha b hcl
        cases hs : st[i] with
        | lst ds' => rw [hs] at cr e; cases e; obtain ⟨vs, q, r⟩ := cr; exact ⟨_, vs, rfl, q, r⟩
        | dK ds => rw [hs] at e; cases e
        | dT ds => rw [hs] at e; cases e
        | ins c fs => rw [hs] at e; cases e
        | dead => rw [hs] at e; cases e
  | lst ds' =>
    cases e
    obtain ⟨a, vs, q1, q2, q3⟩ := h.lst_inv
    exact ⟨a, vs, q1, (off_some q2).1, q3⟩
  | _ => cases e
theorem rd_int {st : Store} {d : D} {i : Int} (e : rd st d = .int i) : d = .int i := by
  cases d with
  | ref j => unfold rd at e; dsimp only at e; split at e <;> cases e
  | _ => exact e
theorem rd_str {st : Store} {d : D} {i : Str} (e : rd st d = .str i) : d = .str i := by
  cases d with
  | ref j => unfold rd at e; dsimp only at e; split at e <;> cases e
  | _ => exact e
theorem r2_add {G : Gb} : R2M G (rAdd G.K) gAdd := fun L st H x y d e z Q R dx dy hz k => by
  unfold gAdd at hz
  split at hz
  · rename_i i j h1 h2
    cases hz
    rw [rd_int h1] at dx
    rw [rd_int h2] at dy
    exact .inl (.inl ⟨_, _, dx.int_inv, dy.int_inv, r_same (.int _) R k⟩)
  · rename_i i j h1 h2
    split at hz
    · rename_i hl
      cases hz
      rw [rd_str h1] at dx
      rw [rd_str h2] at dy
      exact .inl (.inr ⟨_, _, dx.str_inv, dy.str_inv, big_line hl, r_same (.str _) R k⟩)
    · cases hz
  · rename_i xs ys h1 h2
    split at hz
    · rename_i hl
      cases hz
      obtain ⟨a, vs, rfl, q1, r1⟩ := rd_off R dx h1
      obtain ⟨b, us, rfl, q2, r2⟩ := rd_off R dy h2
      refine .inr ⟨a, b, vs, us, rfl, rfl, q1, q2, by rw [r1.length, r2.length]; exact big_line hl, fun p hp => ?_⟩
      exact r_new R hp (.lst (Ev.off_new R hp) (Das.mono (new_same R hp) _ _ (r1.append r2))) k
    · cases hz
  · cases hz

/-! ### displays -/
def mLst (ma : MA) : ME := fun env st => bnd (ma env st) fun ds st => if ds.length ≤ big ∧ ds.all isD = true then some (.ok (.lst ds), st) else none
def mTup (ma : MA) : ME := fun env st => bnd (ma env st) fun ds st => if ds.length ≤ big ∧ ds.all isD = true then some (.ok (.tup ds), st) else none
/-- a list that is to change: a cell -/
def mNew (ma : MA) : ME := fun env st => bnd (ma env st) fun ds st => if ds.length ≤ big ∧ ds.all isD = true then some (.ok (.ref st.length), st ++ [.lst ds]) else none
theorem new_cell {G : Gb} {L : Lv} {H : Hp} {st : Store} {x : Addr} {o : HO} {c : Cell} (R : Rep G L st H) (hx : H x = none) (hc : ∀ L' H', Rl (off L H) (off L' H') → H' x = some o → CellR G L' H' (some x) c) :
    Ev L H (L.more x) (upd H x o) ∧ Rep G (L.more x) (st ++ [c]) (upd H x o) ∧ Va G (L.more x) (off (L.more x) (upd H x o)) (.ref x) (.ref st.length) := by
  have nx : ¬ (some x ∈ L.c ∨ x ∈ L.h) := R.fresh hx
  have hup : ∀ b u, H b = some u → (upd H x o) b = some u := fun b u e => by
    rw [upd_ne (ne_of_none e hx)]
    exact e
  have ev : Ev L H (L.more x) (upd H x o) :=
    { le := ⟨by show L.c.length ≤ (L.c ++ [some x]).length; simp, fun i a hi h => by
        have h' : (L.c ++ [some x])[i]? = some (some a) := h
        rw [List.getElem?_append_left hi] at h'
        exact h'⟩
      new := fun i a hi h => by
        have h' : (L.c ++ [some x])[i]? = some (some a) := h
        rw [List.getElem?_append_right hi] at h'
        have : a = x := by
          cases hz : i - L.c.length with
          | zero => rw [hz] at h'; simp at h'; exact h'.symm
          | succ j => rw [hz] at h'; simp at h'
        rw [this]
        exact hx
      same := fun b u h => by
        obtain ⟨h1, h2⟩ := off_some h
        refine .inl (off_of (hup b u h1) fun z => ?_)
        rcases z with z | z
        · rcases List.mem_append.mp z with z | z
          · exact h2 (.inl z)
          · have : b = x := Option.some.inj (List.mem_singleton.mp z)
            rw [this, hx] at h1
            cases h1
        · exact h2 (.inr z)
      there := fun a h => by
        cases e : H a with
        | none => rfl
        | some u => rw [hup a u e] at h; cases h
      hh := rfl
      keep := fun a ha => by
        have q := (R.hid a ha).1.1
        cases e : H a with
        | none => exact absurd e q
        | some u => rw [hup a u e] }
  refine ⟨ev, ⟨by show (L.c ++ [some x]).length = _; simp [R.len], fun i j a h1 h2 => ?_, fun i y c' h1 h2 => ?_, fun a ha => ⟨by rw [ev.keep a ha]; exact (R.hid a ha).1, fun z => ?_⟩⟩, ?_⟩
  · have at_x : ∀ i, (L.c ++ [some x])[i]? = some (some a) → (i < L.c.length ∧ L.c[i]? = some (some a)) ∨ (i = L.c.length ∧ a = x) := fun i h => by
      by_cases hi : i < L.c.length
      · rw [List.getElem?_append_left hi] at h
        exact .inl ⟨hi, h⟩
      · rw [List.getElem?_append_right (Nat.le_of_not_lt hi)] at h
        cases hz : i - L.c.length with
        | zero => rw [hz] at h; simp at h; exact .inr ⟨by omega, h.symm⟩
        | succ j => rw [hz] at h; simp at h
    rcases at_x i h1 with ⟨i1, i2⟩ | ⟨i1, i2⟩
    · rcases at_x j h2 with ⟨j1, j2⟩ | ⟨j1, j2⟩
      · exact R.inj i j a i2 j2
      · subst j2
        exact absurd (.inl (List.mem_of_getElem? i2)) nx
    · rcases at_x j h2 with ⟨j1, j2⟩ | ⟨j1, j2⟩
      · subst i2
        exact absurd (.inl (List.mem_of_getElem? j2)) nx
      · omega
  · have h1' : (L.c ++ [some x])[i]? = some y := h1
    by_cases hi : i < L.c.length
    · rw [List.getElem?_append_left hi] at h1'
      rw [List.getElem?_append_left (by rw [← R.len]; exact hi)] at h2
      exact CellR.ev ev (fun a u _ h => hup a u h) (R.cell i y c' h1' h2)
    · rw [List.getElem?_append_right (Nat.le_of_not_lt hi)] at h1'
      rw [List.getElem?_append_right (by rw [← R.len]; exact Nat.le_of_not_lt hi), ← R.len] at h2
      cases hz : i - L.c.length with
      | zero =>
        rw [hz] at h1' h2
        simp at h1' h2
        subst h1' h2
        exact hc _ _ ev.same upd_same
      | succ j => rw [hz] at h1'; simp at h1'
  · rcases List.mem_append.mp z with z | z
    · exact (R.hid a ha).2 z
    · have : a = x := Option.some.inj (List.mem_singleton.mp z)
      exact (R.hid a ha).1.1 (by rw [this]; exact hx)
  · refine .ref (by show st.length < (L.c ++ [some x]).length; simp [R.len]) fun b q => ?_
    have q' : (L.c ++ [some x])[st.length]? = some (some b) := q
    rw [List.getElem?_append_right (by rw [R.len]; exact Nat.le_refl _), R.len, Nat.sub_self] at q'
    simp at q'
    exact q'
section
variable {G : Gm} {W : WX} {X : Cx} {es : List Expr} {mas : MA} {pos : Pos}
theorem m_lst (h : PA X es (tMA G W mas)) : PE X (.List es pos) (tM G W (mLst mas)) := PEimp (pe_lst h) fun σ H Q q => by
  obtain ⟨L, st, env, r, st', at_, hm, hp⟩ := q
  refine tMA_bnd at_ hm hp.err fun ds st1 vs L1 H1 h1 e1 a1 dv => ?_
  split at h1
  · rename_i hk
    cases h1
    refine ⟨by rw [dv.length]; exact big_line hk.1, fun p hpn => ?_⟩
    exact r_new a1.r hpn (.lst (Ev.off_new a1.r hpn) (Das.mono (new_same a1.r hpn) _ _ (dv.das hk.2))) fun v L' H' e => hp v L' H' (e1.trans e)
  · cases h1
theorem m_tup {x1} (h : PA X es (tMA G W mas)) : PE X (.Tuple es x1 pos) (tM G W (mTup mas)) := PEimp (pe_tup h) fun σ H Q q => by
  obtain ⟨L, st, env, r, st', at_, hm, hp⟩ := q
  refine tMA_bnd at_ hm hp.err fun ds st1 vs L1 H1 h1 e1 a1 dv => ?_
  split at h1
  · rename_i hk
    cases h1
    refine ⟨by rw [dv.length]; exact big_line hk.1, fun p hpn => ?_⟩
    exact r_new a1.r hpn (.tup (Ev.off_new a1.r hpn) (Das.mono (new_same a1.r hpn) _ _ (dv.das hk.2))) fun v L' H' e => hp v L' H' (e1.trans e)
  · cases h1
theorem m_new (h : PA X es (tMA G W mas)) : PE X (.List es pos) (tM G W (mNew mas)) := PEimp (pe_lst h) fun σ H Q q => by
  obtain ⟨L, st, env, r, st', at_, hm, hp⟩ := q
  refine tMA_bnd at_ hm hp.err fun ds st1 vs L1 H1 h1 e1 a1 dv => ?_
  split at h1
  · rename_i hk
    cases h1
    refine ⟨by rw [dv.length]; exact big_line hk.1, fun p hpn => ?_⟩
    obtain ⟨e2, r2, v2⟩ := new_cell (G := G) (o := .lst vs) (c := .lst ds) a1.r hpn fun L' H' s h => ⟨vs, h, Das.mono s _ _ (dv.das hk.2)⟩
    exact hp _ _ _ (e1.trans e2) r2 v2
  · cases h1
end
end M


/-! The M layer: built-ins, lists that change, fields, errors. -/
namespace M
open PySem PySem.Spec PyProof.Rows L2

/-! ### in, len, all, int, max, min, tuple -/
def gInSign (_ : Store) (x y : D) : Option D := match x, y with
  | .str ⟨⟨[c]⟩⟩, .str z => some (.bl (decide (c ∈ z.cps.toList)))
  | _, _ => none
def rInSign : R2 := fun x y H Q => ∃ (c : Nat) (z : Str), x = .str ⟨#[c]⟩ ∧ y = .str z ∧ Q (.bl (decide (c ∈ z.cps.toList))) H
theorem op_inSign {X : Cx} : OpR X (compareOp .In) rInSign := op_in_sign
theorem r2_inSign {G : Gb} : R2M G rInSign gInSign := fun L st H x y d e z Q R dx dy hz k => by
  unfold gInSign at hz
  split at hz
  · cases hz
    exact ⟨_, _, dx.str_inv, dy.str_inv, r_same (.bl _) R k⟩
  · cases hz
def gLen (st : Store) : List D → Option D
  | [x] => match rd st x with
    | .lst xs => some (.int xs.length)
    | .tup xs => some (.int xs.length)
    | .ro xs => some (.int xs.length)
    | .str a => if a.length ≤ big then some (.int a.length) else none
    | .dK kvs => some (.int kvs.length)
    | _ => none
  | _ => none
theorem DasK.length {G : Gb} {H : Hp} : ∀ {ds : List (Key × D)} {vs : List (Key × V)}, DasK G H vs ds → vs.length = ds.length
  | [], _, h => by cases h; rfl
  | (k, d) :: ds, _, h => by
    cases h with
    | cons h r => simp [DasK.length r]
theorem DasT.length {G : Gb} {H : Hp} : ∀ {ds : List (List Key × D)} {vs : List (List Key × V)}, DasT G H vs ds → vs.length = ds.length
  | [], _, h => by cases h; rfl
  | (k, d) :: ds, _, h => by
    cases h with
    | cons h r => simp [DasT.length r]
theorem call_lenDr {X : Cx} : CallR X (.builtin "len") (fun xs H Q => ∃ a kvs, xs = [V.ref a] ∧ Rd H a (.dK kvs) ∧ Q (.int kvs.length) H) := by
  intro pins s σ H xs us Q I r h
  obtain ⟨a, kvs, rfl, ha, q⟩ := h
  obtain ⟨u, rfl, ru⟩ := vals1 r
  cases ru
  exact d_len I ha fun t s' I' => ⟨.int kvs.length, H, I', ⟨t, rfl⟩, q⟩
def rLen (K : PySem.W.Frag) : List V → Hp → VK → Prop := fun xs H Q => (∃ x n, xs = [x] ∧ LenV K x H n ∧ Q (.int n) H) ∨ ∃ a kvs, xs = [V.ref a] ∧ Rd H a (.dK kvs) ∧ Q (.int kvs.length) H
theorem call_lenAny {X : Cx} : CallR X (.builtin "len") (rLen X.K) := call_len.or2 call_lenDr
theorem Das.one {G : Gb} {L : Lv} {H : Hp} {vs : List V} {d : D} (h : Vas G L H vs [d]) : ∃ v, vs = [v] ∧ Va G L H v d := by
  cases h with
  | cons h r => cases r; exact ⟨_, rfl, h⟩
theorem Das.two {G : Gb} {L : Lv} {H : Hp} {vs : List V} {d e : D} (h : Vas G L H vs [d, e]) : ∃ v w, vs = [v, w] ∧ Va G L H v d ∧ Va G L H w e := by
  cases h with
  | cons h r =>
    cases r with
    | cons h' r => cases r; exact ⟨_, _, rfl, h, h'⟩
theorem rc_len {G : Gb} : RCM G (rLen G.K) gLen := fun L st H xs ds z Q R dv hz k => by
  unfold gLen at hz
  split at hz
  · rename_i x
    obtain ⟨v, rfl, hv⟩ := Das.one dv
    split at hz
    · rename_i ys e
      cases hz
      have a := rd_da R hv (by rw [e]; rfl)
      rw [e] at a
      cases a with
      | lst h r => exact .inl ⟨_, ys.length, rfl, .inl ⟨_, .inl (.inl h), r.length.symm⟩, r_same (.int _) R k⟩
    · rename_i ys e
      cases hz
      have a := rd_da R hv (by rw [e]; rfl)
      rw [e] at a
      cases a with
      | tup h r => exact .inl ⟨_, ys.length, rfl, .inr ⟨_, .inl (.inl h), r.length.symm⟩, r_same (.int _) R k⟩
    · rename_i ys e
      cases hz
      have a := rd_da R hv (by rw [e]; rfl)
      rw [e] at a
      cases a with
      | ro h r => exact .inl ⟨_, ys.length, rfl, .inl ⟨_, h, r.length.symm⟩, r_same (.int _) R k⟩
    · rename_i y e
      split at hz
      · rename_i hl
        cases hz
        rw [rd_str e] at hv
        cases hv.str_inv
        exact .inl ⟨_, y.length, rfl, ⟨big_line hl, rfl⟩, r_same (.int _) R k⟩
      · cases hz
    · rename_i ys e
      cases hz
      have a := rd_da R hv (by rw [e]; rfl)
      rw [e] at a
      cases a with
      | dK h r => exact .inr ⟨_, _, rfl, h, by rw [r.length]; exact r_same (.int _) R k⟩
    · cases hz
  · cases hz
def bls : List D → Option (List Bool)
  | [] => some []
  | .bl b :: r => (bls r).map (b :: ·)
  | _ => none
theorem bls_vs {G : Gb} {H : Hp} : ∀ {ds : List D} {vs : List V} {bs : List Bool}, Das G H vs ds → bls ds = some bs → vs = bs.map V.bl
  | [], _, _, h, e => by cases h; cases e; rfl
  | .bl b :: ds, _, bs, h, e => by
    cases h with
    | cons h r =>
      cases h
      unfold bls at e
      cases hb : bls ds with
      | none => rw [hb] at e; cases e
      | some cs =>
        rw [hb] at e
        cases e
        rw [bls_vs r hb]
        rfl
  | .non :: _, _, _, _, e => by cases e
  | .int _ :: _, _, _, _, e => by cases e
  | .str _ :: _, _, _, _, e => by cases e
  | .ty _ :: _, _, _, _, e => by cases e
  | .lst _ :: _, _, _, _, e => by cases e
  | .tup _ :: _, _, _, _, e => by cases e
  | .ro _ :: _, _, _, _, e => by cases e
  | .dK _ :: _, _, _, _, e => by cases e
  | .dT _ :: _, _, _, _, e => by cases e
  | .obj _ _ :: _, _, _, _, e => by cases e
  | .ptr _ :: _, _, _, _, e => by cases e
  | .cls _ :: _, _, _, _, e => by cases e
  | .ref _ :: _, _, _, _, e => by cases e
def gAll (_ : Store) : List D → Option D
  | [.lst xs] => (bls xs).map fun bs => .bl (bs.all id)
  | _ => none
def gAny (_ : Store) : List D → Option D
  | [.lst xs] => (bls xs).map fun bs => .bl (bs.any id)
  | _ => none
theorem rc_all {G : Gb} : RCM G (rAll G.K) gAll := fun L st H xs ds z Q R dv hz k => by
  unfold gAll at hz
  split at hz
  · rename_i ys
    obtain ⟨v, rfl, hv⟩ := Das.one dv
    cases hb : bls ys with
    | none => rw [hb] at hz; cases hz
    | some bs =>
      rw [hb] at hz
      cases hz
      obtain ⟨a, vs, rfl, h, r⟩ := hv.lst_inv
      rw [bls_vs r hb] at h
      exact ⟨a, bs, rfl, .inl (.inl (off_some h).1), r_same (.bl _) R k⟩
  · cases hz
theorem rc_any {G : Gb} : RCM G (rAny G.K) gAny := fun L st H xs ds z Q R dv hz k => by
  unfold gAny at hz
  split at hz
  · rename_i ys
    obtain ⟨v, rfl, hv⟩ := Das.one dv
    cases hb : bls ys with
    | none => rw [hb] at hz; cases hz
    | some bs =>
      rw [hb] at hz
      cases hz
      obtain ⟨a, vs, rfl, h, r⟩ := hv.lst_inv
      rw [bls_vs r hb] at h
      exact ⟨a, bs, rfl, .inl (.inl (off_some h).1), r_same (.bl _) R k⟩
  · cases hz
def gMax2 (_ : Store) : List D → Option D
  | [.int i, .int j] => some (.int (if j > i then j else i))
  | _ => none
def gMin2 (_ : Store) : List D → Option D
  | [.int i, .int j] => some (.int (if j < i then j else i))
  | _ => none
def rMax2 : List V → Hp → VK → Prop := fun xs H Q => ∃ i j, xs = [.int i, .int j] ∧ Q (.int (if j > i then j else i)) H
def rMin2 : List V → Hp → VK → Prop := fun xs H Q => ∃ i j, xs = [.int i, .int j] ∧ Q (.int (if j < i then j else i)) H
theorem call_mx {X : Cx} (hc : X.calm = true) : CallR X (.builtin "max") rMax2 := call_max2 hc
theorem call_mn {X : Cx} (hc : X.calm = true) : CallR X (.builtin "min") rMin2 := call_min2 hc
theorem rc_max2 {G : Gb} : RCM G rMax2 gMax2 := fun L st H xs ds z Q R dv hz k => by
  unfold gMax2 at hz
  split at hz
  · cases hz
    obtain ⟨v, w, rfl, h1, h2⟩ := Das.two dv
    cases h1.int_inv
    cases h2.int_inv
    exact ⟨_, _, rfl, r_same (.int _) R k⟩
  · cases hz
theorem rc_min2 {G : Gb} : RCM G rMin2 gMin2 := fun L st H xs ds z Q R dv hz k => by
  unfold gMin2 at hz
  split at hz
  · cases hz
    obtain ⟨v, w, rfl, h1, h2⟩ := Das.two dv
    cases h1.int_inv
    cases h2.int_inv
    exact ⟨_, _, rfl, r_same (.int _) R k⟩
  · cases hz
def gInt (_ : Store) : List D → Option D
  | [.int i] => some (.int i)
  | [.bl k] => some (.int (if k then 1 else 0))
  | _ => none
def rInt1 : List V → Hp → VK → Prop := fun xs H Q => (∃ i, xs = [.int i] ∧ Q (.int i) H) ∨ ∃ k, xs = [.bl k] ∧ Q (.int (if k then 1 else 0)) H
theorem call_int {X : Cx} : CallR X (.type "int") rInt1 := call_int1
theorem rc_int {G : Gb} : RCM G rInt1 gInt := fun L st H xs ds z Q R dv hz k => by
  unfold gInt at hz
  split at hz
  · cases hz
    obtain ⟨v, rfl, h1⟩ := Das.one dv
    cases h1.int_inv
    exact .inl ⟨_, rfl, r_same (.int _) R k⟩
  · cases hz
    obtain ⟨v, rfl, h1⟩ := Das.one dv
    cases h1.bl_inv
    exact .inr ⟨_, rfl, r_same (.int _) R k⟩
  · cases hz
/-- tuple(xs), list(xs) -/
def gTuple (st : Store) : List D → Option D
  | [x] => match rd st x with
    | .lst xs => some (.tup xs)
    | .tup xs => some (.tup xs)
    | _ => none
  | _ => none
def rTuple (K : PySem.W.Frag) : List V → Hp → VK → Prop := fun xs H Q => ∃ p ys, xs = [.ref p] ∧ ((SqL K H p ys ∧ ∀ l, H l = none → Q (.ref l) (upd H l (.tup ys))) ∨ (SqT K H p ys ∧ Q (.ref p) H))
theorem call_tuple {X : Cx} : CallR X (.type "tuple") (rTuple X.K) := call_tuple_of
theorem rd_tup {st : Store} {d : D} {i : List D} (e : rd st d = .tup i) : d = .tup i := by
  cases d with
  | ref j => unfold rd at e; dsimp only at e; split at e <;> cases e
  | _ => exact e
theorem rc_tuple {G : Gb} : RCM G (rTuple G.K) gTuple := fun L st H xs ds z Q R dv hz k => by
  unfold gTuple at hz
  split at hz
  · rename_i x
    obtain ⟨v, rfl, hv⟩ := Das.one dv
    split at hz
    · rename_i ys e
      cases hz
      obtain ⟨a, vs, rfl, h, r⟩ := rd_off R hv e
      exact ⟨a, vs, rfl, .inl ⟨.inl (.inl h), fun p hp => r_new R hp (.tup (Ev.off_new R hp) (Das.mono (new_same R hp) _ _ r)) k⟩⟩
    · rename_i ys e
      cases hz
      rw [rd_tup e] at hv
      obtain ⟨a, vs, rfl, h, r⟩ := hv.tup_inv
      exact ⟨a, vs, rfl, .inr ⟨.inl (.inl (off_some h).1), r_same (.tup h r) R k⟩⟩
    · cases hz
  · cases hz
def gList (st : Store) : List D → Option D
  | [x] => match rd st x with
    | .lst xs => some (.lst xs)
    | .tup xs => some (.lst xs)
    | _ => none
  | _ => none
def rList (K : PySem.W.Frag) : List V → Hp → VK → Prop := fun xs H Q => ∃ p ys, xs = [.ref p] ∧ (SqL K H p ys ∨ SqT K H p ys) ∧ ∀ l, H l = none → Q (.ref l) (upd H l (.lst ys))
theorem call_list {X : Cx} : CallR X (.type "list") (rList X.K) := call_list_of
theorem rc_list {G : Gb} : RCM G (rList G.K) gList := fun L st H xs ds z Q R dv hz k => by
  unfold gList at hz
  split at hz
  · rename_i x
    obtain ⟨v, rfl, hv⟩ := Das.one dv
    split at hz
    · rename_i ys e
      cases hz
      obtain ⟨a, vs, rfl, h, r⟩ := rd_off R hv e
      exact ⟨a, vs, rfl, .inl (.inl (.inl h)), fun p hp => r_new R hp (.lst (Ev.off_new R hp) (Das.mono (new_same R hp) _ _ r)) k⟩
    · rename_i ys e
      cases hz
      rw [rd_tup e] at hv
      obtain ⟨a, vs, rfl, h, r⟩ := hv.tup_inv
      exact ⟨a, vs, rfl, .inr (.inl (.inl (off_some h).1)), fun p hp => r_new R hp (.lst (Ev.off_new R hp) (Das.mono (new_same R hp) _ _ r)) k⟩
    · cases hz
  · cases hz

/-! ### items -/
def gIx (st : Store) (x y : D) : Option D := match rd st x, y with
  | .lst xs, .int i => atI xs i
  | .tup xs, .int i => atI xs i
  | .ro xs, .int i => atI xs i
  | _, _ => none
theorem Das.atI {G : Gb} {H : Hp} {vs : List V} {ds : List D} {i : Int} {d : D} (h : Das G H vs ds) (e : L2.atI ds i = some d) : ∃ v, L2.atI vs i = some v ∧ Da G H v d := by
  unfold L2.atI at e ⊢
  rw [h.length]
  cases hn : ixN ds.length i with
  | none => rw [hn] at e; cases e
  | some j =>
    rw [hn] at e
    exact h.getD (i := j) e
def rIx (K : PySem.W.Frag) : R2 := fun x y H Q => rIxL K x y H Q ∨ rIxT K x y H Q
theorem ix_any {X : Cx} : IxR X (rIx X.K) := ix_list.or ix_tup
theorem r2_ix {G : Gb} : R2M G (rIx G.K) gIx := fun L st H x y d e z Q R dx dy hz k => by
  unfold gIx at hz
  split at hz
  · rename_i xs i h1
    obtain ⟨a, vs, rfl, h, r⟩ := rd_off R dx h1
    obtain ⟨v, q1, q2⟩ := r.atI hz
    exact .inl ⟨a, vs, i, v, rfl, dy.int_inv, .inl (.inl h), q1, r_same q2 R k⟩
  · rename_i xs i h1
    rw [rd_tup h1] at dx
    obtain ⟨a, vs, rfl, h, r⟩ := dx.tup_inv
    obtain ⟨v, q1, q2⟩ := r.atI hz
    exact .inr ⟨a, vs, i, v, rfl, dy.int_inv, .inl (.inl (off_some h).1), q1, r_same q2 R k⟩
  · rename_i xs i h1
    have e2 : d = .ro xs := by
      cases d with
      | ref j => unfold rd at h1; dsimp only at h1; split at h1 <;> cases h1
      | _ => exact h1
    subst e2
    obtain ⟨a, vs, rfl, h, r⟩ := dx.ro_inv
    obtain ⟨v, q1, q2⟩ := r.atI hz
    exact .inl ⟨a, vs, i, v, rfl, dy.int_inv, off_sq h, q1, r_same q2 R k⟩
  · cases hz

/-! ### a cell is written -/
theorem cell_write {G : Gb} {L : Lv} {H : Hp} {st : Store} {i : Nat} {a : Addr} {o : HO} {c : Cell} (R : Rep G L st H) (hi : L.c[i]? = some (some a)) (hc : ∀ H', off L H' = off L H → H' a = some o → CellR G L H' (some a) c) :
    Ev L H L (upd H a o) ∧ Rep G L (st.set i c) (upd H a o) := by
  have ha : some a ∈ L.c := List.mem_of_getElem? hi
  have eo : off L (upd H a o) = off L H := by
    funext b
    unfold off
    by_cases e : b = a
    · subst e
      rw [if_pos (.inl ha), if_pos (.inl ha)]
    · rw [upd_ne e]
  have hl : i < st.length := by rw [← R.len]; exact (List.getElem?_eq_some_iff.mp hi).1
  refine ⟨⟨Le.refl L, fun j b hj h => (no_at hj h).elim, by rw [eo]; exact Rl.of_same (Same.refl _), fun b h => ?_, rfl, fun b hb => ?_⟩, ⟨by rw [List.length_set]; exact R.len, R.inj, fun j x c' hx hc' => ?_, fun b hb => ⟨?_, (R.hid b hb).2⟩⟩⟩
  · by_cases e : b = a
    · rw [e, upd_same] at h; cases h
    · rw [upd_ne e] at h; exact h
  · exact upd_ne fun e => (R.hid b hb).2 (e ▸ ha)
  · by_cases e : i = j
    · subst e
      rw [List.getElem?_set_self hl] at hc'
      cases hc'
      rw [hi] at hx
      cases hx
      exact hc _ eo upd_same
    · rw [List.getElem?_set_ne e] at hc'
      refine CellR.same (L := L) (H := H) (by rw [eo]; exact Same.refl _) rfl (fun b u ex h => ?_) (R.cell j x c' hx hc')
      have nb : b ≠ a := fun z => e (R.inj i j a hi (by rw [hx, ex, z]))
      rw [upd_ne nb]
      exact h
  · rw [upd_ne (fun e : b = a => (R.hid b hb).2 (e ▸ ha))]
    exact (R.hid b hb).1
/-- the cell that a value names -/
theorem cell_of {G : Gb} {L : Lv} {H : Hp} {st : Store} {i : Nat} {v : V} {c : Cell} (R : Rep G L st H) (h : Va G L (off L H) v (.ref i)) (hc : st[i]? = some c) (nd : c ≠ .dead) : ∃ a, v = .ref a ∧ L.c[i]? = some (some a) ∧ CellR G L H (some a) c := by
  cases h with
  | d h => cases h
  | @ref a _ hi ha =>
    have hcl : L.c[i]? = some L.c[i] := List.getElem?_eq_getElem hi
    have cr := R.cell i _ _ hcl hc
    cases hx : L.c[i] with
    | none =>
      rw [hx] at cr
      cases c <;> first | exact cr.elim | exact (nd rfl).elim
    | some b =>
      rw [hx] at cr hcl
      obtain rfl := ha b hcl
      exact ⟨_, rfl, hcl, cr⟩
def RMM (G : Gb) (r : V → List V → Hp → VK → Prop) (g : Store → D → List D → Option (D × Store)) : Prop := ∀ (L : Lv) (st st' : Store) (H : Hp) (x : V) (xs : List V) (d : D) (ds : List D) (z : D) (Q : VK), Rep G L st H → Va G L (off L H) x d → Vas G L (off L H) xs ds → g st d ds = some (z, st') →
  (∀ v L' H', Ev L H L' H' → Rep G L' st' H' → Va G L' (off L' H') v z → Q v H') → r x xs H Q
/-- xs.append(e), xs.pop(i): xs a cell -/
def mMet (g : Store → D → List D → Option (D × Store)) (mo : ME) (ma : MA) : ME := fun env st => bnd (mo env st) fun o st => match rd st o with
  | .lst _ => bnd (ma env st) fun ds st => (match g st o ds with
    | some (z, st) => some (.ok z, st)
    | none => none)
  | _ => none
def gAppend (st : Store) (o : D) (ds : List D) : Option (D × Store) := match o, ds with
  | .ref i, [d] => match st[i]? with
    | some (.lst xs) => if xs.length < big ∧ isD d = true then some (.non, st.set i (.lst (xs ++ [d]))) else none
    | _ => none
  | _, _ => none
def gPopAt (st : Store) (o : D) (ds : List D) : Option (D × Store) := match o, ds with
  | .ref i, [.int k] => match st[i]? with
    | some (.lst xs) => if 0 ≤ k ∧ xs.length ≤ big then (match xs[k.toNat]? with
      | some y => some (y, st.set i (.lst (xs.eraseIdx k.toNat)))
      | none => none) else none
    | _ => none
  | _, _ => none
theorem rm_append {G : Gb} : RMM G rAppend gAppend := fun L st st' H x xs d ds z Q R dx dxs hz k => by
  unfold gAppend at hz
  split at hz
  · rename_i i d
    split at hz
    · rename_i ys hc
      split at hz
      · rename_i hk
        cases hz
        obtain ⟨v, rfl, hv⟩ := Das.one dxs
        obtain ⟨a, rfl, hi, cr⟩ := cell_of R dx hc (fun z => nomatch z)
        obtain ⟨vs, q, r⟩ := cr
        have hvs : vs.length < sizeLine := by rw [r.length, sizeLine_eq]; have := hk.1; unfold big at this; omega
        refine ⟨a, vs, v, rfl, rfl, q, hvs, ?_⟩
        obtain ⟨e2, r2⟩ := cell_write (o := .lst (vs ++ [v])) (c := .lst (ys ++ [d])) R hi fun H' eo h => ⟨_, h, by rw [eo]; exact r.append (.cons (hv.da hk.2) .nil)⟩
        exact k _ L _ e2 r2 (.d .non)
      · cases hz
    · cases hz
  · cases hz
theorem rm_popAt {G : Gb} : RMM G rPopAt gPopAt := fun L st st' H x xs d ds z Q R dx dxs hz k => by
  unfold gPopAt at hz
  split at hz
  · rename_i i j
    split at hz
    · rename_i ys hc
      split at hz
      · rename_i hk
        split at hz
        · rename_i y hy
          cases hz
          obtain ⟨v, rfl, hv⟩ := Das.one dxs
          cases hv.int_inv
          obtain ⟨a, rfl, hi, cr⟩ := cell_of R dx hc (fun z => nomatch z)
          obtain ⟨vs, q, r⟩ := cr
          obtain ⟨w, hw, dw⟩ := r.getD hy
          have hjl : j.toNat < ys.length := (List.getElem?_eq_some_iff.mp hy).1
          have hb := hk.2
          unfold big at hb
          have hjl2 : j.toNat < vs.length := by rw [r.length]; exact hjl
          have hs : seqIndex? j vs.length = some j.toNat := by
            unfold seqIndex?
            have h0 : ¬ j < 0 := by omega
            have h1 : j < (vs.length : Int) := by omega
            simp [h0, hk.1, h1]
          refine ⟨a, vs, j, j.toNat, w, rfl, rfl, q, by omega, by omega, hs, hw, ?_⟩
          obtain ⟨e2, r2⟩ := cell_write (o := .lst (vs.eraseIdx j.toNat)) (c := .lst (ys.eraseIdx j.toNat)) R hi fun H' eo h => ⟨_, h, by rw [eo]; exact r.erase _⟩
          exact k _ L _ e2 r2 (.d (e2.da dw))
        · cases hz
      · cases hz
    · cases hz
  · cases hz
section
variable {G : Gm} {W : WX} {X : Cx} {o e : Expr} {es : List Expr} {mo : ME} {mas : MA} {name : Str} {apos cpos : Pos} {id : String} {r : V → List V → Hp → VK → Prop} {g : Store → D → List D → Option (D × Store)}
theorem m_met (slot : Slot "list" name id) (hty : typeOf (.builtin id) = pure (.type "method_descriptor")) (hm : MtR X id r) (hr : RMM G r g) (ho : PE X o (tM G W mo)) (ha : PA X (e :: es) (tMA G W mas))
    (hbase : attributeBase o name X.env (eval o X.env) = eval o X.env := by rfl)
    (hfew : ((backTo cpos (starEach (e :: es) X.env)).all (fun x => !x.1) && (backToKw cpos (keywordEach [] X.env)).all (fun x => x.1.isSome)
      && decide ((e :: es).length + ([] : List Keyword).length + (if ([] : List Keyword).isEmpty then 0 else 1) < 30)) = true := by rfl)
    (hline : (apos.endLine == cpos.line) = true := by rfl) (hs : starEach (e :: es) X.env = (false, eval e X.env) :: starEach es X.env := by rfl) (hplain : (backTo cpos (starEach es X.env)).any (·.1) = false := by rfl) :
    PE X (.Call (.Attribute o name apos) (e :: es) [] cpos) (tM G W (mMet g mo mas)) :=
  PEimp (pe_bm PySem.F.plainAttrs_list slot hty hm ho ha hbase hfew hline hs hplain) fun σ H Q q => by
    obtain ⟨L, st, env, r', st', at_, hmm, hp⟩ := q
    refine tM_bnd at_ hmm hp.err fun d st1 v L1 H1 h1 e1 a1 dv => ?_
    split at h1
    · rename_i ys hy
      have ty : tyV X.K "list" v H1 := by
        obtain ⟨a, vs, rfl, h, _⟩ := rd_off a1.r dv hy
        exact .inl ⟨rfl, vs, .inl (.inl h)⟩
      refine ⟨ty, ?_⟩
      refine tMA_bnd a1 h1 (hp.ev e1).err fun ds st2 vs L2' H2 h2 e2 a2 dvs => ?_
      split at h2
      · rename_i z st3 hg
        cases h2
        exact hr L2' st2 _ H2 v vs d ds z Q a2.r (e2.va dv) dvs hg fun w L3 H3 e3 => hp w L3 H3 ((e1.trans e2).trans e3)
      · cases h2
    · cases h1
end
end M


/-! The M layer: isinstance, fields, enumerate, dict comprehensions, errors. -/
namespace M
open PySem PySem.Spec PyProof.Rows L2

/-! ### isinstance -/
structure KIs (G : Gb) (ids : List Nat) : Prop where
  cl : ∀ c ∈ ids, Cls G.K (G.cA c)
  ha : ∀ c ∈ ids, PySem.W.findIn G.K (.ref (G.cA c)) "__class__" = some (some (.builtin "object.__class__"))
  hm : ∀ c ∈ ids, PySem.W.mroIn G.K (G.cA c) (.type "object") = some true
  hn : PySem.W.specialIn G.K (.builtin "object.__class__") "__get__" = some (some (.builtin "getset_descriptor.__get__"))
  ht : PySem.W.takesIn G.K (.builtin "object.__class__") = some true
  oo : ∀ c ∈ ids, ∀ k ∈ ids, PySem.W.kitOne G.K (.ref (G.cA c)) (.ref (G.cA k)) = some (c == k)
  bo : ∀ (t : Tag), ∀ c ∈ ids, PySem.W.kitOne G.K (.type t.name) (.ref (G.cA c)) = some false
  ob : ∀ c ∈ ids, ∀ (t : Tag), PySem.W.kitOne G.K (.ref (G.cA c)) (.type t.name) = some false
def tag0 : D → Option (Sum Tag Nat)
  | .non => some (.inl .non)
  | .bl _ => some (.inl .bl)
  | .int _ => some (.inl .int)
  | .str _ => some (.inl .str)
  | .lst _ => some (.inl .lst)
  | .tup _ => some (.inl .tup)
  | .dK _ => some (.inl .dic)
  | .dT _ => some (.inl .dic)
  | .obj c _ => some (.inr c)
  | _ => none
def tagD (st : Store) (x : D) : Option (Sum Tag Nat) := tag0 (rd st x)
def isi1 (ids : List Nat) : Sum Tag Nat → D → Option Bool
  | .inl a, .ty b => some (decide (a = b) || (decide (a = .bl) && decide (b = .int)))
  | .inl _, .cls c => if c ∈ ids then some false else none
  | .inr k, .cls c => if k ∈ ids ∧ c ∈ ids then some (k == c) else none
  | .inr k, .ty _ => if k ∈ ids then some false else none
  | _, _ => none
def isiAny (ids : List Nat) (t : Sum Tag Nat) : List D → Option Bool
  | [] => some false
  | c :: cs => match isi1 ids t c, isiAny ids t cs with
    | some a, some b => some (a || b)
    | _, _ => none
def gIsi (ids : List Nat) (st : Store) : List D → Option D
  | [x, c] => match tagD st x with
    | some t => (match c with
      | .tup (c :: cs) => (isiAny ids t (c :: cs)).map .bl
      | c => (isi1 ids t c).map .bl)
    | none => none
  | _ => none
def tagV (G : Gb) : Sum Tag Nat → Value
  | .inl t => .type t.name
  | .inr c => .ref (G.cA c)
theorem kitB_tag : ∀ a b : Tag, kitB a.name b.name = some (decide (a = b) || (decide (a = .bl) && decide (b = .int))) := by
  intro a b
  cases a <;> cases b <;> decide +kernel
/-- a value's type, a locked dict's too -/
def TyM (K : PySem.W.Frag) (H : Hp) (x : V) (t : Value) : Prop := TyX K H x t ∨ ∃ a o kvs, x = .ref a ∧ H a = some (.frz o (.dT kvs)) ∧ t = .type "dict"
theorem kit_ofM {X : Cx} {pins : List (Addr × Obj)} {σ : L2.St} {H : Hp} {s : Shared} {x : V} {u t : Value} (I : Inv X pins σ H s) (rx : RelV x u) (ty : TyM X.K H x t) : ∃ P : Heap → Prop, PySem.W.KitX X.K u t P ∧ P s.heap ∧ u ≠ .builtin "__main__.__loader__#opaque" := by
  rcases ty with ty | ⟨a, o, kvs, rfl, ea, rfl⟩
  · exact kit_of I rx ty
  · cases (show u = Value.ref a from rx)
    obtain ⟨_, _, _, xs, _, ob, es, ep, h1, h2, _⟩ := (show ObjOk X.prog X.w H s.heap a (.frz o (.dT kvs)) from I.hok a _ ea)
    exact ⟨_, PySem.W.kitx_dict, ⟨ob, h1, h2.1⟩, fun z => nomatch z⟩
def rIsiM (K : PySem.W.Frag) : List V → Hp → VK → Prop := fun xs H Q => (∃ (x c : V) (t u : Value) (b : Bool), xs = [x, c] ∧ ClsV c u ∧ TyM K H x t ∧ PySem.W.kitOne K t u = some b ∧ Q (.bl b) H) ∨
  ∃ (x : V) (tp : Addr) (cs : List V) (t : Value) (us : List Value) (b : Bool), xs = [x, .ref tp] ∧ H tp = some (.tup cs) ∧ Paired ClsV cs us ∧ TyM K H x t ∧ PySem.W.kitAny K t us = some b ∧ Q (.bl b) H
theorem call_isiM {X : Cx} : CallR X (.builtin "isinstance") (rIsiM X.K) := by
  rintro pins s σ H _ us Q I same (⟨x, c, t, cv, b, rfl, known, ty, answer, q⟩ | ⟨x, tp, cs, t, ws, b, rfl, at_, known, ty, answer, q⟩)
  all_goals
    obtain ⟨u1, u2, rfl, r1, r2⟩ := vals2 same
    obtain ⟨P, kit, holds, plain⟩ := kit_ofM I r1 ty
    have back : ∀ tk : Nat, EP X pins σ Q (.bool b) { s with toks := tk } := fun tk => ⟨.bl b, H, I.tok tk, rfl, q⟩
  · obtain rfl := known.eq r2
    exact PySem.W.kia_one kit I.kIn holds answer plain back
  · cases r2
    obtain ⟨_, vals, rel, o, get, isTup, size, dt⟩ := (show ObjOk X.prog X.w H s.heap tp (.tup cs) from I.hok tp _ at_)
    obtain rfl := ClsV.all known rel
    cases o
    cases isTup
    cases dt
    exact PySem.W.kia_tup kit I.kIn holds get answer plain back
theorem isi1_ok {G : Gb} {ids : List Nat} (T : KIs G ids) {t : Sum Tag Nat} {c : D} {v : V} {H : Hp} {b : Bool} (h : Da G H v c) (e : isi1 ids t c = some b) : ∃ u, ClsV v u ∧ PySem.W.kitOne G.K (tagV G t) u = some b := by
  cases t with
  | inl a =>
    cases c with
    | ty n =>
      cases h
      cases e
      exact ⟨.type n.name, .ty _, kit_ty (kitB_tag a n)⟩
    | cls k =>
      cases h
      unfold isi1 at e
      dsimp only at e
      split at e
      · rename_i hk
        cases e
        exact ⟨_, .own _, T.bo a k hk⟩
      · cases e
    | _ => cases e
  | inr a =>
    cases c with
    | ty n =>
      cases h
      unfold isi1 at e
      dsimp only at e
      split at e
      · rename_i hk
        cases e
        exact ⟨.type n.name, .ty _, T.ob a hk n⟩
      · cases e
    | cls k =>
      cases h
      unfold isi1 at e
      dsimp only at e
      split at e
      · rename_i hk
        cases e
        exact ⟨_, .own _, T.oo a hk.1 k hk.2⟩
      · cases e
    | _ => cases e
theorem isiAny_ok {G : Gb} {ids : List Nat} (T : KIs G ids) {t : Sum Tag Nat} {H : Hp} {b : Bool} : ∀ {cs : List D} {vs : List V}, Das G H vs cs → isiAny ids t cs = some b → ∃ us, Paired ClsV vs us ∧ PySem.W.kitAny G.K (tagV G t) us = some b
  | [], _, h, e => by
    cases h
    cases e
    exact ⟨[], .nil, kitAny_nil⟩
  | c :: cs, _, h, e => by
    cases h with
    | cons h r =>
      unfold isiAny at e
      cases h1 : isi1 ids t c with
      | none => rw [h1] at e; cases e
      | some k =>
        cases h2 : isiAny ids t cs with
        | none => rw [h1, h2] at e; cases e
        | some k2 =>
          rw [h1, h2] at e
          cases e
          obtain ⟨u, q1, q2⟩ := isi1_ok T h h1
          obtain ⟨us, q3, q4⟩ := isiAny_ok T r h2
          refine ⟨u :: us, .cons q1 q3, kitAny_cons q2 (fun z => ?_) (fun z => ?_)⟩
          · subst z; simpa using q4
          · subst z; rfl
theorem da_tag {G : Gb} {ids : List Nat} (T : KIs G ids) {H : Hp} {v : V} : ∀ {x : D} {t : Sum Tag Nat}, Da G H v x → tag0 x = some t → (∀ c, t = .inr c → c ∈ ids) → TyM G.K H v (tagV G t)
  | .non, _, a, e, _ => by cases e; cases a; exact .inl (.base .non)
  | .bl _, _, a, e, _ => by cases e; cases a; exact .inl (.base (.bl _))
  | .int _, _, a, e, _ => by cases e; cases a; exact .inl (.base (.int _))
  | .str _, _, a, e, _ => by cases e; cases a; exact .inl (.base (.str _))
  | .lst _, _, a, e, _ => by cases e; cases a with | lst h _ => exact .inl (.base (.lst h))
  | .tup _, _, a, e, _ => by cases e; cases a with | tup h _ => exact .inl (.base (.tup h))
  | .dK _, _, a, e, _ => by
    cases e
    cases a with
    | dK h _ => exact h.elim (fun h => .inl (.base (.dK h))) fun ⟨o, h⟩ => .inl (.fDict h)
  | .dT _, _, a, e, _ => by
    cases e
    cases a with
    | dT h _ => exact h.elim (fun h => .inl (.base (.dT h))) fun ⟨o, h⟩ => .inr ⟨_, o, _, rfl, h, rfl⟩
  | .obj c _, _, a, e, hid => by
    cases e
    cases a with
    | obj h _ => exact .inl (.base (.ins h (T.cl _ (hid _ rfl)) (T.ha _ (hid _ rfl)) T.hn T.ht (T.hm _ (hid _ rfl))))
theorem tag0_rd {x : D} {t : Sum Tag Nat} (e : tag0 x = some t) : isD x = true := by cases x <;> first | rfl | cases e
theorem tag_ok {G : Gb} {ids : List Nat} (T : KIs G ids) {L : Lv} {H : Hp} {st : Store} (R : Rep G L st H) {v : V} {x : D} {t : Sum Tag Nat} (h : Va G L (off L H) v x) (e : tagD st x = some t) (hid : ∀ c, t = .inr c → c ∈ ids) : TyM G.K H v (tagV G t) :=
  da_tag T (rd_da R h (tag0_rd e)) e hid
theorem isi1_ids {ids : List Nat} {c : Nat} {d : D} {b : Bool} (e : isi1 ids (.inr c) d = some b) : c ∈ ids := by
  cases d with
  | ty n => unfold isi1 at e; dsimp only at e; split at e <;> first | assumption | cases e
  | cls k => unfold isi1 at e; dsimp only at e; split at e <;> first | exact (by assumption : _ ∧ _).1 | cases e
  | _ => cases e
theorem rc_isi {G : Gb} {ids : List Nat} (T : KIs G ids) : RCM G (rIsiM G.K) (gIsi ids) := fun L st H xs ds z Q R dv hz k => by
  unfold gIsi at hz
  split at hz
  · rename_i x c
    split at hz
    · rename_i t ht
      obtain ⟨v, w, rfl, hv, hw⟩ := Das.two dv
      have one : ∀ {d : D} {b : Bool}, Da G (off L H) w d → isi1 ids t d = some b → Q (.bl b) H → rIsiM G.K [v, w] H Q := fun {d b} hd e q => by
        obtain ⟨u, q1, q2⟩ := isi1_ok T hd e
        exact .inl ⟨v, w, _, u, b, rfl, q1, tag_ok T R hv ht (fun c z => by subst z; exact isi1_ids e), q2, q⟩
      split at hz
      · rename_i c0 cs
        cases hr : isiAny ids t (c0 :: cs) with
        | none => rw [hr] at hz; cases hz
        | some b =>
          rw [hr] at hz
          cases hz
          obtain ⟨a, vs, rfl, h, r⟩ := hw.tup_inv
          obtain ⟨us, q1, q2⟩ := isiAny_ok T r hr
          refine .inr ⟨v, a, vs, _, us, b, rfl, (off_some h).1, q1, ?_, q2, r_same (.bl _) R k⟩
          unfold isiAny at hr
          cases h1 : isi1 ids t c0 with
          | none => rw [h1] at hr; cases hr
          | some k0 => exact tag_ok T R hv ht (fun c' z => by subst z; exact isi1_ids h1)
      · cases hr : isi1 ids t c with
        | none => rw [hr] at hz; cases hz
        | some b =>
          rw [hr] at hz
          cases hz
          cases hw with
          | d hw => exact one hw hr (r_same (.bl _) R k)
          | ref _ _ => cases t <;> cases hr
    · cases hz
  · cases hz
end M


/-! The M layer: fields, item stores, slices, more walks, dicts made. -/
namespace M
open PySem PySem.Spec PyProof.Rows L2

/-! ### fields -/
structure KFl (G : Gb) (f : Str) (ids : List Nat) : Prop where
  cl : ∀ c ∈ ids, Cls G.K (G.cA c)
  no : ∀ c ∈ ids, NoAttr G.K (G.cA c) f
def rFld (K : PySem.W.Frag) (f : Str) : V → Hp → VK → Prop := fun x H1 Q => ∃ a C dx fs v, x = .ref a ∧ H1 a = some (.ins C dx fs) ∧ Cls K C ∧ NoAttr K C f ∧ fs.lookup f = some v ∧ Q v H1
def gFld (ids : List Nat) (f : Str) (st : Store) : D → Option D
  | .obj c fs => if c ∈ ids then fs.lookup f else none
  | .ref i => match st[i]? with
    | some (.ins c fs) => if c ∈ ids then fs.lookup f else none
    | _ => none
  | _ => none
section
variable {G : Gb} {L : Lv} {H : Hp} {f : Str}
theorem DasF.look : ∀ {ds : List (Str × D)} {vs : List (Str × V)} {d : D}, DasF G H vs ds → ds.lookup f = some d → ∃ v, vs.lookup f = some v ∧ Da G H v d
  | [], _, _, h, e => by cases e
  | (k, x) :: ds, _, d, h, e => by
    cases h with
    | @cons _ v vs _ _ h r =>
      rw [List.lookup_cons] at e ⊢
      by_cases q : (f == k) = true
      · rw [q] at e ⊢
        cases e
        exact ⟨_, rfl, h⟩
      · rw [Bool.not_eq_true] at q
        rw [q] at e ⊢
        exact DasF.look r e
theorem VasF.look : ∀ {vs : List (Str × V)} {ds : List (Str × D)} {d : D}, VasF G L H vs ds → ds.lookup f = some d → ∃ v, vs.lookup f = some v ∧ Va G L H v d
  | _, _, _, .nil, e => by cases e
  | _, _, _, @VasF.cons _ _ _ k v vs x ds h r, e => by
    rw [List.lookup_cons] at e ⊢
    by_cases q : (f == k) = true
    · rw [q] at e ⊢
      cases e
      exact ⟨_, rfl, h⟩
    · rw [Bool.not_eq_true] at q
      rw [q] at e ⊢
      exact VasF.look r e
def putFd (f : Str) (d : D) : List (Str × D) → List (Str × D)
  | [] => [(f, d)]
  | (g, x) :: r => if g = f then (g, d) :: r else (g, x) :: putFd f d r
theorem VasF.put {v : V} {d : D} (hv : Va G L H v d) : ∀ {vs : List (Str × V)} {ds : List (Str × D)}, VasF G L H vs ds → VasF G L H (putF f v vs) (putFd f d ds)
  | _, _, .nil => .cons hv .nil
  | _, _, @VasF.cons _ _ _ k w vs x ds h r => by
    unfold putF putFd
    by_cases e : k = f
    · rw [if_pos e, if_pos e]
      exact .cons hv r
    · rw [if_neg e, if_neg e]
      exact .cons h (VasF.put hv r)
theorem VasF.length : ∀ {vs : List (Str × V)} {ds : List (Str × D)}, VasF G L H vs ds → vs.length = ds.length
  | _, _, .nil => rfl
  | _, _, .cons h r => by simp [VasF.length r]
end
theorem r1_fld {G : Gb} {f : Str} {ids : List Nat} (T : KFl G f ids) : R1M G (rFld G.K f) (gFld ids f) := fun L st H x d z Q R dx hz k => by
  unfold gFld at hz
  split at hz
  · rename_i c fs
    split at hz
    · rename_i hc
      cases dx with
      | d h =>
        cases h with
        | obj h r =>
          obtain ⟨v, q1, q2⟩ := DasF.look r hz
          exact ⟨_, _, _, _, v, rfl, (off_some h).1, T.cl _ hc, T.no _ hc, q1, k v L H (Ev.refl _ _) R (.d q2)⟩
    · cases hz
  · rename_i i
    split at hz
    · rename_i c fs hi
      split at hz
      · rename_i hc
        obtain ⟨a, rfl, hL, cr⟩ := cell_of R dx hi (fun z => nomatch z)
        obtain ⟨ddx, vs, q, r⟩ := cr
        obtain ⟨v, q1, q2⟩ := VasF.look r hz
        exact ⟨_, _, _, _, v, rfl, q, T.cl _ hc, T.no _ hc, q1, k v L H (Ev.refl _ _) R q2⟩
      · cases hz
    · cases hz
  · cases hz
def gSFld (ids : List Nat) (f : Str) (st : Store) (o v : D) : Option Store := match o with
  | .ref i => match st[i]? with
    | some (.ins c fs) => if c ∈ ids ∧ fs.length < 1000 then some (st.set i (.ins c (putFd f v fs))) else none
    | _ => none
  | _ => none
/-- o.f = v: v first -/
def mSFld (ids : List Nat) (f : Str) (mo mv : ME) : MS := fun env st => bndS (mv env st) env fun v st => bndS (mo env st) env fun o st => match gSFld ids f st o v with
  | some st => some (.next, env, st)
  | none => none
section
variable {G : Gm} {W : WX} {X : Cx} {o e value : Expr} {f : Str} {pos pos' : Pos} {ids : List Nat} {mo mv me : ME}
theorem m_fld (T : KFl G f ids) (hK : G.K = X.K) (he : PE X e (tM G W me)) (hb : attributeBase e f X.env (eval e X.env) = eval e X.env := by rfl) : PE X (.Attribute e f pos) (tM G W (mUn (gFld ids f) me)) :=
  PEimp (pe_fld he hb) fun σ H Q q => by
    have h := t_un (r1_fld T) q
    rw [hK] at h
    exact h
theorem ms_sfld (T : KFl G f ids) (hK : G.K = X.K) (ho : PE X o (tM G W mo)) (hv : PE X value (tM G W mv)) (hs : swapsWith value (some (.Attribute o f pos')) pos.line X.env = pure false := by rfl) :
    PS X (.Assign [.Attribute o f pos'] value pos) (tMS G W (mSFld ids f mo mv)) := PSimp (ps_fld ho hv hs) fun D σ H q => by
  obtain ⟨L, st, env, fl, env', st', at_, hm, hp⟩ := q
  refine tM_bndS at_ hm (hp.err at_) fun v st1 y L1 H1 h1 e1 a1 dv => ?_
  refine tM_bndS a1 h1 ((hp.ev e1).err a1) fun o st2 x L2 H2 h2 e2 a2 dx => ?_
  split at h2
  · rename_i st3 hg
    cases h2
    unfold gSFld at hg
    split at hg
    · rename_i i
      split at hg
      · rename_i c fs hi
        split at hg
        · rename_i hc
          cases hg
          obtain ⟨a, rfl, hL, cr⟩ := cell_of a2.r dx hi (fun z => nomatch z)
          obtain ⟨ddx, vs, q, r⟩ := cr
          have rr := VasF.put (f := f) (e2.va dv) r
          obtain ⟨e3, r3⟩ := cell_write (o := .ins (G.cA c) ddx (putF f y vs)) (c := .ins c (putFd f v fs)) a2.r hL fun H' eo h => ⟨ddx, _, h, by rw [eo]; exact rr⟩
          refine ⟨a, _, ddx, vs, rfl, q, hK ▸ T.cl _ hc.1, hK ▸ T.no _ hc.1, by rw [r.length]; exact hc.2, ?_⟩
          exact hp _ _ _ ((e1.trans e2).trans e3) r3 (a2.e.ev e3)
        · cases hg
      · cases hg
    · cases hg
  · cases h2

/-! ### item stores on a list cell -/
def gPut (st : Store) (o i v : D) : Option Store := match o, i with
  | .ref j, .int k => match st[j]? with
    | some (.lst xs) => (match ixN xs.length k with
      | some n => if isD v = true then some (st.set j (.lst (xs.set n v))) else none
      | none => none)
    | _ => none
  | _, _ => none
/-- o[i] = v: v first -/
def mPut (mo mi mv : ME) : MS := fun env st => bndS (mv env st) env fun v st => bndS (mo env st) env fun o st => bndS (mi env st) env fun i st => match gPut st o i v with
  | some st => some (.next, env, st)
  | none => none
theorem Das.set {G : Gb} {H : Hp} {v : V} {d : D} (hv : Da G H v d) : ∀ {ds : List D} {vs : List V} (n : Nat), Das G H vs ds → Das G H (vs.set n v) (ds.set n d)
  | [], _, n, h => by cases h; exact .nil
  | x :: ds, _, 0, h => by
    cases h with
    | cons h r => exact .cons hv r
  | x :: ds, _, n + 1, h => by
    cases h with
    | cons h r => exact .cons h (Das.set hv n r)
theorem ms_put {i : Expr} {mi : ME} (hv : PE X value (tM G W mv)) (ho : PE X o (tM G W mo)) (hi : PE X i (tM G W mi))
    (hs : swapsWithSole [.Subscript o i pos'] value pos.line X.env = pure false := by rfl) (hw : swappedStores [.Subscript o i pos'] value X.env = pure none := by rfl)
    (h1 : (assignEach [.Subscript o i pos'] X.env).map (·.2) = [assign (.Subscript o i pos') X.env] := by rfl)
    (ha : ∀ v, assign (.Subscript o i pos') X.env v = (do
      let ov ← holding [v] (eval o X.env)
      let iv ← holding [v, ov] (eval i X.env)
      standAt pos'
      holding [v, ov, iv] (setItem ov iv v)
      release [v, ov, iv] []) := by intro _; rfl) :
    PS X (.Assign [.Subscript o i pos'] value pos) (tMS G W (mPut mo mi mv)) := PSimp (ps_asg hv (pg_sub ho hi set_list ha) hs hw h1) fun D σ H q => by
  obtain ⟨L, st, env, fl, env', st', at_, hm, hp⟩ := q
  refine tM_bndS at_ hm (hp.err at_) fun v st1 y L1 H1 h1 e1 a1 dv => ?_
  refine tM_bndS a1 h1 ((hp.ev e1).err a1) fun o st2 x L2 H2 h2 e2 a2 dx => ?_
  refine tM_bndS a2 h2 (((hp.ev e1).ev e2).err a2) fun i st3 z L3 H3 h3 e3 a3 dz => ?_
  split at h3
  · rename_i st4 hg
    cases h3
    unfold gPut at hg
    split at hg
    · rename_i j k
      split at hg
      · rename_i xs hj
        split at hg
        · rename_i n hn
          split at hg
          · rename_i hpure
            cases hg
            obtain ⟨a, rfl, hL, cr⟩ := cell_of a3.r (e3.va dx) hj (fun z => nomatch z)
            obtain ⟨vs, q, r⟩ := cr
            have rr := Das.set (e3.da ((e2.va dv).da hpure)) n r
            obtain ⟨e4, r4⟩ := cell_write (o := .lst (vs.set n y)) (c := .lst (xs.set n v)) a3.r hL fun H' eo h => ⟨_, h, by rw [eo]; exact rr⟩
            refine ⟨a, vs, k, n, rfl, dz.int_inv, q, by rw [r.length]; exact hn, ?_⟩
            exact hp _ _ _ (((e1.trans e2).trans e3).trans e4) r4 (a3.e.ev e4)
          · cases hg
        · cases hg
      · cases hg
    · cases hg
  · cases h3
end

/-! ### slices -/
def gSlL (lo hi : Option Int) (xs : List D) : List D := (xs.drop (HT.sIx xs.length 0 lo)).take (HT.sIx xs.length xs.length hi - HT.sIx xs.length 0 lo)
/-- a part of a slice -/
abbrev MO := En → Store → Option (Rs (Option Int) × Store)
def moNone : MO := fun _ st => some (.ok none, st)
def moSome (m : ME) : MO := fun env st => bnd (m env st) fun d st => match d with
  | .int i => some (.ok (some i), st)
  | _ => none
def tMO (G : Gm) (W : WX) (m : MO) : TO := fun σ H Q => ∃ L st env r st', At G L st σ env H ∧ m env st = some (r, st') ∧ (match r with
  | .ok o => ∀ L' H', Ev L H L' H' → Rep G L' st' H' → Q o H'
  | .err x => ErrP G L H st' x fun cls dd H' => W cls dd σ H')
theorem POimp {X : Cx} {e : Option Expr} {t u : TO} (h : PO X e t) (k : ∀ σ H Q, u σ H Q → t σ H Q) : PO X e u := ⟨fun pins s σ H Q I q => h.run pins s σ H Q I (k _ _ _ q)⟩
section
variable {G : Gm} {W : WX} {X : Cx} {o e value : Expr} {pos pos' p2 : Pos} {me : ME}
theorem mo_none : PO X none (tMO G W moNone) := POimp po_none fun σ H Q q => by
  obtain ⟨L, st, env, r, st', at_, hm, hp⟩ := q
  cases hm
  exact hp L H (Ev.refl _ _) at_.r
theorem mo_some (h : PE X e (tM G W me)) : PO X (some e) (tMO G W (moSome me)) := POimp (po_some h) fun σ H Q q => by
  obtain ⟨L, st, env, r, st', at_, hm, hp⟩ := q
  refine tM_bnd at_ hm (by rintro x rfl; exact hp) fun d st1 v L1 H1 h1 e1 a1 dv => ?_
  split at h1
  · cases h1
    exact ⟨_, dv.int_inv, hp L1 H1 e1 a1.r⟩
  · cases h1
def gSl (st : Store) (x : D) (lo hi : Option Int) : Option D := match rd st x with
  | .lst xs => some (.lst (gSlL lo hi xs))
  | .ro xs => some (.lst (gSlL lo hi xs))
  | .str z => if z.length ≤ big then some (.str (cutS z lo hi)) else none
  | _ => none
def mSl (me : ME) (ml mh : MO) : ME := fun env st => bnd (me env st) fun x st => bnd (ml env st) fun lo st => bnd (mh env st) fun hi st => match gSl st x lo hi with
  | some z => some (.ok z, st)
  | none => none
theorem tMO_bnd {σ : L2.St} {L : Lv} {H : Hp} {st : Store} {env : En} {β : Type} {ma : MO} {k : Option Int → Store → Option (Rs β × Store)} {r : Rs β} {st' : Store} {Q : Option Int → Hp → Prop} (a : At G L st σ env H) (h : bnd (ma env st) k = some (r, st'))
    (err : ∀ x, r = .err x → ErrP G L H st' x fun cls dd H' => W cls dd σ H')
    (ok : ∀ d st1 L1 H1, k d st1 = some (r, st') → Ev L H L1 H1 → At G L1 st1 σ env H1 → Q d H1) : tMO G W ma σ H Q := by
  rcases bnd_cases h with ⟨d, st1, h1, h2⟩ | ⟨x, h1, rfl⟩
  · exact ⟨L, st, env, _, _, a, h1, fun L1 H1 e r1 => ok d st1 L1 H1 h2 e (a.ev e r1)⟩
  · exact ⟨L, st, env, _, st', a, h1, err x rfl⟩
theorem das_cut {H : Hp} {ds : List D} {vs : List V} (lo hi : Option Int) (r : Das G H vs ds) : Das G H (cutV vs lo hi) (gSlL lo hi ds) := by
  unfold cutV gSlL
  rw [r.length]
  exact (r.drop _).take _
theorem m_sl {lo hi : Option Expr} {ml mh : MO} (hK : G.K = X.K) (he : PE X e (tM G W me)) (hl : PO X lo (tMO G W ml)) (hh : PO X hi (tMO G W mh)) : PE X (.Subscript e (.Slice lo hi none p2) pos) (tM G W (mSl me ml mh)) :=
  PEimp (pe_slice (SlR.or sl_list sl_str) he hl hh) fun σ H Q q => by
    obtain ⟨L, st, env, r, st', at_, hm, hp⟩ := q
    refine tM_bnd at_ hm hp.err fun x st1 v L1 H1 h1 e1 a1 dx => ?_
    refine tMO_bnd a1 h1 (hp.ev e1).err fun lo st2 L2 H2 h2 e2 a2 => ?_
    refine tMO_bnd a2 h2 ((hp.ev e1).ev e2).err fun hi st3 L3 H3 h3 e3 a3 => ?_
    have e13 := (e1.trans e2).trans e3
    split at h3
    · rename_i z hz
      injection h3 with h3
      injection h3 with h3a h3b
      subst h3a
      subst h3b
      unfold gSl at hz
      have dx3 := e3.va (e2.va dx)
      have out : ∀ {a vs xs}, SqL G.K H3 a vs → v = .ref a → Das G (off L3 H3) vs xs → RPost G W σ L H st3 Q (.ok (.lst (gSlL lo hi xs))) → (fun x lo hi H Q => rSlL X.K x lo hi H Q ∨ rSlS x lo hi H Q) v lo hi H3 Q := fun {a vs xs} q ev r hp => by
        subst ev
        refine .inl ⟨a, vs, rfl, hK ▸ q, fun p hpn => ?_⟩
        have e4 := Ev.new1 (G := G) a3.r (o := .lst (cutV vs lo hi)) hpn
        exact hp _ _ _ (e13.trans e4) (Rep.new1 a3.r hpn) (.d (.lst (Ev.off_new a3.r hpn) (e4.das (das_cut lo hi r))))
      split at hz
      · rename_i xs hx
        cases hz
        obtain ⟨a, vs, ev, q, r⟩ := rd_off a3.r dx3 hx
        exact out (.inl (.inl q)) ev r hp
      · rename_i xs hx
        cases hz
        have hx' : x = .ro xs := by
          cases x with
          | ref j => unfold rd at hx; dsimp only at hx; split at hx <;> cases hx
          | _ => exact hx
        subst hx'
        obtain ⟨a, vs, ev, q, r⟩ := dx3.ro_inv
        exact out (off_sq q) ev r hp
      · rename_i z hx
        split at hz
        · rename_i hb
          cases hz
          rw [rd_str hx] at dx3
          refine .inr ⟨z, dx3.str_inv, ?_, hp _ _ _ e13 a3.r (.d (.str _))⟩
          rw [sizeLine_eq]
          unfold big at hb
          omega
        · cases hz
      · cases hz
    · cases h3
end

/-! ### more walks -/
section
variable {G : Gb} {L : Lv} {H : Hp} {st : Store} {a : Addr} {vs : List V} {ds : List D}
def enumD : Nat → List D → List D
  | _, [] => []
  | n, d :: ds => .tup [.int (n : Nat), d] :: enumD (n + 1) ds
theorem enumD_length : ∀ (n : Nat) (ds : List D), (enumD n ds).length = ds.length
  | _, [] => rfl
  | n, d :: ds => by
    show (enumD (n + 1) ds).length + 1 = ds.length + 1
    rw [enumD_length]
theorem enumD_get : ∀ {n i : Nat} {ds : List D} {e : D}, (enumD n ds)[i]? = some e → ∃ d, ds[i]? = some d ∧ e = .tup [.int ((n + i : Nat) : Int), d]
  | _, _, [], _, h => by simp [enumD] at h
  | n, 0, d :: ds, e, h => by
    simp [enumD] at h
    exact ⟨d, rfl, h.symm⟩
  | n, i + 1, d :: ds, e, h => by
    have h' : (enumD (n + 1) ds)[i]? = some e := by simpa [enumD] using h
    obtain ⟨d', q1, q2⟩ := enumD_get h'
    refine ⟨d', by simpa using q1, ?_⟩
    rw [q2]
    have : n + 1 + i = n + (i + 1) := by omega
    rw [this]
theorem pair_new {L' : Lv} {H' : Hp} {st : Store} {T : Addr} {i : Nat} {v : V} {d : D} (R : Rep G L' st H') (hT : H' T = none) (dv : Da G (off L' H') v d) :
    Ev L' H' L' (upd H' T (.tup [.int (i : Nat), v])) ∧ Rep G L' st (upd H' T (.tup [.int (i : Nat), v])) ∧ Da G (off L' (upd H' T (.tup [.int (i : Nat), v]))) (.ref T) (.tup [.int (i : Nat), d]) := by
  have e := Ev.new1 (G := G) R (o := .tup [.int (i : Nat), v]) hT
  exact ⟨e, Rep.new1 R hT, .tup (Ev.off_new R hT) (.cons (.int _) (.cons (e.da dv) .nil))⟩
theorem walk_enumL (h : SqL G.K (off L H) a vs) (r : Das G (off L H) vs ds) : WalkD G (Ite G.K a) (enumD 0 ds) L H := by
  have sq : ∀ L' H', Rl (off L H) (off L' H') → SqL G.K H' a vs := fun L' H' e => by
    rcases h with h | h
    · rcases h with h | ⟨o, h⟩
      · exact .inl (.inl (off_some (e.lst _ _ h)).1)
      · exact .inl (.inr ⟨o, (off_some (e.frz _ _ _ h)).1⟩)
    · exact .inr h
  refine ⟨fun i L' H' e hi => ?_, fun i L' H' st d e R hd x H2 y => ?_, fun L' H' e => ⟨vs, sq _ _ e, by rw [r.length, enumD_length]; exact Nat.le_refl _⟩⟩
  · have hv : i < vs.length := by rw [r.length]; rw [enumD_length] at hi; exact hi
    exact ⟨vs, vs[i], sq _ _ e, List.getElem?_eq_getElem hv⟩
  · obtain ⟨T, x, rfl, hT, rfl, y⟩ := y
    obtain ⟨d', q1, rfl⟩ := enumD_get hd
    obtain ⟨v, hv, dv⟩ := r.getD q1
    have hx := y vs (sq _ _ e)
    rw [hv] at hx
    cases hx
    rw [Nat.zero_add]
    exact pair_new R hT (Da.mono e _ _ dv)
theorem walk_enumT (h : off L H a = some (.tup vs)) (r : Das G (off L H) vs ds) : WalkD G (Itet G.K a) (enumD 0 ds) L H := by
  have sq : ∀ L' H', Rl (off L H) (off L' H') → SqT G.K H' a vs := fun L' H' e => .inl (.inl (off_some (e.tup _ _ h)).1)
  refine ⟨fun i L' H' e hi => ?_, fun i L' H' st d e R hd x H2 y => ?_, fun L' H' e => ⟨vs, sq _ _ e, by rw [r.length, enumD_length]⟩⟩
  · have hv : i < vs.length := by rw [r.length]; rw [enumD_length] at hi; exact hi
    exact ⟨vs, vs[i], sq _ _ e, List.getElem?_eq_getElem hv⟩
  · obtain ⟨T, x, rfl, hT, rfl, y⟩ := y
    obtain ⟨d', q1, rfl⟩ := enumD_get hd
    obtain ⟨v, hv, dv⟩ := r.getD q1
    have hx := y vs (sq _ _ e)
    rw [hv] at hx
    cases hx
    rw [Nat.zero_add]
    exact pair_new R hT (Da.mono e _ _ dv)
def charsD (x : Str) : List D := x.cps.toList.map fun c => .str ⟨#[c]⟩
theorem walk_str {x : Str} : WalkD G (Its x) (charsD x) L H := by
  refine ⟨fun i L' H' e hi => ?_, fun i L' H' st d e R hd v H2 y => ?_, fun L' H' e => ?_⟩
  · show i < x.cps.size
    simpa [charsD] using hi
  · obtain ⟨rfl, c, hc, rfl⟩ := y
    refine ⟨Ev.refl _ _, R, ?_⟩
    unfold charsD at hd
    rw [List.getElem?_map, Array.getElem?_toList, hc] at hd
    cases hd
    exact .str _
  · show x.cps.size ≤ (charsD x).length
    simp [charsD]
end
section
variable {G : Gm} {W : WX} {X : Cx} {tg e l : Expr} {ma : ME} {mas : MA}
def mItStr (m : ME) : MA := fun env st => bnd (m env st) fun d st => match d with
  | .str x => some (.ok (charsD x), st)
  | _ => none
theorem mi_str (hl : PE X l (tM G W ma)) : PI X tg l (tMI G W (mItStr ma)) := PIimp (pi_str hl) fun σ H R q => by
  obtain ⟨L, st, env, r, st', at_, hm, hp⟩ := q
  refine tM_bnd at_ hm (by rintro x rfl; exact hp) fun d st1 v L1 H1 h1 e1 a1 dv => ?_
  split at h1
  · cases h1
    exact ⟨_, dv.str_inv, hp _ L1 H1 e1 a1.r walk_str⟩
  · cases h1
/-- enumerate of a list or a tuple that stays -/
def mEnum (m : ME) : MA := fun env st => bnd (m env st) fun d st => match d with
  | .lst ds => some (.ok (enumD 0 ds), st)
  | .ro ds => some (.ok (enumD 0 ds), st)
  | .tup ds => some (.ok (enumD 0 ds), st)
  | _ => none
theorem mCons1 {env : En} {st st1 : Store} {d : D} (h : ma env st = some (.ok d, st1)) : mCons ma mNil env st = some (.ok [d], st1) := by unfold mCons; rw [h]; rfl
theorem mCons1e {env : En} {st st1 : Store} {x : Xn} (h : ma env st = some (.err x, st1)) : mCons ma mNil env st = some (.err x, st1) := by unfold mCons; rw [h]; rfl
theorem Vas.one_inv {L : Lv} {H : Hp} {vs : List V} {d : D} (h : Vas G L H vs [d]) : ∃ v, vs = [v] ∧ Va G L H v d := by
  cases h with
  | cons h r => cases r; exact ⟨_, rfl, h⟩
theorem mi_enum {p pos tpos : Pos} {elts : List Expr} {kk : Nat} (hg : Gl X "enumerate") (hm : X.mg "enumerate" = none) (hK : G.K = X.K) (he : PE X e (tM G W ma)) (hs : starEach [e] X.env = [(false, eval e X.env)] := by rfl) (hs2 : starEach [e] X.env = (false, eval e X.env) :: starEach [] X.env := by rfl) :
    PI X (.Tuple elts kk tpos) (.Call (.Name "enumerate" p) [e] [] pos) (tMI G W (mEnum ma)) := PIimp (pi_or2 (pi_enum hg hm (m_cons he m_nil hs2) hs) (pi_enumT hg hm (m_cons he m_nil hs2) hs)) fun σ H R q => by
  obtain ⟨L, st, env, r, st', at_, hm, hp⟩ := q
  rcases bnd_cases hm with ⟨d, st1, h1, h2⟩ | ⟨x, h1, rfl⟩
  · cases d with
    | lst ds =>
      cases h2
      refine .inl ⟨L, st, env, .ok [.lst ds], _, at_, mCons1 h1, fun ws L1 H1 e1 r1 dv => ?_⟩
      obtain ⟨v, rfl, dw⟩ := Vas.one_inv dv
      obtain ⟨a, vs, rfl, h, rr⟩ := dw.lst_inv
      exact ⟨a, vs, rfl, .inl (.inl (off_some h).1), hK ▸ hp _ L1 H1 e1 r1 (walk_enumL (G := G) (.inl (.inl h)) rr)⟩
    | ro ds =>
      cases h2
      refine .inl ⟨L, st, env, .ok [.ro ds], _, at_, mCons1 h1, fun ws L1 H1 e1 r1 dv => ?_⟩
      obtain ⟨v, rfl, dw⟩ := Vas.one_inv dv
      obtain ⟨a, vs, rfl, h, rr⟩ := dw.ro_inv
      exact ⟨a, vs, rfl, hK ▸ off_sq h, hK ▸ hp _ L1 H1 e1 r1 (walk_enumL (G := G) h rr)⟩
    | tup ds =>
      cases h2
      refine .inr ⟨L, st, env, .ok [.tup ds], _, at_, mCons1 h1, fun ws L1 H1 e1 r1 dv => ?_⟩
      obtain ⟨v, rfl, dw⟩ := Vas.one_inv dv
      obtain ⟨a, vs, rfl, h, rr⟩ := dw.tup_inv
      exact ⟨a, vs, rfl, .inl (.inl (off_some h).1), hK ▸ hp _ L1 H1 e1 r1 (walk_enumT (G := G) h rr)⟩
    | _ => cases h2
  · exact .inl ⟨L, st, env, .err x, _, at_, mCons1e h1, hp⟩
end
end M


/-! The M layer: dict comprehensions and displays; errors of one's own: made, raised, caught. -/
namespace M
open PySem PySem.Spec PyProof.Rows L2

/-! ### a step that only adds -/
theorem same_ev {G : Gb} {L : Lv} {H H' : Hp} {st : Store} (R : Rep G L st H) (s : Same H H') : Ev L H L H' ∧ Rep G L st H' := by
  have there : ∀ a, H' a = none → H a = none := fun a h => by
    cases e : H a with
    | none => rfl
    | some o => rw [s _ _ e] at h; cases h
  have ev : Ev L H L H' :=
    ⟨Le.refl L, fun i a hi h => (no_at hi h).elim, fun b u h => by
      obtain ⟨h1, h2⟩ := off_some h
      exact .inl (off_of (s _ _ h1) h2), there, rfl, fun a ha => by
      cases e : H a with
      | none => exact absurd e (R.hid a ha).1.1
      | some o => rw [s _ _ e]⟩
  exact ⟨ev, R.len, R.inj, fun i x c hx hc => CellR.ev ev (fun a o _ h => s _ _ h) (R.cell i x c hx hc), fun a ha => ⟨by rw [ev.keep a ha]; exact (R.hid a ha).1, (R.hid a ha).2⟩⟩

/-! ### dicts: keys ints and texts -/
def keyD : D → Option Key
  | .int i => some (.inl i)
  | .str x => some (.inr x)
  | _ => none
theorem keyD_kV {G : Gb} {L : Lv} {H : Hp} {v : V} {d : D} {k : Key} (h : Va G L H v d) (e : keyD d = some k) : v = kV k := by
  cases d with
  | int i => cases e; exact h.int_inv
  | str x => cases e; exact h.str_inv
  | _ => cases e
def putKd {κ : Type} [DecidableEq κ] (kvs : List (κ × D)) (k : κ) (d : D) : List (κ × D) :=
  if (kvs.any fun kv => decide (kv.1 = k)) = true then kvs.map (fun kv => if kv.1 = k then (kv.1, d) else kv) else kvs ++ [(k, d)]
section
variable {G : Gb} {H : Hp}
theorem DasK.any (k : Key) : ∀ {ds : List (Key × D)} {vs : List (Key × V)}, DasK G H vs ds → (vs.any fun kv => decide (kv.1 = k)) = (ds.any fun kv => decide (kv.1 = k))
  | [], _, h => by cases h; rfl
  | (j, d) :: ds, _, h => by
    cases h with
    | cons h r =>
      rw [List.any_cons, List.any_cons, DasK.any k r]
theorem DasK.setAt (k : Key) {v : V} {d : D} (hv : Da G H v d) : ∀ {ds : List (Key × D)} {vs : List (Key × V)}, DasK G H vs ds → DasK G H (vs.map fun kv => if kv.1 = k then (kv.1, v) else kv) (ds.map fun kv => if kv.1 = k then (kv.1, d) else kv)
  | [], _, h => by cases h; exact .nil
  | (j, x) :: ds, _, h => by
    cases h with
    | cons h r =>
      rw [List.map_cons, List.map_cons]
      by_cases e : j = k
      · rw [if_pos e, if_pos e]
        exact .cons hv (DasK.setAt k hv r)
      · rw [if_neg e, if_neg e]
        exact .cons h (DasK.setAt k hv r)
theorem DasK.append : ∀ {ds es : List (Key × D)} {vs us : List (Key × V)}, DasK G H vs ds → DasK G H us es → DasK G H (vs ++ us) (ds ++ es)
  | [], _, _, _, h, g => by cases h; exact g
  | (j, x) :: ds, _, _, _, h, g => by
    cases h with
    | cons h r => exact .cons h (DasK.append r g)
theorem DasK.put (k : Key) {v : V} {d : D} (hv : Da G H v d) {ds : List (Key × D)} {vs : List (Key × V)} (h : DasK G H vs ds) : DasK G H (putK vs k v) (putKd ds k d) := by
  unfold putK putKd
  rw [DasK.any k h]
  split
  · exact DasK.setAt k hv h
  · exact h.append (.cons hv .nil)
theorem DasK.len : ∀ {ds : List (Key × D)} {vs : List (Key × V)}, DasK G H vs ds → vs.length = ds.length
  | [], _, h => by cases h; rfl
  | (j, x) :: ds, _, h => by
    cases h with
    | cons h r => simp [DasK.len r]
end
def compK (t : Tg) (mt : MT) (mk mv : ME) (env : En) : List D → List (Key × D) → Store → Option (List (Key × D) × Store)
  | [], kvs, st => some (kvs, st)
  | d :: ds, kvs, st => match setT t d env with
    | none => none
    | some env1 => match mt env1 st with
      | some (.ok true, st1) => match mk env1 st1 with
        | some (.ok y, st2) => match mv env1 st2 with
          | some (.ok z, st3) => match keyD y with
            | some k => if isD z = true ∧ kvs.length < big then compK t mt mk mv env ds (putKd kvs k z) st3 else none
            | none => none
          | _ => none
        | _ => none
      | some (.ok false, st1) => compK t mt mk mv env ds kvs st1
      | _ => none
def mDc (mi : MA) (t : Tg) (mt : MT) (mk mv : ME) (vs : List Nat) : ME := fun env st => bnd (mi env st) fun ds st => match compK t mt mk mv (wipeE env vs) ds [] st with
  | some (kvs, st2) => some (.ok (.dK kvs), st2)
  | none => none
section
variable {G : Gm} {W W0 : WX} {X : Cx} {kx vx tg iter : Expr} {ifs : List Expr} {scope : Scope} {own : List (Str × Nat)} {pos : Pos} {mi : MA} {g : TG} {t : Tg} {mt : MT} {mk mv : ME}
theorem t_dc {vs : List Nat} (hF : Flat G) (ht : TgOk G g t) (hsl : ∀ i ∈ t.slots, i ∈ vs) {σ : L2.St} {H : Hp} {Q : VK} (q : tM G W (mDc mi t mt mk mv vs) σ H Q) : tDc (tMI G W mi) g (tMT G W0 mt) (tM G W0 mk) (tM G W0 mv) vs σ H Q := by
  obtain ⟨L, st, env, r, st', at_, hm, hp⟩ := q
  rcases bnd_cases hm with ⟨ds, st1, h1, h2⟩ | ⟨x, h1, rfl⟩
  · refine ⟨L, st, env, _, st1, at_, h1, fun J L1 H1 e1 r1 wk p hpn => ?_⟩
    split at h2
    · rename_i kvs0 stF hc
      cases h2
      have a1 := at_.ev e1 r1
      refine ⟨fun i m H' => ∃ L2' st2 acc accD, Ev (L1.hide p) (upd H1 p (.dK acc)) L2' H' ∧ Rep G L2' st2 H' ∧ DasK G (off L2' H') acc accD ∧ i ≤ ds.length ∧ m = ds.length - i ∧
          compK t mt mk mv (wipeE env vs) (ds.drop i) accD st2 = some (kvs0, st'),
        ⟨ds.length, L1.hide p, st1, [], [], Ev.refl _ _, r1.hide hpn, .nil, Nat.zero_le _, rfl, hc⟩, ?_⟩
      rintro i m H2 ⟨L2', st2, acc, accD, e2, r2, dacc, hi, rfl, hcc⟩
      have sm := ((Rl.of_same (hide_same (L := L1) hpn)).trans e2.same)
      by_cases hlt : i < ds.length
      · have hd : ds[i]? = some ds[i] := List.getElem?_eq_getElem hlt
        have hdrop : ds.drop i = ds[i] :: ds.drop (i + 1) := List.drop_eq_getElem_cons hlt
        rw [hdrop] at hcc
        refine .inr ⟨wk.go i L2' H2 sm hlt, fun H' => ∃ L3 st3 acc accD, Ev (L1.hide p) (upd H1 p (.dK acc)) L3 H' ∧ Rep G L3 st3 H' ∧ DasK G (off L3 H') acc accD ∧ i + 1 ≤ ds.length ∧
            compK t mt mk mv (wipeE env vs) (ds.drop (i + 1)) accD st3 = some (kvs0, st'),
          fun H' ⟨L3, st3, a3, aD3, x1, x2, x3, x4, x5⟩ => ⟨ds.length - (i + 1), by omega, L3, st3, a3, aD3, x1, x2, x3, x4, rfl, x5⟩, fun x H3 y => ?_⟩
        obtain ⟨e3, r3, dx⟩ := wk.yld i L2' H2 st2 _ sm r2 hd x H3 y
        have e13 := e2.trans e3
        unfold compK at hcc
        cases hz : setT t ds[i] (wipeE env vs) with
        | none => rw [hz] at hcc; cases hcc
        | some env3 =>
          rw [hz] at hcc
          dsimp only at hcc
          have enW : EnvR G L2' (off L2' H3) (L2.wipe σ vs) (wipeE env vs) := EnvR.wipe
            (⟨a1.e.len, fun j d q => by
              obtain ⟨v, q1, q2⟩ := a1.e.at_ j d q
              refine ⟨v, q1, ?_⟩
              exact Va.mono (L := L1) (⟨e13.le.len, e13.le.at_⟩ : Le L1 L2') ((Rl.of_same (hide_same (L := L1) hpn)).trans e13.same) q2⟩) vs
          refine ht.run L2' H3 st2 x _ _ _ env3 _ ⟨enW, r3, G.up _ _ _ ((Rl.of_same (hide_same (L := L1) hpn)).trans e13.same) (hF _ _ _ a1.p)⟩ (.d dx) hz fun σ4 a4 hw => ?_
          refine ⟨by rw [hw vs hsl, wipe_wipe vs vs fun _ h => h], ?_⟩
          cases hb : mt env3 st2 with
          | none => rw [hb] at hcc; cases hcc
          | some q =>
            obtain ⟨rb, st4⟩ := q
            rw [hb] at hcc
            cases rb with
            | err _ => cases hcc
            | ok b =>
              refine ⟨L2', st2, env3, _, st4, a4, hb, fun L4 H4 e4 r4 => ?_⟩
              cases b with
              | false =>
                dsimp only at hcc
                rw [if_neg Bool.false_ne_true]
                exact ⟨L4, st4, acc, accD, e13.trans e4, r4, e4.dasK (e3.dasK dacc), hlt, hcc⟩
              | true =>
                dsimp only at hcc
                rw [if_pos rfl]
                cases hk : mk env3 st4 with
                | none => rw [hk] at hcc; cases hcc
                | some q =>
                  obtain ⟨rk, st5⟩ := q
                  rw [hk] at hcc
                  cases rk with
                  | err _ => cases hcc
                  | ok yk =>
                    dsimp only at hcc
                    refine ⟨L4, st4, env3, _, st5, a4.ev e4 r4, hk, fun vk L5 H5 e5 r5 dk => ?_⟩
                    cases hv : mv env3 st5 with
                    | none => rw [hv] at hcc; cases hcc
                    | some q =>
                      obtain ⟨rv, st6⟩ := q
                      rw [hv] at hcc
                      cases rv with
                      | err _ => cases hcc
                      | ok yv =>
                        dsimp only at hcc
                        refine ⟨L5, st5, env3, _, st6, (a4.ev e4 r4).ev e5 r5, hv, fun vv L6 H6 e6 r6 dv => ?_⟩
                        cases hkk : keyD yk with
                        | none => rw [hkk] at hcc; cases hcc
                        | some k =>
                          rw [hkk] at hcc
                          dsimp only at hcc
                          split at hcc
                          · rename_i hz2
                            have e16 := ((e13.trans e4).trans e5).trans e6
                            have h1 : p ∈ (L1.hide p).h := List.mem_cons_self
                            have hp6 : p ∈ L6.h := by rw [e16.hh]; exact h1
                            have hat : H6 p = some (.dK acc) := by rw [e16.keep p h1, upd_same]
                            have dacc6 : DasK G (off L6 H6) acc accD := e6.dasK (e5.dasK (e4.dasK (e3.dasK dacc)))
                            have hlen : acc.length < sizeLine := by
                              have q1 := dacc.len
                              have q2 := hz2.2
                              rw [sizeLine_eq]
                              unfold big at q2
                              omega
                            refine ⟨acc, k, keyD_kV dk hkk, hat, hlen, L6, st6, putK acc k vv, putKd accD k yv, e16.hupd, r6.hupd hp6, ?_, hlt, hcc⟩
                            rw [off_hid hp6]
                            exact dacc6.put k (dv.da hz2.1)
                          · cases hcc
      · have hi2 : i = ds.length := by omega
        subst hi2
        rw [List.drop_length] at hcc
        cases hcc
        refine .inl ⟨wk.stop L2' H2 sm, ?_⟩
        exact hp _ (L2'.back L1) H2 (e1.trans (e2.back r1 hpn)) (Rep.back e2 r2) (.d (.dK (.inl (back_at e2 r2 r1 hpn)) (DasK.mono (Rl.of_same (back_same e2)) _ _ dacc)))
    · cases h2
  · exact ⟨L, st, env, _, st', at_, h1, hp⟩
theorem m_dc (hc : X.calm = true) (hN : X.N.Nodup) (hi : PI X tg iter (tMI G W mi)) (ok : BlkOk X.N X.env.scope scope own)
    (hg : ∀ (s : Shared) (H : Hp) (C : Addr) (cl : List (Str × Addr)) (fp : List Addr), PG (X.blk s H scope (compEnvC scope cl C X.env) fp) tg g) (hT : ∀ (s : Shared) (H : Hp) (C : Addr) (cl : List (Str × Addr)) (fp : List Addr), PTs (X.blk s H scope (compEnvC scope cl C X.env) fp) ifs (tMT G W0 mt))
    (hk : ∀ (s : Shared) (H : Hp) (C : Addr) (cl : List (Str × Addr)) (fp : List Addr), PE (X.blk s H scope (compEnvC scope cl C X.env) fp) kx (tM G W0 mk))
    (he : ∀ (s : Shared) (H : Hp) (C : Addr) (cl : List (Str × Addr)) (fp : List Addr), PE (X.blk s H scope (compEnvC scope cl C X.env) fp) vx (tM G W0 mv)) (ht : TgOk G g t) (hsl : ∀ i ∈ t.slots, i ∈ own.map (·.2)) (hs : ∀ x, foldedSetIterable iter X.env x = pure x := by intro _; rfl)
    (hF : Flat G := by exact fun _ _ _ h => h) :
    PE X (.DictComp kx vx [⟨tg, iter, ifs, 0⟩] scope pos) (tM G W (mDc mi t mt mk mv (own.map (·.2)))) := PEimp (pe_dc hc hN hi ok hg hT hk he hs) fun _ _ _ => t_dc hF ht hsl
end
/-! displays -/
/-- {} that stays empty -/
def mDNil : ME := fun _ st => some (.ok (.dK []), st)
/-- {} as a cell -/
def mDNew : ME := fun _ st => some (.ok (.ref st.length), st ++ [.dK []])
def mPairs : List (ME × ME) → En → Store → Option (Rs (List (Key × D)) × Store)
  | [], _, st => some (.ok [], st)
  | (mk, mv) :: r, env, st => bnd (mk env st) fun y st => bnd (mv env st) fun z st => match keyD y with
    | some k => if isD z = true then bnd (mPairs r env st) fun kvs st => some (.ok ((k, z) :: kvs), st) else none
    | none => none
def mergeD (kvs more : List (Key × D)) : List (Key × D) := more.foldl (fun acc kv => putKd acc kv.1 kv.2) kvs
def mDisp (ps : List (ME × ME)) : ME := fun env st => bnd (mPairs ps env st) fun kvs st => some (.ok (.dK (mergeD [] kvs)), st)
section
variable {G : Gm} {W : WX} {X : Cx} {pos : Pos}
theorem m_dnil : PE X (.Dict [] [] pos) (tM G W mDNil) := PEimp pe_dnewK fun σ H Q q => by
  obtain ⟨L, st, env, r, st', at_, hm, hp⟩ := q
  cases hm
  exact fun p hpn => hp _ _ _ (Ev.new1 (G := G) at_.r hpn) (Rep.new1 at_.r hpn) (.d (.dK (.inl (Ev.off_new at_.r hpn)) .nil))
theorem m_dnew : PE X (.Dict [] [] pos) (tM G W mDNew) := PEimp pe_dnewK fun σ H Q q => by
  obtain ⟨L, st, env, r, st', at_, hm, hp⟩ := q
  cases hm
  refine fun p hpn => ?_
  obtain ⟨e2, r2, v2⟩ := new_cell (G := G) (o := .dK []) (c := .dK []) at_.r hpn fun L' H' s h => ⟨[], h, .nil⟩
  exact hp _ _ _ e2 r2 v2
theorem DasK.merge {G : Gb} {H : Hp} : ∀ {es : List (Key × D)} {us : List (Key × V)} {ds : List (Key × D)} {vs : List (Key × V)}, DasK G H us es → DasK G H vs ds → DasK G H (mergeK vs us) (mergeD ds es)
  | [], _, _, _, h, g => by cases h; exact g
  | (k, d) :: es, _, ds, vs, h, g => by
    cases h with
    | @cons _ v us _ _ h r => exact (show DasK G H (mergeK (putK vs k v) us) (mergeD (putKd ds k d) es) from DasK.merge r (DasK.put k h g))
end

/-! ### an error of one's own: its __init__ -/
section
variable {P : Program} {w : World} {K : PySem.W.Frag} {mg : Str → Option Value} {base : Heap} {X : Cx}
def tEInit (K : PySem.W.Frag) (f m : Str) : TS := tSeq (tDrop (tVeI K (tCons (tVar 0) (tCons (tC (.str m)) tNil)))) (tOst K f (tVar 0) (tVar 1))
theorem pure_einit {f m self : Str} {C : Addr} (T : OexC K C) (no : PySem.W.findIn K (.ref C) f = some none) (vs : List V) (H : Hp) (Q : VK) (E : XK) (h : spXI f K C vs H Q E) :
    tEInit K f m { nx := fun _ H' => Q .non H', rt := Q } (start [self, f] vs) H := by
  obtain ⟨a, y, rfl, ea, q⟩ := h
  refine ⟨_, rfl, a, C, [.str m], rfl, by show 1 ≤ 1000; decide, T, ea, ?_⟩
  exact ⟨_, rfl, _, rfl, a, C, rfl, T, no, .inl ⟨ea, fun dx h1 h2 => q dx h1 h2⟩⟩
end

/-! ### raised -/
def mRaise (c : Nat) (f : Str) (me : ME) : MS := fun env st => bndS (me env st) env fun d st => if isD d = true then some (.err ⟨c, [(f, d)]⟩, env, st) else none
section
variable {G : Gm} {W : WX} {X : Cx} {e : Expr} {me : ME} {pos pos2 p : Pos} {x f : Str} {c k : Nat} {fI : Addr} {fd : FuncData} {ps : List Str}
theorem ms_raise (hc : X.calm = true) (tk : Takes X W) (T : OexC X.K (G.cA c)) (iC : PySem.W.findIn X.K (.ref (G.cA c)) "__init__" = some (some (.ref fI))) (tI : PySem.W.typeIn X.K (.ref fI) = some (.type "function"))
    (F1 : FnOk X.prog X.w X.K X.mg X.base (L2.CX X.prog X.w) k fI fd ps (spXI f X.K (G.cA c))) (hr : Room (k + 1) X.A) (hb : Binds X.K fd ps []) (hg : Gl X x) (hm : X.mg x = some (.ref (G.cA c))) (he : PE X e (tM G W me))
    (hdb : (x == ("__debug__" : Str)) = false := by decide) (hs : starEach (e :: []) X.env = (false, eval e X.env) :: starEach [] X.env := by rfl) (hpl : (backTo pos (starEach [] X.env)).any (·.1) = false := by rfl) :
    PS X (.Raise (some (.Call (.Name x p) [e] [] pos)) none pos2) (tMS G W (mRaise c f me)) :=
  PSimp (ps_raise hc tk (pmk_oex T iC tI F1 hr hb .nil passL hg hm (m_cons he m_nil hs) hdb hs hpl)) fun D σ H q => by
    obtain ⟨L, st, env, fl, env', st', at_, hm, hp⟩ := q
    rcases bndS_cases hm with ⟨d, st1, h1, h2⟩ | ⟨x, h1, rfl, rfl⟩
    · refine ⟨L, st, env, _, st1, at_, mCons1 h1, fun vs L1 H1 e1 r1 dv => ?_⟩
      obtain ⟨v, rfl, dw⟩ := Vas.one_inv dv
      split at h2
      · rename_i hpure
        cases h2
        refine mkO_k (f := f) (K := X.K) (C := G.cA c) (y := v) (Q := fun cls d H' => W cls d σ H') fun d' H' hd' hs' hx' => ?_
        obtain ⟨e2, r2⟩ := same_ev r1 hs'
        have hn : ¬ (some d' ∈ L1.c ∨ d' ∈ L1.h) := r1.fresh hd'
        exact hp _ _ _ L1 H' (e1.trans e2) r2 (at_.e.ev (e1.trans e2)) ⟨rfl, d', _, rfl, off_of hx' hn, .cons (e2.da (dw.da hpure)) .nil⟩
      · cases h2
    · refine ⟨L, st, _, _, _, at_, mCons1e h1, fun cls dd L1 H1 e1 r1 xr => ?_⟩
      exact hp cls dd σ L1 H1 e1 r1 (at_.e.ev e1) xr
end

/-! ### caught -/
def Gx (G : Gm) (i : Nat) (a : Addr) (cls : Value) (d : Option Addr) (x : Xn) : Gm :=
  ⟨G.toGb, fun σ H => G.P σ H ∧ σ[i]? = some (some (.ref a)) ∧ XnR G.toGb H x cls d, fun σ H H' s ⟨h1, h2, h3⟩ => ⟨G.up _ _ _ s h1, h2, by
    obtain ⟨z1, e, vs, z2, z3, z4⟩ := h3
    exact ⟨z1, e, vs, z2, s.xd _ _ z3, DasF.mono s _ _ z4⟩⟩⟩
def W0 : WX := fun _ _ _ _ => False
/-- try: mb, except the classes that hit names, as slot i: mx -/
def mTry (mb : MS) (ids : List Nat) (hit : Nat → Bool) (i : Nat) (mx : Xn → MS) : MS := fun env st => match mb env st with
  | some (.err x, env1, st1) => if x.c ∈ ids ∧ i < env1.length then (if hit x.c = true then (match mx x (env1.set i none) st1 with
    | some (.err _, _, _) => none
    | some (.ret d, env2, st2) => some (.ret d, env2, st2)
    | some (fl, env2, st2) => some (fl, env2.set i none, st2)
    | none => none) else some (.err x, env1, st1)) else none
  | r => r
def tsX (G : Gm) (mx : Xn → MS) (i : Nat) (a : Addr) (cls : Value) (d : Option Addr) : TS := fun D σ H => ∃ x, tMS (Gx G i a cls d x) W0 (mx x) D σ H
section
variable {G : Gm} {W : WX} {X : Cx} {x n : Str} {c : Value} {i : Nat} {body suite : List Stmt} {b₀ : Stmt} {np pos pos' : Pos} {mb : MS} {mx : Xn → MS} {ids : List Nat} {hit : Nat → Bool}
theorem EnvR.other {G : Gb} {L : Lv} {H : Hp} {σ : L2.St} {env : En} (h : EnvR G L H σ env) (i : Nat) (o : Option V) : EnvR G L H (σ.set i o) (env.set i none) :=
  ⟨by rw [List.length_set, List.length_set]; exact h.len, fun j x q => by
    by_cases e : i = j
    · subst e
      have hi : i < env.length := by
        have := (List.getElem?_eq_some_iff.mp q).1
        rw [List.length_set] at this
        exact this
      rw [List.getElem?_set_self hi] at q
      cases q
    · rw [List.getElem?_set_ne e] at q
      rw [List.getElem?_set_ne e]
      exact h.at_ j x q⟩
theorem t_try {K : PySem.W.Frag} (hK : ∀ k ∈ ids, PySem.W.exmOne K (.ref (G.cA k)) c = some (hit k)) (hF : Flat G) {D : Ends} {σ : L2.St} {H : Hp} (q : tMS G W (mTry mb ids hit i mx) D σ H) : tMS G (wAs K c i (tsX G mx i) W D) mb D σ H := by
  obtain ⟨L, st, env, fl, env', st', at_, hm, hp⟩ := q
  unfold mTry at hm
  cases hb : mb env st with
  | none => rw [hb] at hm; cases hm
  | some p =>
    obtain ⟨fl1, env1, st1⟩ := p
    rw [hb] at hm
    refine ⟨L, st, env, fl1, env1, st1, at_, hb, ?_⟩
    cases fl1 with
    | next => cases hm; exact hp
    | brk => cases hm; exact hp
    | cont => cases hm; exact hp
    | ret d => cases hm; exact hp
    | err x =>
      dsimp only at hm
      split at hm
      · rename_i hx
        intro cls dd σ' L' H' e1 r1 en1 xr
        obtain rfl := xr.1
        refine ⟨hit x.c, hK _ hx.1, fun ht a ha => ?_, fun ht => ?_⟩
        · rw [if_pos ht] at hm
          have lenσ : i < σ'.length := by rw [en1.len]; exact hx.2
          have a1 : At (Gx G i a (.ref (G.cA x.c)) dd x) L' st1 (σ'.set i (some (.ref a))) (env1.set i none) H' :=
            ⟨en1.other i _, r1, hF _ _ _ (G.up _ _ _ e1.same at_.p), List.getElem?_set_self lenσ, xr⟩
          cases hs : mx x (env1.set i none) st1 with
          | none => rw [hs] at hm; cases hm
          | some p =>
            obtain ⟨fl2, env2, st2⟩ := p
            rw [hs] at hm
            refine ⟨x, L', st1, _, fl2, env2, st2, a1, hs, ?_⟩
            cases fl2 with
            | err _ => cases hm
            | ret d =>
              cases hm
              exact fun v L2 H2 e2 r2 dv => hp v L2 H2 (e1.trans e2) r2 dv
            | next =>
              cases hm
              exact fun σ2 L2 H2 e2 r2 en2 => hp _ L2 H2 (e1.trans e2) r2 (en2.other i none)
            | brk =>
              cases hm
              exact fun σ2 L2 H2 e2 r2 en2 => hp _ L2 H2 (e1.trans e2) r2 (en2.other i none)
            | cont =>
              cases hm
              exact fun σ2 L2 H2 e2 r2 en2 => hp _ L2 H2 (e1.trans e2) r2 (en2.other i none)
        · rw [if_neg (by rw [ht]; exact Bool.false_ne_true)] at hm
          cases hm
          exact hp _ dd σ' L' H' e1 r1 en1 xr
      · cases hm
theorem ms_try (hK : ∀ k ∈ ids, PySem.W.exmOne X.K (.ref (G.cA k)) c = some (hit k)) (hs : X.stack = X.env :: X.outer) (hf : X.env.frame = some X.env.locals) (hN : X.N.Nodup) (hi : X.N[i]? = some n) (hln : X.env.kindOf n = some .local) (hc : Names X x c) (tk : Takes X W)
    (hb : ∀ (W : WX) (pn : List (Addr × Obj)) (xe : Value → Shared → Prop), Takes (X.tr pn xe) W → PassesOwn (model X.prog X.w) X.A X.env xe → PSs (X.tr pn xe) body (tMS G W mb))
    (hsu : ∀ (a : Addr) (oe : Obj) (cls : Value) (d : Option Addr) (pn : List (Addr × Obj)) (z : Xn), Zc cls d oe → (∃ vs, oe.data = .fields vs) → PSs (X.suite a ((a, oe) :: pn)) (b₀ :: suite) (tMS (Gx G i a cls d z) W0 (mx z)))
    (hF : Flat G := by exact fun _ _ _ h => h) :
    PS X (.Try body [.ExceptHandler (some (.Name x np)) (some n) (b₀ :: suite) pos'] [] [] pos) (tMS G W (mTry mb ids hit i mx)) :=
  PSimp (ps_try_as (tb := fun W => tMS G W mb) (ts := tsX G mx i) hs hf hN hi hln hc tk hb fun a oe cls d pn hz hf' => ⟨fun pins s σ H D I ⟨z, h⟩ => (hsu a oe cls d pn z hz hf').run pins s σ H D I h⟩) fun D σ H q => t_try hK hF q
/-! in the suite: e.f, isinstance(e, C) -/
def mXf (z : Xn) (k : Nat) (f : Str) : ME := fun _ st => if z.c = k then (match z.fs.lookup f with
  | some d => some (.ok d, st)
  | none => none) else none
theorem m_xf {a : Addr} {oe : Obj} {cls : Value} {d : Option Addr} {pn : List (Addr × Obj)} {z : Xn} {k : Nat} {f : Str} {W : WX} (T : XfC X.K (G.cA k)) (hno : PySem.W.findIn X.K (.ref (G.cA k)) f = some none) (hz : Zc cls d oe) (hf : ∃ vs, oe.data = .fields vs) {e : Expr}
    (he : PE (X.suite a ((a, oe) :: pn)) e (tVar i)) (hb : attributeBase e f X.env (eval e X.env) = eval e X.env := by rfl) :
    PE (X.suite a ((a, oe) :: pn)) (.Attribute e f pos) (tM (Gx G i a cls d z) W (mXf z k f)) := PEimp (pe_xf T hno hz hf he hb) fun σ H Q q => by
  obtain ⟨L, st, env, r, st', at_, hm, hp⟩ := q
  obtain ⟨p1, p2, p3⟩ := at_.p
  unfold mXf at hm
  split at hm
  · rename_i hk
    split at hm
    · rename_i dv hl
      cases hm
      obtain ⟨z1, dd, vs, rfl, z3, z4⟩ := p3
      obtain ⟨v, q1, q2⟩ := DasF.look z4 hl
      exact ⟨_, p2, rfl, by rw [z1, hk], dd, vs, v, rfl, (off_some z3).1, q1, hp v L H (Ev.refl _ _) at_.r (.d q2)⟩
    · cases hm
  · cases hm
def mXis (z : Xn) (k : Nat) (b : Bool) : ME := fun _ st => if z.c = k then some (.ok (.bl b), st) else none
theorem m_xis {a : Addr} {oe : Obj} {cls : Value} {d : Option Addr} {pn : List (Addr × Obj)} {z : Xn} {k k2 : Nat} {b : Bool} {W : WX} (T : ExcC X.K (G.cA k)) (hk : PySem.W.kitOne X.K (.ref (G.cA k)) (.ref (G.cA k2)) = some b) (hz : Zc cls d oe) (hf : ∃ vs, oe.data = .fields vs) {e y : Expr} {p : Pos}
    (hg : Gl (X.suite a ((a, oe) :: pn)) "isinstance") (hm : X.mg "isinstance" = none)
    (he : PE (X.suite a ((a, oe) :: pn)) e (tVar i)) (hy : PE (X.suite a ((a, oe) :: pn)) y (tC (.ref (G.cA k2))))
    (h1 : starEach (e :: [y]) X.env = (false, eval e X.env) :: starEach [y] X.env := by rfl) (h2 : starEach (y :: []) X.env = (false, eval y X.env) :: starEach [] X.env := by rfl) (hpl : (backTo pos (starEach [y] X.env)).any (·.1) = false := by rfl) :
    PE (X.suite a ((a, oe) :: pn)) (.Call (.Name "isinstance" p) [e, y] [] pos) (tM (Gx G i a cls d z) W (mXis z k b)) :=
  PEimp (pe_callB (call_isX hz hf) hg hm boot_isinstance (pa_cons he (pa_cons hy pa_nil h2) h1) (he := h1) (hpl := hpl)) fun σ H Q q => by
    obtain ⟨L, st, env, r, st', at_, hmm, hp⟩ := q
    obtain ⟨p1, p2, p3⟩ := at_.p
    unfold mXis at hmm
    split at hmm
    · rename_i hkk
      cases hmm
      obtain ⟨z1, dd, vs, rfl, z3, z4⟩ := p3
      rw [hkk] at z1
      exact ⟨_, p2, G.cA k, .ref (G.cA k2), .ref (G.cA k2), b, dd, vs, rfl, z1, T, rfl, (off_some z3).1, fun u hu => hu, hk, hp _ L H (Ev.refl _ _) at_.r (.d (.bl b))⟩
    · cases hmm
end
end M


/-! The M layer: displays of dicts. -/
namespace M
open PySem PySem.Spec PyProof.Rows L2
def mPairs2 : List (ME × ME) → En → Store → Option (List (Key × D) × Store)
  | [], _, st => some ([], st)
  | (mk, mv) :: r, env, st => match mk env st with
    | some (.ok y, st1) => match mv env st1 with
      | some (.ok z, st2) => match keyD y with
        | some k => if isD z = true then (match mPairs2 r env st2 with
          | some (kvs, st3) => some ((k, z) :: kvs, st3)
          | none => none) else none
        | none => none
      | _ => none
    | _ => none
def mDisp2 (ps : List (ME × ME)) : ME := fun env st => match mPairs2 ps env st with
  | some (kvs, st) => if kvs.length ≤ 15 then some (.ok (.dK (mergeD [] kvs)), st) else none
  | none => none
section
variable {G : Gm} {W : WX} {X : Cx} {pos : Pos}
theorem At.hide {L : Lv} {st : Store} {σ : L2.St} {env : En} {H : Hp} {p : Addr} {o : HO} (a : At G L st σ env H) (hpn : H p = none) (ho : ∀ xs, o ≠ .tup xs := by intro xs z; cases z) : At G (L.hide p) st σ env (upd H p o) :=
  ⟨⟨a.e.len, fun j d q => by
    obtain ⟨v, q1, q2⟩ := a.e.at_ j d q
    exact ⟨v, q1, Va.mono (L := L) (⟨Nat.le_refl _, fun _ _ _ h => h⟩ : Le L (L.hide p)) (Rl.of_same (hide_same (L := L) hpn)) q2⟩⟩, a.r.hide hpn ho, G.up _ _ _ (Rl.of_same (hide_same (L := L) hpn)) a.p⟩
theorem t_pairs {σ : L2.St} {env : En} : ∀ (ps : List (ME × ME)) (L : Lv) (st st' : Store) (H : Hp) (kvs : List (Key × D)) (Q : List (V × V) → Hp → Prop), At G L st σ env H → mPairs2 ps env st = some (kvs, st') →
    (∀ us L' H', Ev L H L' H' → Rep G L' st' H' → DasK G (off L' H') us kvs → Q (us.map fun kv => (kV kv.1, kv.2)) H') → tPairs (ps.map fun p => (tM G W p.1, tM G W p.2)) σ H Q
  | [], L, st, st', H, kvs, Q, a, h, k => by
    cases h
    exact k [] L H (Ev.refl _ _) a.r .nil
  | (mk, mv) :: r, L, st, st', H, kvs, Q, a, h, k => by
    unfold mPairs2 at h
    cases hk : mk env st with
    | none => rw [hk] at h; cases h
    | some q =>
      obtain ⟨rk, st1⟩ := q
      rw [hk] at h
      cases rk with
      | err _ => cases h
      | ok y =>
        dsimp only at h
        refine ⟨L, st, env, _, st1, a, hk, fun vy L1 H1 e1 r1 dy => ?_⟩
        cases hv : mv env st1 with
        | none => rw [hv] at h; cases h
        | some q =>
          obtain ⟨rv, st2⟩ := q
          rw [hv] at h
          cases rv with
          | err _ => cases h
          | ok z =>
            dsimp only at h
            refine ⟨L1, st1, env, _, st2, a.ev e1 r1, hv, fun vz L2 H2 e2 r2 dz => ?_⟩
            cases hkk : keyD y with
            | none => rw [hkk] at h; cases h
            | some kk =>
              rw [hkk] at h
              dsimp only at h
              split at h
              · rename_i hp
                cases hr : mPairs2 r env st2 with
                | none => rw [hr] at h; cases h
                | some q =>
                  obtain ⟨more, st3⟩ := q
                  rw [hr] at h
                  cases h
                  refine t_pairs r L2 st2 st' H2 more _ ((a.ev e1 r1).ev e2 r2) hr fun us L3 H3 e3 r3 d3 => ?_
                  have hkv := keyD_kV dy hkk
                  subst hkv
                  exact k ((kk, vz) :: us) L3 H3 ((e1.trans e2).trans e3) r3 (.cons (e3.da (dz.da hp)) d3)
              · cases h
theorem m_disp {keys : List (Option Expr)} {values : List Expr} {ps : List (ME × ME)} (h : PPs X pos keys values (ps.map fun p => (tM G W p.1, tM G W p.2))) (hall : keys.all (·.isSome) = true) (hl : keys.length = values.length) (h0 : keys ≠ [])
    (h15 : keys.length ≤ 15) : PE X (.Dict keys values pos) (tM G W (mDisp2 ps)) := PEimp (pe_disp h hall hl h0 h15) fun σ H Q q => by
  obtain ⟨L, st, env, r, st', at_, hm, hp⟩ := q
  unfold mDisp2 at hm
  cases hr : mPairs2 ps env st with
  | none => rw [hr] at hm; cases hm
  | some q =>
    obtain ⟨kvs, st2⟩ := q
    rw [hr] at hm
    dsimp only at hm
    split at hm
    · rename_i hlen
      cases hm
      refine fun p hpn => t_pairs ps _ st _ _ kvs _ (at_.hide hpn) hr fun us L2 H2 e2 r2 d2 => ?_
      have h1 : p ∈ (L.hide p).h := List.mem_cons_self
      have hp2 : p ∈ L2.h := by rw [e2.hh]; exact h1
      have hat : H2 p = some (.dK []) := by rw [e2.keep p h1, upd_same]
      refine ⟨hat, us, rfl, by rw [d2.len]; exact hlen, ?_⟩
      have e3 := Ev.hupd (o' := .dK (mergeK [] us)) e2
      have r3 := r2.hupd (o := .dK (mergeK [] us)) hp2
      refine hp _ _ _ (e3.back at_.r hpn) (Rep.back e3 r3) (.d (.dK (.inl (back_at e3 r3 at_.r hpn)) ?_))
      refine DasK.mono (Rl.of_same (back_same e3)) _ _ ?_
      rw [off_hid hp2]
      exact DasK.merge d2 .nil
    · cases hm
theorem mp_nil : PPs X pos [] [] (([] : List (ME × ME)).map fun p => (tM G W p.1, tM G W p.2)) := pps_nil
theorem mp_cons {k v : Expr} {ks : List (Option Expr)} {vs : List Expr} {mk mv : ME} {ps : List (ME × ME)} (hk : PE X k (tM G W mk)) (hv : PE X v (tM G W mv)) (hr : PPs X pos ks vs (ps.map fun p => (tM G W p.1, tM G W p.2))) :
    PPs X pos (some k :: ks) (v :: vs) (((mk, mv) :: ps).map fun p => (tM G W p.1, tM G W p.2)) := pps_cons hk hv hr
end

/-! ### odds and ends -/
def gNeg (_ : Store) (x : D) : Option D := match x with
  | .int i => some (.int (-i))
  | _ => none
theorem r1_neg {G : Gb} : R1M G (rU fun i => .int (-i)) gNeg := fun L st H x d z Q R dx hz k => by
  unfold gNeg at hz
  split at hz
  · cases hz
    exact ⟨_, dx.int_inv, r_same (.int _) R k⟩
  · cases hz
theorem hu64 {k : Nat} {A : Around} (r : Room k A) : A.units + 64 < cLine := r.units
theorem all_cons {α : Type} {P : α → Prop} {a : α} {as : List α} (h : P a) (r : ∀ x ∈ as, P x) : ∀ x ∈ a :: as, P x := fun x hx => (List.mem_cons.mp hx).elim (fun e => e ▸ h) (r x)
theorem own_noCX {P : Program} {w : World} {st : List Env} {H : Hp} {s : Shared} {e : Value} {s' : Shared} (h : L2.CX P w st H s (fun _ _ _ => False) e s') : False := by
  obtain ⟨_, _, _, _, _, _, _, _, _, _, _, _, z⟩ := h
  exact z
/-- the promise of a law -/
def spLaw (K : PySem.W.Frag) : Sp := fun vs H Q _ => ∃ (a : Addr) (ns : List Int), vs = [.ref a] ∧ SqL K H a (ns.map V.int) ∧ ns.length ≤ 63 ∧ ∀ H', Q (.bl true) H'
theorem law_okM {P : Program} {w : World} {K : PySem.W.Frag} {mg : Str → Option Value} {base : Heap} {B : Gb} {k : Nat} {f : Addr} {fd : FuncData} {ps : List Str} {c : Call} (hB : B.K = K) (hc : ∀ ns : List Int, ns.length ≤ 63 → ∃ st, c [.ro (ns.map D.int)] [] = some (.ok (.bl true), st))
    (F : FnOk P w K mg base (L2.CX P w) k f fd ps (spM B c 1)) : FnOk P w K mg base (L2.CX P w) k f fd ps (spLaw K) := F.imp fun vs H Q E h => by
  obtain ⟨a, ns, rfl, hS, hl, q⟩ := h
  obtain ⟨st, hst⟩ := hc ns hl
  have eo : off ⟨[], []⟩ H = H := by
    funext b
    unfold off
    rw [if_neg]
    rintro (z | z) <;> cases z
  refine ⟨rfl, ⟨[], []⟩, [], [.ro (ns.map D.int)], _, st, ⟨rfl, fun i j a h => ?_, fun i x c h => ?_, fun a h => by cases h⟩, .cons (.d ?_) .nil, hst, fun v L' H' e r va => ?_⟩
  · simp at h
  · simp at h
  · rw [eo]
    exact .ro (hB ▸ hS) (Das.ints ns)
  · cases va.bl_inv
    exact q H'
theorem walkM {l : PySem.W.OpenLaw} {q : Program} {loose : List Str} {XP : (Str → Option Value) → Heap → Prop} {YP : World → Heap → Prop} {d : DefRec} {K : Params → PySem.W.Frag} (k : Nat) (x : Str) (hn : l.most = some 63) (hdf : d.params.defaults = []) (hr : Room k callerA)
    (hY : ∀ (w : World) (h : Heap), YP w h → (K w.params).In h)
    (F : ∀ (w : World) (mg : Str → Option Value) (fa : Addr) (h : Heap), (K w.params).In h → h.Ns mainGlobals mg → mg d.name = some (.ref fa) →
      ∃ fd : FuncData, (∀ (s : Shared) (u : Value), BindsTo s fd ⟨[u], []⟩ [(x, u)]) ∧ ∀ base : Heap, (K w.params).In base → base.Ns mainGlobals mg → FnOk l.prog w (K w.params) mg base (L2.CX l.prog w) k fa fd [x] (spLaw (K w.params))) :
    PySem.W.WalkO q loose XP YP l.row.toRowW d [] (fun f vs => PySem.call f vs) :=
  L2.walk_of (n := 63) (CX := fun w => L2.CX l.prog w) (sp := fun w => spLaw (K w.params)) hn (by decide) hdf hr hY F (fun _ _ a ns hl _ hS => ⟨a, ns, rfl, hS, hl, fun _ => rfl⟩) fun _ _ _ _ _ z => own_noCX z
theorem own_kit {K : PySem.W.Frag} {C C2 : Addr} {b : Bool} (ic : PySem.W.isClsIn K C2 = true) (ty : PySem.W.typeIn K (.ref C2) = some (.type "type")) (h : PySem.W.subIn K (.ref C) (.ref C2) = some b) (ne : b = true ∨ C ≠ C2) : PySem.W.kitOne K (.ref C) (.ref C2) = some b := by
  have e1 : ((PySem.W.clsIn K C2).isSome && PySem.W.typeIn K (.ref C2) == some (.type "type")) = true := by
    have ic' : (PySem.W.clsIn K C2).isSome = true := ic
    rw [ic', ty] <;> rfl
  have e2 : PySem.W.kitCls K (.ref C) (.ref C2) = some b := by
    show (if ((PySem.W.clsIn K C2).isSome && PySem.W.typeIn K (.ref C2) == some (.type "type")) = true then PySem.W.subIn K (.ref C) (.ref C2) else none) = some b
    rw [if_pos e1]
    exact h
  unfold PySem.W.kitOne
  split
  · rename_i e
    rcases ne with rfl | ne
    · rfl
    · exact absurd (Value.ref.inj (beq_iff_eq.mp e)) ne
  · exact e2
end M


/-! The M layer: mirrors reckoned with. -/
namespace M
open PySem PySem.Spec PyProof.Rows L2

/-! ### rows of a reckoning -/
section
variable {env env1 env2 : En} {st st1 st2 : Store} {ma mb mc : ME} {mas mbs : MA} {mt mu : MT} {m k : MS} {d e z : D} {ds : List D} {b : Bool}
theorem v_var {i : Nat} (h : env[i]? = some (some d)) : mVar i env st = some (.ok d, st) := by unfold mVar; rw [h]
theorem v_op {g : Store → D → D → Option D} (h1 : ma env st = some (.ok d, st1)) (h2 : mb env st1 = some (.ok e, st2)) (h : g st2 d e = some z) : mOp g ma mb env st = some (.ok z, st2) := by
  unfold mOp; rw [h1, bnd_ok, h2, bnd_ok, h]
theorem v_un {g : Store → D → Option D} (h1 : ma env st = some (.ok d, st1)) (h : g st1 d = some z) : mUn g ma env st = some (.ok z, st1) := by
  unfold mUn; rw [h1, bnd_ok, h]
theorem v_cons (h1 : ma env st = some (.ok d, st1)) (h2 : mas env st1 = some (.ok ds, st2)) : mCons ma mas env st = some (.ok (d :: ds), st2) := by
  unfold mCons; rw [h1, bnd_ok, h2, bnd_ok]
theorem v_cb {g : Store → List D → Option D} (h1 : mas env st = some (.ok ds, st1)) (h : g st1 ds = some z) : mCB g mas env st = some (.ok z, st1) := by
  unfold mCB; rw [h1, bnd_ok, h]
theorem v_call {n : Nat} {c : Call} (h1 : mas env st = some (.ok ds, st1)) (hn : ds.length = n) {r : Option (Rs D × Store)} (h : c ds st1 = r) : mCall n c mas env st = r := by
  unfold mCall; rw [h1, bnd_ok, if_pos hn, h]
theorem v_val (h : ma env st = some (.ok (.bl b), st1)) : mVal ma env st = some (.ok b, st1) := by
  unfold mVal; rw [h, bnd_ok]
theorem v_not (h : mt env st = some (.ok b, st1)) : mNot mt env st = some (.ok (!b), st1) := by
  unfold mNot; rw [h, bnd_ok]
theorem v_orT (h : mt env st = some (.ok true, st1)) : mOr mt mu env st = some (.ok true, st1) := by
  unfold mOr; rw [h, bnd_ok, if_pos rfl]
theorem v_orF (h : mt env st = some (.ok false, st1)) : mOr mt mu env st = mu env st1 := by
  unfold mOr; rw [h, bnd_ok, if_neg Bool.false_ne_true]
theorem v_andF (h : mt env st = some (.ok false, st1)) : mAnd mt mu env st = some (.ok false, st1) := by
  unfold mAnd; rw [h, bnd_ok, if_neg Bool.false_ne_true]
theorem v_andT (h : mt env st = some (.ok true, st1)) : mAnd mt mu env st = mu env st1 := by
  unfold mAnd; rw [h, bnd_ok, if_pos rfl]
theorem v_andVF (h : ma env st = some (.ok (.bl false), st1)) : mAndV ma mb env st = some (.ok (.bl false), st1) := by
  unfold mAndV; rw [h, bnd_ok]
theorem v_andVT (h : ma env st = some (.ok (.bl true), st1)) : mAndV ma mb env st = mb env st1 := by
  unfold mAndV; rw [h, bnd_ok]
theorem v_seq (h : m env st = some (.next, env1, st1)) : mSeq m k env st = k env1 st1 := by
  unfold mSeq; rw [h]
theorem v_ret (h : ma env st = some (.ok d, st1)) : mRet ma env st = some (.ret d, env, st1) := by
  unfold mRet; rw [h, bndS_ok]
theorem v_asg {i : Nat} (h : ma env st = some (.ok d, st1)) : mAsg ma (.nm i) env st = some (.next, env.set i (some d), st1) := by
  unfold mAsg; rw [h, bndS_ok]; rfl
theorem v_par {i j : Nat} (h : mas env st = some (.ok [d, e], st1)) : mPar i j mas env st = some (.next, (env.set i (some d)).set j (some e), st1) := by
  unfold mPar; rw [h, bndS_ok]
theorem v_ifT (h : mt env st = some (.ok true, st1)) : mIfS mt m k env st = m env st1 := by
  unfold mIfS; rw [h, bndS_ok, if_pos rfl]
theorem v_ifF (h : mt env st = some (.ok false, st1)) : mIfS mt m k env st = k env st1 := by
  unfold mIfS; rw [h, bndS_ok, if_neg Bool.false_ne_true]
theorem v_lst (h : mas env st = some (.ok ds, st1)) (hk : ds.length ≤ big ∧ ds.all isD = true) : mLst mas env st = some (.ok (.lst ds), st1) := by
  unfold mLst; rw [h, bnd_ok, if_pos hk]
theorem v_drop (h : ma env st = some (.ok d, st1)) : mDrop ma env st = some (.next, env, st1) := by
  unfold mDrop; rw [h, bndS_ok]
theorem v_dropE {x : Xn} (h : ma env st = some (.err x, st1)) : mDrop ma env st = some (.err x, env, st1) := by
  unfold mDrop; rw [h, bndS_err]
end

/-! ### loops -/
theorem forD_inv {n : Nat} {t : Tg} {body : MS} (I : Nat → En → Store → Prop) : ∀ (ds : List D) (i : Nat) (env : En) (st : Store), I i env st →
    (∀ (j : Nat) (d : D) (env : En) (st : Store), ds[j]? = some d → I (i + j) env st → ∃ env1 env2 st2, setT t d env = some env1 ∧ body env1 st = some (.next, env2, st2) ∧ (st2.take n).all (cellOk n) = true ∧ I (i + j + 1) (trimE n env2) (st2.take n)) →
    ∃ env' st', forD n t body ds env st = some (.next, env', st') ∧ I (i + ds.length) env' st'
  | [], i, env, st, h, _ => ⟨env, st, rfl, h⟩
  | d :: ds, i, env, st, h, k => by
    obtain ⟨env1, env2, st2, h1, h2, h3, h4⟩ := k 0 d env st rfl h
    obtain ⟨env', st', h5, h6⟩ := forD_inv I ds (i + 1) (trimE n env2) (st2.take n) h4 fun j d' env st e I' => by
      have e' : i + 1 + j = i + (j + 1) := by omega
      rw [e'] at I' ⊢
      exact k (j + 1) d' env st e I'
    refine ⟨env', st', ?_, ?_⟩
    · unfold forD
      rw [h1]
      dsimp only
      rw [h2]
      dsimp only
      rw [if_pos h3, h5]
    · have e' : i + (d :: ds).length = i + 1 + ds.length := by simp; omega
      rw [e']
      exact h6
/-- a loop whose turns change nothing but the name -/
theorem v_for {mi : MA} {t : Tg} {body : MS} {env env' : En} {st st1 st' : Store} {ds : List D} {fl : Fl} (h : mi env st = some (.ok ds, st1)) (k : forD st1.length t body ds env st1 = some (fl, env', st')) : mFor mi t body env st = some (fl, env', st') := by
  unfold mFor; rw [h, bndS_ok, k]

/-! ### comprehensions -/
theorem compD_map {i : Nat} {env : En} {st : Store} {me : ME} (f : D → D) : ∀ ds : List D, (∀ d ∈ ds, me (env.set i (some d)) st = some (.ok (f d), st) ∧ isD (f d) = true) → compD (.nm i) tYesM me env ds st = some (ds.map f, st)
  | [], _ => rfl
  | d :: ds, h => by
    obtain ⟨h1, h2⟩ := h d List.mem_cons_self
    unfold compD
    show (match me (env.set i (some d)) st with
      | some (.ok y, st2) => if isD y = true then (match compD (.nm i) tYesM me env ds st2 with
        | some (ys, st3) => some (y :: ys, st3)
        | none => none) else none
      | _ => none) = _
    rw [h1]
    dsimp only
    rw [if_pos h2, compD_map f ds fun d hd => h d (List.mem_cons_of_mem _ hd)]
    rfl
theorem v_lc {mi : MA} {i : Nat} {me : ME} {env : En} {st st1 : Store} {ds : List D} {vs : List Nat} (f : D → D) (h : mi env st = some (.ok ds, st1)) (hl : ds.length ≤ big)
    (k : ∀ d ∈ ds, me ((wipeE env vs).set i (some d)) st1 = some (.ok (f d), st1) ∧ isD (f d) = true) : mLc mi (.nm i) tYesM me vs env st = some (.ok (.lst (ds.map f)), st1) := by
  unfold mLc
  rw [h, bnd_ok, compD_map f ds k]
  dsimp only
  rw [if_pos (by simpa using hl)]
theorem bls_map (f : D → Bool) : ∀ ds : List D, bls (ds.map fun d => .bl (f d)) = some (ds.map f)
  | [] => rfl
  | d :: ds => by
    show (bls (ds.map fun d => .bl (f d))).map (f d :: ·) = _
    rw [bls_map f ds]
    rfl
theorem gAll_map (f : D → Bool) (st : Store) (ds : List D) : gAll st [.lst (ds.map fun d => .bl (f d))] = some (.bl (ds.all f)) := by
  show (bls (ds.map fun d => .bl (f d))).map (fun bs => D.bl (bs.all id)) = _
  rw [bls_map]
  simp [List.all_map]
theorem putKd_length {κ : Type} [DecidableEq κ] (kvs : List (κ × D)) (k : κ) (d : D) : (putKd kvs k d).length ≤ kvs.length + 1 := by
  unfold putKd
  split
  · simp
  · simp
def foldK (kf : D → Key) (vf : D → D) (ds : List D) (kvs : List (Key × D)) : List (Key × D) := ds.foldl (fun acc d => putKd acc (kf d) (vf d)) kvs
theorem compK_fold {t : Tg} {env : En} {st : Store} {mk mv : ME} (kf : D → Key) (kd vf : D → D) : ∀ (ds : List D) (kvs : List (Key × D)), kvs.length + ds.length ≤ big →
    (∀ d ∈ ds, ∃ env1, setT t d env = some env1 ∧ mk env1 st = some (.ok (kd d), st) ∧ mv env1 st = some (.ok (vf d), st) ∧ keyD (kd d) = some (kf d) ∧ isD (vf d) = true) →
    compK t tYesM mk mv env ds kvs st = some (foldK kf vf ds kvs, st)
  | [], kvs, _, _ => rfl
  | d :: ds, kvs, hl, h => by
    obtain ⟨env1, h1, h2, h3, h4, h5⟩ := h d List.mem_cons_self
    have hl2 : kvs.length < big := by simp at hl; omega
    unfold compK
    rw [h1]
    show (match mk env1 st with
      | some (.ok y, st2) => match mv env1 st2 with
        | some (.ok z, st3) => match keyD y with
          | some k => if isD z = true ∧ kvs.length < big then compK t tYesM mk mv env ds (putKd kvs k z) st3 else none
          | none => none
        | _ => none
      | _ => none) = _
    rw [h2]
    dsimp only
    rw [h3]
    dsimp only
    rw [h4]
    dsimp only
    rw [if_pos ⟨h5, hl2⟩]
    have hp := putKd_length kvs (kf d) (vf d)
    rw [compK_fold kf kd vf ds (putKd kvs (kf d) (vf d)) (by simp at hl; omega) fun d hd => h d (List.mem_cons_of_mem _ hd)]
    rfl

theorem v_between {mb : ME} {env : En} {st st1 : Store} {a n c : Int} (h : mb env st = some (.ok (.int n), st1)) : mChain gLe gLe (mC (.int a)) mb (mC (.int c)) env st = some (.ok (.bl (decide (a ≤ n) && decide (n ≤ c))), st1) := by
  unfold mChain
  show bnd (mb env st) _ = _
  rw [h, bnd_ok]
  by_cases q : a ≤ n
  · have e : gLe st1 (.int a) (.int n) = some (.bl true) := by
      show some (D.bl (decide (a ≤ n))) = _
      rw [decide_eq_true q]
    rw [e, decide_eq_true q]
    rfl
  · have e : gLe st1 (.int a) (.int n) = some (.bl false) := by
      show some (D.bl (decide (a ≤ n))) = _
      rw [decide_eq_false q]
    rw [e, decide_eq_false q]
    rfl
/-- a store of lists alone -/
def Plain (st : Store) : Prop := ∀ c ∈ st, ∃ xs, c = .lst xs
theorem Plain.ok {st : Store} (h : Plain st) (n : Nat) : st.all (cellOk n) = true := List.all_eq_true.mpr fun c hc => by
  obtain ⟨xs, rfl⟩ := h c hc
  rfl
theorem fin_data {st : Store} {d : D} (h : st.all (cellOk st.length) = true) (hd : isD d = true) : finD st.length d st = some (d, st) := by
  unfold finD
  rw [List.take_length, if_pos h]
  cases d <;> first | rfl | cases hd
/-- a def that leaves the store as it was -/
theorem mkD_ret {m : MS} {k : Nat} {ds : List D} {st : Store} {d : D} {env' : En} (h : m (startE k ds) st = some (.ret d, env', st)) (hs : st.all (cellOk st.length) = true) (hd : isD d = true) : mkD m k ds st = some (.ok d, st) := by
  unfold mkD
  rw [h]
  dsimp only
  rw [fin_data hs hd]
theorem mkD_err {m : MS} {k : Nat} {ds : List D} {st : Store} {x : Xn} {env' : En} (h : m (startE k ds) st = some (.err x, env', st)) (hs : st.all (cellOk st.length) = true) : mkD m k ds st = some (.err x, st) := by
  unfold mkD
  rw [h]
  dsimp only
  rw [List.take_length, if_pos hs]
theorem Plain.more {st : Store} (h : Plain st) (n c : Nat) : (st ++ [Cell.ins c []]).all (cellOk n) = true := by
  rw [List.all_append, h.ok n]; rfl
theorem get_last {st : Store} {c : Cell} : (st ++ [c])[st.length]? = some c := by simp
theorem set_last {st : Store} {c e : Cell} : (st ++ [c]).set st.length e = st ++ [e] := by simp
theorem take_more {st : Store} {c : Cell} : (st ++ [c]).take st.length = st := by simp
theorem v_new {env : En} {st st1 : Store} {mas : MA} {ds : List D} (h : mas env st = some (.ok ds, st1)) (hk : ds.length ≤ big ∧ ds.all isD = true) : mNew mas env st = some (.ok (.ref st1.length), st1 ++ [.lst ds]) := by
  unfold mNew; rw [h, bnd_ok, if_pos hk]
theorem len_big {α : Type} {l : List α} {n : Nat} (e : l.length = n) (h : n ≤ 1000 := by decide) : l.length ≤ big := by
  unfold big
  omega
theorem fin_ref {n i : Nat} {st : Store} {ds : List D} (h : (st.take n).all (cellOk n) = true) (hi : n ≤ i) (hc : st[i]? = some (.lst ds)) : finD n (.ref i) st = some (.lst ds, st.take n) := by
  unfold finD
  rw [if_pos h]
  dsimp only
  rw [if_neg (Nat.not_lt.mpr hi), hc]
/-- a def that hands back a list that it made -/
theorem mkD_new {m : MS} {k i : Nat} {ds xs : List D} {st st' st2 : Store} {env' : En} (h : m (startE k ds) st = some (.ret (.ref i), env', st')) (hs : st'.take st.length = st2) (hp : Plain st2) (hi : st.length ≤ i) (hc : st'[i]? = some (.lst xs)) : mkD m k ds st = some (.ok (.lst xs), st2) := by
  unfold mkD
  rw [h]
  dsimp only
  rw [fin_ref (by rw [hs]; exact hp.ok _) hi hc, hs]
end M


namespace Own
open PySem PySem.Spec PyProof.Rows L2 M
def top (i : Nat) : Stmt := PySem.Challenge.pw_ownmarks_k03_crowds_refused.main.body.getD i (.Pass ⟨0, 0, 0, 0⟩)
abbrev s_is_word : Stmt := (top 11)
abbrev names_is_word : List Str := ["value", "sign"]
abbrev ps_is_word : List Str := ["value"]
theorem sc_is_word : FnScope names_is_word ps_is_word (defScope s_is_word) := ⟨rfl, rfl, rfl, by decide +kernel, rfl, by decide +kernel, by decide +kernel⟩
abbrev s_are_people : Stmt := (top 12)
abbrev names_are_people : List Str := ["value", "one"]
abbrev ps_are_people : List Str := ["value"]
theorem sc_are_people : FnScope names_are_people ps_are_people (defScope s_are_people) := ⟨rfl, rfl, rfl, by decide +kernel, rfl, by decide +kernel, by decide +kernel⟩
abbrev s_BadCrowd_new : Stmt := (inClass (top 3) 0)
abbrev names_BadCrowd_new : List Str := ["self", "part"]
abbrev ps_BadCrowd_new : List Str := ["self", "part"]
theorem sc_BadCrowd_new : FnScope names_BadCrowd_new ps_BadCrowd_new (defScope s_BadCrowd_new) := ⟨rfl, rfl, rfl, by decide +kernel, rfl, by decide +kernel, by decide +kernel⟩
abbrev s_is_count : Stmt := (top 5)
abbrev names_is_count : List Str := ["value", "least", "most"]
abbrev ps_is_count : List Str := ["value", "least", "most"]
theorem sc_is_count : FnScope names_is_count ps_is_count (defScope s_is_count) := ⟨rfl, rfl, rfl, by decide +kernel, rfl, by decide +kernel, by decide +kernel⟩
abbrev s_Crowd_new : Stmt := (inClass (top 13) 0)
abbrev names_Crowd_new : List Str := ["self", "people", "most", "at", "person"]
abbrev ps_Crowd_new : List Str := ["self", "people", "most"]
theorem sc_Crowd_new : FnScope names_Crowd_new ps_Crowd_new (defScope s_Crowd_new) := ⟨rfl, rfl, rfl, by decide +kernel, rfl, by decide +kernel, by decide +kernel⟩
abbrev s_d_law_told : Stmt := (top 18)
abbrev names_d_law_told : List Str := ["_law_people_here", "_law_most", "e"]
abbrev ps_d_law_told : List Str := ["_law_people_here", "_law_most"]
theorem sc_d_law_told : FnScope names_d_law_told ps_d_law_told (defScope s_d_law_told) := ⟨rfl, rfl, rfl, by decide +kernel, rfl, by decide +kernel, by decide +kernel⟩
abbrev s_d_law_opened : Stmt := (top 15)
abbrev names_d_law_opened : List Str := ["_law_script", "_law_k", "_law_cell", "_law_great"]
abbrev ps_d_law_opened : List Str := ["_law_script", "_law_k"]
theorem sc_d_law_opened : FnScope names_d_law_opened ps_d_law_opened (defScope s_d_law_opened) := ⟨rfl, rfl, rfl, by decide +kernel, rfl, by decide +kernel, by decide +kernel⟩
abbrev s_d_law_draw : Stmt := (top 16)
abbrev names_d_law_draw : List Str := ["_law_pool", "_law_many", "_law_found"]
abbrev ps_d_law_draw : List Str := ["_law_pool", "_law_many"]
theorem sc_d_law_draw : FnScope names_d_law_draw ps_d_law_draw (defScope s_d_law_draw) := ⟨rfl, rfl, rfl, by decide +kernel, rfl, by decide +kernel, by decide +kernel⟩
abbrev s_d_law_people : Stmt := (top 17)
abbrev names_d_law_people : List Str := ["_law_pool", "_law_many", "_law_menu", "_law_found", "_law_step"]
abbrev ps_d_law_people : List Str := ["_law_pool", "_law_many"]
theorem sc_d_law_people : FnScope names_d_law_people ps_d_law_people (defScope s_d_law_people) := ⟨rfl, rfl, rfl, by decide +kernel, rfl, by decide +kernel, by decide +kernel⟩
abbrev s_law : Stmt := (top 19)
abbrev names_law : List Str := ["_law_script", "_law_k", "_law_pool", "_law_people_here", "_law_most", "_law_wrong", "_law_odd"]
abbrev ps_law : List Str := ["_law_script"]
theorem sc_law : FnScope names_law ps_law (defScope s_law) := ⟨rfl, rfl, rfl, by decide +kernel, rfl, by decide +kernel, by decide +kernel⟩
/-! ### mirrors -/
def m_is_word : MS :=
  (mSeq (mIfS (mOr (mNot (mVal (mCB (gIsi []) (mCons (mVar 0) (mCons (mC (.ty .str)) mNil))))) (mNot (mVal (mChain gLe gLe (mC (.int 1)) (mCB gLen (mCons (mVar 0) mNil)) (mC (.int 8)))))) (mRet (mC (.bl false))) mNext)
  (mRet (mCB gAll (mCons (mLc (mItStr (mVar 0)) (.nm 1) tYesM (mOp gInSign (mVar 1) (mC (.str "abcdefghijklmnopqrstuvwxyz"))) [1]) mNil))))
def c_is_word : Call := mkD m_is_word 2
def m_are_people : MS :=
  (mSeq (mIfS (mOr (mNot (mVal (mCB (gIsi []) (mCons (mVar 0) (mCons (mTup (mCons (mC (.ty .lst)) (mCons (mC (.ty .tup)) mNil))) mNil))))) (mNot (mVal (mChain gLe gLe (mC (.int 1)) (mCB gLen (mCons (mVar 0) mNil)) (mC (.int 8)))))) (mRet (mC (.bl false))) mNext)
  (mRet (mAndV (mCB gAll (mCons (mLc (mItS (mVar 0)) (.nm 1) tYesM (mCall 1 c_is_word (mCons (mVar 1) mNil)) [1]) mNil)) (mOp gEq (mCB gLen (mCons (mDc (mItS (mVar 0)) (.nm 1) tYesM (mVar 1) (mC (.int 1)) [1]) mNil)) (mCB gLen (mCons (mVar 0) mNil))))))
def c_are_people : Call := mkD m_are_people 2
def m_is_count : MS :=
  (mRet (mAndV (mCB (gIsi []) (mCons (mVar 0) (mCons (mC (.ty .int)) mNil))) (mAndV (mNotV (mCB (gIsi []) (mCons (mVar 0) (mCons (mC (.ty .bl)) mNil)))) (mChain gLe gLe (mVar 1) (mVar 0) (mVar 2)))))
def c_is_count : Call := mkD m_is_count 3
def m_Crowd_new : MS :=
  (mSeq (mIfS (mNot (mVal (mCall 1 c_are_people (mCons (mVar 1) mNil)))) (mRaise 1 "part" (mC (.str "people"))) mNext)
  (mSeq (mIfS (mNot (mVal (mCall 3 c_is_count (mCons (mVar 2) (mCons (mC (.int 1)) (mCons (mC (.int 10)) mNil)))))) (mRaise 1 "part" (mC (.str "most"))) mNext)
  (mSeq (mSFld [2] "own_places" (mVar 0) (mDc (mEnum (mVar 1)) (.tp [3, 4]) tYesM (mVar 4) (mVar 3) [3, 4]))
  (mSFld [2] "most" (mVar 0) (mVar 2)))))
def c_Crowd_new : Call := mkD m_Crowd_new 5
def m_d_law_told : MS :=
  (mSeq (mTry (mDrop (mMk 2 3 c_Crowd_new (mCons (mVar 0) (mCons (mVar 1) mNil)))) [1] (fun k => k == 1) 2 (fun z => (mRet (mLst (mCons (mXf z 1 "part") (mCons (mXis z 1 true) mNil))))))
  (mRet (mC (.str "taken"))))
def c_d_law_told : Call := mkD m_d_law_told 3
def m_d_law_opened : MS :=
  (mSeq (mAsg (mIf (mVal (mOp gLt (mVar 1) (mCB gLen (mCons (mVar 0) mNil)))) (mOp gIx (mVar 0) (mVar 1)) (mC (.int 5))) (.nm 2))
  (mSeq (mAsg (mCB gMax2 (mCons (mCB gInt (mCons (mVar 2) mNil)) (mCons (mCB gInt (mCons (mOp gSub (mUn gNeg (mC (.int 1))) (mVar 2)) mNil)) mNil))) (.nm 3))
  (mRet (mNew (mCons (mOp gMulI (mVar 3) (mCB gInt (mCons (mOp gGe (mVar 3) (mOp gPow (mC (.int 10)) (mC (.int 18)))) mNil))) (mCons (mOp gMod (mCB gInt (mCons (mOp gMulI (mOp gAdd (mOp gAdd (mOp gMod (mVar 3) (mC (.int 2147483629))) (mOp gMulI (mC (.int 7919)) (mVar 1))) (mC (.int 17))) (mC (.int 48271))) mNil)) (mC (.int 2147483647))) mNil))))))
def c_d_law_opened : Call := mkK m_d_law_opened 4
def m_d_law_draw : MS :=
  (mSeq (mIfS (mVal (mOp gGt (mOp gIx (mVar 0) (mC (.int 0))) (mC (.int 0)))) (mSeq (mAsg (mOp gMod (mCB gInt (mCons (mOp gIx (mVar 0) (mC (.int 0))) mNil)) (mVar 1)) (.nm 2))
  (mSeq (mPut (mVar 0) (mC (.int 0)) (mOp gDiv (mOp gIx (mVar 0) (mC (.int 0))) (mVar 1)))
  (mRet (mVar 2)))) mNext)
  (mSeq (mPut (mVar 0) (mC (.int 1)) (mOp gMod (mCB gInt (mCons (mOp gAdd (mOp gMulI (mOp gIx (mVar 0) (mC (.int 1))) (mC (.int 39373))) (mC (.int 7))) mNil)) (mC (.int 2147483647))))
  (mRet (mOp gMod (mOp gDiv (mOp gMod (mCB gInt (mCons (mOp gMulI (mOp gIx (mVar 0) (mC (.int 1))) (mOp gIx (mVar 0) (mC (.int 1)))) mNil)) (mC (.int 2147483629))) (mC (.int 32))) (mVar 1)))))
def c_d_law_draw : Call := mkD m_d_law_draw 3
def m_d_law_people_f0 : MS :=
  (mDrop (mMet gAppend (mVar 3) (mCons (mMet gPopAt (mVar 2) (mCons (mCall 2 c_d_law_draw (mCons (mVar 0) (mCons (mCB gLen (mCons (mVar 2) mNil)) mNil))) mNil)) mNil)))
def m_d_law_people : MS :=
  (mSeq (mPar 2 3 (mCons (mNew (mCons (mC (.str "ann")) (mCons (mC (.str "bo")) (mCons (mC (.str "cy")) (mCons (mC (.str "dee")) (mCons (mC (.str "eve")) (mCons (mC (.str "fay")) (mCons (mC (.str "gus")) (mCons (mC (.str "z")) mNil))))))))) (mCons (mNew mNil) mNil)))
  (mSeq (mFor (mRng1 (mCons (mVar 1) mNil)) (.nm 4) m_d_law_people_f0)
  (mRet (mVar 3))))
def c_d_law_people : Call := mkD m_d_law_people 5
def m_law_f0 : MS :=
  (mIfS (mOr (mVal (mOp gNe (mCall 2 c_d_law_told (mCons (mVar 3) (mCons (mVar 6) mNil))) (mLst (mCons (mC (.str "most")) (mCons (mC (.bl true)) mNil))))) (mVal (mOp gNe (mCall 2 c_d_law_told (mCons (mCB gTuple (mCons (mVar 3) mNil)) (mCons (mVar 6) mNil))) (mLst (mCons (mC (.str "most")) (mCons (mC (.bl true)) mNil)))))) (mRet (mC (.bl false))) mNext)
def m_law_f1 : MS :=
  (mIfS (mOr (mVal (mOp gNe (mCall 2 c_d_law_told (mCons (mVar 6) (mCons (mVar 4) mNil))) (mLst (mCons (mC (.str "people")) (mCons (mC (.bl true)) mNil))))) (mVal (mOp gNe (mCall 2 c_d_law_told (mCons (mVar 6) (mCons (mC (.int 0)) mNil))) (mLst (mCons (mC (.str "people")) (mCons (mC (.bl true)) mNil)))))) (mRet (mC (.bl false))) mNext)
def m_law_f2 : MS :=
  (mSeq (mAsg (mCall 2 c_d_law_opened (mCons (mVar 0) (mCons (mVar 1) mNil))) (.nm 2))
  (mSeq (mPar 3 4 (mCons (mCall 2 c_d_law_people (mCons (mVar 2) (mCons (mOp gAdd (mC (.int 1)) (mCall 2 c_d_law_draw (mCons (mVar 2) (mCons (mC (.int 7)) mNil)))) mNil))) (mCons (mOp gAdd (mC (.int 1)) (mCall 2 c_d_law_draw (mCons (mVar 2) (mCons (mC (.int 10)) mNil)))) mNil)))
  (mSeq (mAsg (mLst (mCons (mC .non) (mCons (mC (.int 5)) (mCons (mC (.str "ann")) (mCons (mLst mNil) (mCons (mTup mNil) (mCons mDNil (mCons (mDisp2 [((mC (.str "ann")), (mC (.int 1)))]) (mCons (mOp gAdd (mVar 3) (mSl (mVar 3) moNone (moSome (mC (.int 1))))) (mCons (mOp gAdd (mVar 3) (mLst (mCons (mC (.str "A")) mNil))) (mCons (mOp gAdd (mVar 3) (mLst (mCons (mC (.str "abcdefghi")) mNil))) mNil))))))))))) (.nm 5))
  (mSeq (mAsg (mOp gAdd (mVar 5) (mLst (mCons (mOp gAdd (mVar 3) (mLst (mCons (mC (.str "")) mNil))) (mCons (mOp gAdd (mVar 3) (mLst (mCons (mC .non) mNil))) (mCons (mOp gAdd (mVar 3) (mLst (mCons (mC (.int 5)) mNil))) (mCons (mOp gAdd (mVar 3) (mLst (mCons (mLst (mCons (mC (.str "ann")) mNil)) mNil))) (mCons (mOp gAdd (mVar 3) (mLst (mCons (mC (.str "a b")) mNil))) mNil))))))) (.nm 5))
  (mSeq (mAsg (mOp gAdd (mVar 5) (mLst (mCons (mOp gAdd (mVar 3) (mLst (mCons (mC (.str "a1")) mNil))) (mCons (mLst (mCons (mC (.str "a")) (mCons (mC (.str "b")) (mCons (mC (.str "c")) (mCons (mC (.str "d")) (mCons (mC (.str "e")) (mCons (mC (.str "f")) (mCons (mC (.str "g")) (mCons (mC (.str "h")) (mCons (mC (.str "i")) mNil)))))))))) mNil)))) (.nm 5))
  (mSeq (mFor (mItL (mVar 5)) (.nm 6) m_law_f1)
  (mSeq (mFor (mItL (mLst (mCons (mC .non) (mCons (mC (.int 0)) (mCons (mC (.int 11)) (mCons (mUn gNeg (mC (.int 1))) (mCons (mC (.bl true)) (mCons (mC (.str "5")) (mCons (mLst (mCons (mC (.int 5)) mNil)) (mCons (mOp gPow (mC (.int 10)) (mC (.int 30))) mNil)))))))))) (.nm 6) m_law_f0)
  (mIfS (mVal (mOp gNe (mCall 2 c_d_law_told (mCons (mCB gTuple (mCons (mVar 3) mNil)) (mCons (mVar 4) mNil))) (mC (.str "taken")))) (mRet (mC (.bl false))) mNext))))))))
def m_law : MS :=
  (mSeq (mIfS (mVal (mOp gNe (mCall 2 c_d_law_told (mCons (mLst (mCons (mC (.str "abcdefgh")) (mCons (mC (.str "a")) (mCons (mC (.str "z")) (mCons (mC (.str "bb")) (mCons (mC (.str "cc")) (mCons (mC (.str "dd")) (mCons (mC (.str "ee")) (mCons (mC (.str "ff")) mNil))))))))) (mCons (mC (.int 10)) mNil))) (mC (.str "taken")))) (mRet (mC (.bl false))) mNext)
  (mSeq (mFor (mRng1 (mCons (mCB gMax2 (mCons (mC (.int 1)) (mCons (mCB gMin2 (mCons (mCB gLen (mCons (mVar 0) mNil)) (mCons (mC (.int 4)) mNil))) mNil))) mNil)) (.nm 1) m_law_f2)
  (mRet (mC (.bl true)))))
def c_law : Call := mkD m_law 7
end Own


namespace Own
open PySem L2 M
/-! ### are_people -/
def okPeople (wb : D → Bool) (ds : List D) : Bool := decide (1 ≤ ds.length) && decide (ds.length ≤ 8) && (ds.all wb && decide (((foldK (fun d => (keyD d).getD (.inl 0)) (fun _ => .int 1) ds []).length : Int) = ds.length))
theorem people_seq {x : D} {ds : List D} {wb : D → Bool} {st : Store} (hx : x = .lst ds ∨ x = .tup ds) (hs : st.all (cellOk st.length) = true) (hl : ds.length ≤ big) (hw : ∀ d ∈ ds, c_is_word [d] st = some (.ok (.bl (wb d)), st)) (hk : ∀ d ∈ ds, wb d = true → (keyD d).isSome = true) :
    c_are_people [x] st = some (.ok (.bl (okPeople wb ds)), st) := by
  have lenx : gLen st [x] = some (.int ds.length) := by rcases hx with rfl | rfl <;> rfl
  have hlen : mCB gLen (mCons (mVar 0) mNil) [some x, none] st = some (.ok (.int ds.length), st) := v_cb (v_cons (v_var rfl) rfl) lenx
  have walk : ∀ env : En, env[0]? = some (some x) → mItS (mVar 0) env st = some (.ok ds, st) := fun env he => by
    unfold mItS
    rw [v_var he, bnd_ok]
    rcases hx with rfl | rfl <;> rfl
  have isi : mVal (mCB (gIsi []) (mCons (mVar 0) (mCons (mTup (mCons (mC (.ty .lst)) (mCons (mC (.ty .tup)) mNil))) mNil))) [some x, none] st = some (.ok true, st) := by
    rcases hx with rfl | rfl <;> rfl
  have btw := v_between (a := 1) (c := 8) hlen
  by_cases hb : 1 ≤ ds.length ∧ ds.length ≤ 8
  · have hb2 : (decide ((1 : Int) ≤ (ds.length : Int)) && decide ((ds.length : Int) ≤ 8)) = true := by
      rw [decide_eq_true (by omega), decide_eq_true (by omega)]; rfl
    have e0 : okPeople wb ds = (ds.all wb && decide (((foldK (fun d => (keyD d).getD (.inl 0)) (fun _ => .int 1) ds []).length : Int) = ds.length)) := by
      unfold okPeople
      rw [decide_eq_true hb.1, decide_eq_true hb.2]
      rfl
    have hall : mCB gAll (mCons (mLc (mItS (mVar 0)) (.nm 1) tYesM (mCall 1 c_is_word (mCons (mVar 1) mNil)) [1]) mNil) [some x, none] st = some (.ok (.bl (ds.all wb)), st) :=
      v_cb (v_cons (v_lc (fun d => .bl (wb d)) (walk _ rfl) hl fun d hd => ⟨v_call (v_cons (v_var rfl) rfl) rfl (hw d hd), rfl⟩) rfl) (gAll_map wb st ds)
    refine mkD_ret (env' := [some x, none]) ?_ hs rfl
    show m_are_people [some x, none] st = _
    unfold m_are_people
    rw [v_seq (env1 := [some x, none]) (st1 := st) (by
      rw [v_ifF (st1 := st) (by
        rw [v_orF (st1 := st) (v_not isi)]
        have h2 := v_not (v_val btw)
        rw [hb2] at h2
        exact h2)]
      rfl)]
    refine v_ret ?_
    rw [e0]
    cases ha : ds.all wb with
    | false =>
      rw [ha] at hall
      exact v_andVF hall
    | true =>
      rw [ha] at hall
      rw [v_andVT hall, Bool.true_and]
      have hkk : ∀ d ∈ ds, (keyD d).isSome = true := fun d hd => hk d hd (List.all_eq_true.mp ha d hd)
      have hdc : mDc (mItS (mVar 0)) (.nm 1) tYesM (mVar 1) (mC (.int 1)) [1] [some x, none] st = some (.ok (.dK (foldK (fun d => (keyD d).getD (.inl 0)) (fun _ => .int 1) ds [])), st) := by
        unfold mDc
        rw [walk _ rfl, bnd_ok]
        have e := compK_fold (t := .nm 1) (env := wipeE [some x, none] [1]) (st := st) (mk := mVar 1) (mv := mC (.int 1)) (fun d => (keyD d).getD (.inl 0)) id (fun _ => .int 1) ds [] (by simpa using hl) fun d hd => ⟨_, rfl, v_var rfl, rfl, by
          have q := hkk d hd
          cases e : keyD d with
          | none => rw [e] at q; cases q
          | some k => simp [e], rfl⟩
        rw [e]
      refine v_op (v_cb (v_cons hdc rfl) rfl) hlen ?_
      rfl
  · have hb2 : (decide ((1 : Int) ≤ (ds.length : Int)) && decide ((ds.length : Int) ≤ 8)) = false := by
      rw [Bool.and_eq_false_iff]
      by_cases h1 : 1 ≤ ds.length
      · exact .inr (decide_eq_false (by omega))
      · exact .inl (decide_eq_false (by omega))
    have e0 : okPeople wb ds = false := by
      unfold okPeople
      have : (decide (1 ≤ ds.length) && decide (ds.length ≤ 8)) = false := by
        rw [Bool.and_eq_false_iff]
        by_cases h1 : 1 ≤ ds.length
        · exact .inr (decide_eq_false (by omega))
        · exact .inl (decide_eq_false (by omega))
      rw [this]
      rfl
    refine mkD_ret (env' := [some x, none]) ?_ hs rfl
    show m_are_people [some x, none] st = _
    unfold m_are_people mSeq
    rw [v_ifT (st1 := st) (by
      rw [v_orF (st1 := st) (v_not isi)]
      have h2 := v_not (v_val btw)
      rw [hb2] at h2
      exact h2), e0]
    rfl

/-! ### Crowd(..) -/
/-- the people are refused -/
theorem new_people {x m : D} {st : Store} (hs : Plain st) (hp : c_are_people [x] (st ++ [.ins 2 []]) = some (.ok (.bl false), st ++ [.ins 2 []])) :
    c_Crowd_new [.ref st.length, x, m] (st ++ [.ins 2 []]) = some (.err ⟨1, [("part", .str "people")]⟩, st ++ [.ins 2 []]) := by
  refine mkD_err (env' := [some (.ref st.length), some x, some m, none, none]) ?_ (hs.more _ _)
  show m_Crowd_new [some (.ref st.length), some x, some m, none, none] _ = _
  unfold m_Crowd_new mSeq
  rw [v_ifT (v_not (v_val (v_call (n := 1) (v_cons (v_var (i := 1) rfl) rfl) rfl hp)))]
  rfl
/-- the most is refused -/
theorem new_most {x m : D} {st : Store} (hs : Plain st) (hp : c_are_people [x] (st ++ [.ins 2 []]) = some (.ok (.bl true), st ++ [.ins 2 []])) (hm : c_is_count [m, .int 1, .int 10] (st ++ [.ins 2 []]) = some (.ok (.bl false), st ++ [.ins 2 []])) :
    c_Crowd_new [.ref st.length, x, m] (st ++ [.ins 2 []]) = some (.err ⟨1, [("part", .str "most")]⟩, st ++ [.ins 2 []]) := by
  refine mkD_err (env' := [some (.ref st.length), some x, some m, none, none]) ?_ (hs.more _ _)
  show m_Crowd_new [some (.ref st.length), some x, some m, none, none] _ = _
  unfold m_Crowd_new
  rw [v_seq (env1 := [some (.ref st.length), some x, some m, none, none]) (st1 := st ++ [.ins 2 []]) (by
    rw [v_ifF (v_not (v_val (v_call (n := 1) (v_cons (v_var (i := 1) rfl) rfl) rfl hp)))]
    rfl)]
  unfold mSeq
  rw [v_ifT (v_not (v_val (v_call (n := 3) (v_cons (v_var (i := 2) rfl) (v_cons (ma := mC (.int 1)) rfl (v_cons (ma := mC (.int 10)) rfl (mas := mNil) rfl))) rfl hm)))]
  rfl
/-- it is taken -/
theorem new_ok {x m : D} {ds : List D} {st : Store} (hs : Plain st) (hx : x = .lst ds ∨ x = .tup ds) (hl : ds.length ≤ big) (hk : ∀ d ∈ ds, ∃ s, d = .str s) (hmd : isD m = true) (hp : c_are_people [x] (st ++ [.ins 2 []]) = some (.ok (.bl true), st ++ [.ins 2 []])) (hm : c_is_count [m, .int 1, .int 10] (st ++ [.ins 2 []]) = some (.ok (.bl true), st ++ [.ins 2 []])) :
    ∃ kvs, c_Crowd_new [.ref st.length, x, m] (st ++ [.ins 2 []]) = some (.ok .non, st ++ [.ins 2 [("own_places", .dK kvs), ("most", m)]]) := by
  let kf : D → Key := fun e => match e with
    | .tup [_, d] => (keyD d).getD (.inl 0)
    | _ => .inl 0
  let kd : D → D := fun e => match e with
    | .tup [_, d] => d
    | _ => .non
  let vf : D → D := fun e => match e with
    | .tup [i, _] => i
    | _ => .non
  refine ⟨foldK kf vf (enumD 0 ds) [], ?_⟩
  have hdc : mDc (mEnum (mVar 1)) (.tp [3, 4]) tYesM (mVar 4) (mVar 3) [3, 4] [some (.ref st.length), some x, some m, none, none] (st ++ [.ins 2 []]) = some (.ok (.dK (foldK kf vf (enumD 0 ds) [])), st ++ [.ins 2 []]) := by
    unfold mDc
    have hw : mEnum (mVar 1) [some (.ref st.length), some x, some m, none, none] (st ++ [.ins 2 []]) = some (.ok (enumD 0 ds), st ++ [.ins 2 []]) := by
      unfold mEnum
      rw [v_var rfl, bnd_ok]
      rcases hx with rfl | rfl <;> rfl
    rw [hw, bnd_ok]
    have e := compK_fold (t := .tp [3, 4]) (env := wipeE [some (.ref st.length), some x, some m, none, none] [3, 4]) (st := st ++ [.ins 2 []]) (mk := mVar 4) (mv := mVar 3) kf kd vf (enumD 0 ds) [] (by rw [enumD_length]; simpa using hl) fun e he => by
      obtain ⟨i, hi⟩ := List.mem_iff_getElem?.mp he
      obtain ⟨d, h1, rfl⟩ := enumD_get hi
      obtain ⟨s, rfl⟩ := hk d (List.mem_of_getElem? h1)
      exact ⟨_, rfl, v_var rfl, v_var rfl, rfl, rfl⟩
    rw [e]
  unfold c_Crowd_new mkD
  have hm1 : m_Crowd_new (startE 5 [.ref st.length, x, m]) (st ++ [.ins 2 []]) = some (.next, [some (.ref st.length), some x, some m, none, none], st ++ [.ins 2 [("own_places", .dK (foldK kf vf (enumD 0 ds) [])), ("most", m)]]) := by
    show m_Crowd_new [some (.ref st.length), some x, some m, none, none] _ = _
    unfold m_Crowd_new
    rw [v_seq (env1 := [some (.ref st.length), some x, some m, none, none]) (st1 := st ++ [.ins 2 []]) (by
      rw [v_ifF (v_not (v_val (v_call (n := 1) (v_cons (v_var (i := 1) rfl) rfl) rfl hp)))]
      rfl)]
    rw [v_seq (env1 := [some (.ref st.length), some x, some m, none, none]) (st1 := st ++ [.ins 2 []]) (by
      rw [v_ifF (v_not (v_val (v_call (n := 3) (v_cons (v_var (i := 2) rfl) (v_cons (ma := mC (.int 1)) rfl (v_cons (ma := mC (.int 10)) rfl (mas := mNil) rfl))) rfl hm)))]
      rfl)]
    rw [v_seq (env1 := [some (.ref st.length), some x, some m, none, none]) (st1 := st ++ [.ins 2 [("own_places", .dK (foldK kf vf (enumD 0 ds) []))]]) (by
      unfold mSFld
      rw [hdc, bndS_ok, v_var rfl, bndS_ok]
      unfold gSFld
      dsimp only
      rw [get_last]
      dsimp only
      rw [if_pos ⟨List.mem_singleton.mpr rfl, by simp⟩, set_last]
      rfl)]
    unfold mSFld
    rw [v_var rfl, bndS_ok, v_var rfl, bndS_ok]
    unfold gSFld
    dsimp only
    rw [get_last]
    dsimp only
    rw [if_pos ⟨List.mem_singleton.mpr rfl, by simp⟩, set_last]
    rfl
  rw [hm1]
  dsimp only
  have hf : finD (st ++ [Cell.ins 2 []]).length .non (st ++ [.ins 2 [("own_places", .dK (foldK kf vf (enumD 0 ds) [])), ("most", m)]]) = some (.non, st ++ [.ins 2 [("own_places", .dK (foldK kf vf (enumD 0 ds) [])), ("most", m)]]) := by
    unfold finD
    have hlen : (st ++ [Cell.ins 2 []]).length = (st ++ [Cell.ins 2 [("own_places", .dK (foldK kf vf (enumD 0 ds) [])), ("most", m)]]).length := by simp
    rw [hlen, List.take_length, if_pos]
    rw [List.all_append, hs.ok]
    have : refOk (st ++ [Cell.ins 2 [("own_places", .dK (foldK kf vf (enumD 0 ds) [])), ("most", m)]]).length m = true := by
      cases m <;> first | rfl | cases hmd
    rw [Bool.true_and, List.all_cons, List.all_nil, Bool.and_true]
    unfold cellOk
    dsimp only
    rw [List.all_cons, List.all_cons, List.all_nil, this]
    rfl
  rw [hf]

/-! ### told -/
theorem told_err {x m : D} {st : Store} {p : Str} (hs : Plain st) (h : c_Crowd_new [.ref st.length, x, m] (st ++ [.ins 2 []]) = some (.err ⟨1, [("part", .str p)]⟩, st ++ [.ins 2 []])) :
    c_d_law_told [x, m] st = some (.ok (.lst [.str p, .bl true]), st) := by
  have hmk : mMk 2 3 c_Crowd_new (mCons (mVar 0) (mCons (mVar 1) mNil)) [some x, some m, none] st = some (.err ⟨1, [("part", .str p)]⟩, st) := by
    unfold mMk
    rw [v_cons (v_var rfl) (v_cons (v_var rfl) rfl), bnd_ok, if_pos (show [x, m].length + 1 = 3 from rfl), h]
    dsimp only
    rw [take_more, if_pos (hs.ok _)]
  refine mkD_ret (env' := [some x, some m, none]) ?_ (hs.ok _) rfl
  show m_d_law_told [some x, some m, none] st = _
  unfold m_d_law_told mSeq mTry
  rw [v_dropE hmk]
  rfl
theorem told_ok {x m : D} {st : Store} {fs : List (Str × D)} (hs : Plain st) (hf : (fs.all fun p => isD p.2) = true) (h : c_Crowd_new [.ref st.length, x, m] (st ++ [.ins 2 []]) = some (.ok .non, st ++ [.ins 2 fs])) :
    c_d_law_told [x, m] st = some (.ok (.str "taken"), st) := by
  have hmk : mMk 2 3 c_Crowd_new (mCons (mVar 0) (mCons (mVar 1) mNil)) [some x, some m, none] st = some (.ok (.obj 2 fs), st) := by
    unfold mMk
    rw [v_cons (v_var rfl) (v_cons (v_var rfl) rfl), bnd_ok, if_pos (show [x, m].length + 1 = 3 from rfl), h]
    dsimp only
    unfold finD
    rw [take_more, if_pos (hs.ok _)]
    dsimp only
    rw [if_neg (Nat.lt_irrefl _), get_last]
    dsimp only
    rw [if_pos hf]
  refine mkD_ret (env' := [some x, some m, none]) ?_ (hs.ok _) rfl
  show m_d_law_told [some x, some m, none] st = _
  unfold m_d_law_told
  rw [v_seq (env1 := [some x, some m, none]) (st1 := st) (by
    unfold mTry
    rw [v_drop hmk])]
  rfl
end Own


namespace Own
open PySem L2 M
theorem v_put {mo mi mv : ME} {env : En} {st st1 st2 st3 st4 : Store} {o i v : D} (hv : mv env st = some (.ok v, st1)) (ho : mo env st1 = some (.ok o, st2)) (hi : mi env st2 = some (.ok i, st3)) (hg : gPut st3 o i v = some st4) : mPut mo mi mv env st = some (.next, env, st4) := by
  unfold mPut
  rw [hv, bndS_ok, ho, bndS_ok, hi, bndS_ok, hg]
theorem v_mul {env : En} {st st1 st2 : Store} {ma mb : ME} {i j : Int} (h1 : ma env st = some (.ok (.int i), st1)) (h2 : mb env st1 = some (.ok (.int j), st2)) (hc : CMul i j) : mOp gMulI ma mb env st = some (.ok (.int (i * j)), st2) :=
  v_op h1 h2 (if_pos hc)
theorem v_mod {env : En} {st st1 st2 : Store} {ma mb : ME} {i j : Int} (h1 : ma env st = some (.ok (.int i), st1)) (h2 : mb env st1 = some (.ok (.int j), st2)) (hc : 0 < j) : mOp gMod ma mb env st = some (.ok (.int (i % j)), st2) :=
  v_op h1 h2 (if_pos hc)
theorem v_div {env : En} {st st1 st2 : Store} {ma mb : ME} {i j : Int} (h1 : ma env st = some (.ok (.int i), st1)) (h2 : mb env st1 = some (.ok (.int j), st2)) (hc : CDiv i j) : mOp gDiv ma mb env st = some (.ok (.int (i / j)), st2) :=
  v_op h1 h2 (if_pos hc)
theorem v_pow {env : En} {st st1 st2 : Store} {ma mb : ME} {i j : Int} (h1 : ma env st = some (.ok (.int i), st1)) (h2 : mb env st1 = some (.ok (.int j), st2)) (hc : CPow i j) : mOp gPow ma mb env st = some (.ok (.int (i ^ j.toNat)), st2) :=
  v_op h1 h2 (if_pos hc)
theorem v_int {env : En} {st st1 : Store} {ma : ME} {i : Int} (h : ma env st = some (.ok (.int i), st1)) : mCB gInt (mCons ma mNil) env st = some (.ok (.int i), st1) := v_cb (v_cons h rfl) rfl
theorem mul_r {i j : Int} (h1 : -(2 ^ 64) < j) (h2 : j < 2 ^ 64) : CMul i j := .inr ⟨h1, h2⟩
theorem mul_l {i j : Int} (h1 : -(2 ^ 64) < i) (h2 : i < 2 ^ 64) : CMul i j := .inl ⟨h1, h2⟩
abbrev pool (a b : Int) (rest : Store) : Store := .lst [.int a, .int b] :: rest
theorem pool_plain {a b : Int} {rest : Store} (h : Plain rest) : Plain (pool a b rest) := fun c hc => by
  rcases List.mem_cons.mp hc with rfl | hc
  · exact ⟨_, rfl⟩
  · exact h c hc
theorem mkD_ret2 {m : MS} {k : Nat} {ds : List D} {st st' : Store} {d : D} {env' : En} (h : m (startE k ds) st = some (.ret d, env', st')) (hl : st'.length = st.length) (hs : Plain st') (hd : isD d = true) : mkD m k ds st = some (.ok d, st') := by
  unfold mkD
  rw [h]
  dsimp only
  rw [← hl, fin_data (hs.ok _) hd]
theorem draw_ok {a b many : Int} {rest : Store} (hp : Plain rest) (h0 : 0 < many) (h1 : many < 1073741824) : ∃ r a' b', c_d_law_draw [.ref 0, .int many] (pool a b rest) = some (.ok (.int r), pool a' b' rest) ∧ 0 ≤ r ∧ r < many := by
  have ix0 : ∀ (env : En) (a b : Int), env[0]? = some (some (.ref 0)) → mOp gIx (mVar 0) (mC (.int 0)) env (pool a b rest) = some (.ok (.int a), pool a b rest) := fun env a b he => v_op (v_var he) rfl rfl
  have ix1 : ∀ (env : En) (a b : Int), env[0]? = some (some (.ref 0)) → mOp gIx (mVar 0) (mC (.int 1)) env (pool a b rest) = some (.ok (.int b), pool a b rest) := fun env a b he => v_op (v_var he) rfl rfl
  have hv : ∀ (env : En), env[0]? = some (some (.ref 0)) → mVal (mOp gGt (mOp gIx (mVar 0) (mC (.int 0))) (mC (.int 0))) env (pool a b rest) = some (.ok (decide (0 < a)), pool a b rest) := fun env he => v_val (v_op (ix0 env a b he) rfl rfl)
  by_cases ha : 0 < a
  · refine ⟨a % many, a / many, b, ?_, Int.emod_nonneg _ (by omega), Int.emod_lt_of_pos _ h0⟩
    refine mkD_ret2 (env' := [some (.ref 0), some (.int many), some (.int (a % many))]) ?_ rfl (pool_plain hp) rfl
    show m_d_law_draw [some (.ref 0), some (.int many), none] _ = _
    unfold m_d_law_draw
    have ht := hv [some (.ref 0), some (.int many), none] rfl
    rw [decide_eq_true ha] at ht
    unfold mSeq
    rw [v_ifT ht]
    rw [show (mAsg (mOp gMod (mCB gInt (mCons (mOp gIx (mVar 0) (mC (.int 0))) mNil)) (mVar 1)) (.nm 2)) [some (.ref 0), some (.int many), none] (pool a b rest) = some (.next, [some (.ref 0), some (.int many), some (.int (a % many))], pool a b rest) from v_asg (v_mod (v_int (ix0 _ a b rfl)) (v_var rfl) h0)]
    dsimp only
    rw [v_put (v_div (ix0 _ a b rfl) (v_var rfl) ⟨h0, h1⟩) (v_var rfl) rfl rfl]
    rfl
  · let b' := (b * 39373 + 7) % 2147483647
    have hb1 : 0 ≤ b' := Int.emod_nonneg _ (by decide)
    have hb2 : b' < 2147483647 := Int.emod_lt_of_pos _ (by decide)
    refine ⟨b' * b' % 2147483629 / 32 % many, a, b', ?_, Int.emod_nonneg _ (by omega), Int.emod_lt_of_pos _ h0⟩
    refine mkD_ret2 (env' := [some (.ref 0), some (.int many), none]) ?_ rfl (pool_plain hp) rfl
    show m_d_law_draw [some (.ref 0), some (.int many), none] _ = _
    unfold m_d_law_draw
    have ht := hv [some (.ref 0), some (.int many), none] rfl
    rw [decide_eq_false ha] at ht
    rw [v_seq (env1 := [some (.ref 0), some (.int many), none]) (st1 := pool a b rest) (by rw [v_ifF ht]; rfl)]
    rw [v_seq (env1 := [some (.ref 0), some (.int many), none]) (st1 := pool a b' rest) (v_put (v := .int b') (v_mod (v_int (v_op (v_mul (ix1 _ a b rfl) rfl (mul_r (by decide) (by decide))) rfl rfl)) rfl (by decide)) (v_var rfl) rfl rfl)]
    refine v_ret (v_mod (v_div (v_mod (v_int (v_mul (ix1 _ a b' rfl) (ix1 _ a b' rfl) (mul_l (by omega) (by omega)))) rfl (by decide)) rfl ⟨by decide, by decide⟩) (v_var rfl) h0)

theorem opened_ok {ns : List Int} {k : Nat} {st : Store} (hk : k < 100) : ∃ a b, c_d_law_opened [.ro (ns.map D.int), .int (k : Int)] st = some (.ok (.ref st.length), st ++ [.lst [.int a, .int b]]) := by
  have hcell : ∃ cell : Int, mIf (mVal (mOp gLt (mVar 1) (mCB gLen (mCons (mVar 0) mNil)))) (mOp gIx (mVar 0) (mVar 1)) (mC (.int 5)) [some (.ro (ns.map D.int)), some (.int (k : Int)), none, none] st = some (.ok (.int cell), st) := by
    have hlt : mVal (mOp gLt (mVar 1) (mCB gLen (mCons (mVar 0) mNil))) [some (.ro (ns.map D.int)), some (.int (k : Int)), none, none] st = some (.ok (decide ((k : Int) < ((ns.map D.int).length : Int))), st) :=
      v_val (v_op (v_var rfl) (v_cb (v_cons (v_var rfl) rfl) rfl) rfl)
    unfold mIf
    rw [hlt, bnd_ok]
    by_cases h : k < ns.length
    · rw [decide_eq_true (by rw [List.length_map]; omega), if_pos rfl]
      refine ⟨ns[k], v_op (v_var rfl) (v_var rfl) ?_⟩
      show atI (ns.map D.int) (k : Int) = _
      unfold atI ixN
      rw [if_pos (by omega), if_pos (by rw [List.length_map]; omega)]
      simp [List.getElem?_eq_getElem h]
    · rw [decide_eq_false (by rw [List.length_map]; omega), if_neg Bool.false_ne_true]
      exact ⟨5, rfl⟩
  obtain ⟨cell, hcell⟩ := hcell
  let g : Int := if -1 - cell > cell then -1 - cell else cell
  have hsq : 0 ≤ g % 2147483629 ∧ g % 2147483629 < 2147483629 := ⟨Int.emod_nonneg _ (by decide), Int.emod_lt_of_pos _ (by decide)⟩
  refine ⟨g * (if decide ((10 : Int) ^ (18 : Int).toNat ≤ g) then 1 else 0), ((g % 2147483629 + 7919 * (k : Int) + 17) * 48271) % 2147483647, ?_⟩
  unfold c_d_law_opened mkK
  have hm : m_d_law_opened (startE 4 [.ro (ns.map D.int), .int (k : Int)]) st = some (.ret (.ref st.length), [some (.ro (ns.map D.int)), some (.int (k : Int)), some (.int cell), some (.int g)], st ++ [.lst [.int (g * (if decide ((10 : Int) ^ (18 : Int).toNat ≤ g) then 1 else 0)), .int (((g % 2147483629 + 7919 * (k : Int) + 17) * 48271) % 2147483647)]]) := by
    show m_d_law_opened [some (.ro (ns.map D.int)), some (.int (k : Int)), none, none] st = _
    unfold m_d_law_opened
    rw [v_seq (env1 := [some (.ro (ns.map D.int)), some (.int (k : Int)), some (.int cell), none]) (st1 := st) (v_asg hcell)]
    rw [v_seq (env1 := [some (.ro (ns.map D.int)), some (.int (k : Int)), some (.int cell), some (.int g)]) (st1 := st) (v_asg (v_cb (v_cons (v_int (v_var rfl)) (v_cons (v_int (v_op (v_un rfl rfl) (v_var rfl) rfl)) rfl)) rfl))]
    refine v_ret ?_
    unfold mNew
    have hpow : mOp gPow (mC (.int 10)) (mC (.int 18)) [some (.ro (ns.map D.int)), some (.int (k : Int)), some (.int cell), some (.int g)] st = some (.ok (.int ((10 : Int) ^ (18 : Int).toNat)), st) :=
      v_pow rfl rfl ⟨by decide, by decide, by decide⟩
    rw [v_cons (v_mul (j := if decide ((10 : Int) ^ (18 : Int).toNat ≤ g) then 1 else 0) (v_var rfl) (v_cb (v_cons (v_op (v_var rfl) hpow rfl) rfl) rfl) (mul_r (by split <;> decide) (by split <;> decide)))
      (v_cons (v_mod (v_int (v_mul (v_op (v_op (v_mod (v_var rfl) rfl (by decide)) (v_mul rfl (v_var rfl) (mul_l (by decide) (by decide))) rfl) rfl rfl) rfl (mul_r (by decide) (by decide)))) rfl (by decide)) rfl), bnd_ok]
    rfl
  rw [hm]

theorem v_met {g : Store → D → List D → Option (D × Store)} {mo : ME} {mas : MA} {env : En} {st st1 st2 st3 : Store} {o z : D} {xs ds : List D} (ho : mo env st = some (.ok o, st1)) (hr : rd st1 o = .lst xs) (ha : mas env st1 = some (.ok ds, st2)) (hg : g st2 o ds = some (z, st3)) : mMet g mo mas env st = some (.ok z, st3) := by
  unfold mMet
  rw [ho, bnd_ok, hr]
  dsimp only
  rw [ha, bnd_ok, hg]
theorem map_erase {α β : Type} (f : α → β) : ∀ (l : List α) (i : Nat), (l.map f).eraseIdx i = (l.eraseIdx i).map f
  | [], _ => rfl
  | _ :: _, 0 => rfl
  | a :: l, i + 1 => by
    show f a :: (l.map f).eraseIdx i = f a :: (l.eraseIdx i).map f
    rw [map_erase f l i]
theorem perm_erase {α : Type} : ∀ {l : List α} {i : Nat} (h : i < l.length), (l[i] :: l.eraseIdx i).Perm l
  | a :: l, 0, _ => List.Perm.refl _
  | a :: l, i + 1, h => by
    have h' : i < l.length := by simpa using h
    show (l[i] :: a :: l.eraseIdx i).Perm (a :: l)
    exact (List.Perm.swap a l[i] _).trans ((perm_erase h').cons a)
def menuS : List Str := ["ann", "bo", "cy", "dee", "eve", "fay", "gus", "z"]
theorem menu_nodup : menuS.Nodup := by decide +kernel
theorem people_ok {a b : Int} {n : Nat} (hn : n ≤ 8) : ∃ (ps : List Str) (a' b' : Int), c_d_law_people [.ref 0, .int (n : Int)] (pool a b []) = some (.ok (.lst (ps.map D.str)), pool a' b' []) ∧ ps.length = n ∧ ps.Nodup ∧ ∀ p ∈ ps, p ∈ menuS := by
  let I : Nat → En → Store → Prop := fun j env st => ∃ (s : Option D) (ms fs : List Str) (a b : Int), env = [some (.ref 0), some (.int (n : Int)), some (.ref 1), some (.ref 2), s] ∧ trimO 3 s = s ∧ st = pool a b [.lst (ms.map D.str), .lst (fs.map D.str)] ∧ fs.length = j ∧ (ms ++ fs).Perm menuS
  have hrng : ∀ env st, env[1]? = some (some (.int (n : Int))) → mRng1 (mCons (mVar 1) mNil) env st = some (.ok (M.intsFrom 0 n), st) := fun env st he => by
    unfold mRng1
    rw [v_cons (v_var he) rfl, bnd_ok]
    dsimp only
    rw [if_pos ⟨by omega, by omega⟩, Int.toNat_natCast]
  obtain ⟨env', st', hloop, s, ms, fs, a', b', rfl, _, rfl, hlen, hperm⟩ := forD_inv (n := 3) (t := .nm 4) (body := m_d_law_people_f0) I
    (M.intsFrom 0 n) 0 [some (.ref 0), some (.int (n : Int)), some (.ref 1), some (.ref 2), none] (pool a b [.lst (menuS.map D.str), .lst ([].map D.str)]) ⟨none, menuS, [], a, b, rfl, rfl, rfl, rfl, by rw [List.append_nil]⟩
    (by
      rintro j d env st hd ⟨s, ms, fs, a, b, rfl, hs, rfl, hlen, hperm⟩
      rw [Nat.zero_add] at hlen
      have hj : j < n := by
        have := (List.getElem?_eq_some_iff.mp hd).1
        simpa [M.intsFrom] using this
      obtain ⟨i, rfl⟩ : ∃ i : Int, d = .int i := by
        unfold M.intsFrom at hd
        rw [List.getElem?_map] at hd
        cases e : (List.range n)[j]? with
        | none => rw [e] at hd; cases hd
        | some q => rw [e] at hd; exact ⟨_, (Option.some.inj hd).symm⟩
      have htot : ms.length + fs.length = 8 := by
        have := hperm.length_eq
        rw [List.length_append] at this
        exact this
      have hms : 0 < ms.length := by omega
      obtain ⟨r, a1, b1, hdraw, r0, r1⟩ := draw_ok (a := a) (b := b) (many := (ms.length : Int)) (rest := [.lst (ms.map D.str), .lst (fs.map D.str)]) (fun c hc => by
        rcases List.mem_cons.mp hc with rfl | hc
        · exact ⟨_, rfl⟩
        · exact ⟨_, List.mem_singleton.mp hc⟩) (by omega) (by omega)
      have hr : r.toNat < ms.length := by omega
      have hpop : mMet gPopAt (mVar 2) (mCons (mCall 2 c_d_law_draw (mCons (mVar 0) (mCons (mCB gLen (mCons (mVar 2) mNil)) mNil))) mNil) [some (.ref 0), some (.int (n : Int)), some (.ref 1), some (.ref 2), some (.int i)] (pool a b [.lst (ms.map D.str), .lst (fs.map D.str)]) =
          some (.ok (.str ms[r.toNat]), pool a1 b1 [.lst ((ms.eraseIdx r.toNat).map D.str), .lst (fs.map D.str)]) := by
        refine v_met (v_var rfl) rfl (v_cons (v_call (n := 2) (v_cons (v_var (i := 0) rfl) (v_cons (v_cb (v_cons (v_var (i := 2) rfl) rfl) rfl) rfl)) rfl (by rw [List.length_map]; exact hdraw)) rfl) ?_
        show (if 0 ≤ r ∧ (ms.map D.str).length ≤ big then (match (ms.map D.str)[r.toNat]? with
          | some y => some (y, (pool a1 b1 [.lst (ms.map D.str), .lst (fs.map D.str)]).set 1 (.lst ((ms.map D.str).eraseIdx r.toNat)))
          | none => none) else none) = _
        rw [if_pos ⟨r0, by rw [List.length_map]; unfold big; omega⟩, List.getElem?_map, List.getElem?_eq_getElem hr, map_erase]
        rfl
      have happ : mMet gAppend (mVar 3) (mCons (mMet gPopAt (mVar 2) (mCons (mCall 2 c_d_law_draw (mCons (mVar 0) (mCons (mCB gLen (mCons (mVar 2) mNil)) mNil))) mNil)) mNil) [some (.ref 0), some (.int (n : Int)), some (.ref 1), some (.ref 2), some (.int i)] (pool a b [.lst (ms.map D.str), .lst (fs.map D.str)]) =
          some (.ok .non, pool a1 b1 [.lst ((ms.eraseIdx r.toNat).map D.str), .lst ((fs ++ [ms[r.toNat]]).map D.str)]) := by
        refine v_met (v_var rfl) rfl (v_cons hpop rfl) ?_
        show (if (fs.map D.str).length < big ∧ isD (.str ms[r.toNat]) = true then some (D.non, (pool a1 b1 [.lst ((ms.eraseIdx r.toNat).map D.str), .lst (fs.map D.str)]).set 2 (.lst (fs.map D.str ++ [.str ms[r.toNat]]))) else none) = _
        rw [if_pos ⟨by rw [List.length_map]; unfold big; omega, rfl⟩, List.map_append]
        rfl
      refine ⟨_, _, _, rfl, v_drop happ, rfl, some (.int i), ms.eraseIdx r.toNat, fs ++ [ms[r.toNat]], a1, b1, rfl, rfl, rfl, by simp [hlen], ?_⟩
      refine List.Perm.trans ?_ hperm
      have h1 : (ms[r.toNat] :: ms.eraseIdx r.toNat).Perm ms := perm_erase hr
      have h2 : (ms.eraseIdx r.toNat ++ (fs ++ [ms[r.toNat]])).Perm ((ms[r.toNat] :: ms.eraseIdx r.toNat) ++ fs) := by
        rw [← List.append_assoc]
        exact (List.perm_append_singleton _ _)
      exact h2.trans (h1.append_right fs))
  have hin : (M.intsFrom 0 n).length = n := by simp [M.intsFrom]
  rw [hin, Nat.zero_add] at hlen
  refine ⟨fs, a', b', ?_, hlen, ?_, ?_⟩
  · have hm : m_d_law_people (startE 5 [.ref 0, .int (n : Int)]) (pool a b []) = some (.ret (.ref 2), [some (.ref 0), some (.int (n : Int)), some (.ref 1), some (.ref 2), s], pool a' b' [.lst (ms.map D.str), .lst (fs.map D.str)]) := by
      show m_d_law_people [some (.ref 0), some (.int (n : Int)), none, none, none] _ = _
      unfold m_d_law_people
      rw [v_seq (env1 := [some (.ref 0), some (.int (n : Int)), some (.ref 1), some (.ref 2), none]) (st1 := pool a b [.lst (menuS.map D.str), .lst ([].map D.str)]) (v_par (v_cons (v_new (st1 := pool a b []) (ds := menuS.map D.str) rfl ⟨len_big (n := 8) rfl, rfl⟩) (v_cons (v_new (st1 := pool a b [.lst (menuS.map D.str)]) (ds := []) rfl ⟨len_big (n := 0) rfl, rfl⟩) rfl)))]
      rw [v_seq (v_for (st1 := pool a b [.lst (menuS.map D.str), .lst ([].map D.str)]) (hrng _ _ rfl) hloop)]
      exact v_ret (v_var rfl)
    exact mkD_new hm rfl (pool_plain fun c hc => nomatch hc) (show 1 ≤ 2 by decide) rfl
  · exact (List.nodup_append.mp (hperm.nodup_iff.mpr menu_nodup)).2.1
  · exact fun p hp => hperm.subset (List.mem_append_right _ hp)
end Own


namespace Own
open PySem L2 M
/-! ### words -/
def letters : Str := "abcdefghijklmnopqrstuvwxyz"
def isWord (x : Str) : Bool := (decide ((1 : Int) ≤ x.length) && decide ((x.length : Int) ≤ 8)) && (charsD x).all fun d => match d with
  | .str ⟨⟨[c]⟩⟩ => decide (c ∈ letters.cps.toList)
  | _ => false
theorem gLen_str {x : Str} {st : Store} (h : x.length ≤ big) : gLen st [.str x] = some (.int x.length) := if_pos h
theorem word_str {x : Str} {st : Store} (hs : st.all (cellOk st.length) = true) (hx : x.length ≤ big) : c_is_word [.str x] st = some (.ok (.bl (isWord x)), st) := by
  have hlen : mCB gLen (mCons (mVar 0) mNil) [some (.str x), none] st = some (.ok (.int x.length), st) := v_cb (v_cons (v_var rfl) rfl) (gLen_str hx)
  have isi : mVal (mCB (gIsi []) (mCons (mVar 0) (mCons (mC (.ty .str)) mNil))) [some (.str x), none] st = some (.ok true, st) := rfl
  have btw := v_between (a := 1) (c := 8) hlen
  refine mkD_ret (env' := [some (.str x), none]) ?_ hs rfl
  show m_is_word [some (.str x), none] st = _
  unfold m_is_word
  cases hb : (decide ((1 : Int) ≤ x.length) && decide ((x.length : Int) ≤ 8)) with
  | false =>
    have e0 : isWord x = false := by
      unfold isWord
      rw [hb]
      rfl
    unfold mSeq
    rw [v_ifT (st1 := st) (by
      rw [v_orF (st1 := st) (v_not isi)]
      have h2 := v_not (v_val btw)
      rw [hb] at h2
      exact h2), e0]
    rfl
  | true =>
    rw [v_seq (env1 := [some (.str x), none]) (st1 := st) (by
      rw [v_ifF (st1 := st) (by
        rw [v_orF (st1 := st) (v_not isi)]
        have h2 := v_not (v_val btw)
        rw [hb] at h2
        exact h2)]
      rfl)]
    refine v_ret ?_
    have e0 : isWord x = (charsD x).all fun d => match d with
        | .str ⟨⟨[c]⟩⟩ => decide (c ∈ letters.cps.toList)
        | _ => false := by
      unfold isWord
      rw [hb, Bool.true_and]
    rw [e0]
    refine v_cb (v_cons (v_lc (ds := charsD x) (fun d => .bl (match d with
        | .str ⟨⟨[c]⟩⟩ => decide (c ∈ letters.cps.toList)
        | _ => false)) ?_ ?_ fun d hd => ?_) rfl) (gAll_map _ st _)
    · unfold mItStr
      rw [v_var rfl, bnd_ok]
    · unfold charsD
      rw [List.length_map, Array.length_toList]
      exact hx
    · obtain ⟨c, _, rfl⟩ := List.mem_map.mp hd
      exact ⟨v_op (v_var rfl) rfl rfl, rfl⟩
theorem word_other {d : D} {st : Store} (hs : st.all (cellOk st.length) = true) (h : d = .non ∨ (∃ i, d = .int i) ∨ ∃ xs, d = .lst xs) : c_is_word [d] st = some (.ok (.bl false), st) := by
  refine mkD_ret (env' := [some d, none]) ?_ hs rfl
  show m_is_word [some d, none] st = _
  unfold m_is_word mSeq
  rw [v_ifT (st1 := st) (by
    rw [v_orT (st1 := st)]
    rcases h with rfl | ⟨i, rfl⟩ | ⟨xs, rfl⟩ <;> rfl)]
  rfl
def wb : D → Bool
  | .str x => isWord x
  | _ => false
/-- a thing that may stand in a list of people here -/
def Th (d : D) : Prop := d = .non ∨ (∃ i, d = .int i) ∨ (∃ xs, d = .lst xs) ∨ ∃ x : Str, d = .str x ∧ x.length ≤ big
theorem word_ok {d : D} {st : Store} (hs : st.all (cellOk st.length) = true) (h : Th d) : c_is_word [d] st = some (.ok (.bl (wb d)), st) := by
  rcases h with rfl | ⟨i, rfl⟩ | ⟨xs, rfl⟩ | ⟨x, rfl, hx⟩
  · exact word_other hs (.inl rfl)
  · exact word_other hs (.inr (.inl ⟨_, rfl⟩))
  · exact word_other hs (.inr (.inr ⟨_, rfl⟩))
  · exact word_str hs hx
theorem wb_key {d : D} (h : wb d = true) : (keyD d).isSome = true := by
  cases d <;> first | rfl | cases h
/-! the store under Crowd(..) -/
theorem plain_all {st : Store} (hs : Plain st) : (st ++ [Cell.ins 2 []]).all (cellOk (st ++ [Cell.ins 2 []]).length) = true := hs.more _ _

theorem people_ok2 {x : D} {ds : List D} {st : Store} (hx : x = .lst ds ∨ x = .tup ds) (hs : st.all (cellOk st.length) = true) (hl : ds.length ≤ big) (h : ∀ d ∈ ds, Th d) : c_are_people [x] st = some (.ok (.bl (okPeople wb ds)), st) :=
  people_seq hx hs hl (fun d hd => word_ok hs (h d hd)) fun d _ h => wb_key h
theorem people_other {x : D} {st : Store} (hs : st.all (cellOk st.length) = true) (h : x = .non ∨ (∃ i, x = .int i) ∨ (∃ s, x = .str s) ∨ ∃ kvs, x = .dK kvs) : c_are_people [x] st = some (.ok (.bl false), st) := by
  refine mkD_ret (env' := [some x, none]) ?_ hs rfl
  show m_are_people [some x, none] st = _
  unfold m_are_people mSeq
  rw [v_ifT (st1 := st) (by
    rw [v_orT (st1 := st)]
    rcases h with rfl | ⟨i, rfl⟩ | ⟨s, rfl⟩ | ⟨kvs, rfl⟩ <;> rfl)]
  rfl
/-! ### counts -/
theorem count_int {n : Int} {st : Store} (hs : st.all (cellOk st.length) = true) : c_is_count [.int n, .int 1, .int 10] st = some (.ok (.bl (decide (1 ≤ n) && decide (n ≤ 10))), st) := by
  refine mkD_ret (env' := [some (.int n), some (.int 1), some (.int 10)]) ?_ hs rfl
  show m_is_count [some (.int n), some (.int 1), some (.int 10)] st = _
  unfold m_is_count
  refine v_ret ?_
  rw [v_andVT (st1 := st) (by rfl), v_andVT (st1 := st) (by rfl)]
  have h := v_between (mb := mVar 0) (env := [some (.int n), some (.int 1), some (.int 10)]) (st := st) (a := 1) (c := 10) (v_var rfl)
  exact h
theorem count_other {m : D} {st : Store} (hs : st.all (cellOk st.length) = true) (h : m = .non ∨ (∃ b, m = .bl b) ∨ (∃ s, m = .str s) ∨ ∃ xs, m = .lst xs) : c_is_count [m, .int 1, .int 10] st = some (.ok (.bl false), st) := by
  refine mkD_ret (env' := [some m, some (.int 1), some (.int 10)]) ?_ hs rfl
  show m_is_count [some m, some (.int 1), some (.int 10)] st = _
  unfold m_is_count
  refine v_ret ?_
  rcases h with rfl | ⟨b, rfl⟩ | ⟨s, rfl⟩ | ⟨xs, rfl⟩ <;> rfl
/-! ### told, as it is asked -/
abbrev badP : D := .lst [.str "people", .bl true]
abbrev badM : D := .lst [.str "most", .bl true]
theorem told_badP {x m : D} {st : Store} (hs : Plain st) (hp : c_are_people [x] (st ++ [.ins 2 []]) = some (.ok (.bl false), st ++ [.ins 2 []])) : c_d_law_told [x, m] st = some (.ok badP, st) := told_err hs (new_people hs hp)
theorem told_seqP {ds : List D} {m : D} {st : Store} (hs : Plain st) (hl : ds.length ≤ big) (h : ∀ d ∈ ds, Th d) (hn : okPeople wb ds = false) : c_d_law_told [.lst ds, m] st = some (.ok badP, st) :=
  told_badP hs (by rw [people_ok2 (.inl rfl) (hs.more _ _) hl h, hn])
theorem told_otherP {x m : D} {st : Store} (hs : Plain st) (h : x = .non ∨ (∃ i, x = .int i) ∨ (∃ s, x = .str s) ∨ ∃ kvs, x = .dK kvs) : c_d_law_told [x, m] st = some (.ok badP, st) :=
  told_badP hs (people_other (hs.more _ _) h)
theorem told_badM {x m : D} {ds : List D} {st : Store} (hs : Plain st) (hx : x = .lst ds ∨ x = .tup ds) (hl : ds.length ≤ big) (h : ∀ d ∈ ds, Th d) (hy : okPeople wb ds = true) (hm : c_is_count [m, .int 1, .int 10] (st ++ [.ins 2 []]) = some (.ok (.bl false), st ++ [.ins 2 []])) :
    c_d_law_told [x, m] st = some (.ok badM, st) := told_err hs (new_most hs (by rw [people_ok2 hx (hs.more _ _) hl h, hy]) hm)
theorem told_taken {x : D} {n : Int} {ds : List D} {st : Store} (hs : Plain st) (hx : x = .lst ds ∨ x = .tup ds) (hl : ds.length ≤ big) (h : ∀ d ∈ ds, ∃ s : Str, d = .str s ∧ s.length ≤ big) (hy : okPeople wb ds = true) (hn : 1 ≤ n ∧ n ≤ 10) :
    c_d_law_told [x, .int n] st = some (.ok (.str "taken"), st) := by
  obtain ⟨kvs, h1⟩ := new_ok (m := .int n) hs hx hl (fun d hd => let ⟨s, e, _⟩ := h d hd; ⟨s, e⟩) rfl (by rw [people_ok2 hx (hs.more _ _) hl fun d hd => let ⟨s, e, q⟩ := h d hd; .inr (.inr (.inr ⟨s, e, q⟩)), hy])
    (by rw [count_int (hs.more _ _), decide_eq_true hn.1, decide_eq_true hn.2]; rfl)
  exact told_ok hs rfl h1
/-! ### what is drawn is in order -/
theorem foldK_new {vf : D → D} {kf : D → Key} : ∀ (ds : List D) (kvs : List (Key × D)), (ds.map kf).Nodup → (∀ d ∈ ds, ∀ p ∈ kvs, p.1 ≠ kf d) → foldK kf vf ds kvs = kvs ++ ds.map fun d => (kf d, vf d)
  | [], kvs, _, _ => by
    rw [List.map_nil, List.append_nil]
    rfl
  | d :: ds, kvs, hn, hk => by
    rw [List.map_cons, List.nodup_cons] at hn
    have e : putKd kvs (kf d) (vf d) = kvs ++ [(kf d, vf d)] := by
      unfold putKd
      rw [if_neg]
      intro z
      obtain ⟨p, hp, hd⟩ := List.any_eq_true.mp z
      exact hk d List.mem_cons_self p hp (of_decide_eq_true hd)
    have h1 := foldK_new (vf := vf) ds (kvs ++ [(kf d, vf d)]) hn.2 fun x hx p hp => by
      rcases List.mem_append.mp hp with hp | hp
      · exact hk x (List.mem_cons_of_mem _ hx) p hp
      · rw [List.mem_singleton.mp hp]
        intro q
        exact hn.1 (by rw [show kf d = kf x from q]; exact List.mem_map_of_mem hx)
    show foldK kf vf ds (putKd kvs (kf d) (vf d)) = _
    rw [e, h1, List.map_cons, List.append_assoc]
    rfl
theorem foldK_append {kf : D → Key} {vf : D → D} (xs ys : List D) (kvs : List (Key × D)) : foldK kf vf (xs ++ ys) kvs = foldK kf vf ys (foldK kf vf xs kvs) := by
  unfold foldK
  rw [List.foldl_append]

theorem menu_words : ∀ p ∈ menuS, isWord p = true := List.all_eq_true.mp (show menuS.all isWord = true by decide +kernel)
theorem menu_short : ∀ p ∈ menuS, p.length ≤ 1000 := fun p hp => of_decide_eq_true (List.all_eq_true.mp (show (menuS.all fun p => decide (p.length ≤ 1000)) = true by decide +kernel) p hp)
abbrev kf0 : D → Key := fun d => (keyD d).getD (.inl 0)
abbrev vf0 : D → D := fun _ => .int 1
structure Good (ps : List Str) : Prop where
  len1 : 1 ≤ ps.length
  len8 : ps.length ≤ 7
  nd : ps.Nodup
  mem : ∀ p ∈ ps, p ∈ menuS
theorem Good.fold {ps : List Str} (g : Good ps) : foldK kf0 vf0 (ps.map D.str) [] = (ps.map D.str).map fun d => (kf0 d, vf0 d) := by
  have hn : ((ps.map D.str).map kf0).Nodup := by
    rw [List.map_map]
    exact List.Pairwise.map _ (fun a b hab e => hab (Sum.inr.inj e)) g.nd
  have h := foldK_new (kf := kf0) (vf := vf0) (ps.map D.str) [] hn fun d _ p hp => nomatch hp
  rw [h, List.nil_append]
theorem Good.th {ps : List Str} (g : Good ps) : ∀ d ∈ ps.map D.str, ∃ s : Str, d = .str s ∧ s.length ≤ big := fun d hd => by
  obtain ⟨p, hp, rfl⟩ := List.mem_map.mp hd
  exact ⟨p, rfl, Nat.le_trans (menu_short p (g.mem p hp)) (by unfold big; omega)⟩
theorem Good.words {ps : List Str} (g : Good ps) : (ps.map D.str).all wb = true := List.all_eq_true.mpr fun d hd => by
  obtain ⟨p, hp, rfl⟩ := List.mem_map.mp hd
  exact menu_words p (g.mem p hp)
theorem Good.yes {ps : List Str} (g : Good ps) : okPeople wb (ps.map D.str) = true := by
  have h1 := g.len1
  have h2 := g.len8
  unfold okPeople
  rw [g.words, g.fold, List.length_map, List.length_map, decide_eq_true h1, decide_eq_true (by omega : ps.length ≤ 8), decide_eq_true (by rw [List.length_map] : ((List.map D.str ps).length : Int) = ps.length)]
  rfl
theorem Good.big {ps : List Str} (g : Good ps) (xs : List D) (h : xs.length ≤ 10) : (ps.map D.str ++ xs).length ≤ big := by
  have := g.len8
  rw [List.length_append, List.length_map]
  unfold M.big
  omega
/-- one more that is no word -/
theorem Good.odd {ps : List Str} (g : Good ps) {d : D} (h : wb d = false) : okPeople wb (ps.map D.str ++ [d]) = false := by
  have e : (ps.map D.str ++ [d]).all wb = false := by
    rw [List.all_append]
    show (_ && (wb d && true)) = false
    rw [h, Bool.false_and, Bool.and_false]
  unfold okPeople
  rw [e, Bool.false_and, Bool.and_false]
/-- one twice -/
theorem Good.twice {p : Str} {ps : List Str} (g : Good (p :: ps)) : okPeople wb ((p :: ps).map D.str ++ [.str p]) = false := by
  have e : (foldK kf0 vf0 ((p :: ps).map D.str ++ [.str p]) []).length = (p :: ps).length := by
    rw [foldK_append, g.fold]
    show (putKd ((kf0 (.str p), vf0 (.str p)) :: (ps.map D.str).map fun d => (kf0 d, vf0 d)) (.inr p) (.int 1)).length = _
    unfold putKd
    rw [if_pos (by
      rw [List.any_cons, Bool.or_eq_true]; exact .inl (decide_eq_true rfl))]
    simp
  unfold okPeople
  rw [e, decide_eq_false (by simp; omega : ¬ (((p :: ps).length : Int) = (((p :: ps).map D.str ++ [D.str p]).length : Int))), Bool.and_false, Bool.and_false]
theorem Good.th1 {ps : List Str} (g : Good ps) {e : D} (h : Th e) : ∀ d ∈ ps.map D.str ++ [e], Th d := fun d hd => by
  rcases List.mem_append.mp hd with hd | hd
  · obtain ⟨s, rfl, hs⟩ := g.th d hd
    exact .inr (.inr (.inr ⟨s, rfl, hs⟩))
  · rw [List.mem_singleton.mp hd]
    exact h
end Own


namespace Own
open PySem L2 M
/-! ### the law -/
theorem v_ne {ma mb : ME} {env : En} {st st1 st2 : Store} {x y : D} (h1 : ma env st = some (.ok x, st1)) (h2 : mb env st1 = some (.ok y, st2)) (hx : okD 8 (rd st2 x) = true) (hy : okD 8 (rd st2 y) = true) {b : Bool} (he : (!eqvD (rd st2 x) (rd st2 y)) = b) : mVal (mOp gNe ma mb) env st = some (.ok b, st2) :=
  v_val (v_op h1 h2 (by unfold gNe; rw [if_pos ⟨hx, hy⟩, he]))
theorem v_same {ma mb : ME} {env : En} {st st1 st2 : Store} {x : D} (hx : x = badP ∨ x = badM ∨ x = .str "taken") (h1 : ma env st = some (.ok x, st1)) (h2 : mb env st1 = some (.ok x, st2)) : mVal (mOp gNe ma mb) env st = some (.ok false, st2) := by
  have k : ∀ y : D, rd st2 y = y → okD 8 y = true → (!eqvD y y) = false → x = y → mVal (mOp gNe ma mb) env st = some (.ok false, st2) := fun y e1 e2 e3 e4 => by
    subst e4
    exact v_ne h1 h2 (by rw [e1, e2]) (by rw [e1, e2]) (by rw [e1, e3])
  rcases hx with h | h | h
  · exact k _ rfl (by decide +kernel) (by decide +kernel) h
  · exact k _ rfl (by decide +kernel) (by decide +kernel) h
  · exact k _ rfl (by decide +kernel) (by decide +kernel) h
/-- the wrong ones -/
def wrongs (p : Str) (ps : List Str) : List D :=
  [.non, .int 5, .str "ann", .lst [], .tup [], .dK [], .dK (mergeD [] [(.inr "ann", .int 1)]), .lst ((p :: ps).map D.str ++ [.str p]), .lst ((p :: ps).map D.str ++ [.str "A"]), .lst ((p :: ps).map D.str ++ [.str "abcdefghi"])]
  ++ [.lst ((p :: ps).map D.str ++ [.str ""]), .lst ((p :: ps).map D.str ++ [.non]), .lst ((p :: ps).map D.str ++ [.int 5]), .lst ((p :: ps).map D.str ++ [.lst [.str "ann"]]), .lst ((p :: ps).map D.str ++ [.str "a b"])]
  ++ [.lst ((p :: ps).map D.str ++ [.str "a1"]), .lst [.str "a", .str "b", .str "c", .str "d", .str "e", .str "f", .str "g", .str "h", .str "i"]]
theorem short_str {x : Str} (h : x.length ≤ 1000) : x.length ≤ big := Nat.le_trans h (by unfold big; omega)
theorem wrong_told {p : Str} {ps : List Str} (g : Good (p :: ps)) {m : D} {st : Store} (hs : Plain st) : ∀ d ∈ wrongs p ps, c_d_law_told [d, m] st = some (.ok badP, st) := by
  have seq : ∀ {e : D}, Th e → wb e = false → c_d_law_told [.lst ((p :: ps).map D.str ++ [e]), m] st = some (.ok badP, st) := fun {e} h1 h2 =>
    told_seqP hs (g.big _ (show 1 ≤ 10 by decide)) (g.th1 h1) (g.odd h2)
  have str : ∀ {x : Str}, x.length ≤ 1000 → isWord x = false → c_d_law_told [.lst ((p :: ps).map D.str ++ [.str x]), m] st = some (.ok badP, st) := fun {x} h1 h2 =>
    seq (.inr (.inr (.inr ⟨x, rfl, short_str h1⟩))) h2
  intro d hd
  simp only [wrongs, List.mem_append, List.mem_cons, List.not_mem_nil, or_false] at hd
  rcases hd with ((h | h | h | h | h | h | h | h | h | h) | (h | h | h | h | h)) | (h | h) <;> subst h
  · exact told_otherP hs (.inl rfl)
  · exact told_otherP hs (.inr (.inl ⟨_, rfl⟩))
  · exact told_otherP hs (.inr (.inr (.inl ⟨_, rfl⟩)))
  · exact told_seqP hs (Nat.zero_le _) (fun _ h => nomatch h) rfl
  · exact told_badP hs (by rw [people_ok2 (ds := []) (.inr rfl) (hs.more _ _) (Nat.zero_le _) fun _ h => nomatch h]; rfl)
  · exact told_otherP hs (.inr (.inr (.inr ⟨_, rfl⟩)))
  · exact told_otherP hs (.inr (.inr (.inr ⟨_, rfl⟩)))
  · obtain ⟨s, e, hs2⟩ := g.th (.str p) List.mem_cons_self
    cases e
    exact told_seqP hs (g.big _ (show 1 ≤ 10 by decide)) (g.th1 (.inr (.inr (.inr ⟨p, rfl, hs2⟩)))) g.twice
  · exact str (by decide +kernel) (by decide +kernel)
  · exact str (by decide +kernel) (by decide +kernel)
  · exact str (by decide +kernel) (by decide +kernel)
  · exact seq (.inl rfl) rfl
  · exact seq (.inr (.inl ⟨_, rfl⟩)) rfl
  · exact seq (.inr (.inr (.inl ⟨_, rfl⟩))) rfl
  · exact str (by decide +kernel) (by decide +kernel)
  · exact str (by decide +kernel) (by decide +kernel)
  · refine told_seqP hs (len_big (n := 9) rfl) (fun d hd => ?_) rfl
    simp only [List.mem_cons, List.not_mem_nil, or_false] at hd
    rcases hd with h | h | h | h | h | h | h | h | h <;> subst h <;> exact .inr (.inr (.inr ⟨_, rfl, short_str (by decide +kernel)⟩))
/-- the odd numbers -/
def odds : List D := [.non, .int 0, .int 11, .int (-1), .bl true, .str "5", .lst [.int 5], .int (10 ^ (30 : Int).toNat)]
theorem odd_count : ∀ m ∈ odds, ∀ st : Store, st.all (cellOk st.length) = true → c_is_count [m, .int 1, .int 10] st = some (.ok (.bl false), st) := by
  intro m hm st hs
  simp only [odds, List.mem_cons, List.not_mem_nil, or_false] at hm
  rcases hm with h | h | h | h | h | h | h | h <;> subst h
  · exact count_other hs (.inl rfl)
  · exact count_int hs
  · exact count_int hs
  · exact count_int hs
  · exact count_other hs (.inr (.inl ⟨_, rfl⟩))
  · exact count_other hs (.inr (.inr (.inl ⟨_, rfl⟩)))
  · exact count_other hs (.inr (.inr (.inr ⟨_, rfl⟩)))
  · rw [count_int hs]
    have e : (decide (1 ≤ (10 : Int) ^ (30 : Int).toNat) && decide ((10 : Int) ^ (30 : Int).toNat ≤ 10)) = false := by decide
    rw [e]

theorem plain1 (a b : Int) : Plain (pool a b []) := pool_plain fun c hc => nomatch hc
/-- a loop over a list, each turn of which leaves all as it was -/
theorem for_same {n i : Nat} {body : MS} {env0 : En} {st : Store} (hst : st.take n = st) (hok : st.all (cellOk n) = true) (htr : trimE n env0 = env0) :
    ∀ (ds : List D) (o : Option D), (∀ d ∈ ds, isD d = true ∧ body (env0.set i (some d)) st = some (.next, env0.set i (some d), st)) → ∃ o', forD n (.nm i) body ds (env0.set i o) st = some (.next, env0.set i o', st)
  | [], o, _ => ⟨o, rfl⟩
  | d :: ds, o, hb => by
    obtain ⟨hd, hbd⟩ := hb d List.mem_cons_self
    have e1 : setT (.nm i) d (env0.set i o) = some (env0.set i (some d)) := by
      show some ((env0.set i o).set i (some d)) = _
      rw [List.set_set]
    have e2 : trimE n (env0.set i (some d)) = env0.set i (some d) := by
      unfold trimE
      rw [List.map_set]
      show (trimE n env0).set i _ = _
      rw [htr]
      cases d <;> first | rfl | cases hd
    obtain ⟨o', h1⟩ := for_same hst hok htr ds (some d) fun d hd => hb d (List.mem_cons_of_mem _ hd)
    refine ⟨o', ?_⟩
    unfold forD
    rw [e1]
    dsimp only
    rw [hbd]
    dsimp only
    rw [hst, if_pos hok, e2, h1]
theorem v_addL {ma mb : ME} {env : En} {st st1 st2 : Store} {xs ys : List D} (h1 : ma env st = some (.ok (.lst xs), st1)) (h2 : mb env st1 = some (.ok (.lst ys), st2)) (hl : xs.length + ys.length ≤ big) : mOp gAdd ma mb env st = some (.ok (.lst (xs ++ ys)), st2) :=
  v_op h1 h2 (if_pos hl)
theorem v_l1 {m : ME} {env : En} {st st1 : Store} {d : D} (h : m env st = some (.ok d, st1)) (hd : isD d = true) : mLst (mCons m mNil) env st = some (.ok (.lst [d]), st1) :=
  v_lst (v_cons h rfl) ⟨len_big (n := 1) rfl, by rw [List.all_cons, hd]; rfl⟩
theorem v_tup {mas : MA} {env : En} {st st1 : Store} {ds : List D} (h : mas env st = some (.ok ds, st1)) (hk : ds.length ≤ big ∧ ds.all isD = true) : mTup mas env st = some (.ok (.tup ds), st1) := by
  unfold mTup; rw [h, bnd_ok, if_pos hk]
theorem v_tuple {m : ME} {env : En} {st st1 : Store} {ds : List D} (h : m env st = some (.ok (.lst ds), st1)) : mCB gTuple (mCons m mNil) env st = some (.ok (.tup ds), st1) := v_cb (v_cons h rfl) rfl
theorem v_draw1 {a b : Int} {env : En} {n : Int} (he : env[2]? = some (some (.ref 0))) (h0 : 0 < n) (h1 : n < 1073741824) : ∃ r a' b', mOp gAdd (mC (.int 1)) (mCall 2 c_d_law_draw (mCons (mVar 2) (mCons (mC (.int n)) mNil))) env (pool a b []) = some (.ok (.int (1 + r)), pool a' b' []) ∧ 0 ≤ r ∧ r < n := by
  obtain ⟨r, a', b', h, h2, h3⟩ := draw_ok (a := a) (b := b) (many := n) (rest := []) (fun c hc => nomatch hc) h0 h1
  exact ⟨r, a', b', v_op rfl (v_call (n := 2) (v_cons (v_var he) (v_cons (ma := mC (.int n)) rfl (mas := mNil) rfl)) rfl h) rfl, h2, h3⟩
section
variable {sc k : D} {p : Str} {ps : List Str} {m : Int} {a b : Int} {o5 o6 o : Option D}
theorem add3 (g : Good (p :: ps)) {ml : ME} {env : En} {d : D} (he : env[3]? = some (some (.lst ((p :: ps).map D.str)))) (h : ml env (pool a b []) = some (.ok (.lst [d]), pool a b [])) : mOp gAdd (mVar 3) ml env (pool a b []) = some (.ok (.lst ((p :: ps).map D.str ++ [d])), pool a b []) :=
  v_addL (v_var he) h (by
    have := g.len8
    rw [List.length_map]
    show (p :: ps).length + 1 ≤ big
    unfold big
    omega)
theorem odd_turn (g : Good (p :: ps)) {w : Option D} : ∀ d ∈ odds, isD d = true ∧ m_law_f0 ([some sc, some k, some (.ref 0), some (.lst ((p :: ps).map D.str)), some (.int m), w, o].set 6 (some d)) (pool a b []) = some (.next, [some sc, some k, some (.ref 0), some (.lst ((p :: ps).map D.str)), some (.int m), w, o].set 6 (some d), pool a b []) := by
  intro d hd
  have hp : ∀ {x : D}, x = .lst ((p :: ps).map D.str) ∨ x = .tup ((p :: ps).map D.str) → c_d_law_told [x, d] (pool a b []) = some (.ok badM, pool a b []) := fun {x} hx =>
    told_badM (plain1 a b) hx (by have := g.big [] (by decide); simpa using this) (fun e he => let ⟨s, q, z⟩ := g.th e he; .inr (.inr (.inr ⟨s, q, z⟩))) g.yes (odd_count d hd _ ((plain1 a b).more _ _))
  have hd2 : isD d = true := by
    simp only [odds, List.mem_cons, List.not_mem_nil, or_false] at hd
    rcases hd with h | h | h | h | h | h | h | h <;> subst h <;> rfl
  refine ⟨hd2, ?_⟩
  show m_law_f0 [some sc, some k, some (.ref 0), some (.lst ((p :: ps).map D.str)), some (.int m), w, some d] (pool a b []) = _
  unfold m_law_f0
  have hbad : ∀ env, mLst (mCons (mC (.str "most")) (mCons (mC (.bl true)) mNil)) env (pool a b []) = some (.ok badM, pool a b []) := fun env => v_lst (v_cons rfl (v_cons rfl rfl)) ⟨len_big (n := 2) rfl, rfl⟩
  have h1 := v_same (ma := mCall 2 c_d_law_told (mCons (mVar 3) (mCons (mVar 6) mNil))) (.inr (.inl rfl)) (v_call (n := 2) (v_cons (v_var (i := 3) rfl) (v_cons (v_var (i := 6) rfl) (mas := mNil) rfl)) rfl (hp (.inl rfl))) (hbad [some sc, some k, some (.ref 0), some (.lst ((p :: ps).map D.str)), some (.int m), w, some d])
  have h2 := v_same (ma := mCall 2 c_d_law_told (mCons (mCB gTuple (mCons (mVar 3) mNil)) (mCons (mVar 6) mNil))) (.inr (.inl rfl)) (v_call (n := 2) (v_cons (v_tuple (v_var (i := 3) rfl)) (v_cons (v_var (i := 6) rfl) (mas := mNil) rfl)) rfl (hp (.inr rfl))) (hbad [some sc, some k, some (.ref 0), some (.lst ((p :: ps).map D.str)), some (.int m), w, some d])
  rw [v_ifF (st1 := pool a b []) (by rw [v_orF h1]; exact h2)]
  rfl
theorem wrong_turn (g : Good (p :: ps)) {w : Option D} : ∀ d ∈ wrongs p ps, isD d = true ∧ m_law_f1 ([some sc, some k, some (.ref 0), some (.lst ((p :: ps).map D.str)), some (.int m), w, o].set 6 (some d)) (pool a b []) = some (.next, [some sc, some k, some (.ref 0), some (.lst ((p :: ps).map D.str)), some (.int m), w, o].set 6 (some d), pool a b []) := by
  intro d hd
  have hp : ∀ m : D, c_d_law_told [d, m] (pool a b []) = some (.ok badP, pool a b []) := fun m => wrong_told g (plain1 a b) d hd
  have hd2 : isD d = true := by
    simp only [wrongs, List.mem_append, List.mem_cons, List.not_mem_nil, or_false] at hd
    rcases hd with ((h | h | h | h | h | h | h | h | h | h) | (h | h | h | h | h)) | (h | h) <;> subst h <;> rfl
  refine ⟨hd2, ?_⟩
  show m_law_f1 [some sc, some k, some (.ref 0), some (.lst ((p :: ps).map D.str)), some (.int m), w, some d] (pool a b []) = _
  unfold m_law_f1
  have hbad : ∀ env, mLst (mCons (mC (.str "people")) (mCons (mC (.bl true)) mNil)) env (pool a b []) = some (.ok badP, pool a b []) := fun env => v_lst (v_cons rfl (v_cons rfl rfl)) ⟨len_big (n := 2) rfl, rfl⟩
  have h1 := v_same (ma := mCall 2 c_d_law_told (mCons (mVar 6) (mCons (mVar 4) mNil))) (.inl rfl) (v_call (n := 2) (v_cons (v_var (i := 6) rfl) (v_cons (v_var (i := 4) rfl) (mas := mNil) rfl)) rfl (hp (.int m))) (hbad [some sc, some k, some (.ref 0), some (.lst ((p :: ps).map D.str)), some (.int m), w, some d])
  have h2 := v_same (ma := mCall 2 c_d_law_told (mCons (mVar 6) (mCons (mC (.int 0)) mNil))) (.inl rfl) (v_call (n := 2) (v_cons (v_var (i := 6) rfl) (v_cons (ma := mC (.int 0)) rfl (mas := mNil) rfl)) rfl (hp (.int 0))) (hbad [some sc, some k, some (.ref 0), some (.lst ((p :: ps).map D.str)), some (.int m), w, some d])
  rw [v_ifF (st1 := pool a b []) (by rw [v_orF h1]; exact h2)]
  rfl
theorem wrong_list (g : Good (p :: ps)) {x5 x6 : Option D} :
    (mAsg (mLst (mCons (mC .non) (mCons (mC (.int 5)) (mCons (mC (.str "ann")) (mCons (mLst mNil) (mCons (mTup mNil) (mCons mDNil (mCons (mDisp2 [((mC (.str "ann")), (mC (.int 1)))]) (mCons (mOp gAdd (mVar 3) (mSl (mVar 3) moNone (moSome (mC (.int 1))))) (mCons (mOp gAdd (mVar 3) (mLst (mCons (mC (.str "A")) mNil))) (mCons (mOp gAdd (mVar 3) (mLst (mCons (mC (.str "abcdefghi")) mNil))) mNil))))))))))) (.nm 5)) [some sc, some k, some (.ref 0), some (.lst ((p :: ps).map D.str)), some (.int m), x5, x6] (pool a b []) =
      some (.next, [some sc, some k, some (.ref 0), some (.lst ((p :: ps).map D.str)), some (.int m), some (.lst ((wrongs p ps).take 10)), x6], pool a b []) := by
  refine v_asg (v_lst (ds := (wrongs p ps).take 10) (v_cons rfl (v_cons rfl (v_cons rfl (v_cons (v_lst (ds := []) rfl ⟨len_big (n := 0) rfl, rfl⟩) (v_cons (v_tup (ds := []) rfl ⟨len_big (n := 0) rfl, rfl⟩) (v_cons rfl (v_cons rfl (v_cons (add3 g rfl ?_) (v_cons (add3 g rfl (v_l1 rfl rfl)) (v_cons (add3 g rfl (v_l1 rfl rfl)) rfl)))))))))) ⟨len_big (n := 10) rfl, rfl⟩)
  rfl
theorem wrong_list2 (g : Good (p :: ps)) {x6 : Option D} :
    (mAsg (mOp gAdd (mVar 5) (mLst (mCons (mOp gAdd (mVar 3) (mLst (mCons (mC (.str "")) mNil))) (mCons (mOp gAdd (mVar 3) (mLst (mCons (mC .non) mNil))) (mCons (mOp gAdd (mVar 3) (mLst (mCons (mC (.int 5)) mNil))) (mCons (mOp gAdd (mVar 3) (mLst (mCons (mLst (mCons (mC (.str "ann")) mNil)) mNil))) (mCons (mOp gAdd (mVar 3) (mLst (mCons (mC (.str "a b")) mNil))) mNil))))))) (.nm 5)) [some sc, some k, some (.ref 0), some (.lst ((p :: ps).map D.str)), some (.int m), some (.lst ((wrongs p ps).take 10)), x6] (pool a b []) =
      some (.next, [some sc, some k, some (.ref 0), some (.lst ((p :: ps).map D.str)), some (.int m), some (.lst ((wrongs p ps).take 15)), x6], pool a b []) :=
  v_asg (v_addL (xs := (wrongs p ps).take 10) (ys := ((wrongs p ps).drop 10).take 5) (v_var rfl) (v_lst (v_cons (add3 g rfl (v_l1 rfl rfl)) (v_cons (add3 g rfl (v_l1 rfl rfl)) (v_cons (add3 g rfl (v_l1 rfl rfl)) (v_cons (add3 g rfl (v_l1 (v_l1 rfl rfl) rfl)) (v_cons (add3 g rfl (v_l1 rfl rfl)) rfl))))) ⟨len_big (n := 5) rfl, rfl⟩) (show 10 + 5 ≤ big by unfold big; omega))
theorem wrong_list3 (g : Good (p :: ps)) {x6 : Option D} :
    (mAsg (mOp gAdd (mVar 5) (mLst (mCons (mOp gAdd (mVar 3) (mLst (mCons (mC (.str "a1")) mNil))) (mCons (mLst (mCons (mC (.str "a")) (mCons (mC (.str "b")) (mCons (mC (.str "c")) (mCons (mC (.str "d")) (mCons (mC (.str "e")) (mCons (mC (.str "f")) (mCons (mC (.str "g")) (mCons (mC (.str "h")) (mCons (mC (.str "i")) mNil)))))))))) mNil)))) (.nm 5)) [some sc, some k, some (.ref 0), some (.lst ((p :: ps).map D.str)), some (.int m), some (.lst ((wrongs p ps).take 15)), x6] (pool a b []) =
      some (.next, [some sc, some k, some (.ref 0), some (.lst ((p :: ps).map D.str)), some (.int m), some (.lst (wrongs p ps)), x6], pool a b []) :=
  v_asg (v_addL (xs := (wrongs p ps).take 15) (ys := (wrongs p ps).drop 15) (v_var rfl) (v_lst (v_cons (add3 g rfl (v_l1 rfl rfl)) (v_cons (v_lst (ds := [.str "a", .str "b", .str "c", .str "d", .str "e", .str "f", .str "g", .str "h", .str "i"]) rfl ⟨len_big (n := 9) rfl, rfl⟩) rfl)) ⟨len_big (n := 2) rfl, rfl⟩) (show 15 + 2 ≤ big by unfold big; omega))
theorem odd_list {env : En} {st : Store} : (mLst (mCons (mC .non) (mCons (mC (.int 0)) (mCons (mC (.int 11)) (mCons (mUn gNeg (mC (.int 1))) (mCons (mC (.bl true)) (mCons (mC (.str "5")) (mCons (mLst (mCons (mC (.int 5)) mNil)) (mCons (mOp gPow (mC (.int 10)) (mC (.int 30))) mNil))))))))) env st = some (.ok (.lst odds), st) :=
  v_lst (v_cons rfl (v_cons rfl (v_cons rfl (v_cons rfl (v_cons rfl (v_cons rfl (v_cons (v_l1 rfl rfl) (v_cons (v_pow rfl rfl ⟨by decide, by decide, by decide⟩) rfl)))))))) ⟨len_big (n := 8) rfl, rfl⟩
end
theorem turn_ok (ns : List Int) (k : Nat) (hk : k < 100) (o2 o3 o4 o5 o6 : Option D) : ∃ x2 x3 x4 x5 x6 a b,
    m_law_f2 [some (.ro (ns.map D.int)), some (.int (k : Int)), o2, o3, o4, o5, o6] [] = some (.next, [some (.ro (ns.map D.int)), some (.int (k : Int)), x2, x3, x4, x5, x6], pool a b []) := by
  obtain ⟨a, b, h⟩ := opened_ok (ns := ns) (k := k) (st := []) hk
  obtain ⟨r, a1, b1, hr, r0, r1⟩ := v_draw1 (a := a) (b := b) (env := [some (.ro (ns.map D.int)), some (.int (k : Int)), some (.ref 0), o3, o4, o5, o6]) (n := 7) rfl (by decide) (by decide)
  have hrn : ((r.toNat + 1 : Nat) : Int) = 1 + r := by omega
  obtain ⟨qs, a2, b2, hq, ql, qn, qm⟩ := people_ok (a := a1) (b := b1) (n := r.toNat + 1) (by omega)
  rw [hrn] at hq
  obtain ⟨m, a3, b3, hm, m0, m1⟩ := v_draw1 (a := a2) (b := b2) (env := [some (.ro (ns.map D.int)), some (.int (k : Int)), some (.ref 0), o3, o4, o5, o6]) (n := 10) rfl (by decide) (by decide)
  have g0 : Good qs := ⟨by omega, by omega, qn, qm⟩
  obtain ⟨p, ps, rfl⟩ : ∃ p ps, qs = p :: ps := by
    cases qs with
    | nil => simp at ql
    | cons p ps => exact ⟨p, ps, rfl⟩
  have hpar : mPar 3 4 (mCons (mCall 2 c_d_law_people (mCons (mVar 2) (mCons (mOp gAdd (mC (.int 1)) (mCall 2 c_d_law_draw (mCons (mVar 2) (mCons (mC (.int 7)) mNil)))) mNil))) (mCons (mOp gAdd (mC (.int 1)) (mCall 2 c_d_law_draw (mCons (mVar 2) (mCons (mC (.int 10)) mNil)))) mNil)) [some (.ro (ns.map D.int)), some (.int (k : Int)), some (.ref 0), o3, o4, o5, o6] (pool a b []) =
      some (.next, [some (.ro (ns.map D.int)), some (.int (k : Int)), some (.ref 0), some (.lst ((p :: ps).map D.str)), some (.int (1 + m)), o5, o6], pool a3 b3 []) :=
    v_par (v_cons (v_call (n := 2) (v_cons (v_var (i := 2) rfl) (v_cons hr (mas := mNil) rfl)) rfl hq) (v_cons hm rfl))
  let E : En := [some (.ro (ns.map D.int)), some (.int (k : Int)), some (.ref 0), some (.lst ((p :: ps).map D.str)), some (.int (1 + m)), some (.lst (wrongs p ps)), none]
  obtain ⟨y1, hy1⟩ := for_same (n := 1) (i := 6) (body := m_law_f1) (env0 := E) (st := pool a3 b3 []) rfl rfl rfl (wrongs p ps) o6 (wrong_turn g0)
  obtain ⟨y2, hy2⟩ := for_same (n := 1) (i := 6) (body := m_law_f0) (env0 := E) (st := pool a3 b3 []) rfl rfl rfl odds y1 (odd_turn g0)
  refine ⟨some (.ref 0), some (.lst ((p :: ps).map D.str)), some (.int (1 + m)), some (.lst (wrongs p ps)), y2, a3, b3, ?_⟩
  unfold m_law_f2
  rw [v_seq (env1 := [some (.ro (ns.map D.int)), some (.int (k : Int)), some (.ref 0), o3, o4, o5, o6]) (st1 := pool a b []) (v_asg (v_call (n := 2) (v_cons (v_var (i := 0) rfl) (v_cons (v_var (i := 1) rfl) (mas := mNil) rfl)) rfl h))]
  rw [v_seq (env1 := [some (.ro (ns.map D.int)), some (.int (k : Int)), some (.ref 0), some (.lst ((p :: ps).map D.str)), some (.int (1 + m)), o5, o6]) (st1 := pool a3 b3 []) hpar]
  rw [v_seq (wrong_list g0), v_seq (wrong_list2 g0), v_seq (wrong_list3 g0)]
  rw [v_seq (env := [some (.ro (ns.map D.int)), some (.int (k : Int)), some (.ref 0), some (.lst ((p :: ps).map D.str)), some (.int (1 + m)), some (.lst (wrongs p ps)), o6]) (env1 := [some (.ro (ns.map D.int)), some (.int (k : Int)), some (.ref 0), some (.lst ((p :: ps).map D.str)), some (.int (1 + m)), some (.lst (wrongs p ps)), y1]) (st1 := pool a3 b3 []) (v_for (st1 := pool a3 b3 []) (ds := wrongs p ps) (by unfold mItL; rw [v_var rfl, bnd_ok]) hy1)]
  rw [v_seq (env := [some (.ro (ns.map D.int)), some (.int (k : Int)), some (.ref 0), some (.lst ((p :: ps).map D.str)), some (.int (1 + m)), some (.lst (wrongs p ps)), y1]) (env1 := [some (.ro (ns.map D.int)), some (.int (k : Int)), some (.ref 0), some (.lst ((p :: ps).map D.str)), some (.int (1 + m)), some (.lst (wrongs p ps)), y2]) (st1 := pool a3 b3 []) (v_for (st1 := pool a3 b3 []) (ds := odds) (by unfold mItL; rw [odd_list, bnd_ok]) hy2)]
  have ht := told_taken (x := .tup ((p :: ps).map D.str)) (n := 1 + m) (st := pool a3 b3 []) (plain1 a3 b3) (.inr rfl) (by have := g0.big [] (by decide); simpa using this) g0.th g0.yes ⟨by omega, by omega⟩
  rw [v_ifF (st1 := pool a3 b3 []) (v_same (x := .str "taken") (.inr (.inr rfl)) (v_call (n := 2) (v_cons (v_tuple (v_var (i := 3) rfl)) (v_cons (v_var (i := 4) rfl) (mas := mNil) rfl)) rfl ht) rfl)]
  rfl
theorem first_ok (sc : D) (o1 o2 o3 o4 o5 o6 : Option D) : (mIfS (mVal (mOp gNe (mCall 2 c_d_law_told (mCons (mLst (mCons (mC (.str "abcdefgh")) (mCons (mC (.str "a")) (mCons (mC (.str "z")) (mCons (mC (.str "bb")) (mCons (mC (.str "cc")) (mCons (mC (.str "dd")) (mCons (mC (.str "ee")) (mCons (mC (.str "ff")) mNil))))))))) (mCons (mC (.int 10)) mNil))) (mC (.str "taken")))) (mRet (mC (.bl false))) mNext) [some sc, o1, o2, o3, o4, o5, o6] [] = some (.next, [some sc, o1, o2, o3, o4, o5, o6], []) := by
  have hw : ∀ d ∈ ([.str "abcdefgh", .str "a", .str "z", .str "bb", .str "cc", .str "dd", .str "ee", .str "ff"] : List D), ∃ s : Str, d = .str s ∧ s.length ≤ big := fun d hd => by
    simp only [List.mem_cons, List.not_mem_nil, or_false] at hd
    rcases hd with h | h | h | h | h | h | h | h <;> subst h <;> exact ⟨_, rfl, short_str (by decide +kernel)⟩
  have ht := told_taken (x := .lst [.str "abcdefgh", .str "a", .str "z", .str "bb", .str "cc", .str "dd", .str "ee", .str "ff"]) (n := 10) (st := []) (fun c hc => nomatch hc) (.inl rfl) (len_big (n := 8) rfl) hw (by decide +kernel) ⟨by decide, by decide⟩
  rw [v_ifF (st1 := []) (v_same (x := .str "taken") (.inr (.inr rfl)) (v_call (n := 2) (v_cons (v_lst (ds := [.str "abcdefgh", .str "a", .str "z", .str "bb", .str "cc", .str "dd", .str "ee", .str "ff"]) rfl ⟨len_big (n := 8) rfl, rfl⟩) (v_cons (ma := mC (.int 10)) rfl (mas := mNil) rfl)) rfl ht) rfl)]
  rfl
theorem law_true (ns : List Int) (h : ns.length ≤ 63) : ∃ st, c_law [.ro (ns.map D.int)] [] = some (.ok (.bl true), st) := by
  let sc : D := .ro (ns.map D.int)
  obtain ⟨n, hn, hn4⟩ : ∃ n : Nat, (∀ env : En, env[0]? = some (some sc) → mRng1 (mCons (mCB gMax2 (mCons (mC (.int 1)) (mCons (mCB gMin2 (mCons (mCB gLen (mCons (mVar 0) mNil)) (mCons (mC (.int 4)) mNil))) mNil))) mNil) env [] = some (.ok (M.intsFrom 0 n), [])) ∧ n ≤ 4 := by
    let x : Int := if (4 : Int) < ((ns.map D.int).length : Int) then 4 else ((ns.map D.int).length : Int)
    let y : Int := if x > 1 then x else 1
    have hx : 0 ≤ x ∧ x ≤ 4 := by
      show 0 ≤ (if (4 : Int) < ((ns.map D.int).length : Int) then 4 else ((ns.map D.int).length : Int)) ∧ (if (4 : Int) < ((ns.map D.int).length : Int) then 4 else ((ns.map D.int).length : Int)) ≤ 4
      split <;> omega
    have hy : 1 ≤ y ∧ y ≤ 4 := by
      show 1 ≤ (if x > 1 then x else 1) ∧ (if x > 1 then x else 1) ≤ 4
      split <;> omega
    refine ⟨y.toNat, fun env he => ?_, by omega⟩
    unfold mRng1
    rw [v_cons (d := .int y) (v_cb (v_cons rfl (v_cons (v_cb (v_cons (v_cb (v_cons (v_var he) rfl) rfl) (v_cons rfl rfl)) rfl) rfl)) rfl) rfl, bnd_ok]
    dsimp only
    rw [if_pos ⟨by omega, by omega⟩]
  let I : Nat → En → Store → Prop := fun _ env st => (∃ o1 o2 o3 o4 o5 o6, env = [some sc, o1, o2, o3, o4, o5, o6]) ∧ st = []
  obtain ⟨env', st', hloop, ⟨o1, o2, o3, o4, o5, o6, rfl⟩, rfl⟩ := forD_inv (n := 0) (t := .nm 1) (body := m_law_f2) I (M.intsFrom 0 n) 0 [some sc, none, none, none, none, none, none] [] ⟨⟨_, _, _, _, _, _, rfl⟩, rfl⟩ (by
    rintro j d env st hd ⟨⟨o1, o2, o3, o4, o5, o6, rfl⟩, rfl⟩
    have hj : j < n := by
      have := (List.getElem?_eq_some_iff.mp hd).1
      simpa [M.intsFrom] using this
    obtain rfl : d = .int (j : Int) := by
      unfold M.intsFrom at hd
      rw [List.getElem?_map, List.getElem?_eq_getElem (by simpa using hj)] at hd
      simp at hd
      exact hd.symm
    obtain ⟨x2, x3, x4, x5, x6, a, b, ht⟩ := turn_ok ns j (by omega) o2 o3 o4 o5 o6
    exact ⟨_, _, _, rfl, ht, rfl, ⟨_, _, _, _, _, _, rfl⟩, rfl⟩)
  refine ⟨[], mkD_ret (env' := [some sc, o1, o2, o3, o4, o5, o6]) ?_ rfl rfl⟩
  show m_law [some sc, none, none, none, none, none, none] [] = _
  unfold m_law
  rw [v_seq (first_ok sc none none none none none none)]
  rw [v_seq (v_for (st1 := []) (hn _ rfl) hloop)]
  rfl
theorem law_ok {P : Program} {w : World} {K : PySem.W.Frag} {mg : Str → Option Value} {base : Heap} {B : Gb} {k : Nat} {f : Addr} {fd : FuncData} {ps : List Str} (hB : B.K = K) (F : FnOk P w K mg base (L2.CX P w) k f fd ps (spM B c_law 1)) : FnOk P w K mg base (L2.CX P w) k f fd ps (spLaw K) := law_okM hB law_true F
end Own


namespace Own
open PySem PySem.Spec PyProof.Rows L2 M
/-! ### facts -/
structure Ad where
  t_LETTERS : Tok
  t_MOST_SIGNS : Tok
  t_MOST_PEOPLE : Tok
  t_MOST_MARK : Tok
  C0 : Addr
  C1 : Addr
  C2 : Addr
  f_is_word : Addr
  fd_is_word : FuncData
  f_are_people : Addr
  fd_are_people : FuncData
  f_BadCrowd_new : Addr
  fd_BadCrowd_new : FuncData
  f_is_count : Addr
  fd_is_count : FuncData
  f_Crowd_new : Addr
  fd_Crowd_new : FuncData
  f_d_law_told : Addr
  fd_d_law_told : FuncData
  f_d_law_opened : Addr
  fd_d_law_opened : FuncData
  f_d_law_draw : Addr
  fd_d_law_draw : FuncData
  f_d_law_people : Addr
  fd_d_law_people : FuncData
  f_law : Addr
  fd_law : FuncData
def cAof (A : Ad) : Nat → Addr
  | 0 => A.C0
  | 1 => A.C1
  | 2 => A.C2
  | _ => 0
def gb (K : PySem.W.Frag) (A : Ad) : Gb := ⟨K, cAof A⟩
structure Txt (P : Program) (w : World) (K : PySem.W.Frag) (mg : Str → Option Value) (base : Heap) (A : Ad) : Prop where
  n_all : mg "all" = none
  n_len : mg "len" = none
  n_str : mg "str" = none
  n_isinstance : mg "isinstance" = none
  n_tuple : mg "tuple" = none
  n_list : mg "list" = none
  n_bool : mg "bool" = none
  n_int : mg "int" = none
  n_enumerate : mg "enumerate" = none
  n_max : mg "max" = none
  n_range : mg "range" = none
  n_min : mg "min" = none
  g_LETTERS : mg "LETTERS" = some (.str "abcdefghijklmnopqrstuvwxyz" A.t_LETTERS)
  g_MOST_SIGNS : mg "MOST_SIGNS" = some (.int 8 A.t_MOST_SIGNS)
  g_MOST_PEOPLE : mg "MOST_PEOPLE" = some (.int 8 A.t_MOST_PEOPLE)
  g_MOST_MARK : mg "MOST_MARK" = some (.int 10 A.t_MOST_MARK)
  g_MarksError : mg "MarksError" = some (.ref A.C0)
  g_BadCrowd : mg "BadCrowd" = some (.ref A.C1)
  g_Crowd : mg "Crowd" = some (.ref A.C2)
  F_is_word : Fun K "is_word" "is_word" s_is_word A.f_is_word A.fd_is_word
  b_is_word : Binds K A.fd_is_word ps_is_word []
  k_is_word : PySem.W.keepIn K (.ref A.f_is_word) = true
  g_is_word : mg "is_word" = some (.ref A.f_is_word)
  F_are_people : Fun K "are_people" "are_people" s_are_people A.f_are_people A.fd_are_people
  b_are_people : Binds K A.fd_are_people ps_are_people []
  k_are_people : PySem.W.keepIn K (.ref A.f_are_people) = true
  g_are_people : mg "are_people" = some (.ref A.f_are_people)
  F_BadCrowd_new : Fun K "__init__" "BadCrowd.__init__" s_BadCrowd_new A.f_BadCrowd_new A.fd_BadCrowd_new
  b_BadCrowd_new : Binds K A.fd_BadCrowd_new ps_BadCrowd_new []
  k_BadCrowd_new : PySem.W.keepIn K (.ref A.f_BadCrowd_new) = true
  F_is_count : Fun K "is_count" "is_count" s_is_count A.f_is_count A.fd_is_count
  b_is_count : Binds K A.fd_is_count ps_is_count []
  k_is_count : PySem.W.keepIn K (.ref A.f_is_count) = true
  g_is_count : mg "is_count" = some (.ref A.f_is_count)
  F_Crowd_new : Fun K "__init__" "Crowd.__init__" s_Crowd_new A.f_Crowd_new A.fd_Crowd_new
  b_Crowd_new : Binds K A.fd_Crowd_new ps_Crowd_new []
  k_Crowd_new : PySem.W.keepIn K (.ref A.f_Crowd_new) = true
  F_d_law_told : Fun K "_law_told" "_law_told" s_d_law_told A.f_d_law_told A.fd_d_law_told
  b_d_law_told : Binds K A.fd_d_law_told ps_d_law_told []
  k_d_law_told : PySem.W.keepIn K (.ref A.f_d_law_told) = true
  g_d_law_told : mg "_law_told" = some (.ref A.f_d_law_told)
  F_d_law_opened : Fun K "_law_opened" "_law_opened" s_d_law_opened A.f_d_law_opened A.fd_d_law_opened
  b_d_law_opened : Binds K A.fd_d_law_opened ps_d_law_opened []
  k_d_law_opened : PySem.W.keepIn K (.ref A.f_d_law_opened) = true
  g_d_law_opened : mg "_law_opened" = some (.ref A.f_d_law_opened)
  F_d_law_draw : Fun K "_law_draw" "_law_draw" s_d_law_draw A.f_d_law_draw A.fd_d_law_draw
  b_d_law_draw : Binds K A.fd_d_law_draw ps_d_law_draw []
  k_d_law_draw : PySem.W.keepIn K (.ref A.f_d_law_draw) = true
  g_d_law_draw : mg "_law_draw" = some (.ref A.f_d_law_draw)
  F_d_law_people : Fun K "_law_people" "_law_people" s_d_law_people A.f_d_law_people A.fd_d_law_people
  b_d_law_people : Binds K A.fd_d_law_people ps_d_law_people []
  k_d_law_people : PySem.W.keepIn K (.ref A.f_d_law_people) = true
  g_d_law_people : mg "_law_people" = some (.ref A.f_d_law_people)
  F_law : Fun K "law" "law" s_law A.f_law A.fd_law
  b_law : Binds K A.fd_law ps_law []
  k_law : PySem.W.keepIn K (.ref A.f_law) = true
  g_law : mg "law" = some (.ref A.f_law)
  ox_BadCrowd : OexC K A.C1
  i_BadCrowd : PySem.W.findIn K (.ref A.C1) "__init__" = some (some (.ref A.f_BadCrowd_new))
  ti_BadCrowd : PySem.W.typeIn K (.ref A.f_BadCrowd_new) = some (.type "function")
  oi_MarksError : OInitC K mg "MarksError" A.C0
  no_BadCrowd_part : PySem.W.findIn K (.ref A.C1) "part" = some none
  xf_BadCrowd : XfC K A.C1
  kit_BadCrowd_MarksError : PySem.W.kitOne K (.ref A.C1) (.ref A.C0) = some true
  ec_BadCrowd : ExcC K A.C1
  cl_Crowd : Cls K A.C2
  mk_Crowd : Mk K A.C2 A.f_Crowd_new
  fl_most_2 : KFl (gb K A) "most" [2]
  fl_own_places_2 : KFl (gb K A) "own_places" [2]
  isi : KIs (gb K A) []
  ex_d_law_told_BadCrowd : ∀ k ∈ ([1] : List Nat), PySem.W.exmOne K (.ref ((gb K A).cA k)) (.ref A.C1) = some ((fun k => k == 1) k)
section
variable {P : Program} {w : World} {K : PySem.W.Frag} {mg : Str → Option Value} {base : Heap} {A : Ad}
theorem ok_is_word (T : Txt P w K mg base A) : FnOk P w K mg base (L2.CX P w) 1 A.f_is_word A.fd_is_word ps_is_word (spM (gb K A) c_is_word 1) := by
  refine T.F_is_word.okX sc_is_word (fun vs H Q E h => h.1) (fun cdv A0 outer s H vs Q E hr h => ⟨_, ?_, def_run (N := names_is_word) h⟩)
  have tk0 := takes_of (X := cxOf (L2.CX P w) P w K mg base names_is_word "is_word" (defScope s_is_word) A.f_is_word cdv A0 outer s H E) rfl rfl rfl rfl
  have po0 := passes_of (X := cxOf (L2.CX P w) P w K mg base names_is_word "is_word" (defScope s_is_word) A.f_is_word cdv A0 outer s H E) rfl
  exact (ms_cons (ms_if (PW.pt (m_or (m_not (m_val (m_callB call_isiM (rc_isi T.isi) (by rfl) T.n_isinstance (by decide +kernel) (m_cons (m_var (pv 0)) (m_cons (m_c (pe_bltn (v := .ty "str") (by rfl) T.n_str (by decide +kernel) rfl) (fun _ => .ty .str)) m_nil))))) (pw_or1 (m_not (m_tchain op_le (r2_I0 (da_bl _)) op_le (r2_I0 (da_bl _)) (m_c pe_int (fun _ => .int _)) (m_callB call_lenAny rc_len (by rfl) T.n_len (by decide +kernel) (m_cons (m_var (pv 0)) m_nil)) (m_c (pe_glob (v := .int 8) rfl T.g_MOST_SIGNS ⟨_, rfl⟩) (fun _ => .int _))))))) (ms_one (ms_ret (m_c pe_bl (fun _ => .bl _)))) ms_nil)
    (ms_one (ms_ret (m_callB (cr_all rfl) rc_all (by rfl) T.n_all (by decide +kernel) (m_cons (m_lc (W0 := M.W0) (own := [("sign", 1)]) rfl sc_is_word.nd (mi_str (m_var (pv 0))) (blkOk_by (own := [("sign", 1)]) (N := names_is_word) (sc := defScope s_is_word) (by decide +kernel)) (fun _ _ _ _ _ => (pg_name (i := 1) sc_is_word.nd rfl (Or.inl rfl))) (fun _ _ _ _ _ => mts_nil) (fun _ _ _ _ _ => (m_cmp op_inSign r2_inSign (m_var (pv 1)) (m_c (pe_glob (v := .str "abcdefghijklmnopqrstuvwxyz") rfl T.g_LETTERS ⟨_, rfl⟩) (fun _ => .str _)) (by rfl))) tg_nm (by decide)) m_nil)))))
theorem ok_are_people (T : Txt P w K mg base A) : FnOk P w K mg base (L2.CX P w) 2 A.f_are_people A.fd_are_people ps_are_people (spM (gb K A) c_are_people 1) := by
  refine T.F_are_people.okX sc_are_people (fun vs H Q E h => h.1) (fun cdv A0 outer s H vs Q E hr h => ⟨_, ?_, def_run (N := names_are_people) h⟩)
  have tk0 := takes_of (X := cxOf (L2.CX P w) P w K mg base names_are_people "are_people" (defScope s_are_people) A.f_are_people cdv A0 outer s H E) rfl rfl rfl rfl
  have po0 := passes_of (X := cxOf (L2.CX P w) P w K mg base names_are_people "are_people" (defScope s_are_people) A.f_are_people cdv A0 outer s H E) rfl
  exact (ms_cons (ms_if (PW.pt (m_or (m_not (m_val (m_callB call_isiM (rc_isi T.isi) (by rfl) T.n_isinstance (by decide +kernel) (m_cons (m_var (pv 0)) (m_cons (m_tup (m_cons (m_c (pe_bltn (v := .ty "list") (by rfl) T.n_list (by decide +kernel) rfl) (fun _ => .ty .lst)) (m_cons (m_c (pe_bltn (v := .ty "tuple") (by rfl) T.n_tuple (by decide +kernel) rfl) (fun _ => .ty .tup)) m_nil))) m_nil))))) (pw_or1 (m_not (m_tchain op_le (r2_I0 (da_bl _)) op_le (r2_I0 (da_bl _)) (m_c pe_int (fun _ => .int _)) (m_callB call_lenAny rc_len (by rfl) T.n_len (by decide +kernel) (m_cons (m_var (pv 0)) m_nil)) (m_c (pe_glob (v := .int 8) rfl T.g_MOST_PEOPLE ⟨_, rfl⟩) (fun _ => .int _))))))) (ms_one (ms_ret (m_c pe_bl (fun _ => .bl _)))) ms_nil)
    (ms_one (ms_ret (m_andV (m_callB (cr_all rfl) rc_all (by rfl) T.n_all (by decide +kernel) (m_cons (m_lc (W0 := M.W0) (own := [("one", 1)]) rfl sc_are_people.nd (mi_seq (m_var (pv 0))) (blkOk_by (own := [("one", 1)]) (N := names_are_people) (sc := defScope s_are_people) (by decide +kernel)) (fun _ _ _ _ _ => (pg_name (i := 1) sc_are_people.nd rfl (Or.inl rfl))) (fun _ _ _ _ _ => mts_nil) (fun _ _ _ _ _ => (m_call (n := 1) (c := c_is_word) takes0 (ok_is_word T) (hr.mono (by decide)) rfl T.g_is_word T.k_is_word T.b_is_word (m_cons (m_var (pv 1)) m_nil))) tg_nm (by decide)) m_nil)) (m_one (m_cmp (op_eqD (hu64 hr)) r2_eq (m_callB call_lenAny rc_len (by rfl) T.n_len (by decide +kernel) (m_cons (m_dc (W0 := M.W0) (own := [("one", 1)]) rfl sc_are_people.nd (mi_seq (m_var (pv 0))) (blkOk_by (own := [("one", 1)]) (N := names_are_people) (sc := defScope s_are_people) (by decide +kernel)) (fun _ _ _ _ _ => (pg_name (i := 1) sc_are_people.nd rfl (Or.inl rfl))) (fun _ _ _ _ _ => mts_nil) (fun _ _ _ _ _ => (m_var (pv 1))) (fun _ _ _ _ _ => (m_c pe_int (fun _ => .int _))) tg_nm (by decide)) m_nil)) (m_callB call_lenAny rc_len (by rfl) T.n_len (by decide +kernel) (m_cons (m_var (pv 0)) m_nil)) (nomark _)))))))
theorem ok_BadCrowd_new (T : Txt P w K mg base A) : FnOk P w K mg base (L2.CX P w) 1 A.f_BadCrowd_new A.fd_BadCrowd_new ps_BadCrowd_new (spXI "part" K A.C1) := by
  refine T.F_BadCrowd_new.okX sc_BadCrowd_new (fun vs H Q E h => ?_) (fun cdv A0 outer s H vs Q E hr h => ⟨tEInit K "part" "a crowd cannot have such a part", ?_, pure_einit T.ox_BadCrowd T.no_BadCrowd_part _ _ _ _ h⟩)
  · obtain ⟨a, y, rfl, _⟩ := h
    rfl
  · exact pss_cons (ps_expr (pe_moinit T.oi_MarksError rfl (pa_cons (pv 0) (pa_cons pe_str pa_nil)))) (pss_one (ps_ost (pv 0) (pv 1)))
theorem ok_is_count (T : Txt P w K mg base A) : FnOk P w K mg base (L2.CX P w) 1 A.f_is_count A.fd_is_count ps_is_count (spM (gb K A) c_is_count 3) := by
  refine T.F_is_count.okX sc_is_count (fun vs H Q E h => h.1) (fun cdv A0 outer s H vs Q E hr h => ⟨_, ?_, def_run (N := names_is_count) h⟩)
  have tk0 := takes_of (X := cxOf (L2.CX P w) P w K mg base names_is_count "is_count" (defScope s_is_count) A.f_is_count cdv A0 outer s H E) rfl rfl rfl rfl
  have po0 := passes_of (X := cxOf (L2.CX P w) P w K mg base names_is_count "is_count" (defScope s_is_count) A.f_is_count cdv A0 outer s H E) rfl
  exact (ms_one (ms_ret (m_andV (m_callB call_isiM (rc_isi T.isi) (by rfl) T.n_isinstance (by decide +kernel) (m_cons (m_var (pv 0)) (m_cons (m_c (pe_bltn (v := .ty "int") (by rfl) T.n_int (by decide +kernel) rfl) (fun _ => .ty .int)) m_nil))) (m_andV (m_notV (m_callB call_isiM (rc_isi T.isi) (by rfl) T.n_isinstance (by decide +kernel) (m_cons (m_var (pv 0)) (m_cons (m_c (pe_bltn (v := .ty "bool") (by rfl) T.n_bool (by decide +kernel) rfl) (fun _ => .ty .bl)) m_nil)))) (m_one (m_chain op_le (r2_I0 (da_bl _)) op_le (r2_I0 (da_bl _)) (m_var (pv 1)) (m_var (pv 0)) (m_var (pv 2))))))))
theorem ok_Crowd_new (T : Txt P w K mg base A) : FnOk P w K mg base (L2.CX P w) 3 A.f_Crowd_new A.fd_Crowd_new ps_Crowd_new (spM (gb K A) c_Crowd_new 3) := by
  refine T.F_Crowd_new.okX sc_Crowd_new (fun vs H Q E h => h.1) (fun cdv A0 outer s H vs Q E hr h => ⟨_, ?_, def_run (N := names_Crowd_new) h⟩)
  have tk0 := takes_of (X := cxOf (L2.CX P w) P w K mg base names_Crowd_new "Crowd.__init__" (defScope s_Crowd_new) A.f_Crowd_new cdv A0 outer s H E) rfl rfl rfl rfl
  have po0 := passes_of (X := cxOf (L2.CX P w) P w K mg base names_Crowd_new "Crowd.__init__" (defScope s_Crowd_new) A.f_Crowd_new cdv A0 outer s H E) rfl
  exact (ms_cons (ms_if (m_not (m_val (m_call (n := 1) (c := c_are_people) tk0 (ok_are_people T) (hr.mono (by decide)) rfl T.g_are_people T.k_are_people T.b_are_people (m_cons (m_var (pv 1)) m_nil)))) (ms_one (ms_raise (c := 1) rfl tk0 T.ox_BadCrowd T.i_BadCrowd T.ti_BadCrowd (ok_BadCrowd_new T) (hr.mono (by decide)) T.b_BadCrowd_new rfl T.g_BadCrowd (m_c pe_str (fun _ => .str _)))) ms_nil)
    (ms_cons (ms_if (m_not (m_val (m_call (n := 3) (c := c_is_count) tk0 (ok_is_count T) (hr.mono (by decide)) rfl T.g_is_count T.k_is_count T.b_is_count (m_cons (m_var (pv 2)) (m_cons (m_c pe_int (fun _ => .int _)) (m_cons (m_c (pe_glob (v := .int 10) rfl T.g_MOST_MARK ⟨_, rfl⟩) (fun _ => .int _)) m_nil)))))) (ms_one (ms_raise (c := 1) rfl tk0 T.ox_BadCrowd T.i_BadCrowd T.ti_BadCrowd (ok_BadCrowd_new T) (hr.mono (by decide)) T.b_BadCrowd_new rfl T.g_BadCrowd (m_c pe_str (fun _ => .str _)))) ms_nil)
    (ms_cons (ms_sfld T.fl_own_places_2 rfl (m_var (pv 0)) (m_dc (W0 := M.W0) (own := [("at", 3), ("person", 4)]) rfl sc_Crowd_new.nd (mi_enum rfl T.n_enumerate rfl (m_var (pv 1))) (blkOk_by (own := [("at", 3), ("person", 4)]) (N := names_Crowd_new) (sc := defScope s_Crowd_new) (by decide +kernel)) (fun _ _ _ _ _ => (pg_tup (n := 2) rfl (pgs_cons (pg_name (i := 3) sc_Crowd_new.nd rfl (Or.inl rfl)) (pgs_cons (pg_name (i := 4) sc_Crowd_new.nd rfl (Or.inl rfl)) pgs_nil)))) (fun _ _ _ _ _ => mts_nil) (fun _ _ _ _ _ => (m_var (pv 4))) (fun _ _ _ _ _ => (m_var (pv 3))) (tg_tp (is := [3, 4])) (by decide)))
    (ms_one (ms_sfld T.fl_most_2 rfl (m_var (pv 0)) (m_var (pv 2)))))))
theorem ok_d_law_told (T : Txt P w K mg base A) : FnOk P w K mg base (L2.CX P w) 5 A.f_d_law_told A.fd_d_law_told ps_d_law_told (spM (gb K A) c_d_law_told 2) := by
  refine T.F_d_law_told.okX sc_d_law_told (fun vs H Q E h => h.1) (fun cdv A0 outer s H vs Q E hr h => ⟨_, ?_, def_run (N := names_d_law_told) h⟩)
  have tk0 := takes_of (X := cxOf (L2.CX P w) P w K mg base names_d_law_told "_law_told" (defScope s_d_law_told) A.f_d_law_told cdv A0 outer s H E) rfl rfl rfl rfl
  have po0 := passes_of (X := cxOf (L2.CX P w) P w K mg base names_d_law_told "_law_told" (defScope s_d_law_told) A.f_d_law_told cdv A0 outer s H E) rfl
  exact (ms_cons (ms_try (i := 2) (ids := [1]) (hit := (fun k => k == 1)) (mx := fun z => (mRet (mLst (mCons (mXf z 1 "part") (mCons (mXis z 1 true) mNil))))) T.ex_d_law_told_BadCrowd rfl rfl sc_d_law_told.nd rfl rfl ⟨rfl, by decide, Or.inl T.g_BadCrowd⟩ tk0 (fun W pn xe tk po => (ms_one (ms_expr (m_make (cid := 2) (n := 3) (c := c_Crowd_new) tk T.mk_Crowd (ok_Crowd_new T) (hr.mono (by decide)) rfl T.g_Crowd T.b_Crowd_new (m_cons (m_var (pv 0)) (m_cons (m_var (pv 1)) m_nil)))))) (fun a oe cls d pn z hz hf => (ms_one (ms_ret (m_lst (m_cons (m_xf (k := 1) T.xf_BadCrowd T.no_BadCrowd_part hz hf (pv 2)) (m_cons (m_xis (k := 1) (k2 := 0) T.ec_BadCrowd T.kit_BadCrowd_MarksError hz hf rfl T.n_isinstance (pv 2) (pe_glob (v := .ref A.C0) rfl T.g_MarksError rfl)) m_nil)))))))
    (ms_one (ms_ret (m_c pe_str (fun _ => .str _)))))
theorem ok_d_law_opened (T : Txt P w K mg base A) : FnOk P w K mg base (L2.CX P w) 1 A.f_d_law_opened A.fd_d_law_opened ps_d_law_opened (spM (gb K A) c_d_law_opened 2) := by
  refine T.F_d_law_opened.okX sc_d_law_opened (fun vs H Q E h => h.1) (fun cdv A0 outer s H vs Q E hr h => ⟨_, ?_, def_runK (N := names_d_law_opened) h⟩)
  have tk0 := takes_of (X := cxOf (L2.CX P w) P w K mg base names_d_law_opened "_law_opened" (defScope s_d_law_opened) A.f_d_law_opened cdv A0 outer s H E) rfl rfl rfl rfl
  have po0 := passes_of (X := cxOf (L2.CX P w) P w K mg base names_d_law_opened "_law_opened" (defScope s_d_law_opened) A.f_d_law_opened cdv A0 outer s H E) rfl
  exact (ms_cons (ms_set (i := 2) sc_d_law_opened.nd rfl (Or.inl rfl) (m_ifExp (m_tcmp op_lt (r2_I0 (da_bl _)) (m_var (pv 1)) (m_callB call_lenAny rc_len (by rfl) T.n_len (by decide +kernel) (m_cons (m_var (pv 0)) m_nil)) (nomark _)) (m_ix ix_any r2_ix (m_var (pv 0)) (m_var (pv 1)) (fun _ _ => rfl)) (m_c pe_int (fun _ => .int _))))
    (ms_cons (ms_set (i := 3) sc_d_law_opened.nd rfl (Or.inl rfl) (m_callB (call_mx rfl) rc_max2 (by rfl) T.n_max (by decide +kernel) (m_cons (m_callTy call_int rc_int (by rfl) T.n_int (by decide +kernel) (m_cons (m_var (pv 2)) m_nil)) (m_cons (m_callTy call_int rc_int (by rfl) T.n_int (by decide +kernel) (m_cons (m_op op_sub (r2_I0 (da_int _)) (m_un un_neg r1_neg (m_c pe_int (fun _ => .int _))) (m_var (pv 2))) m_nil)) m_nil))))
    (ms_one (ms_ret (m_new (m_cons (m_op op_mul (r2_I (da_int _)) (m_var (pv 3)) (m_callTy call_int rc_int (by rfl) T.n_int (by decide +kernel) (m_cons (m_cmp op_ge (r2_I0 (da_bl _)) (m_var (pv 3)) (m_op op_pow (r2_I (da_int _)) (m_c pe_int (fun _ => .int _)) (m_c pe_int (fun _ => .int _))) (nomark _)) m_nil))) (m_cons (m_op op_mod (r2_I (da_int _)) (m_callTy call_int rc_int (by rfl) T.n_int (by decide +kernel) (m_cons (m_op op_mul (r2_I (da_int _)) (m_op op_addAny r2_add (m_op op_addAny r2_add (m_op op_mod (r2_I (da_int _)) (m_var (pv 3)) (m_c pe_int (fun _ => .int _))) (m_op op_mul (r2_I (da_int _)) (m_c pe_int (fun _ => .int _)) (m_var (pv 1)))) (m_c pe_int (fun _ => .int _))) (m_c pe_int (fun _ => .int _))) m_nil)) (m_c pe_int (fun _ => .int _))) m_nil)))))))
theorem ok_d_law_draw (T : Txt P w K mg base A) : FnOk P w K mg base (L2.CX P w) 1 A.f_d_law_draw A.fd_d_law_draw ps_d_law_draw (spM (gb K A) c_d_law_draw 2) := by
  refine T.F_d_law_draw.okX sc_d_law_draw (fun vs H Q E h => h.1) (fun cdv A0 outer s H vs Q E hr h => ⟨_, ?_, def_run (N := names_d_law_draw) h⟩)
  have tk0 := takes_of (X := cxOf (L2.CX P w) P w K mg base names_d_law_draw "_law_draw" (defScope s_d_law_draw) A.f_d_law_draw cdv A0 outer s H E) rfl rfl rfl rfl
  have po0 := passes_of (X := cxOf (L2.CX P w) P w K mg base names_d_law_draw "_law_draw" (defScope s_d_law_draw) A.f_d_law_draw cdv A0 outer s H E) rfl
  exact (ms_cons (ms_if (m_tcmp op_gt (r2_I0 (da_bl _)) (m_ix ix_any r2_ix (m_var (pv 0)) (m_c pe_int (fun _ => .int _)) (fun _ _ => rfl)) (m_c pe_int (fun _ => .int _)) (nomark _)) (ms_cons (ms_set (i := 2) sc_d_law_draw.nd rfl (Or.inl rfl) (m_op op_mod (r2_I (da_int _)) (m_callTy call_int rc_int (by rfl) T.n_int (by decide +kernel) (m_cons (m_ix ix_any r2_ix (m_var (pv 0)) (m_c pe_int (fun _ => .int _)) (fun _ _ => rfl)) m_nil)) (m_var (pv 1))))
    (ms_cons (ms_put (m_op op_fdiv (r2_I (da_int _)) (m_ix ix_any r2_ix (m_var (pv 0)) (m_c pe_int (fun _ => .int _)) (fun _ _ => rfl)) (m_var (pv 1))) (m_var (pv 0)) (m_c pe_int (fun _ => .int _)))
    (ms_one (ms_ret (m_var (pv 2)))))) ms_nil)
    (ms_cons (ms_put (m_op op_mod (r2_I (da_int _)) (m_callTy call_int rc_int (by rfl) T.n_int (by decide +kernel) (m_cons (m_op op_addAny r2_add (m_op op_mul (r2_I (da_int _)) (m_ix ix_any r2_ix (m_var (pv 0)) (m_c pe_int (fun _ => .int _)) (fun _ _ => rfl)) (m_c pe_int (fun _ => .int _))) (m_c pe_int (fun _ => .int _))) m_nil)) (m_c pe_int (fun _ => .int _))) (m_var (pv 0)) (m_c pe_int (fun _ => .int _)))
    (ms_one (ms_ret (m_op op_mod (r2_I (da_int _)) (m_op op_fdiv (r2_I (da_int _)) (m_op op_mod (r2_I (da_int _)) (m_callTy call_int rc_int (by rfl) T.n_int (by decide +kernel) (m_cons (m_op op_mul (r2_I (da_int _)) (m_ix ix_any r2_ix (m_var (pv 0)) (m_c pe_int (fun _ => .int _)) (fun _ _ => rfl)) (m_ix ix_any r2_ix (m_var (pv 0)) (m_c pe_int (fun _ => .int _)) (fun _ _ => rfl))) m_nil)) (m_c pe_int (fun _ => .int _))) (m_c pe_int (fun _ => .int _))) (m_var (pv 1)))))))
theorem ok_d_law_people (T : Txt P w K mg base A) : FnOk P w K mg base (L2.CX P w) 2 A.f_d_law_people A.fd_d_law_people ps_d_law_people (spM (gb K A) c_d_law_people 2) := by
  refine T.F_d_law_people.okX sc_d_law_people (fun vs H Q E h => h.1) (fun cdv A0 outer s H vs Q E hr h => ⟨_, ?_, def_run (N := names_d_law_people) h⟩)
  have tk0 := takes_of (X := cxOf (L2.CX P w) P w K mg base names_d_law_people "_law_people" (defScope s_d_law_people) A.f_d_law_people cdv A0 outer s H E) rfl rfl rfl rfl
  have po0 := passes_of (X := cxOf (L2.CX P w) P w K mg base names_d_law_people "_law_people" (defScope s_d_law_people) A.f_d_law_people cdv A0 outer s H E) rfl
  exact (ms_cons (ms_par (i := 2) (j := 3) (by rfl) sc_d_law_people.nd rfl rfl (by decide) rfl rfl (m_cons (m_new (m_cons (m_c pe_str (fun _ => .str _)) (m_cons (m_c pe_str (fun _ => .str _)) (m_cons (m_c pe_str (fun _ => .str _)) (m_cons (m_c pe_str (fun _ => .str _)) (m_cons (m_c pe_str (fun _ => .str _)) (m_cons (m_c pe_str (fun _ => .str _)) (m_cons (m_c pe_str (fun _ => .str _)) (m_cons (m_c pe_str (fun _ => .str _)) m_nil))))))))) (m_cons (m_new m_nil) m_nil)) (by rfl))
    (ms_cons (ms_for po0 rfl (mi_rng1 rfl T.n_range (m_cons (m_var (pv 1)) m_nil)) (pg_name (i := 4) sc_d_law_people.nd rfl (Or.inl rfl)) tg_nm (ms_one (ms_expr (m_met PySem.F.slot_list_append PySem.F.type_list_append mt_append rm_append (m_var (pv 3)) (m_cons (m_met PySem.F.slot_list_pop PySem.F.type_list_pop mt_popAt rm_popAt (m_var (pv 2)) (m_cons (m_call (n := 2) (c := c_d_law_draw) tk0 (ok_d_law_draw T) (hr.mono (by decide)) rfl T.g_d_law_draw T.k_d_law_draw T.b_d_law_draw (m_cons (m_var (pv 0)) (m_cons (m_callB call_lenAny rc_len (by rfl) T.n_len (by decide +kernel) (m_cons (m_var (pv 2)) m_nil)) m_nil))) m_nil)) m_nil)))))
    (ms_one (ms_ret (m_var (pv 3))))))
theorem ok_law (T : Txt P w K mg base A) : FnOk P w K mg base (L2.CX P w) 6 A.f_law A.fd_law ps_law (spM (gb K A) c_law 1) := by
  refine T.F_law.okX sc_law (fun vs H Q E h => h.1) (fun cdv A0 outer s H vs Q E hr h => ⟨_, ?_, def_run (N := names_law) h⟩)
  have tk0 := takes_of (X := cxOf (L2.CX P w) P w K mg base names_law "law" (defScope s_law) A.f_law cdv A0 outer s H E) rfl rfl rfl rfl
  have po0 := passes_of (X := cxOf (L2.CX P w) P w K mg base names_law "law" (defScope s_law) A.f_law cdv A0 outer s H E) rfl
  exact (ms_cons (ms_if (m_tcmp (op_neD (hu64 hr)) r2_ne (m_call (n := 2) (c := c_d_law_told) tk0 (ok_d_law_told T) (hr.mono (by decide)) rfl T.g_d_law_told T.k_d_law_told T.b_d_law_told (m_cons (m_lst (m_cons (m_c pe_str (fun _ => .str _)) (m_cons (m_c pe_str (fun _ => .str _)) (m_cons (m_c pe_str (fun _ => .str _)) (m_cons (m_c pe_str (fun _ => .str _)) (m_cons (m_c pe_str (fun _ => .str _)) (m_cons (m_c pe_str (fun _ => .str _)) (m_cons (m_c pe_str (fun _ => .str _)) (m_cons (m_c pe_str (fun _ => .str _)) m_nil))))))))) (m_cons (m_c pe_int (fun _ => .int _)) m_nil))) (m_c pe_str (fun _ => .str _)) (nomark _)) (ms_one (ms_ret (m_c pe_bl (fun _ => .bl _)))) ms_nil)
    (ms_cons (ms_for po0 rfl (mi_rng1 rfl T.n_range (m_cons (m_callB (call_mx rfl) rc_max2 (by rfl) T.n_max (by decide +kernel) (m_cons (m_c pe_int (fun _ => .int _)) (m_cons (m_callB (call_mn rfl) rc_min2 (by rfl) T.n_min (by decide +kernel) (m_cons (m_callB call_lenAny rc_len (by rfl) T.n_len (by decide +kernel) (m_cons (m_var (pv 0)) m_nil)) (m_cons (m_c pe_int (fun _ => .int _)) m_nil))) m_nil))) m_nil)) (pg_name (i := 1) sc_law.nd rfl (Or.inl rfl)) tg_nm (ms_cons (ms_set (i := 2) sc_law.nd rfl (Or.inl rfl) (m_call (n := 2) (c := c_d_law_opened) tk0 (ok_d_law_opened T) (hr.mono (by decide)) rfl T.g_d_law_opened T.k_d_law_opened T.b_d_law_opened (m_cons (m_var (pv 0)) (m_cons (m_var (pv 1)) m_nil))))
    (ms_cons (ms_par (i := 3) (j := 4) (by rfl) sc_law.nd rfl rfl (by decide) rfl rfl (m_cons (m_call (n := 2) (c := c_d_law_people) tk0 (ok_d_law_people T) (hr.mono (by decide)) rfl T.g_d_law_people T.k_d_law_people T.b_d_law_people (m_cons (m_var (pv 2)) (m_cons (m_op op_addAny r2_add (m_c pe_int (fun _ => .int _)) (m_call (n := 2) (c := c_d_law_draw) tk0 (ok_d_law_draw T) (hr.mono (by decide)) rfl T.g_d_law_draw T.k_d_law_draw T.b_d_law_draw (m_cons (m_var (pv 2)) (m_cons (m_c pe_int (fun _ => .int _)) m_nil)))) m_nil))) (m_cons (m_op op_addAny r2_add (m_c pe_int (fun _ => .int _)) (m_call (n := 2) (c := c_d_law_draw) tk0 (ok_d_law_draw T) (hr.mono (by decide)) rfl T.g_d_law_draw T.k_d_law_draw T.b_d_law_draw (m_cons (m_var (pv 2)) (m_cons (m_c pe_int (fun _ => .int _)) m_nil)))) m_nil)) (by rfl))
    (ms_cons (ms_set (i := 5) sc_law.nd rfl (Or.inl rfl) (m_lst (m_cons (m_c pe_non (fun _ => .non)) (m_cons (m_c pe_int (fun _ => .int _)) (m_cons (m_c pe_str (fun _ => .str _)) (m_cons (m_lst m_nil) (m_cons (m_tup m_nil) (m_cons m_dnil (m_cons (m_disp (mp_cons (m_c pe_str (fun _ => .str _)) (m_c pe_int (fun _ => .int _)) mp_nil) (by rfl) (by rfl) (fun z => nomatch z) (by decide)) (m_cons (m_op op_addAny r2_add (m_var (pv 3)) (m_sl rfl (m_var (pv 3)) mo_none (mo_some (m_c pe_int (fun _ => .int _))))) (m_cons (m_op op_addAny r2_add (m_var (pv 3)) (m_lst (m_cons (m_c pe_str (fun _ => .str _)) m_nil))) (m_cons (m_op op_addAny r2_add (m_var (pv 3)) (m_lst (m_cons (m_c pe_str (fun _ => .str _)) m_nil))) m_nil))))))))))))
    (ms_cons (ms_set (i := 5) sc_law.nd rfl (Or.inl rfl) (m_op op_addAny r2_add (m_var (pv 5)) (m_lst (m_cons (m_op op_addAny r2_add (m_var (pv 3)) (m_lst (m_cons (m_c pe_str (fun _ => .str _)) m_nil))) (m_cons (m_op op_addAny r2_add (m_var (pv 3)) (m_lst (m_cons (m_c pe_non (fun _ => .non)) m_nil))) (m_cons (m_op op_addAny r2_add (m_var (pv 3)) (m_lst (m_cons (m_c pe_int (fun _ => .int _)) m_nil))) (m_cons (m_op op_addAny r2_add (m_var (pv 3)) (m_lst (m_cons (m_lst (m_cons (m_c pe_str (fun _ => .str _)) m_nil)) m_nil))) (m_cons (m_op op_addAny r2_add (m_var (pv 3)) (m_lst (m_cons (m_c pe_str (fun _ => .str _)) m_nil))) m_nil))))))))
    (ms_cons (ms_set (i := 5) sc_law.nd rfl (Or.inl rfl) (m_op op_addAny r2_add (m_var (pv 5)) (m_lst (m_cons (m_op op_addAny r2_add (m_var (pv 3)) (m_lst (m_cons (m_c pe_str (fun _ => .str _)) m_nil))) (m_cons (m_lst (m_cons (m_c pe_str (fun _ => .str _)) (m_cons (m_c pe_str (fun _ => .str _)) (m_cons (m_c pe_str (fun _ => .str _)) (m_cons (m_c pe_str (fun _ => .str _)) (m_cons (m_c pe_str (fun _ => .str _)) (m_cons (m_c pe_str (fun _ => .str _)) (m_cons (m_c pe_str (fun _ => .str _)) (m_cons (m_c pe_str (fun _ => .str _)) (m_cons (m_c pe_str (fun _ => .str _)) m_nil)))))))))) m_nil)))))
    (ms_cons (ms_for po0 rfl (mi_list (m_var (pv 5))) (pg_name (i := 6) sc_law.nd rfl (Or.inl rfl)) tg_nm (ms_one (ms_if (PW.pt (m_or (m_tcmp (op_neD (hu64 hr)) r2_ne (m_call (n := 2) (c := c_d_law_told) tk0 (ok_d_law_told T) (hr.mono (by decide)) rfl T.g_d_law_told T.k_d_law_told T.b_d_law_told (m_cons (m_var (pv 6)) (m_cons (m_var (pv 4)) m_nil))) (m_lst (m_cons (m_c pe_str (fun _ => .str _)) (m_cons (m_c pe_bl (fun _ => .bl _)) m_nil))) (nomark _)) (pw_or1 (m_tcmp (op_neD (hu64 hr)) r2_ne (m_call (n := 2) (c := c_d_law_told) tk0 (ok_d_law_told T) (hr.mono (by decide)) rfl T.g_d_law_told T.k_d_law_told T.b_d_law_told (m_cons (m_var (pv 6)) (m_cons (m_c pe_int (fun _ => .int _)) m_nil))) (m_lst (m_cons (m_c pe_str (fun _ => .str _)) (m_cons (m_c pe_bl (fun _ => .bl _)) m_nil))) (nomark _))))) (ms_one (ms_ret (m_c pe_bl (fun _ => .bl _)))) ms_nil)))
    (ms_cons (ms_for po0 rfl (mi_list (m_lst (m_cons (m_c pe_non (fun _ => .non)) (m_cons (m_c pe_int (fun _ => .int _)) (m_cons (m_c pe_int (fun _ => .int _)) (m_cons (m_un un_neg r1_neg (m_c pe_int (fun _ => .int _))) (m_cons (m_c pe_bl (fun _ => .bl _)) (m_cons (m_c pe_str (fun _ => .str _)) (m_cons (m_lst (m_cons (m_c pe_int (fun _ => .int _)) m_nil)) (m_cons (m_op op_pow (r2_I (da_int _)) (m_c pe_int (fun _ => .int _)) (m_c pe_int (fun _ => .int _))) m_nil)))))))))) (pg_name (i := 6) sc_law.nd rfl (Or.inl rfl)) tg_nm (ms_one (ms_if (PW.pt (m_or (m_tcmp (op_neD (hu64 hr)) r2_ne (m_call (n := 2) (c := c_d_law_told) tk0 (ok_d_law_told T) (hr.mono (by decide)) rfl T.g_d_law_told T.k_d_law_told T.b_d_law_told (m_cons (m_var (pv 3)) (m_cons (m_var (pv 6)) m_nil))) (m_lst (m_cons (m_c pe_str (fun _ => .str _)) (m_cons (m_c pe_bl (fun _ => .bl _)) m_nil))) (nomark _)) (pw_or1 (m_tcmp (op_neD (hu64 hr)) r2_ne (m_call (n := 2) (c := c_d_law_told) tk0 (ok_d_law_told T) (hr.mono (by decide)) rfl T.g_d_law_told T.k_d_law_told T.b_d_law_told (m_cons (m_callTy call_tuple rc_tuple (by rfl) T.n_tuple (by decide +kernel) (m_cons (m_var (pv 3)) m_nil)) (m_cons (m_var (pv 6)) m_nil))) (m_lst (m_cons (m_c pe_str (fun _ => .str _)) (m_cons (m_c pe_bl (fun _ => .bl _)) m_nil))) (nomark _))))) (ms_one (ms_ret (m_c pe_bl (fun _ => .bl _)))) ms_nil)))
    (ms_one (ms_if (m_tcmp (op_neD (hu64 hr)) r2_ne (m_call (n := 2) (c := c_d_law_told) tk0 (ok_d_law_told T) (hr.mono (by decide)) rfl T.g_d_law_told T.k_d_law_told T.b_d_law_told (m_cons (m_callTy call_tuple rc_tuple (by rfl) T.n_tuple (by decide +kernel) (m_cons (m_var (pv 3)) m_nil)) (m_cons (m_var (pv 4)) m_nil))) (m_c pe_str (fun _ => .str _)) (nomark _)) (ms_one (ms_ret (m_c pe_bl (fun _ => .bl _)))) ms_nil))))))))))
    (ms_one (ms_ret (m_c pe_bl (fun _ => .bl _))))))
end
theorem all_mk {P : Program} {w : World} {K : PySem.W.Frag} {h : Heap} {mg : Str → Option Value} {fa : Addr} (X : K.In h) (G : h.Ns mainGlobals mg) (hfa : mg "law" = some (.ref fa))
    {t_LETTERS t_MOST_SIGNS t_MOST_PEOPLE t_MOST_MARK : Tok}
    {C0 C1 C2 f_is_word f_are_people f_BadCrowd_new f_is_count f_Crowd_new f_d_law_told f_d_law_opened f_d_law_draw f_d_law_people f_law N1 : Addr}
    {oc_is_word kV_is_word dc_is_word pm_is_word cd_is_word ct_is_word oc_are_people kV_are_people dc_are_people pm_are_people cd_are_people ct_are_people oc_BadCrowd_new kV_BadCrowd_new dc_BadCrowd_new pm_BadCrowd_new cd_BadCrowd_new ct_BadCrowd_new oc_is_count kV_is_count dc_is_count pm_is_count cd_is_count ct_is_count oc_Crowd_new kV_Crowd_new dc_Crowd_new pm_Crowd_new cd_Crowd_new ct_Crowd_new oc_d_law_told kV_d_law_told dc_d_law_told pm_d_law_told cd_d_law_told ct_d_law_told oc_d_law_opened kV_d_law_opened dc_d_law_opened pm_d_law_opened cd_d_law_opened ct_d_law_opened oc_d_law_draw kV_d_law_draw dc_d_law_draw pm_d_law_draw cd_d_law_draw ct_d_law_draw oc_d_law_people kV_d_law_people dc_d_law_people pm_d_law_people cd_d_law_people ct_d_law_people oc_law kV_law dc_law pm_law cd_law ct_law : Value}
    {od_is_word an_is_word od_are_people an_are_people od_BadCrowd_new an_BadCrowd_new od_is_count an_is_count od_Crowd_new an_Crowd_new od_d_law_told an_d_law_told od_d_law_opened an_d_law_opened od_d_law_draw an_d_law_draw od_d_law_people an_d_law_people od_law an_law dd1 : Option Addr}
    {sl_is_word sl_are_people sl_BadCrowd_new sl_is_count sl_Crowd_new sl_d_law_told sl_d_law_opened sl_d_law_draw sl_d_law_people sl_law : Array (Option Value)}
    {nm1 qn1 : Str}
    {bs1 su1 : List Value}
    {sn1 : List Str}
    {ab1 : Bool}
    {co1 : Option Bool}
    {m0_1 m1_1 m2_1 m3_1 m5_1 : Option Value}
    (z_all : PySem.W.nsIn K mainGlobals "all" = some none)
    (z_len : PySem.W.nsIn K mainGlobals "len" = some none)
    (z_str : PySem.W.nsIn K mainGlobals "str" = some none)
    (z_isinstance : PySem.W.nsIn K mainGlobals "isinstance" = some none)
    (z_tuple : PySem.W.nsIn K mainGlobals "tuple" = some none)
    (z_list : PySem.W.nsIn K mainGlobals "list" = some none)
    (z_bool : PySem.W.nsIn K mainGlobals "bool" = some none)
    (z_int : PySem.W.nsIn K mainGlobals "int" = some none)
    (z_enumerate : PySem.W.nsIn K mainGlobals "enumerate" = some none)
    (z_max : PySem.W.nsIn K mainGlobals "max" = some none)
    (z_range : PySem.W.nsIn K mainGlobals "range" = some none)
    (z_min : PySem.W.nsIn K mainGlobals "min" = some none)
    (q_LETTERS : PySem.W.nsIn K mainGlobals "LETTERS" = some (some (.str "abcdefghijklmnopqrstuvwxyz" t_LETTERS)))
    (q_MOST_SIGNS : PySem.W.nsIn K mainGlobals "MOST_SIGNS" = some (some (.int 8 t_MOST_SIGNS)))
    (q_MOST_PEOPLE : PySem.W.nsIn K mainGlobals "MOST_PEOPLE" = some (some (.int 8 t_MOST_PEOPLE)))
    (q_MOST_MARK : PySem.W.nsIn K mainGlobals "MOST_MARK" = some (some (.int 10 t_MOST_MARK)))
    (a_MarksError : PySem.W.nsIn K mainGlobals "MarksError" = some (some (.ref C0)))
    (a_BadCrowd : PySem.W.nsIn K mainGlobals "BadCrowd" = some (some (.ref C1)))
    (a_Crowd : PySem.W.nsIn K mainGlobals "Crowd" = some (some (.ref C2)))
    (a_is_word : PySem.W.nsIn K mainGlobals "is_word" = some (some (.ref f_is_word)))
    (l_is_word : K.lookup f_is_word = some ⟨oc_is_word, od_is_word, .func (PySem.W.fnOf "is_word" "is_word" (defArgs s_is_word) (defBody s_is_word) (defScope s_is_word) .none kV_is_word dc_is_word pm_is_word an_is_word cd_is_word ct_is_word), sl_is_word⟩)
    (c_is_word : PySem.W.codeIn K cd_is_word "is_word" = true)
    (k_is_word : PySem.W.keepIn K (.ref f_is_word) = true)
    (a_are_people : PySem.W.nsIn K mainGlobals "are_people" = some (some (.ref f_are_people)))
    (l_are_people : K.lookup f_are_people = some ⟨oc_are_people, od_are_people, .func (PySem.W.fnOf "are_people" "are_people" (defArgs s_are_people) (defBody s_are_people) (defScope s_are_people) .none kV_are_people dc_are_people pm_are_people an_are_people cd_are_people ct_are_people), sl_are_people⟩)
    (c_are_people : PySem.W.codeIn K cd_are_people "are_people" = true)
    (k_are_people : PySem.W.keepIn K (.ref f_are_people) = true)
    (a_BadCrowd_new : PySem.W.findIn K (.ref C1) "__init__" = some (some (.ref f_BadCrowd_new)))
    (l_BadCrowd_new : K.lookup f_BadCrowd_new = some ⟨oc_BadCrowd_new, od_BadCrowd_new, .func (PySem.W.fnOf "__init__" "BadCrowd.__init__" (defArgs s_BadCrowd_new) (defBody s_BadCrowd_new) (defScope s_BadCrowd_new) .none kV_BadCrowd_new dc_BadCrowd_new pm_BadCrowd_new an_BadCrowd_new cd_BadCrowd_new ct_BadCrowd_new), sl_BadCrowd_new⟩)
    (c_BadCrowd_new : PySem.W.codeIn K cd_BadCrowd_new "BadCrowd.__init__" = true)
    (k_BadCrowd_new : PySem.W.keepIn K (.ref f_BadCrowd_new) = true)
    (a_is_count : PySem.W.nsIn K mainGlobals "is_count" = some (some (.ref f_is_count)))
    (l_is_count : K.lookup f_is_count = some ⟨oc_is_count, od_is_count, .func (PySem.W.fnOf "is_count" "is_count" (defArgs s_is_count) (defBody s_is_count) (defScope s_is_count) .none kV_is_count dc_is_count pm_is_count an_is_count cd_is_count ct_is_count), sl_is_count⟩)
    (c_is_count : PySem.W.codeIn K cd_is_count "is_count" = true)
    (k_is_count : PySem.W.keepIn K (.ref f_is_count) = true)
    (a_Crowd_new : PySem.W.findIn K (.ref C2) "__init__" = some (some (.ref f_Crowd_new)))
    (l_Crowd_new : K.lookup f_Crowd_new = some ⟨oc_Crowd_new, od_Crowd_new, .func (PySem.W.fnOf "__init__" "Crowd.__init__" (defArgs s_Crowd_new) (defBody s_Crowd_new) (defScope s_Crowd_new) .none kV_Crowd_new dc_Crowd_new pm_Crowd_new an_Crowd_new cd_Crowd_new ct_Crowd_new), sl_Crowd_new⟩)
    (c_Crowd_new : PySem.W.codeIn K cd_Crowd_new "Crowd.__init__" = true)
    (k_Crowd_new : PySem.W.keepIn K (.ref f_Crowd_new) = true)
    (a_d_law_told : PySem.W.nsIn K mainGlobals "_law_told" = some (some (.ref f_d_law_told)))
    (l_d_law_told : K.lookup f_d_law_told = some ⟨oc_d_law_told, od_d_law_told, .func (PySem.W.fnOf "_law_told" "_law_told" (defArgs s_d_law_told) (defBody s_d_law_told) (defScope s_d_law_told) .none kV_d_law_told dc_d_law_told pm_d_law_told an_d_law_told cd_d_law_told ct_d_law_told), sl_d_law_told⟩)
    (c_d_law_told : PySem.W.codeIn K cd_d_law_told "_law_told" = true)
    (k_d_law_told : PySem.W.keepIn K (.ref f_d_law_told) = true)
    (a_d_law_opened : PySem.W.nsIn K mainGlobals "_law_opened" = some (some (.ref f_d_law_opened)))
    (l_d_law_opened : K.lookup f_d_law_opened = some ⟨oc_d_law_opened, od_d_law_opened, .func (PySem.W.fnOf "_law_opened" "_law_opened" (defArgs s_d_law_opened) (defBody s_d_law_opened) (defScope s_d_law_opened) .none kV_d_law_opened dc_d_law_opened pm_d_law_opened an_d_law_opened cd_d_law_opened ct_d_law_opened), sl_d_law_opened⟩)
    (c_d_law_opened : PySem.W.codeIn K cd_d_law_opened "_law_opened" = true)
    (k_d_law_opened : PySem.W.keepIn K (.ref f_d_law_opened) = true)
    (a_d_law_draw : PySem.W.nsIn K mainGlobals "_law_draw" = some (some (.ref f_d_law_draw)))
    (l_d_law_draw : K.lookup f_d_law_draw = some ⟨oc_d_law_draw, od_d_law_draw, .func (PySem.W.fnOf "_law_draw" "_law_draw" (defArgs s_d_law_draw) (defBody s_d_law_draw) (defScope s_d_law_draw) .none kV_d_law_draw dc_d_law_draw pm_d_law_draw an_d_law_draw cd_d_law_draw ct_d_law_draw), sl_d_law_draw⟩)
    (c_d_law_draw : PySem.W.codeIn K cd_d_law_draw "_law_draw" = true)
    (k_d_law_draw : PySem.W.keepIn K (.ref f_d_law_draw) = true)
    (a_d_law_people : PySem.W.nsIn K mainGlobals "_law_people" = some (some (.ref f_d_law_people)))
    (l_d_law_people : K.lookup f_d_law_people = some ⟨oc_d_law_people, od_d_law_people, .func (PySem.W.fnOf "_law_people" "_law_people" (defArgs s_d_law_people) (defBody s_d_law_people) (defScope s_d_law_people) .none kV_d_law_people dc_d_law_people pm_d_law_people an_d_law_people cd_d_law_people ct_d_law_people), sl_d_law_people⟩)
    (c_d_law_people : PySem.W.codeIn K cd_d_law_people "_law_people" = true)
    (k_d_law_people : PySem.W.keepIn K (.ref f_d_law_people) = true)
    (a_law : PySem.W.nsIn K mainGlobals "law" = some (some (.ref f_law)))
    (l_law : K.lookup f_law = some ⟨oc_law, od_law, .func (PySem.W.fnOf "law" "law" (defArgs s_law) (defBody s_law) (defScope s_law) .none kV_law dc_law pm_law an_law cd_law ct_law), sl_law⟩)
    (c_law : PySem.W.codeIn K cd_law "law" = true)
    (k_law : PySem.W.keepIn K (.ref f_law) = true)
    (x_BadCrowd : K.lookup C1 = some (excClassObj nm1 qn1 C1 N1 bs1 [.ref C0, .type "ValueError", .type "Exception", .type "BaseException", .type "object"] true sn1 su1 ab1 co1 dd1 m0_1 m1_1 m2_1 m3_1 m5_1 "ValueError.__new__"))
    (sa_BadCrowd : PySem.W.findIn K (.ref C1) "__setattr__" = some (some (.builtin "object.__setattr__")))
    (be_BadCrowd : PySem.W.subIn K (.ref C1) (.type "BaseException") = some true)
    (ty_BadCrowd : PySem.W.typeIn K (.ref C1) = some (.type "type"))
    (kc_BadCrowd : PySem.W.keepIn K (.ref C1) = true)
    (ti_BadCrowd : PySem.W.typeIn K (.ref f_BadCrowd_new) = some (.type "function"))
    (og_MarksError : PySem.W.specialIn K (.ref C0) "__getattribute__" = some (some (.builtin "type.__getattribute__")))
    (or_MarksError : PySem.W.readsIn K C0 (.type "type") = true)
    (of_MarksError : PySem.W.findCls K (.ref C0) (.type "type") "__init__" = some (.val (.builtin "ValueError.__init__")))
    (no_BadCrowd_part : PySem.W.findIn K (.ref C1) "part" = some none)
    (ga_BadCrowd : PySem.W.findIn K (.ref C1) "__getattribute__" = some (some (.builtin "BaseException.__getattribute__")))
    (gg_BadCrowd : PySem.W.findIn K (.ref C1) "__getattr__" = some none)
    (hd_BadCrowd : PySem.W.hasDictIn K C1 = true)
    (su_BadCrowd_MarksError : PySem.W.subIn K (.ref C1) (.ref C0) = some true)
    (ic_MarksError : PySem.W.isClsIn K C0 = true)
    (ty_MarksError : PySem.W.typeIn K (.ref C0) = some (.type "type"))
    (gs0 : PySem.W.specialIn K (.builtin "object.__class__") "__get__" = some (some (.builtin "getset_descriptor.__get__")))
    (gs1 : PySem.W.takesIn K (.builtin "object.__class__") = some true)
    (hc_BadCrowd : PySem.W.findIn K (.ref C1) "__class__" = some (some (.builtin "object.__class__")))
    (hm_BadCrowd : PySem.W.mroIn K C1 (.type "object") = some true)
    (pg_Crowd : PySem.W.plainGet K C2 Str.empty = true)
    (hd_Crowd : PySem.W.hasDictIn K C2 = true)
    (po_Crowd : PySem.W.plainOver K C2 = true)
    (sa_Crowd : PySem.W.findIn K (.ref C2) "__setattr__" = some (some (.builtin "object.__setattr__")))
    (mm_Crowd : PySem.W.makesIn K C2 = true)
    (mf_Crowd : PySem.W.isFn K (.ref f_Crowd_new) = true)
    (kc_Crowd : PySem.W.keepIn K (.ref C2) = true)
    (na_most_2 : PySem.W.findIn K (.ref C2) "most" = some none)
    (na_own_places_2 : PySem.W.findIn K (.ref C2) "own_places" = some none)
    (su_BadCrowd_BadCrowd : PySem.W.subIn K (.ref C1) (.ref C1) = some true)
    : ∃ fd : FuncData, (∀ (s : Shared) (v : Value), BindsTo s fd ⟨[v], []⟩ [("_law_script", v)]) ∧ ∀ base : Heap, K.In base → base.Ns mainGlobals mg → FnOk P w K mg base (L2.CX P w) 6 fa fd ["_law_script"] (spLaw K) := by
  have e := hfa.symm.trans (PySem.W.mg_of X G a_law)
  cases e
  have T : ∀ base : Heap, Txt P w K mg base ⟨t_LETTERS, t_MOST_SIGNS, t_MOST_PEOPLE, t_MOST_MARK, C0, C1, C2, f_is_word, PySem.W.fnOf "is_word" "is_word" (defArgs s_is_word) (defBody s_is_word) (defScope s_is_word) .none kV_is_word dc_is_word pm_is_word an_is_word cd_is_word ct_is_word, f_are_people, PySem.W.fnOf "are_people" "are_people" (defArgs s_are_people) (defBody s_are_people) (defScope s_are_people) .none kV_are_people dc_are_people pm_are_people an_are_people cd_are_people ct_are_people, f_BadCrowd_new, PySem.W.fnOf "__init__" "BadCrowd.__init__" (defArgs s_BadCrowd_new) (defBody s_BadCrowd_new) (defScope s_BadCrowd_new) .none kV_BadCrowd_new dc_BadCrowd_new pm_BadCrowd_new an_BadCrowd_new cd_BadCrowd_new ct_BadCrowd_new, f_is_count, PySem.W.fnOf "is_count" "is_count" (defArgs s_is_count) (defBody s_is_count) (defScope s_is_count) .none kV_is_count dc_is_count pm_is_count an_is_count cd_is_count ct_is_count, f_Crowd_new, PySem.W.fnOf "__init__" "Crowd.__init__" (defArgs s_Crowd_new) (defBody s_Crowd_new) (defScope s_Crowd_new) .none kV_Crowd_new dc_Crowd_new pm_Crowd_new an_Crowd_new cd_Crowd_new ct_Crowd_new, f_d_law_told, PySem.W.fnOf "_law_told" "_law_told" (defArgs s_d_law_told) (defBody s_d_law_told) (defScope s_d_law_told) .none kV_d_law_told dc_d_law_told pm_d_law_told an_d_law_told cd_d_law_told ct_d_law_told, f_d_law_opened, PySem.W.fnOf "_law_opened" "_law_opened" (defArgs s_d_law_opened) (defBody s_d_law_opened) (defScope s_d_law_opened) .none kV_d_law_opened dc_d_law_opened pm_d_law_opened an_d_law_opened cd_d_law_opened ct_d_law_opened, f_d_law_draw, PySem.W.fnOf "_law_draw" "_law_draw" (defArgs s_d_law_draw) (defBody s_d_law_draw) (defScope s_d_law_draw) .none kV_d_law_draw dc_d_law_draw pm_d_law_draw an_d_law_draw cd_d_law_draw ct_d_law_draw, f_d_law_people, PySem.W.fnOf "_law_people" "_law_people" (defArgs s_d_law_people) (defBody s_d_law_people) (defScope s_d_law_people) .none kV_d_law_people dc_d_law_people pm_d_law_people an_d_law_people cd_d_law_people ct_d_law_people, fa, PySem.W.fnOf "law" "law" (defArgs s_law) (defBody s_law) (defScope s_law) .none kV_law dc_law pm_law an_law cd_law ct_law⟩ := fun base =>
    { n_all := PySem.W.mg_none_of X G z_all,
      n_len := PySem.W.mg_none_of X G z_len,
      n_str := PySem.W.mg_none_of X G z_str,
      n_isinstance := PySem.W.mg_none_of X G z_isinstance,
      n_tuple := PySem.W.mg_none_of X G z_tuple,
      n_list := PySem.W.mg_none_of X G z_list,
      n_bool := PySem.W.mg_none_of X G z_bool,
      n_int := PySem.W.mg_none_of X G z_int,
      n_enumerate := PySem.W.mg_none_of X G z_enumerate,
      n_max := PySem.W.mg_none_of X G z_max,
      n_range := PySem.W.mg_none_of X G z_range,
      n_min := PySem.W.mg_none_of X G z_min,
      g_LETTERS := PySem.W.mg_of X G q_LETTERS,
      g_MOST_SIGNS := PySem.W.mg_of X G q_MOST_SIGNS,
      g_MOST_PEOPLE := PySem.W.mg_of X G q_MOST_PEOPLE,
      g_MOST_MARK := PySem.W.mg_of X G q_MOST_MARK,
      g_MarksError := PySem.W.mg_of X G a_MarksError,
      g_BadCrowd := PySem.W.mg_of X G a_BadCrowd,
      g_Crowd := PySem.W.mg_of X G a_Crowd,
      F_is_word := fun_mk (st := s_is_word) l_is_word c_is_word k_is_word,
      b_is_word := (fun_mk (st := s_is_word) l_is_word c_is_word k_is_word).binds (ps := ps_is_word) fun _ _ _ _ _ _ us hl => match us, hl with | [_], _ => rfl,
      k_is_word := k_is_word,
      g_is_word := PySem.W.mg_of X G a_is_word,
      F_are_people := fun_mk (st := s_are_people) l_are_people c_are_people k_are_people,
      b_are_people := (fun_mk (st := s_are_people) l_are_people c_are_people k_are_people).binds (ps := ps_are_people) fun _ _ _ _ _ _ us hl => match us, hl with | [_], _ => rfl,
      k_are_people := k_are_people,
      g_are_people := PySem.W.mg_of X G a_are_people,
      F_BadCrowd_new := fun_mk (st := s_BadCrowd_new) l_BadCrowd_new c_BadCrowd_new k_BadCrowd_new,
      b_BadCrowd_new := (fun_mk (st := s_BadCrowd_new) l_BadCrowd_new c_BadCrowd_new k_BadCrowd_new).binds (ps := ps_BadCrowd_new) fun _ _ _ _ _ _ us hl => match us, hl with | [_, _], _ => rfl,
      k_BadCrowd_new := k_BadCrowd_new,
      F_is_count := fun_mk (st := s_is_count) l_is_count c_is_count k_is_count,
      b_is_count := (fun_mk (st := s_is_count) l_is_count c_is_count k_is_count).binds (ps := ps_is_count) fun _ _ _ _ _ _ us hl => match us, hl with | [_, _, _], _ => rfl,
      k_is_count := k_is_count,
      g_is_count := PySem.W.mg_of X G a_is_count,
      F_Crowd_new := fun_mk (st := s_Crowd_new) l_Crowd_new c_Crowd_new k_Crowd_new,
      b_Crowd_new := (fun_mk (st := s_Crowd_new) l_Crowd_new c_Crowd_new k_Crowd_new).binds (ps := ps_Crowd_new) fun _ _ _ _ _ _ us hl => match us, hl with | [_, _, _], _ => rfl,
      k_Crowd_new := k_Crowd_new,
      F_d_law_told := fun_mk (st := s_d_law_told) l_d_law_told c_d_law_told k_d_law_told,
      b_d_law_told := (fun_mk (st := s_d_law_told) l_d_law_told c_d_law_told k_d_law_told).binds (ps := ps_d_law_told) fun _ _ _ _ _ _ us hl => match us, hl with | [_, _], _ => rfl,
      k_d_law_told := k_d_law_told,
      g_d_law_told := PySem.W.mg_of X G a_d_law_told,
      F_d_law_opened := fun_mk (st := s_d_law_opened) l_d_law_opened c_d_law_opened k_d_law_opened,
      b_d_law_opened := (fun_mk (st := s_d_law_opened) l_d_law_opened c_d_law_opened k_d_law_opened).binds (ps := ps_d_law_opened) fun _ _ _ _ _ _ us hl => match us, hl with | [_, _], _ => rfl,
      k_d_law_opened := k_d_law_opened,
      g_d_law_opened := PySem.W.mg_of X G a_d_law_opened,
      F_d_law_draw := fun_mk (st := s_d_law_draw) l_d_law_draw c_d_law_draw k_d_law_draw,
      b_d_law_draw := (fun_mk (st := s_d_law_draw) l_d_law_draw c_d_law_draw k_d_law_draw).binds (ps := ps_d_law_draw) fun _ _ _ _ _ _ us hl => match us, hl with | [_, _], _ => rfl,
      k_d_law_draw := k_d_law_draw,
      g_d_law_draw := PySem.W.mg_of X G a_d_law_draw,
      F_d_law_people := fun_mk (st := s_d_law_people) l_d_law_people c_d_law_people k_d_law_people,
      b_d_law_people := (fun_mk (st := s_d_law_people) l_d_law_people c_d_law_people k_d_law_people).binds (ps := ps_d_law_people) fun _ _ _ _ _ _ us hl => match us, hl with | [_, _], _ => rfl,
      k_d_law_people := k_d_law_people,
      g_d_law_people := PySem.W.mg_of X G a_d_law_people,
      F_law := fun_mk (st := s_law) l_law c_law k_law,
      b_law := (fun_mk (st := s_law) l_law c_law k_law).binds (ps := ps_law) fun _ _ _ _ _ _ us hl => match us, hl with | [_], _ => rfl,
      k_law := k_law,
      g_law := PySem.W.mg_of X G a_law,
      ox_BadCrowd := ⟨⟨_, _, _, _, _, _, _, _, _, _, _, _, _, _, _, x_BadCrowd, by rfl⟩, sa_BadCrowd, be_BadCrowd, ty_BadCrowd, kc_BadCrowd⟩,
      i_BadCrowd := a_BadCrowd_new,
      ti_BadCrowd := ti_BadCrowd,
      oi_MarksError := ⟨PySem.W.mg_of X G a_MarksError, og_MarksError, or_MarksError, of_MarksError⟩,
      no_BadCrowd_part := no_BadCrowd_part,
      xf_BadCrowd := ⟨ga_BadCrowd, gg_BadCrowd, be_BadCrowd, hd_BadCrowd⟩,
      kit_BadCrowd_MarksError := own_kit ic_MarksError ty_MarksError su_BadCrowd_MarksError (.inl rfl),
      ec_BadCrowd := ⟨ga_BadCrowd, gg_BadCrowd, be_BadCrowd, hd_BadCrowd, hc_BadCrowd, gs0, gs1, hm_BadCrowd⟩,
      cl_Crowd := ⟨pg_Crowd, hd_Crowd, po_Crowd, sa_Crowd⟩,
      mk_Crowd := ⟨mm_Crowd, a_Crowd_new, mf_Crowd, kc_Crowd⟩,
      fl_most_2 := ⟨(all_cons ⟨pg_Crowd, hd_Crowd, po_Crowd, sa_Crowd⟩ (fun _ h => nomatch h)), (all_cons na_most_2 (fun _ h => nomatch h))⟩,
      fl_own_places_2 := ⟨(all_cons ⟨pg_Crowd, hd_Crowd, po_Crowd, sa_Crowd⟩ (fun _ h => nomatch h)), (all_cons na_own_places_2 (fun _ h => nomatch h))⟩,
      isi := ⟨(fun _ h => nomatch h), (fun _ h => nomatch h), (fun _ h => nomatch h), gs0, gs1, (fun _ h => nomatch h), (fun _ _ h => nomatch h), (fun _ h => nomatch h)⟩,
      ex_d_law_told_BadCrowd := (all_cons (PySem.W.exm_ref be_BadCrowd hd_BadCrowd ty_BadCrowd su_BadCrowd_BadCrowd) (fun _ h => nomatch h)) }
  exact ⟨_, fun s v => .of_eq rfl, fun base _ _ => law_ok rfl (ok_law (T base))⟩
end Own


open PySem PySem.W PyProof.Rows L2 M
set_option maxRecDepth 100000 in
set_option maxHeartbeats 0 in
theorem PySem.Challenge.cw_ownmarks_k03_crowds_refused_holds : PySem.Challenge.rw_ownmarks_k03_crowds_refused.Holds := by
  w_on; o_law; k_head; (case hw => w_witness2)
  k_fill
  refine M.walkM (l := PySem.Challenge.rw_ownmarks_k03_crowds_refused) 6 "_law_script" rfl rfl ⟨rfl, by decide, by decide⟩ (fun w h Y => PySem.W.kIn_of Y) ?F
  case F =>
    intro w mg fa h KX G hmg
    refine' Own.all_mk KX G hmg ?z_all ?z_len ?z_str ?z_isinstance ?z_tuple ?z_list ?z_bool ?z_int ?z_enumerate ?z_max ?z_range ?z_min ?q_LETTERS ?q_MOST_SIGNS ?q_MOST_PEOPLE ?q_MOST_MARK ?a_MarksError ?a_BadCrowd ?a_Crowd ?a_is_word ?l_is_word ?c_is_word ?k_is_word ?a_are_people ?l_are_people ?c_are_people ?k_are_people ?a_BadCrowd_new ?l_BadCrowd_new ?c_BadCrowd_new ?k_BadCrowd_new ?a_is_count ?l_is_count ?c_is_count ?k_is_count ?a_Crowd_new ?l_Crowd_new ?c_Crowd_new ?k_Crowd_new ?a_d_law_told ?l_d_law_told ?c_d_law_told ?k_d_law_told ?a_d_law_opened ?l_d_law_opened ?c_d_law_opened ?k_d_law_opened ?a_d_law_draw ?l_d_law_draw ?c_d_law_draw ?k_d_law_draw ?a_d_law_people ?l_d_law_people ?c_d_law_people ?k_d_law_people ?a_law ?l_law ?c_law ?k_law ?x_BadCrowd ?sa_BadCrowd ?be_BadCrowd ?ty_BadCrowd ?kc_BadCrowd ?ti_BadCrowd ?og_MarksError ?or_MarksError ?of_MarksError ?no_BadCrowd_part ?ga_BadCrowd ?gg_BadCrowd ?hd_BadCrowd ?su_BadCrowd_MarksError ?ic_MarksError ?ty_MarksError ?gs0 ?gs1 ?hc_BadCrowd ?hm_BadCrowd ?pg_Crowd ?hd_Crowd ?po_Crowd ?sa_Crowd ?mm_Crowd ?mf_Crowd ?kc_Crowd ?na_most_2 ?na_own_places_2 ?su_BadCrowd_BadCrowd
    (case z_all => k_is)
    (case z_len => k_is)
    (case z_str => k_is)
    (case z_isinstance => k_is)
    (case z_tuple => k_is)
    (case z_list => k_is)
    (case z_bool => k_is)
    (case z_int => k_is)
    (case z_enumerate => k_is)
    (case z_max => k_is)
    (case z_range => k_is)
    (case z_min => k_is)
    (case q_LETTERS => k_is)
    (case q_MOST_SIGNS => k_is)
    (case q_MOST_PEOPLE => k_is)
    (case q_MOST_MARK => k_is)
    (case a_MarksError => k_is)
    (case a_BadCrowd => k_is)
    (case a_Crowd => k_is)
    (case a_is_word => k_is)
    (case l_is_word => k_is)
    (case c_is_word => k_is)
    (case k_is_word => k_is)
    (case a_are_people => k_is)
    (case l_are_people => k_is)
    (case c_are_people => k_is)
    (case k_are_people => k_is)
    (case a_BadCrowd_new => k_is)
    (case l_BadCrowd_new => k_is)
    (case c_BadCrowd_new => k_is)
    (case k_BadCrowd_new => k_is)
    (case a_is_count => k_is)
    (case l_is_count => k_is)
    (case c_is_count => k_is)
    (case k_is_count => k_is)
    (case a_Crowd_new => k_is)
    (case l_Crowd_new => k_is)
    (case c_Crowd_new => k_is)
    (case k_Crowd_new => k_is)
    (case a_d_law_told => k_is)
    (case l_d_law_told => k_is)
    (case c_d_law_told => k_is)
    (case k_d_law_told => k_is)
    (case a_d_law_opened => k_is)
    (case l_d_law_opened => k_is)
    (case c_d_law_opened => k_is)
    (case k_d_law_opened => k_is)
    (case a_d_law_draw => k_is)
    (case l_d_law_draw => k_is)
    (case c_d_law_draw => k_is)
    (case k_d_law_draw => k_is)
    (case a_d_law_people => k_is)
    (case l_d_law_people => k_is)
    (case c_d_law_people => k_is)
    (case k_d_law_people => k_is)
    (case a_law => k_is)
    (case l_law => k_is)
    (case c_law => k_is)
    (case k_law => k_is)
    (case x_BadCrowd => k_is)
    (case sa_BadCrowd => k_is)
    (case be_BadCrowd => k_is)
    (case ty_BadCrowd => k_is)
    (case kc_BadCrowd => k_is)
    (case ti_BadCrowd => k_is)
    (case og_MarksError => k_is)
    (case or_MarksError => k_is)
    (case of_MarksError => k_is)
    (case no_BadCrowd_part => k_is)
    (case ga_BadCrowd => k_is)
    (case gg_BadCrowd => k_is)
    (case hd_BadCrowd => k_is)
    (case su_BadCrowd_MarksError => k_is)
    (case ic_MarksError => k_is)
    (case ty_MarksError => k_is)
    (case gs0 => k_is)
    (case gs1 => k_is)
    (case hc_BadCrowd => k_is)
    (case hm_BadCrowd => k_is)
    (case pg_Crowd => k_is)
    (case hd_Crowd => k_is)
    (case po_Crowd => k_is)
    (case sa_Crowd => k_is)
    (case mm_Crowd => k_is)
    (case mf_Crowd => k_is)
    (case kc_Crowd => k_is)
    (case na_most_2 => k_is)
    (case na_own_places_2 => k_is)
    (case su_BadCrowd_BadCrowd => k_is)

