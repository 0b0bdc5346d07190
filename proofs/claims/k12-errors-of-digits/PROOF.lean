import PyProof.Rows.All
import Wide.All
import OpenK.AllK
import Wide.FinOn
import KE.KStateDown
import Lean
import HandS.ForMost
import HandS.ForExc
import HandS.Flow
import HandS.Evl
import HandS.Style
import HandS.Wide
import HandS.TupMul
import HandS.TupAny
import HandS.IsInst
import HandS.Conv
import HandS.Defaults
import HandS.HeadEnd
import HandS.Head0
import HandS.Head1
import HandS.Head2
import HandS.HeadHook1
import HandS.HeadHook2
import HandS.RaiseMore
import KE.GoesEnum
import HandS.Iter
import HandS.Walk
import KE.KRevSl
import KE.KTupSum
import HandS.List
import PyProof.ListMulRoad
import PyProof.FactsAll.tuple_2
import HandS.Slots
import HandS.SlotsOwn
import HandS.Property
import HandS.NamedTupGet
import HandS.SetFor
import PyProof.AutoSeq1
import HandS.Dict
import HandS.DictComp
import HandS.TupLen
import HandS.WordsDict
import HandS.Star
import HandS.SortInts
import KE.KeyNested
import HandS.Lambda
import KE.KNestM
import HandS.Zip
import HandS.CallSlots
import HandS.SortRule
import HandS.TupLe
import HandS.Text
import HandS.Deep
import HandS.EndTab
import HandS.HeadNt
import HandS.TryMany
import HandS.ExcField
import HandS.FStr
import KE.KExcSuper
import KE.KSuper
import PyProof.ReprRoads
import PyProof.FString2
import KE.KExcInit
import PyProof.Rows.ListMulArg
import PySem.Challenge.RW_digitwords_k12_errors_of_digits
set_option Elab.async false
set_option linter.all false
set_option maxRecDepth 100000
set_option maxHeartbeats 4000000
namespace My
open PySem PySem.Spec PyProof.Rows L2
section
variable {X : Cx}
/-- ** of a great base -/
def CPowW (i j : Int) : Prop := 0 ≤ j ∧ (Builtin.Int.intBits i : Int) * j ≤ 2 ^ 27
instance {i j : Int} : Decidable (CPowW i j) := inferInstanceAs (Decidable (_ ∧ _))
theorem op_powW : OpR X (binaryOp .Pow) (rI CPowW fun i j => .int (i ^ j.toNat)) := opI fun _ _ _ _ _ _ _ hc q => pow_int hc.1 hc.2 q
end
/-- all tracked things but the one at d stay -/
def But (d : Addr) (H H' : Hp) : Prop := ∀ b o, b ≠ d → H b = some o → H' b = some o
theorem But.refl (d : Addr) (H : Hp) : But d H H := fun _ _ _ h => h
theorem But.trans {d : Addr} {H H1 H2 : Hp} (a : But d H H1) (b : But d H1 H2) : But d H H2 := fun c o n h => b c o n (a c o n h)
theorem But.of {d : Addr} {H H' : Hp} (e : Same H H') : But d H H' := fun b o _ h => e b o h
theorem But.upd {d : Addr} {H : Hp} {o : HO} : But d H (upd H d o) := fun b u n h => by rw [upd_ne n]; exact h
theorem But.updT {d : Addr} {H H1 : Hp} {o : HO} (e : But d H H1) : But d H (L2.upd H1 d o) := e.trans But.upd
/-- the dice -/
def DiceAt (H : Hp) (d : Addr) : Prop := ∃ a b c : Int, H d = some (.lst [.int a, .int b, .int c])

/-- a def of the module, by its name: it keeps a promise, wherever k rooms are left -/
def Keeps (P : Program) (w : World) (K : PySem.W.Frag) (mg : Str → Option Value) (base : Heap) (CX : CXT) (k : Nat) (x : Str) (ps : List Str) (sp : Sp) : Prop :=
  ∃ fd, FnOk P w K mg base CX k (He.ga K x) fd ps sp ∧ Binds K fd ps [] ∧ PySem.W.keepIn K (.ref (He.ga K x)) = true ∧ mg x = some (.ref (He.ga K x))
section
variable {X : Cx} {CX : CXT} {k j : Nat} {x : Str} {ps : List Str} {sp : Sp} {E : XK} {p pos : Pos} {e : Expr} {es : List Expr} {t : TA}
theorem pe_doS (F : Keeps X.prog X.w X.K X.mg X.base CX k x ps sp) (hr : Room j X.A) (hk : k ≤ j) (hg : Gl X x) (hx : Passes CX X E) (ha : PA X (e :: es) t) (hdb : (x == ("__debug__" : Str)) = false := by decide)
    (he : starEach (e :: es) X.env = (false, eval e X.env) :: starEach es X.env := by rfl) (hpl : (backTo pos (starEach es X.env)).any (·.1) = false := by rfl) :
    PE X (.Call (.Name x p) (e :: es) [] pos) (tCall sp [] E t) := by
  obtain ⟨fd, G, b, kp, m⟩ := F
  exact pe_call G (hr.mono hk) hg m kp b .nil hx ha hdb he hpl
theorem pe_do (F : Keeps X.prog X.w X.K X.mg X.base CX0 k x ps sp) (hr : Room j X.A) (hg : Gl X x) (hx : Passes CX0 X E) (ha : PA X (e :: es) t) (hk : k ≤ j := by decide) (hdb : (x == ("__debug__" : Str)) = false := by decide)
    (he : starEach (e :: es) X.env = (false, eval e X.env) :: starEach es X.env := by rfl) (hpl : (backTo pos (starEach es X.env)).any (·.1) = false := by rfl) :
    PE X (.Call (.Name x p) (e :: es) [] pos) (tCall sp [] E t) := pe_doS F hr hk hg hx ha hdb he hpl
end
/-- where a def of the text stands -/
structure DefIn (K : PySem.W.Frag) (mg : Str → Option Value) (x : Str) (st : Stmt) : Prop where
  fd : ∃ fd, FunD K x x (defArgs st) (defBody st) (defScope st) [] [] (He.ga K x) fd
  gl : mg x = some (.ref (He.ga K x))
section
variable {P : Program} {w : World} {K : PySem.W.Frag} {mg : Str → Option Value} {base : Heap} {CX : CXT} {k : Nat} {x : Str} {st : Stmt} {N ps : List Str} {sp : Sp}
theorem fun_ok0 {fd : FuncData} (F : FunD K x x (defArgs st) (defBody st) (defScope st) [] [] (He.ga K x) fd) (S : FnScope N ps (defScope st)) (len : ∀ vs H Q E, sp vs H Q E → vs.length = ps.length)
    (hbody : ∀ (cdv : Value) (A : Around) (outer : List Env) (s : Shared) (H : Hp) (vs : List V) (Q : VK) (E : XK), Room k (A.deeper (envOfC x (defScope st) s.heap.objs.size (He.ga K x) cdv)) → sp vs H Q E →
      ∃ t, PSs (cxOf CX0 P w K mg base N x (defScope st) (He.ga K x) cdv A outer s H E).nox (defBody st) t ∧ t { nx := fun _ H' => Q .non H', rt := Q } (start N vs) H) : FnOk P w K mg base CX0 (k + 1) (He.ga K x) fd ps sp := by
  refine F.ok S len fun cdv A outer s H vs Q E hr hsp => ?_
  obtain ⟨t, h, q⟩ := hbody cdv A outer s H vs Q E hr hsp
  exact ⟨t, h.nox, q⟩
theorem DefIn.keeps (D : DefIn K mg x st) (S : FnScope N ps (defScope st)) (len : ∀ vs H Q E, sp vs H Q E → vs.length = ps.length)
    (hb : ∀ (kV doc pm : Value) (an : Option Addr) (cdv ct : Value) (us : List Value), us.length = ps.length → bindArgs (PySem.W.fnOf x x (defArgs st) (defBody st) (defScope st) .none kV doc pm an cdv ct) ⟨us, []⟩ = pure (ps.zip us))
    (hbody : ∀ (cdv : Value) (A : Around) (outer : List Env) (s : Shared) (H : Hp) (vs : List V) (Q : VK) (E : XK), Room k (A.deeper (envOfC x (defScope st) s.heap.objs.size (He.ga K x) cdv)) → sp vs H Q E →
      ∃ t, PSs (cxOf CX0 P w K mg base N x (defScope st) (He.ga K x) cdv A outer s H E).nox (defBody st) t ∧ t { nx := fun _ H' => Q .non H', rt := Q } (start N vs) H) : Keeps P w K mg base CX0 (k + 1) x ps sp := by
  obtain ⟨fd, F⟩ := D.fd
  refine ⟨fd, F.ok S len fun cdv A outer s H vs Q E hr hsp => ?_, F.bindsN hb, F.kp, D.gl⟩
  obtain ⟨t, h, q⟩ := hbody cdv A outer s H vs Q E hr hsp
  exact ⟨t, h.nox, q⟩
end
/-! ### readings, step by step -/
theorem iteD {p : Prop} {_ : Decidable p} {A B : Prop} (h1 : p → A) (h2 : ¬ p → B) : if decide p = true then A else B := by
  by_cases h : p
  · rw [decide_eq_true h]; exact iteT (h1 h)
  · rw [decide_eq_false h]; exact iteF (h2 h)
theorem iteN {p : Prop} {_ : Decidable p} {A B : Prop} (h1 : ¬ p → A) (h2 : p → B) : if (!decide p) = true then A else B := by
  by_cases h : p
  · rw [decide_eq_true h]; exact iteF (h2 h)
  · rw [decide_eq_false h]; exact iteT (h1 h)
theorem iteB {b : Bool} {A B : Prop} (h1 : b = true → A) (h2 : b = false → B) : if b = true then A else B := by
  cases b
  · exact iteF (h2 rfl)
  · exact iteT (h1 rfl)
theorem iteBN {b : Bool} {A B : Prop} (h1 : b = false → A) (h2 : b = true → B) : if (!b) = true then A else B := by
  cases b
  · exact iteT (h1 rfl)
  · exact iteF (h2 rfl)
theorem nodup_ixA : ∀ {l : List Addr} (_ : l.Nodup) {i j : Nat} {d : Addr} (_ : l[i]? = some d) (_ : l[j]? = some d), i = j
  | [], _, i, j, d, h, _ => by simp at h
  | a :: l, n, 0, 0, d, _, _ => rfl
  | a :: l, n, 0, j + 1, d, h1, h2 => by
    simp at h1 h2
    exact absurd (List.mem_of_getElem? h2) (by rw [← h1]; exact (List.nodup_cons.mp n).1)
  | a :: l, n, i + 1, 0, d, h1, h2 => by
    simp at h1 h2
    exact absurd (List.mem_of_getElem? h1) (by rw [← h2]; exact (List.nodup_cons.mp n).1)
  | a :: l, n, i + 1, j + 1, d, h1, h2 => by
    simp at h1 h2
    rw [nodup_ixA (List.nodup_cons.mp n).2 h1 h2]
/-- things that are tracked, at unlike places -/
def Has (H : Hp) (l : List (Addr × HO)) : Prop := (l.map (·.1)).Nodup ∧ ∀ p ∈ l, H p.1 = some p.2
theorem Has.nil {H : Hp} : Has H [] := ⟨List.nodup_nil, fun _ h => nomatch h⟩
theorem Has.one {H : Hp} {a : Addr} {o : HO} (h : H a = some o) : Has H [(a, o)] := ⟨by simp, fun p hp => by
  rw [List.mem_singleton.mp hp]; exact h⟩
theorem Has.cons {H H' : Hp} {l : List (Addr × HO)} {a : Addr} {o : HO} (W : Has H l) (e : Same H H') (n : H a = none) (h : H' a = some o) : Has H' ((a, o) :: l) := by
  refine ⟨?_, fun p hp => ?_⟩
  · rw [List.map_cons, List.nodup_cons]
    refine ⟨fun hm => ?_, W.1⟩
    obtain ⟨q, hq, e2⟩ := List.mem_map.mp hm
    have := W.2 q hq
    rw [e2, n] at this
    cases this
  · rcases List.mem_cons.mp hp with rfl | hp
    · exact h
    · exact e _ _ (W.2 p hp)
theorem Has.same {H H' : Hp} {l : List (Addr × HO)} (W : Has H l) (e : Same H H') : Has H' l := ⟨W.1, fun p hp => e _ _ (W.2 p hp)⟩
theorem Has.drop {H : Hp} {l : List (Addr × HO)} {p : Addr × HO} (W : Has H (p :: l)) : Has H l := ⟨(List.nodup_cons.mp W.1).2, fun q hq => W.2 q (List.mem_cons_of_mem _ hq)⟩
/-- the i-th one is changed -/
theorem Has.but {H H' : Hp} {l : List (Addr × HO)} {d : Addr} {o o' : HO} (i : Nat) (W : Has H l) (hi : l[i]? = some (d, o)) (e : But d H H') (h : H' d = some o') : Has H' (l.set i (d, o')) := by
  have hlt : i < l.length := by
    rcases Nat.lt_or_ge i l.length with h1 | h1
    · exact h1
    · rw [List.getElem?_eq_none h1] at hi; cases hi
  have em : (l.set i (d, o')).map (·.1) = l.map (·.1) := by
    apply List.ext_getElem?
    intro j
    rw [List.getElem?_map, List.getElem?_map, List.getElem?_set]
    by_cases hj : i = j
    · subst hj
      simp [hlt]
      rw [List.getElem?_eq_getElem hlt] at hi
      have := Option.some.inj hi
      rw [this]
    · rw [if_neg hj]
  refine ⟨by rw [em]; exact W.1, fun p hp => ?_⟩
  obtain ⟨j, hj, ej⟩ := List.getElem_of_mem hp
  rw [List.getElem_set] at ej
  by_cases hij : i = j
  · rw [if_pos hij] at ej
    rw [← ej]
    exact h
  · rw [if_neg hij] at ej
    have hj' : j < l.length := by rw [List.length_set] at hj; exact hj
    have hp' : p ∈ l := by rw [← ej]; exact List.getElem_mem hj'
    refine e _ _ (fun hd => ?_) (W.2 p hp')
    have n := W.1
    have h1 : (l.map (·.1))[i]? = some d := by rw [List.getElem?_map, hi]; rfl
    have h2 : (l.map (·.1))[j]? = some d := by rw [List.getElem?_map, List.getElem?_eq_getElem hj', ej]; simp [hd]
    exact hij (nodup_ixA n h1 h2)
theorem Has.upd {H : Hp} {l : List (Addr × HO)} {d : Addr} {o o' : HO} (i : Nat) (W : Has H l) (hi : l[i]? = some (d, o)) : Has (L2.upd H d o') (l.set i (d, o')) := W.but i hi But.upd upd_same
theorem Has.get {H : Hp} {l : List (Addr × HO)} (i : Nat) (W : Has H l) {d : Addr} {o : HO} (hi : l[i]? = some (d, o)) : H d = some o := W.2 _ (List.mem_of_getElem? hi)
/-- a new thing: the heap behind it is any that has it, and all that was -/
@[elab_as_elim] theorem new_of {H : Hp} {p : Addr} {o : HO} {motive : Hp → Prop} (n : H p = none) (h : ∀ H', Same H H' → H' p = some o → motive H') : motive (L2.upd H p o) :=
  h _ (fun b u e => by rw [upd_ne (ne_of_none e n)]; exact e) upd_same
section
variable {K : PySem.W.Frag} {H : Hp} {p : Addr} {xs : List V} {i : Int} {v : V} {Q : VK}
theorem rIxL_of (h : H p = some (.lst xs)) (hv : atI xs i = some v) (q : Q v H) : rIxL K (.ref p) (.int i) H Q := ⟨p, xs, i, v, rfl, rfl, SqL.of h, hv, q⟩
theorem rIxL_sq (h : SqL K H p xs) (hv : atI xs i = some v) (q : Q v H) : rIxL K (.ref p) (.int i) H Q := ⟨p, xs, i, v, rfl, rfl, h, hv, q⟩
theorem rIxT_of (h : H p = some (.tup xs)) (hv : atI xs i = some v) (q : Q v H) : rIxT K (.ref p) (.int i) H Q := ⟨p, xs, i, v, rfl, rfl, SqT.of h, hv, q⟩
theorem rI_of {C : Int → Int → Prop} {g : Int → Int → V} {a b : Int} (hc : C a b) (q : Q (g a b) H) : rI C g (.int a) (.int b) H Q := ⟨a, b, rfl, rfl, hc, q⟩
theorem rI0_of {g : Int → Int → V} {a b : Int} (q : Q (g a b) H) : rI0 g (.int a) (.int b) H Q := ⟨a, b, rfl, rfl, q⟩
theorem set_of {xs : List V} {v : V} {j : Nat} {Q : Hp → Prop} (h : H p = some (.lst xs)) (hj : ixN xs.length i = some j) (q : ∀ H', But p H H' → H' p = some (.lst (xs.set j v)) → Q H') : rSetL (.ref p) (.int i) v H Q :=
  ⟨p, xs, i, j, rfl, rfl, h, hj, q _ But.upd upd_same⟩
theorem cmulL {a b : Int} (h : -(2 ^ 64) < a) (h2 : a < 2 ^ 64) : CMul a b := .inl ⟨h, h2⟩
theorem cmulR {a b : Int} (h : -(2 ^ 64) < b) (h2 : b < 2 ^ 64) : CMul a b := .inr ⟨h, h2⟩
end
/-- an expression, what is known behind it said in between -/
def tMid (te : TE) : TE := fun σ H Q => ∃ R : VK, te σ H R ∧ ∀ v H', R v H' → Q v H'
theorem pe_mid {X : Cx} {e : Expr} {te : TE} (h : PE X e te) : PE X e (tMid te) := ⟨fun pins s σ H Q I ⟨R, h1, h2⟩ =>
  thn (h.run pins s σ H R I h1) fun u s1 ⟨v, H1, I1, r, q⟩ => ⟨v, H1, I1, r, h2 _ _ q⟩⟩
end My

set_option Elab.async false
set_option linter.all false
set_option maxRecDepth 100000
set_option maxHeartbeats 4000000
namespace My
open PySem PySem.Spec PyProof.Rows L2
/-! ### enumerate(tuple) -/
set_option maxHeartbeats 4000000 in
theorem meets_enum1 {v : Value} {o : Obj} {H : Heap → Prop} (B : Begins v o H) :
    Meets (Builtin.«enumerate.__new__» ⟨[.type "enumerate", v], []⟩) (fun _ R s => H s.heap ∧
      R (.ok (.ret (.ref (s.heap.push o).objs.size))) { s with heap := (s.heap.push o).push { cls := .type "enumerate", data := .fields #[.none, .bool false, .ref s.heap.objs.size, rawInt 0, .none, .none] } }) :=
  .of_wp fun prog w A R s h => by
    obtain ⟨hp, g, d, tk, os⟩ := s
    obtain ⟨h1, h⟩ := h
    have hsub := sub_enumerate
    have step : ∀ {A' : Around} {E : Value → Shared → Prop} {Q : Value → Shared → Prop}, Q (.ref hp.objs.size) ⟨hp.push o, g, d, tk, os⟩ → wpAny (model prog w) A' (pyIter v) Q E ⟨hp, g, d, tk, os⟩ :=
      fun q => B.iter prog w _ _ ⟨hp, g, d, tk, os⟩ _ h1 q
    wp_walk using step
    refine wpAny_stack_any fun st => wpAny_pure ?_
    split
    · rename_i c _ _ _ _ _
      cases (c == Value.type "enumerate")
      · wp_walk using step
        exact ⟨_, rfl, h⟩
      · wp_walk using step
        exact ⟨_, rfl, h⟩
    · wp_walk using step
      exact ⟨_, rfl, h⟩
theorem call_enum1 {prog : Program} {w : World} {A : Around} {E : Value → Shared → Prop} {s : Shared} {v : Value} {o : Obj} {G : Heap → Prop} {Q : Value → Shared → Prop} (B : Begins v o G) (h1 : G s.heap)
    (h : ∀ h', IsEnum h' (s.heap.objs.size + 1) s.heap.objs.size 0 .none → h'.get? s.heap.objs.size = some o → h'.objs.size = s.heap.objs.size + 2 →
      (∀ b u, s.heap.get? b = some u → h'.get? b = some u) → Q (.ref (s.heap.objs.size + 1)) { s with heap := h' }) :
    wpAny (model prog w) A (call (.type "enumerate") [v]) Q E s := by
  refine callType_new F.called_enumerate (by decide) (F.typeCall_enumerate_1 _) (F.newCall_enumerate_1 _) (fun obj => F.args_object_init_2 obj _) F.entry_enumerate_new (meets_enum1 B) ⟨h1, ?_⟩
  have hz : (s.heap.push o).objs.size = s.heap.objs.size + 1 := Heap.size_push ..
  show _ ∧ _
  rw [hz]
  have hn := Heap.get?_push_size (s.heap.push o) (o := { cls := .type "enumerate", data := .fields #[.none, .bool false, .ref s.heap.objs.size, rawInt 0, .none, .none] }) rfl
  rw [hz] at hn
  exact ⟨⟨_, hn, rfl⟩, h _ hn (Heap.get?_push_of_some _ (Heap.get?_push_size _ B.free)) (by rw [Heap.size_push, hz]) fun b u x => Heap.get?_push_of_some _ (Heap.get?_push_of_some _ x)⟩
/-- the items of the tuple at a, each in a new pair with its index -/
def Iet (K : PySem.W.Frag) (a : Addr) : It :=
  ⟨fun i H => ∃ (xs : List V) (x : V), SqT K H a xs ∧ xs[i]? = some x, fun i H v H' => ∃ T x, v = .ref T ∧ H T = none ∧ H' = upd H T (.tup [.int (i : Nat), x]) ∧ ∀ xs, SqT K H a xs → xs[i]? = some x, fun i H => ∃ xs : List V, SqT K H a xs ∧ xs.length = i⟩
theorem turn_enumT {P : Program} {w : World} {K : PySem.W.Frag} {elts : List Expr} {kk : Nat} {tpos : Pos} (a e it : Addr) (hne : e ≠ it) (hai : a ≠ it) (hae : a ≠ e) :
    Turn P w K (.Tuple elts kk tpos) (Iet K a) [e, it] e (fun i h => (∃ old, IsEnum h e it ((i : Nat) : Int) old) ∧ h.IsTupleIter it a i) where
  mem := by simp
  obj := fun i h st b hb => by
    obtain ⟨⟨old, he⟩, ⟨o, ho, hc, hd⟩⟩ := st
    rcases (show b = e ∨ b = it by simpa using hb) with z | z
    · rw [z]; exact ⟨_, he, fun v q => nomatch q⟩
    · rw [z]; exact ⟨o, ho, fun v q => by rw [hd] at q; cases q⟩
  keep := fun i h h' st k => let ⟨⟨old, he⟩, hi⟩ := st; ⟨⟨old, k e (by simp) _ he⟩, hi.at fun o q => k it (by simp) o q⟩
  item := by
    intro X hP hw hK hc i pins s σ H E I hf st hg
    subst hP hw hK
    obtain ⟨⟨old, he⟩, hit⟩ := st
    obtain ⟨xs, x, hq, hx⟩ := hg
    obtain ⟨its, rv, p, hz⟩ := I.tuple hq
    obtain ⟨u, hu, ru⟩ := rv.get hx
    have hel : e < s.heap.objs.size := Heap.lt_size he
    have hil : it < s.heap.objs.size := by obtain ⟨_, q, _⟩ := hit; exact Heap.lt_size q
    have hh := I.ok.hd hc
    have D := Draws.tuple (prog := X.prog) (w := X.w) (A := X.A.in1) hh it a hai its.toArray
    have hu2 : its.toArray[i]? = some u := by simpa using hu
    have hlt : i < its.toArray.size := by
      rcases Nat.lt_or_ge i its.toArray.size with z | z
      · exact z
      · rw [Array.getElem?_eq_none z] at hu2; cases hu2
    refine wpAny_pyNext_enum_itemC D he ⟨hit, show s.heap.IsTuple a its.toArray from p⟩ hlt hne (by simp [hne, Ne.symm hae]) fun y h' tk hP ho hs' hT hsz hk => ?_
    have ey : y = u := by rw [hu2] at hP; exact (Option.some.inj hP).symm
    subst ey
    refine ⟨_, rfl, wpAny_letOwnedTupleGo_enum (s := { s with heap := h', toks := tk + 1 }) ho fun h'' he' sb => ?_⟩
    have hT2 : h''.get? s.heap.objs.size = some { cls := .type "tuple", data := .seq #[.int i tk, y] } := (sb.2 _ (Nat.ne_of_gt hel)).trans hT
    have new : ObjOk X.prog X.w (upd H s.heap.objs.size (.tup [.int (i : Nat), x])) h'' s.heap.objs.size (.tup [.int (i : Nat), x]) :=
      ⟨by show 2 ≤ sizeLine; decide, [.int i tk, y], .cons ⟨_, rfl⟩ (.cons ru .nil), ⟨_, hT2, rfl, _, rfl⟩⟩
    have I1 : Inv X pins σ (upd H s.heap.objs.size (.tup [.int (i : Nat), x])) { s with heap := h'', toks := tk + 1 } :=
      I.turnedNew (ch := [e, it]) (fun b ob hb q => (sb.2 b (fun z => hb (by simp [z]))).trans (hk b ob (fun z => hb (by simp [z])) (fun z => hb (by simp [z])) q)) hf (Nat.le_refl _) new
    refine ⟨.ref s.heap.objs.size, _, I1, rfl, ⟨_, x, rfl, I.hok.fresh (Nat.le_refl _), rfl, fun ys hy => by rw [I.tuple_inj hy hq]; exact hx⟩, ⟨⟨y, ?_⟩, hs'.1.at fun o q => (sb.2 it (Ne.symm hne)).trans q⟩, fun b hb => ?_⟩
    · have e1 : ((i + 1 : Nat) : Int) = (i : Int) + 1 := by omega
      rw [e1]; exact he'
    · have hb' : b < s.heap.objs.size := by
        rcases (show b = e ∨ b = it by simpa using hb) with z | z
        · rw [z]; exact hel
        · rw [z]; exact hil
      rw [upd_ne (Nat.ne_of_lt hb')]
      exact (hf b hb).1
  done := by
    intro X hP hw hK hc i pins s σ H E I hf st hg
    subst hP hw hK
    obtain ⟨⟨old, he⟩, hit⟩ := st
    obtain ⟨xs, hq, hx⟩ := hg
    obtain ⟨its, rv, p, hz⟩ := I.tuple hq
    obtain ⟨f0, f1, f2, f3, f4, f5⟩ := hf it (by simp)
    have hl := rv.length
    have ei : i = its.toArray.size := by simp; omega
    have D := Draws.tuple (prog := X.prog) (w := X.w) (A := X.A.in1) (I.ok.hd hc) it a hai its.toArray
    rw [ei] at hit he
    exact wpAny_pyNext_enum_endD D he ⟨hit, show s.heap.IsTuple a its.toArray from p⟩ fun h' eb => ⟨rfl, I.turned (t' := s.toks) (fun b o hb q => eb b o hb q) f0 f1 f3 f4 f5⟩
  self := fun A i s Q E st h => let ⟨⟨_, he⟩, _⟩ := st; wpAny_pyIter_enum he h
def iEnT (K : PySem.W.Frag) (ta : TA) : TI := fun σ H R => ta σ H fun vs H1 => ∃ a xs, vs = [.ref a] ∧ SqT K H1 a xs ∧ R (Iet K a) H1
theorem pi_enumT {X : Cx} {e : Expr} {ta : TA} {p pos tpos : Pos} {elts : List Expr} {kk : Nat} (hg : Gl X "enumerate") (hm : X.mg "enumerate" = none) (ha : PA X [e] ta) (hs : starEach [e] X.env = [(false, eval e X.env)] := by rfl) :
    PI X (.Tuple elts kk tpos) (.Call (.Name "enumerate" p) [e] [] pos) (iEnT X.K ta) := by
  refine ⟨fun pins s σ H R I h => ?_⟩
  refine Call_ (ld_blt I hg hm boot_enumerate (PyProof.Rows.callWith_type1 (thn (ha.run pos pins s σ H _ I h) fun us s1 ⟨vs, H1, I1, r1, q1⟩ => ?_) hs rfl))
  obtain ⟨a, xs, ex, hq, q⟩ := q1
  subst ex
  cases r1 with
  | cons r rr =>
    cases rr
    cases r
    obtain ⟨its, rv, p', hz⟩ := I1.tuple hq
    have hal : a < s1.heap.objs.size := p'.lt
    refine call_enum1 (begins_tuple a its.toArray) (show s1.heap.IsTuple a its.toArray from p') fun h' he hit hsz hk => wpAny_pyIter_enum he ?_
    have I2 : Inv X pins σ H1 { s1 with heap := h' } := I1.kept (t' := s1.toks) hk
    refine ⟨s1.heap.objs.size + 1, [s1.heap.objs.size + 1, s1.heap.objs.size], _, _, H1, rfl, I2, turn_enumT a (s1.heap.objs.size + 1) s1.heap.objs.size (Nat.succ_ne_self _) (Nat.ne_of_lt hal) (Nat.ne_of_lt (Nat.lt_succ_of_lt hal)), ⟨⟨.none, he⟩, ⟨_, hit, rfl, rfl⟩⟩, fun b hb => ?_, q⟩
    have hle : s1.heap.objs.size ≤ b := by
      rcases (show b = s1.heap.objs.size + 1 ∨ b = s1.heap.objs.size by simpa using hb) with z | z
      · rw [z]; exact Nat.le_add_right _ _
      · rw [z]; exact Nat.le_refl _
    exact I1.fpOk hle (I1.hok.fresh hle)
section
variable {K : PySem.W.Frag} {a : Addr} {xs : List V}
theorem walk_enumT : Walk (Iet K a) xs.length (fun H => SqT K H a xs) (YPair (fun i => some (.int (i : Nat))) (fun i => xs[i]?)) := by
  refine ⟨fun i _ hi q => ⟨xs, xs[i], q, by simp [hi]⟩, fun _ q => ⟨xs, q, rfl⟩, fun i H v H' _ q y => ?_⟩
  obtain ⟨T, x, h1, h2, h3, h4⟩ := y
  exact ⟨T, .int (i : Nat), x, h1, h2, h3, rfl, h4 xs q⟩
end
/-! ### sum of a tuple of ints -/
def rSumT (K : PySem.W.Frag) : List V → Hp → VK → Prop := fun vs H Q => ∃ (a : Addr) (ns : List Int), vs = [V.ref a] ∧ SqT K H a (ns.map V.int) ∧ Q (.int ns.sum) H
theorem cr_sumT {X : Cx} (hc : X.calm = true) : CallR X (.builtin "sum") (rSumT X.K) := by
  intro pins s σ H vs us Q I r h
  obtain ⟨a, ns, rfl, hs, q⟩ := h
  obtain ⟨its, rv, p, _⟩ := I.tuple hs
  rw [Vals.ref1 r]
  obtain ⟨xs, e⟩ := rv.ints.allInts.items
  have hn : numsOf (intItems xs).toList = ns := by rw [← e]; exact rv.ints.numsOf
  rw [nums_intItems] at hn
  have ht : s.heap.IsTuple a its.toArray := p
  rw [e] at ht
  refine PySem.W.ktm_sumG (I.ok.hd hc) ht fun h' tk t' hk => ?_
  rw [preSum_eq, List.take_of_length_le (by simp), hn]
  exact ⟨.int _, H, I.kept hk, ⟨_, rfl⟩, q⟩
/-! ### t[::-1] of a tuple -/
section
variable {prog : Program} {w : World} {A : Around} {E : Value → Shared → Prop} {s : Shared}
theorem sliceApplied_back {sl : Addr} {tk : Tok} {n : Nat} {Q : Int × Int × Nat → Shared → Prop} (hs : s.heap.IsSliceOf sl .none .none (.int (-1) tk))
    (h : Q ((n : Int) - 1, -1, n) s) : wpAny (model prog w) A (Builtin.Slice.sliceApplied (.ref sl) (pure (n : Int))) Q E s := by
  obtain ⟨os, hos, hcs, hds⟩ := id hs
  unfold Builtin.Slice.sliceApplied Builtin.Slice.sliceFields
  refine wpAny_bind (wpAny_bind (wpAny_field hos hds (x := .none) rfl (wpAny_bind (wpAny_field hos hds (x := .none) rfl (wpAny_bind (wpAny_field hos hds (x := .int (-1) tk) rfl (wpAny_pure ?_)))))))
  refine wpAny_bind (slicePart_int ?_)
  show wpAny _ _ (if ((-1 : Int) == 0) = true then _ else _) _ _ s
  rw [if_neg (by decide)]
  refine wpAny_bind (slicePart_none (wpAny_bind (slicePart_none (wpAny_bind (wpAny_pure ?_)))))
  show wpAny _ _ (match Builtin.Slice.sliceAdjust none none (-1) (n : Int) with | (lo, hi) => pure (lo, (-1 : Int), Builtin.Slice.slicePlaces lo hi (-1))) _ _ s
  have e1 : Builtin.Slice.sliceAdjust none none (-1) (n : Int) = ((n : Int) - 1, -1) := rfl
  rw [e1]
  show wpAny _ _ (pure ((n : Int) - 1, (-1 : Int), Builtin.Slice.slicePlaces ((n : Int) - 1) (-1) (-1))) _ _ s
  have e2 : Builtin.Slice.slicePlaces ((n : Int) - 1) (-1) (-1) = n := by
    unfold Builtin.Slice.slicePlaces
    rw [if_neg (by decide)]
    split
    · rw [show (-(-1 : Int)) = 1 from rfl, Int.ediv_one]; omega
    · omega
  rw [e2]
  exact wpAny_pure h
theorem pick_back (xs : Array Value) : ((List.range xs.size).filterMap fun (k : Nat) => xs[(((xs.size : Int) - 1) + (k : Int) * (-1)).toNat]?).toArray = xs.toList.reverse.toArray := by
  have e : ((List.range xs.size).filterMap fun (k : Nat) => xs[(((xs.size : Int) - 1) + (k : Int) * (-1)).toNat]?) = ((List.range xs.size).map fun k => xs.size - 1 - k).filterMap (xs[·]?) := by
    rw [List.filterMap_map]
    congr 1
    funext k
    show xs[(((xs.size : Int) - 1) + (k : Int) * (-1)).toNat]? = xs[xs.size - 1 - k]?
    rw [show (((xs.size : Int) - 1) + (k : Int) * (-1)).toNat = xs.size - 1 - k by omega]
  rw [e, PySem.W.krv_range, List.filterMap_reverse, PySem.W.krv_all]
theorem getItem_back {t sl : Addr} {items : Array Value} {tk : Tok} {Q : Value → Shared → Prop} (ht : IsTup s.heap t items) (hs : s.heap.IsSliceOf sl .none .none (.int (-1) tk))
    (h : Q (.ref s.heap.objs.size) { s with heap := s.heap.push { cls := .type "tuple", data := .seq items.toList.reverse.toArray } })
    (hsz : items.size ≤ sizeLine) : wpAny (model prog w) A (getItem (.ref t) (.ref sl)) Q E s := by
  have htake : sizeOk (.seq items.toList.reverse.toArray) := by
    show items.toList.reverse.toArray.size ≤ sizeLine
    rw [List.size_toArray, List.length_reverse, Array.length_toList]
    exact hsz
  obtain ⟨os, hos, hcs, hds⟩ := id hs
  have hTs : s.TypeIs (.ref sl) "slice" := ⟨os, hos, hcs⟩
  unfold getItem
  try with_reducible refine wpAny_holding ?_
  first | refine wpAny_bind (wpAny_pure ?_) | skip
  refine wpAny_bind (wpAny_sequenceKey ht.typeIs (by decide) ?_)
  refine wpAny_bind (wpAny_callSpecial?_slot (name := Str.ofString "__getitem__") ht.typeIs PyProof.Rows.slot_tuple_getitem
    (wpAny_call_entry PyProof.Rows.slot_tuple_getitem ht.typeIs entry_tuple_getitem ?_ (args_tuple_getitem _ _)))
  show wpAny _ _ (Builtin.Tuple.tupleItemsOf (.ref t) >>= _) _ _ s
  refine wpAny_bind (tupleItemsOf_ ht ?_)
  refine wpAny_bind (wpAny_typeOf hTs ?_)
  rw [if_pos (by decide)]
  refine wpAny_bind (sliceApplied_back hs ?_)
  have hno : ¬ ((((items.size : Int) - 1) == 0 && (-1 : Int) == 1 && items.size == items.size) = true) := by
    intro q
    rw [Bool.and_eq_true, Bool.and_eq_true] at q
    exact absurd q.1.2 (by decide)
  show wpAny _ _ (if (((items.size : Int) - 1) == 0 && (-1 : Int) == 1 && items.size == items.size) = true then _ else _) _ _ s
  rw [if_neg hno, pick_back]
  first
    | exact wpAny_bind (m := Builtin.Tuple.tupleExact _) (wpAny_newObj_type (wpAny_pure ⟨_, rfl, wpAny_pure h⟩) htake)
    | exact wpAny_bind (m := Builtin.Tuple.tupleExact _) (wpAny_newObj_type (wpAny_bind (wpAny_pure (wpAny_pure ⟨_, rfl, wpAny_pure h⟩))) htake)
    | exact wpAny_bind (wpAny_bind (m := Builtin.Tuple.tupleExact _) (wpAny_newObj_type (wpAny_pure (wpAny_pure ⟨_, rfl, wpAny_pure h⟩)) htake))
    | exact wpAny_bind (wpAny_bind (m := Builtin.Tuple.tupleExact _) (wpAny_newObj_type (wpAny_pure ⟨_, rfl, wpAny_pure h⟩) htake))
end
def tRevT (K : PySem.W.Frag) (te : TE) : TE := fun σ H Q => te σ H fun x H1 => ∃ a xs, x = .ref a ∧ SqT K H1 a xs ∧ ∀ p, H1 p = none → Q (.ref p) (upd H1 p (.tup xs.reverse))
theorem pe_revT {X : Cx} {e : Expr} {te : TE} {k : Nat} {p1 p2 p3 pos : Pos} (he : PE X e te) : PE X (.Subscript e (.Slice none none (some (.UnaryOp .USub (.Constant (.int 1) k p1) p2)) p3) pos) (tRevT X.K te) := by
  refine ⟨fun pins s σ H Q I h => ?_⟩
  refine Subscript_ (thn (he.run pins s σ H _ I h) fun v s1 ⟨x, H1, I1, r1, q1⟩ => ?_)
  obtain ⟨a, xs, ex, hx, q⟩ := q1
  subst ex
  cases r1
  have hst : PO X (some (.UnaryOp .USub (.Constant (.int 1) k p1) p2)) (tPart (tUn (rU fun i => .int (-i)) (tC (.int 1)))) := po_some (pe_un un_neg pe_int)
  refine wpAny_Slice (thn (po_none.run pins s1 σ H1 (fun o H2 => o = none ∧ H2 = H1) I1 ⟨rfl, rfl⟩) fun vl s2 ⟨l, H2, I2, pl, el, e2⟩ => ?_)
  subst el e2
  refine thn (po_none.run pins s2 σ H2 (fun o H3 => o = none ∧ H3 = H2) I2 ⟨rfl, rfl⟩) fun vu s3 ⟨u, H3, I3, pu, eu, e3⟩ => ?_
  subst eu e3
  refine thn (hst.run pins s3 σ H3 (fun o H4 => o = some (-1) ∧ H4 = H3) I3 ⟨1, rfl, -1, rfl, rfl, rfl⟩) fun vs s4 ⟨o, H4, I4, ps, eo, e4⟩ => ?_
  subst eo e4
  cases pl
  cases pu
  cases ps with
  | int _ tk =>
  have I5 : Inv X pins σ H4 { s4 with heap := s4.heap.push { cls := .type "slice", data := .fields #[.none, .none, .int (-1) tk] } } := I4.kept (t' := s4.toks) fun b ob q => Heap.get?_push_of_some _ q
  obtain ⟨its, r, ht, hz⟩ := I5.tuple hx
  have hlen := r.length
  show wpAny (model X.prog X.w) X.A (subscriptTail e (.Slice none none (some (.UnaryOp .USub (.Constant (.int 1) k p1) p2)) p3) (.ref a) (.ref s4.heap.objs.size)) (EP X pins σ Q) X.xe { s4 with heap := s4.heap.push { cls := .type "slice", data := .fields #[.none, .none, .int (-1) tk] } }
  refine tail_any (ops := [.ref a, .ref s4.heap.objs.size]) ht.typeIs (PyProof.Rows.slot_tuple_getitem.lookup) ?_ (by with_unfolding_all rfl)
  refine getItem_back ht (Heap.IsSliceOf.new _ .none .none (.int (-1) tk)) ?_ (by rw [List.size_toArray]; omega)
  refine ⟨.ref _, _, I5.laid (t' := s4.toks) (o := .tup xs.reverse) (fun b ob q => Heap.get?_push_of_some _ q) (Nat.le_refl _) ?_, rfl, q _ (I5.hok.fresh (Nat.le_refl _))⟩
  exact ⟨by rw [List.length_reverse]; exact hz, its.reverse, r.reverse, ⟨_, Heap.get?_push_size _ rfl, rfl, _, rfl⟩⟩
end My

set_option Elab.async false
set_option linter.all false
set_option maxRecDepth 100000
set_option maxHeartbeats 4000000
namespace My
open PySem PySem.Spec PyProof.Rows L2
/-! ### tuple * int, any number of times -/
theorem tup_mul1 (l : Addr) (items : Array Value) (n : Nat) (dd : Option Addr) (sl : Array (Option Value)) (x : Int) (u : Tok) (c0 : (decide (x < -(2 ^ 63)) || decide (x ≥ 2 ^ 63)) = false) (c1 : (items.isEmpty || x == 1) = true) :
    Meets (Builtin.«tuple.__mul__» ⟨[.ref l, .int x u], []⟩) (fun _ R s => s.heap.get? l = some { cls := .type "tuple", dict := dd, data := .seq items n, slots := sl } ∧ R (.ok (.ret (Value.ref l))) s) :=
  .of_wp fun prog w A R s h => by
    obtain ⟨hp, g, d, tk, os⟩ := s
    obtain ⟨hl, h⟩ := h
    have f1 := AutoSeq1.idx_int
    wp_walk using wpAny_loadPart' hl
    repeat (first
      | (refine wpAny_ite_false (decide_eq_false (by rw [c0]; exact Bool.false_ne_true)) ?_; wp_walk using wpAny_loadPart' hl)
      | (refine wpAny_ite_true (decide_eq_true c1) ?_; wp_walk using wpAny_loadPart' hl))
    exact ⟨_, rfl, h⟩
theorem tup_mul0 (l : Addr) (items : Array Value) (n : Nat) (dd : Option Addr) (sl : Array (Option Value)) (x : Int) (u : Tok) (c0 : (decide (x < -(2 ^ 63)) || decide (x ≥ 2 ^ 63)) = false) (c1 : (items.isEmpty || x == 1) = false) (c2 : (decide (x ≤ 0) || items.isEmpty) = true) :
    Meets (Builtin.«tuple.__mul__» ⟨[.ref l, .int x u], []⟩) (fun _ R s => s.heap.get? l = some { cls := .type "tuple", dict := dd, data := .seq items n, slots := sl } ∧
      R (.ok (.ret (Value.ref s.heap.objs.size))) { s with heap := s.heap.push { cls := Value.type "tuple", data := Data.seq #[] }, toks := s.toks }) :=
  .of_wp fun prog w A R s h => by
    obtain ⟨hp, g, d, tk, os⟩ := s
    obtain ⟨hl, h⟩ := h
    have f1 := AutoSeq1.idx_int
    wp_walk using wpAny_loadPart' hl
    repeat (first
      | (refine wpAny_ite_false (decide_eq_false (by rw [c0]; exact Bool.false_ne_true)) ?_; wp_walk using wpAny_loadPart' hl)
      | (refine wpAny_ite_false (decide_eq_false (by rw [c1]; exact Bool.false_ne_true)) ?_; wp_walk using wpAny_loadPart' hl)
      | (refine wpAny_ite_true (decide_eq_true c2) ?_; wp_walk using wpAny_loadPart' hl))
    exact ⟨_, rfl, h⟩
/-- what stands behind: a tuple of these, new or that of before -/
def TupTo (K : PySem.W.Frag) (ys : List V) (H : Hp) (Q : VK) : Prop := ∀ p H', Same H H' → SqT K H' p ys → Q (.ref p) H'
theorem same_new {H : Hp} {p : Addr} {o : HO} (n : H p = none) : Same H (upd H p o) := fun b u e => by rw [upd_ne (ne_of_none e n)]; exact e
theorem TupTo.new {K : PySem.W.Frag} {ys : List V} {H : Hp} {Q : VK} (h : TupTo K ys H Q) : ∀ p, H p = none → Q (.ref p) (upd H p (.tup ys)) := fun p n => h p _ (same_new n) (.of upd_same)
theorem TupTo.old {K : PySem.W.Frag} {ys : List V} {H : Hp} {Q : VK} {p : Addr} (h : TupTo K ys H Q) (e : SqT K H p ys) : Q (.ref p) H := h p _ (Same.refl H) e
def rRepA (K : PySem.W.Frag) : R2 := fun x y H Q => ∃ l k xs, x = .ref l ∧ y = .int k ∧ SqT K H l xs ∧ -1000000 ≤ k ∧ k ≤ 1000 ∧ xs.length ≤ 1000 ∧ TupTo K (List.replicate k.toNat xs).flatten H Q
/-- .. told which of both: the tuple itself, or a new one -/
def rRepB (K : PySem.W.Frag) : R2 := fun x y H Q => ∃ l k xs, x = .ref l ∧ y = .int k ∧ SqT K H l xs ∧ -1000000 ≤ k ∧ k ≤ 1000 ∧ xs.length ≤ 1000 ∧ (xs = [] ∨ k = 1 → Q (.ref l) H) ∧ ∀ p, H p = none → Q (.ref p) (upd H p (.tup (List.replicate k.toNat xs).flatten))
theorem op_repB {X : Cx} : OpR X (binaryOp .Mult) (rRepB X.K) := by
  intro pins s σ H x y v u Q I rx ry h
  obtain ⟨l, k, xs, rfl, rfl, hT, hlo, hhi, hz, q0, q⟩ := h
  by_cases big : xs ≠ [] ∧ 2 ≤ k
  · exact op_repT pins s σ H _ _ v u Q I rx ry ⟨l, k, xs, rfl, rfl, hT, big.1, big.2, hhi, hz, q⟩
  cases rx
  obtain ⟨t, rfl⟩ := ry
  obtain ⟨its, r, ⟨⟨cls, dd, data, sl⟩, ho, hc, n, hd⟩, hs⟩ := I.tuple hT
  simp only at hc hd
  subst hc hd
  have c0 : (decide (k < -(2 ^ 63)) || decide (k ≥ 2 ^ 63)) = false := by
    rw [decide_eq_false (by omega), decide_eq_false (by omega)] <;> rfl
  have emp : its.toArray.isEmpty = true ↔ xs = [] := by
    have hl := r.length
    cases its <;> cases xs <;> simp_all
  by_cases one : xs = [] ∨ k = 1
  · have c1 : (its.toArray.isEmpty || k == 1) = true := by
      rcases one with e | e
      · rw [emp.mpr e] <;> rfl
      · rw [e]; simp
    have er : (List.replicate k.toNat xs).flatten = xs := by
      rcases one with e | e
      · rw [e]; simp
      · rw [e]; simp
    exact wpAny_binaryOp_repeat_ref (T := "tuple") (U := "int") (by decide) ⟨_, ho, rfl⟩ (fun s' => typeIs_int s' k t) noFill_tuple_mul F.fills_int_mul F.slot_int_rmul repeat_tuple F.slot_int_index.lookup
      (call_meets F.slot_int_rmul (typeIs_int s k t) F.entry_int_rmul (F.args_int_rmul_2 _ _) (int_rmul_tuple k t l its.toArray n dd sl)
        ⟨ho, rfl, ⟨_, ho, rfl⟩, call_meets F.slot_tuple_mul ⟨_, ho, rfl⟩ F.entry_tuple_mul (F.args_tuple_mul_2 _ _) (tup_mul1 l its.toArray n dd sl k t c0 c1) ⟨ho, .ref l, H, I, rfl, q0 one⟩⟩)
  · have hne : xs ≠ [] := fun e => one (.inl e)
    have hk : k ≤ 0 := by
      have h1 : k ≠ 1 := fun e => one (.inr e)
      have h2 : ¬ 2 ≤ k := fun e => big ⟨hne, e⟩
      omega
    have hi : its.toArray.isEmpty = false := by
      cases e : its.toArray.isEmpty with
      | false => rfl
      | true => exact absurd (emp.mp e) hne
    have c1 : (its.toArray.isEmpty || k == 1) = false := by
      rw [hi, Bool.false_or]
      exact beq_eq_false_iff_ne.mpr (by omega)
    have c2 : (decide (k ≤ 0) || its.toArray.isEmpty) = true := by rw [decide_eq_true hk] <;> rfl
    have er : (List.replicate k.toNat xs).flatten = [] := by rw [show k.toNat = 0 by omega]; rfl
    rw [er] at q
    refine wpAny_binaryOp_repeat_ref (T := "tuple") (U := "int") (by decide) ⟨_, ho, rfl⟩ (fun s' => typeIs_int s' k t) noFill_tuple_mul F.fills_int_mul F.slot_int_rmul repeat_tuple F.slot_int_index.lookup
      (call_meets F.slot_int_rmul (typeIs_int s k t) F.entry_int_rmul (F.args_int_rmul_2 _ _) (int_rmul_tuple k t l its.toArray n dd sl)
        ⟨ho, rfl, ⟨_, ho, rfl⟩, call_meets F.slot_tuple_mul ⟨_, ho, rfl⟩ F.entry_tuple_mul (F.args_tuple_mul_2 _ _) (tup_mul0 l its.toArray n dd sl k t c0 c1 c2) ⟨ho, ?_⟩⟩)
    refine ⟨.ref s.heap.objs.size, _, I.laid (t' := s.toks) (o := .tup []) (fun b ob q => Heap.get?_push_of_some _ q) (Nat.le_refl _) ?_, rfl, q _ (I.hok.fresh (Nat.le_refl _))⟩
    exact ⟨Nat.zero_le _, [], .nil, IsTup.new _ _⟩
theorem op_repA {X : Cx} : OpR X (binaryOp .Mult) (rRepA X.K) := by
  intro pins s σ H x y v u Q I rx ry h
  obtain ⟨l, k, xs, ex, ey, hT, hlo, hhi, hz, q⟩ := h
  refine op_repB pins s σ H x y v u Q I rx ry ⟨l, k, xs, ex, ey, hT, hlo, hhi, hz, fun one => ?_, q.new⟩
  have er : (List.replicate k.toNat xs).flatten = xs := by
    rcases one with e | e
    · rw [e]; simp
    · rw [e]; simp
  rw [er] at q
  exact q.old hT
/-! ### t + u of tuples, one word for both ways -/
def rCatU (K : PySem.W.Frag) : R2 := fun x y H Q => ∃ a b xs ys, x = .ref a ∧ y = .ref b ∧ SqT K H a xs ∧ SqT K H b ys ∧ xs.length + ys.length ≤ sizeLine ∧ TupTo K (xs ++ ys) H Q
theorem op_catU {X : Cx} : OpR X (binaryOp .Add) (rCatU X.K) := by
  intro pins s σ H x y v u Q I rx ry h
  obtain ⟨a, b, xs, ys, ex, ey, h1, h2, hz, q⟩ := h
  refine op_catA pins s σ H x y v u Q I rx ry ?_
  refine ⟨a, b, xs, ys, ex, ey, h1, h2, hz, fun e => ?_, fun _ e => ?_, fun _ _ => q.new⟩
  · rw [e] at q
    exact q.old h2
  · rw [e, List.append_nil] at q
    exact q.old h1
/-! ### repr of flat values -/
def reprF : V → Option Str
  | .non => some "None"
  | .bl b => some (if b then "True" else "False")
  | .int i => if i.natAbs.log2 < 1920 then some (toString i) else none
  | .str x => if (reprText x).length ≤ sizeLine then some (reprText x) else none
  | _ => none
theorem call_reprF {X : Cx} : CallR X (.builtin "repr") (fun xs H Q => ∃ x z, xs = [x] ∧ reprF x = some z ∧ Q (.str z) H) := by
  intro pins s σ H xs us Q I r h
  obtain ⟨x, z, rfl, hz, q⟩ := h
  obtain ⟨u, rfl, r1⟩ := Vals.one r
  cases x with
  | non =>
    cases (show u = Value.none from r1)
    cases hz
    exact PySem.P.repr_of_none ⟨.str _, H, I.tok _, ⟨_, rfl⟩, q⟩
  | bl b =>
    cases (show u = Value.bool b from r1)
    cases hz
    exact PySem.P.repr_of_bool ⟨.str _, H, I.tok _, ⟨_, rfl⟩, q⟩
  | int i =>
    obtain ⟨t, rfl⟩ := r1
    unfold reprF at hz
    by_cases hl : i.natAbs.log2 < 1920
    · simp only [hl, if_true, Option.some.injEq] at hz
      subst hz
      exact PySem.P.repr_of_int hl ⟨.str _, H, I.tok _, ⟨_, rfl⟩, q⟩
    · simp [hl] at hz
  | str y =>
    obtain ⟨t, rfl⟩ := r1
    unfold reprF at hz
    by_cases hl : (reprText y).length ≤ sizeLine
    · simp only [hl, if_true, Option.some.injEq] at hz
      subst hz
      exact PySem.P.repr_of_str ⟨.str _, H, I.tok _, ⟨_, rfl⟩, q⟩ hl
    · simp [hl] at hz
  | _ => cases hz
/-! ### data of ints, for == -/
theorem canInts : ∀ l : List Int, PyData.canLayAll0 (l.map PyData.int) = true
  | [] => by simp [PyData.canLayAll0]
  | a :: l => by simp [PyData.canLayAll0, PyData.canLay0, canInts l]
theorem depthInts : ∀ l : List Int, PyData.depthAll (l.map PyData.int) ≤ 1
  | [] => by simp [PyData.depthAll]
  | a :: l => by
    have := depthInts l
    simp only [List.map_cons, PyData.depthAll, PyData.depth]
    omega
theorem shapedTI (l : List Int) : SeqAt.shaped (.tuple (l.map PyData.int)) = true := by
  unfold SeqAt.shaped
  simp only [PyData.canLay0, canInts, Bool.true_and, PyData.depth]
  have := depthInts l
  exact decide_eq_true (by omega)
theorem shapedLI (l : List Int) : SeqAt.shaped (.list (l.map PyData.int)) = true := by
  unfold SeqAt.shaped
  simp only [PyData.canLay0, canInts, Bool.true_and, PyData.depth]
  have := depthInts l
  exact decide_eq_true (by omega)
theorem dpInts {K : PySem.W.Frag} {H : Hp} : ∀ l : List Int, DpAll K H (l.map V.int) (l.map PyData.int)
  | [] => .nil
  | a :: l => .cons (.int a) (dpInts l)
theorem dpTI {K : PySem.W.Frag} {H : Hp} {a : Addr} {l : List Int} (h : SqT K H a (l.map V.int)) : Dp K H (.ref a) (.tuple (l.map PyData.int)) := .tup h (dpInts l)
theorem dpLI {K : PySem.W.Frag} {H : Hp} {a : Addr} {l : List Int} (h : SqL K H a (l.map V.int)) : Dp K H (.ref a) (.list (l.map PyData.int)) := .lst h (dpInts l)
theorem eqvTI (l : List Int) : PyData.eqv (.tuple (l.map PyData.int)) (.tuple (l.map PyData.int)) = true := SeqAt.eqv_refl _ (SeqAt.canLay_of_shaped (shapedTI l))
theorem sameT {K : PySem.W.Frag} {H H' : Hp} {a : Addr} {xs : List V} (e : Same H H') (h : SqT K H a xs) : SqT K H' a xs := by
  rcases h with (h | ⟨o, h⟩) | h
  · exact .inl (.inl (e _ _ h))
  · exact .inl (.inr ⟨o, e _ _ h⟩)
  · exact .inr h
/-- a tuple stands where a list is changed -/
theorem butT {K : PySem.W.Frag} {H H' : Hp} {d a : Addr} {xs ys : List V} (hd : H d = some (.lst ys)) (e : But d H H') (h : SqT K H a xs) : SqT K H' a xs := by
  rcases h with (h | ⟨o, h⟩) | h
  · exact .inl (.inl (e _ _ (fun z => by rw [z, hd] at h; cases h) h))
  · exact .inl (.inr ⟨o, e _ _ (fun z => by rw [z, hd] at h; cases h) h⟩)
  · exact .inr h
/-- a tuple's names, the written part told -/
theorem pg_tupK (K0 : PySem.W.Frag) {X : Cx} {es : List Expr} {k : Nat} {pos : Pos} {t : TGs} {n : Nat} (hc : X.calm = true) (hK : X.K = K0) (h : PGs X es t)
    (hn : (assignEach es X.env).length = n := by rfl) (hst : (assignEach es X.env).findIdx? (·.1) = none := by rfl) : PG X (.Tuple es k pos) (gTup K0 n t) := by
  subst hK
  exact pg_tup hc h hn hst
theorem tyT {K : PySem.W.Frag} {H : Hp} {a : Addr} {xs : List V} (h : SqT K H a xs) : TyX K H (.ref a) (.type "tuple") := by
  rcases h with (h | ⟨o, h⟩) | ⟨o, its, n, h1, h2, _⟩
  · exact .base (.tup h)
  · exact .fTuple h
  · exact .kTuple h1 h2
end My

set_option Elab.async false
set_option linter.all false
set_option maxRecDepth 100000
set_option maxHeartbeats 4000000
namespace My
open PySem PySem.Spec PyProof.Rows L2
/-! ### slots -/
/-- o.f as a target -/
def gSlt (K : PySem.W.Frag) (ta : TE) (f : Str) : TG := fun y σ H Q => ta σ H fun x H2 => ∃ a C dx p vs i, x = .ref a ∧ SlX.Slt H2 a C dx vs ∧ SlX.SCls K C ∧ SlX.Slot1 K C f p i ∧ Q σ (SlX.slH H2 a C dx (SlX.putS i y vs))
section
variable {X : Cx} {o : Expr} {f : Str} {pos : Pos} {ta : TE}
theorem pg_slt (ha : PE X o ta) : PG X (.Attribute o f pos) (gSlt X.K ta f) := by
  refine ⟨fun pins s σ H v u Q I r h => ?_⟩
  rw [assign_Attribute]
  refine wpAny_bind (wpAny_holding (thn (ha.run pins s σ H _ I h) fun ov s1 ⟨x, H1, I1, r1, a, C, dx, p, vs, i, ex, hsl, c, t, q⟩ => ?_))
  subst ex
  obtain rfl : ov = Value.ref a := r1
  refine wpAny_bind (wpAny_standAt (wpAny_bind (wpAny_holding (SlX.setslot_ok I1 hsl c t r fun s3 I3 => ?_))))
  exact wpAny_release ⟨σ, _, I3, q⟩
end
/-! ### len(x) of an instance with slots and an own def -/
def rLenOwn (C : Addr) (sp : Sp) (E : XK) : List V → Hp → VK → Prop := fun xs H Q => ∃ a dx vs, xs = [V.ref a] ∧ SlX.Slt H a C dx vs ∧ sp [.ref a] H (fun z H' => ∃ i : Int, z = .int i ∧ 0 ≤ i ∧ i < 2 ^ 63 ∧ Q z H') E
section
variable {X : Cx} {CX : CXT} {C g : Addr} {n : Nat} {sp : Sp} {E : XK}
theorem call_lenOwn (hs : PySem.W.findIn X.K (.ref C) "__len__" = some (some (.ref g))) (hf : PySem.W.isFn X.K (.ref g) = true) (F : FnR X.prog X.w X.K X.mg X.base CX n g sp) (hr : Room (n + 1) X.A) (hx : Passes CX X E) : CallR X (.builtin "len") (rLenOwn C sp E) := by
  intro pins s σ H xs us Q I r h
  obtain ⟨a, dx, vs, rfl, hsl, q⟩ := h
  obtain ⟨u, rfl, ru⟩ := vals1 r
  cases (show u = Value.ref a from ru)
  obtain ⟨sl, od, _, J, _⟩ := SlX.slt_inst I hsl
  refine Calls.call_function_entry kind_len plain_len entry_len (args_len1 _) ?_
  unfold Builtin.«len»
  refine wpAny_bind (m := oneArg "len" _) (wpAny_pure ?_)
  refine wpAny_bind (m := callSpecial? (.ref a) (PySem.Str.ofString "__len__")) (PySem.W.special_fn I.kIn J hs (beq_iff_eq.mp hf) (wpAny_mono (wpAny_call (SlX.run_at (us := [.ref a]) (ws := [.ref a]) F hr.in1 I.env0.in1 hx I (.cons rfl .nil) q)) (fun w s' z => ?_) fun _ _ x => x))
  obtain ⟨z', H', I', rz, i, ei, hi0, hi1, qz⟩ := z
  subst ei
  obtain ⟨t, e⟩ := (show ∃ t, w = Value.int i t from rz)
  cases e
  refine wpAny_bind (wpAny_holding (wpAny_pure ?_))
  refine wpAny_bind (wpAny_letGo ?_)
  show wpAny _ _ (if i < 0 then _ else _) _ _ _
  rw [if_neg (by omega)]
  show wpAny _ _ (if i ≥ 2 ^ 63 then _ else _) _ _ _
  rw [if_neg (by omega)]
  exact wpAny_bind (wpAny_mkInt (wpAny_pure ⟨_, rfl, .int i, H', I'.tok _, ⟨_, rfl⟩, qz⟩))
end
/-! ### a head with tests of one's own -/
abbrev FT : Type := PySem.W.Frag → Bool
def obsX (fa : List He.Fa) (fn : List He.DefD) (ex : List FT) (K : PySem.W.Frag) : He.AlD := ((He.obsD fa fn K).1 && ex.all fun t => t K, (He.obsD fa fn K).2)
def SaysX (fa : List He.Fa) (fn : List He.DefD) (ex : List FT) (K : PySem.W.Frag) : Prop := obsX fa fn ex K = He.valD fn
def obsXG (n : Nat) (fa : List He.Fa) (fn : List He.DefD) (ex : List FT) (g : Addr → Option Obj) : He.AlD := obsX fa fn ex (He.frG g (He.asD g n))
def hookX (n : Nat) (fa : List He.Fa) (fn : List He.DefD) (ex : List FT) : PySem.W.Hook where
  α := He.AlD
  obs := fun s => obsXG n fa fn ex s.heap.get?
  val := fun _ => He.valD fn
  says := fun _ h => ∃ K : PySem.W.Frag, K.In h ∧ SaysX fa fn ex K
  of := fun _ _ e => ⟨_, He.frG_in, e⟩
  keeps := fun _ _ _ ⟨K, hK, c⟩ k => ⟨K, PySem.W.Frag.In.keeps hK k, c⟩
theorem obsXG_eq {n : Nat} {fa : List He.Fa} {fn : List He.DefD} {ex : List FT} {g : Addr → Option Obj} {s : Shared} (h : ∀ a, g a = s.heap.get? a) : obsXG n fa fn ex g = (hookX n fa fn ex).obs s := by
  have e : g = s.heap.get? := funext h
  rw [e] <;> rfl
section
variable {fa : List He.Fa} {fn : List He.DefD} {xt : List FT} {K : PySem.W.Frag}
theorem SaysX.both (c : SaysX fa fn xt K) : ((He.obsD fa fn K).1 = true ∧ (xt.all fun t => t K) = true) ∧ (He.obsD fa fn K).2 = (He.valD fn).2 := by
  have h1 : ((He.obsD fa fn K).1 && xt.all fun t => t K) = true := congrArg (fun z : He.AlD => z.1) (show obsX fa fn xt K = He.valD fn from c)
  have h2 : (obsX fa fn xt K).2 = (He.valD fn).2 := congrArg (fun z : He.AlD => z.2) (show obsX fa fn xt K = He.valD fn from c)
  exact ⟨He.ba h1, h2⟩
theorem SaysX.d (c : SaysX fa fn xt K) : He.SaysD fa fn K := by
  obtain ⟨⟨h1, _⟩, h2⟩ := c.both
  show He.obsD fa fn K = He.valD fn
  exact Prod.ext h1 h2
theorem SaysX.test (c : SaysX fa fn xt K) (i : Nat) {t : FT} (h : xt[i]? = some t := by rfl) : t K = true :=
  List.all_eq_true.mp c.both.1.2 t (List.mem_of_getElem? h)
end
/-! ### tests of a class with slots -/
section
variable (K : PySem.W.Frag) (C : Addr)
def sclsB : Bool := PySem.W.plainGet K C Str.empty && (PySem.W.isClsIn K C && (PySem.W.plainOver K C && He.eqO (PySem.W.findIn K (.ref C) "__setattr__") (some (some (.builtin "object.__setattr__")))))
def slotB (f : Str) (i : Nat) : Bool := He.eqO (PySem.W.findIn K (.ref C) f) (some (some (.ref (He.ma K C f)))) && (He.eqO (PySem.W.specialIn K (.ref (He.ma K C f)) "__get__") (some (some (.builtin "member_descriptor.__get__"))) &&
  (decide (PySem.W.takesIn K (.ref (He.ma K C f)) = some true) && (decide (PySem.W.typeIn K (.ref (He.ma K C f)) = some (.type "member_descriptor")) && (decide (PySem.W.slotIn K (He.ma K C f) C = some i) && decide (i < 1000)))))
def isiB : Bool := He.eqO (PySem.W.findIn K (.ref C) "__class__") (some (some (.builtin "object.__class__"))) && (He.eqO (PySem.W.specialIn K (.builtin "object.__class__") "__get__") (some (some (.builtin "getset_descriptor.__get__"))) &&
  (decide (PySem.W.takesIn K (.builtin "object.__class__") = some true) && decide (PySem.W.mroIn K C (.type "object") = some true)))
def kitB (t u : Value) (b : Bool) : Bool := decide (PySem.W.kitOne K t u = some b)
/-- a property's getter -/
def pgA (f : Str) : Addr := match PySem.W.recIn K (He.ma K C f) "property" with
  | some (.ref g :: _) => g
  | _ => 0
def propB (f : Str) : Bool := He.eqO (PySem.W.findIn K (.ref C) f) (some (some (.ref (He.ma K C f)))) && (He.eqO (PySem.W.specialIn K (.ref (He.ma K C f)) "__get__") (some (some (.builtin "property.__get__"))) &&
  (decide (PySem.W.takesIn K (.ref (He.ma K C f)) = some true) && (match PySem.W.recIn K (He.ma K C f) "property" with
  | some (.ref _ :: _) => true
  | _ => false)))
variable {K C}
theorem scls_ok (h : sclsB K C = true) : SlX.SCls K C := by
  obtain ⟨h1, h⟩ := He.ba h
  obtain ⟨h2, h⟩ := He.ba h
  obtain ⟨h3, h4⟩ := He.ba h
  exact ⟨h1, h2, h3, He.eqO_ok h4⟩
theorem slot_ok {f : Str} {i : Nat} (h : slotB K C f i = true) : SlX.Slot1 K C f (He.ma K C f) i := by
  obtain ⟨h1, h⟩ := He.ba h
  obtain ⟨h2, h⟩ := He.ba h
  obtain ⟨h3, h⟩ := He.ba h
  obtain ⟨h4, h⟩ := He.ba h
  obtain ⟨h5, h6⟩ := He.ba h
  exact ⟨He.eqO_ok h1, He.eqO_ok h2, of_decide_eq_true h3, of_decide_eq_true h4, of_decide_eq_true h5, of_decide_eq_true h6⟩
theorem isi_ok (h : isiB K C = true) : SlX.SIsi K C := by
  obtain ⟨h1, h⟩ := He.ba h
  obtain ⟨h2, h⟩ := He.ba h
  obtain ⟨h3, h4⟩ := He.ba h
  exact ⟨He.eqO_ok h1, He.eqO_ok h2, of_decide_eq_true h3, of_decide_eq_true h4⟩
theorem kit_ok {t u : Value} {b : Bool} (h : kitB K t u b = true) : PySem.W.kitOne K t u = some b := of_decide_eq_true h
theorem prop_ok {f : Str} (h : propB K C f = true) : PropOf K C f (He.ma K C f) (pgA K C f) := by
  obtain ⟨h1, h⟩ := He.ba h
  obtain ⟨h2, h⟩ := He.ba h
  obtain ⟨h3, h4⟩ := He.ba h
  refine ⟨He.eqO_ok h1, He.eqO_ok h2, of_decide_eq_true h3, ?_⟩
  unfold pgA
  cases e : PySem.W.recIn K (He.ma K C f) "property" with
  | none => rw [e] at h4; cases h4
  | some l =>
    rw [e] at h4
    cases l with
    | nil => cases h4
    | cons v r => cases v <;> first | exact ⟨_, rfl⟩ | cases h4
end
end My

/-! digits of numbers, plain -/
namespace M11
/-- the digits of n, low ones first -/
def lows (b n : Nat) : List Nat := if h : n = 0 ∨ b < 2 then [] else (n % b) :: lows b (n / b)
termination_by n
decreasing_by
  rcases Nat.eq_zero_or_pos n with e | e
  · exact absurd (.inl e) h
  · exact Nat.div_lt_self e (by omega)
theorem lows_zero (b : Nat) : lows b 0 = [] := by unfold lows; simp
theorem lows_pos {b n : Nat} (hb : 2 ≤ b) (hn : 0 < n) : lows b n = (n % b) :: lows b (n / b) := by
  rw [lows]
  rw [dif_neg (by omega)]
def digs (b n : Nat) : List Nat := (lows b n).reverse
/-- the number that digits tell -/
def pl (b : Nat) (ds : List Nat) : Nat := ds.foldl (fun a d => a * b + d) 0
theorem lows_lt {b : Nat} (hb : 2 ≤ b) : ∀ (n : Nat), ∀ d ∈ lows b n, d < b := fun n => by
  induction n using Nat.strongRecOn with
  | _ n ih =>
    intro d hd
    rcases Nat.eq_zero_or_pos n with e | e
    · subst e; rw [lows_zero] at hd; cases hd
    · rw [lows_pos hb e] at hd
      rcases List.mem_cons.mp hd with h | h
      · rw [h]; exact Nat.mod_lt _ (by omega)
      · exact ih (n / b) (Nat.div_lt_self e (by omega)) d h
theorem lows_len {b : Nat} (hb : 2 ≤ b) : ∀ (k n : Nat), n < 2 ^ k → (lows b n).length ≤ k
  | 0, n, h => by
    have : n = 0 := by simpa using h
    subst this; rw [lows_zero]; exact Nat.le_refl _
  | k + 1, n, h => by
    rcases Nat.eq_zero_or_pos n with e | e
    · subst e; rw [lows_zero]; exact Nat.zero_le _
    · rw [lows_pos hb e, List.length_cons]
      have h2 : n / b < 2 ^ k := by
        have : n / b ≤ n / 2 := Nat.div_le_div_left hb (by omega)
        rw [Nat.pow_succ] at h
        omega
      have := lows_len hb k (n / b) h2
      omega
theorem pl_snoc (b : Nat) (ds : List Nat) (d : Nat) : pl b (ds ++ [d]) = pl b ds * b + d := by
  unfold pl; rw [List.foldl_append]; rfl
theorem pl_digs {b : Nat} (hb : 2 ≤ b) (n : Nat) : pl b (digs b n) = n := by
  induction n using Nat.strongRecOn with
  | _ n ih =>
    unfold digs
    rcases Nat.eq_zero_or_pos n with e | e
    · subst e; rw [lows_zero]; rfl
    · rw [lows_pos hb e, List.reverse_cons, pl_snoc]
      have := ih (n / b) (Nat.div_lt_self e (by omega))
      unfold digs at this
      rw [this]
      have := Nat.div_add_mod n b
      rw [Nat.mul_comm]; exact this
theorem pl_noughts (b k : Nat) (ds : List Nat) : pl b (List.replicate k 0 ++ ds) = pl b ds := by
  induction k with
  | zero => rfl
  | succ k ih =>
    rw [List.replicate_succ, List.cons_append]
    show List.foldl _ (0 * b + 0) _ = _
    rw [Nat.zero_mul]
    exact ih
theorem pl_lt {b : Nat} : ∀ (n : Nat) (ds : List Nat), ds.length = n → (∀ d ∈ ds, d < b) → pl b ds < b ^ n
  | 0, ds, h, _ => by
    have : ds = [] := List.eq_nil_of_length_eq_zero h
    subst this; exact Nat.one_pos
  | n + 1, ds, h, hd => by
    have hne : ds ≠ [] := fun e => by subst e; cases h
    have e := List.dropLast_concat_getLast hne
    have h1 : ds.dropLast.length = n := by rw [List.length_dropLast]; omega
    have h2 := pl_lt n ds.dropLast h1 fun d hm => hd d (List.dropLast_subset _ hm)
    have h3 := hd _ (List.getLast_mem hne)
    rw [← e, pl_snoc, Nat.pow_succ]
    have : (pl b ds.dropLast + 1) * b ≤ b ^ n * b := Nat.mul_le_mul_right _ h2
    rw [Nat.add_mul, Nat.one_mul] at this
    omega
/-- digits with noughts ahead are told again -/
theorem wide_again {b : Nat} (hb : 2 ≤ b) : ∀ (n : Nat) (ds : List Nat), ds.length = n → (∀ d ∈ ds, d < b) → (digs b (pl b ds)).length ≤ n ∧ List.replicate (n - (digs b (pl b ds)).length) 0 ++ digs b (pl b ds) = ds
  | 0, ds, h, _ => by
    have : ds = [] := List.eq_nil_of_length_eq_zero h
    subst this
    have e : digs b (pl b []) = [] := by unfold digs pl; rw [List.foldl_nil, lows_zero]; rfl
    rw [e]; exact ⟨Nat.le_refl _, rfl⟩
  | n + 1, ds, h, hd => by
    have hne : ds ≠ [] := fun e => by subst e; cases h
    have e := List.dropLast_concat_getLast hne
    have h1 : ds.dropLast.length = n := by rw [List.length_dropLast]; omega
    have h3 := hd _ (List.getLast_mem hne)
    have ih := wide_again hb n ds.dropLast h1 fun d hm => hd d (List.dropLast_subset _ hm)
    generalize hm : pl b ds.dropLast = m at ih
    generalize hl : ds.getLast hne = d at h3 e
    have ep : pl b ds = m * b + d := by rw [← e, pl_snoc, hm]
    rw [ep]
    rcases Nat.eq_zero_or_pos (m * b + d) with z | z
    · have hm0 : m = 0 := by
        rcases Nat.eq_zero_or_pos m with q | q
        · exact q
        · have := Nat.mul_pos q (show 0 < b by omega); omega
      subst hm0
      have hd0 : d = 0 := by omega
      subst hd0
      rw [z]
      have e0 : digs b 0 = [] := by unfold digs; rw [lows_zero]; rfl
      rw [e0] at ih ⊢
      refine ⟨Nat.zero_le _, ?_⟩
      rw [List.length_nil, Nat.sub_zero, List.append_nil] at ih ⊢
      rw [← e, ← ih.2, List.replicate_succ']
    · have ed : digs b (m * b + d) = digs b m ++ [d] := by
        unfold digs
        rw [lows_pos hb z, List.reverse_cons]
        have q1 : (m * b + d) / b = m := by
          rw [Nat.add_comm, Nat.add_mul_div_right _ _ (by omega), Nat.div_eq_of_lt h3]; omega
        have q2 : (m * b + d) % b = d := by
          rw [Nat.add_comm, Nat.add_mul_mod_self_right, Nat.mod_eq_of_lt h3]
        rw [q1, q2]
      rw [ed, List.length_append, List.length_singleton]
      refine ⟨by omega, ?_⟩
      rw [show n + 1 - ((digs b m).length + 1) = n - (digs b m).length by omega, ← List.append_assoc, ih.2]
      exact e
/-- how many noughts stand at the end -/
def tz (b n : Nat) : Nat := if h : 0 < n ∧ 2 ≤ b ∧ n % b = 0 then tz b (n / b) + 1 else 0
termination_by n
decreasing_by exact Nat.div_lt_self h.1 (by omega)
theorem tz_yes {b n : Nat} (hb : 2 ≤ b) (hn : 0 < n) (h : n % b = 0) : tz b n = tz b (n / b) + 1 := by
  rw [tz, dif_pos ⟨hn, hb, h⟩]
theorem tz_no {b n : Nat} (h : n % b ≠ 0) : tz b n = 0 := by
  rw [tz, dif_neg (by intro z; exact h z.2.2)]
theorem div_pos_of {b n : Nat} (hb : 2 ≤ b) (hn : 0 < n) (h : n % b = 0) : 0 < n / b := by
  rcases Nat.eq_zero_or_pos (n / b) with e | e
  · have := Nat.div_add_mod n b
    rw [e, h] at this
    simp at this
    omega
  · exact e
/-- below it stand noughts, at it stands none -/
theorem tz_at {b : Nat} (hb : 2 ≤ b) : ∀ n : Nat, 0 < n → (∀ i, i < tz b n → (lows b n)[i]? = some 0) ∧ ∃ d, (lows b n)[tz b n]? = some d ∧ d ≠ 0 := fun n => by
  induction n using Nat.strongRecOn with
  | _ n ih =>
    intro hn
    by_cases h : n % b = 0
    · have hp := div_pos_of hb hn h
      obtain ⟨h1, d, h2, h3⟩ := ih (n / b) (Nat.div_lt_self hn (by omega)) hp
      rw [tz_yes hb hn h, lows_pos hb hn]
      refine ⟨fun i hi => ?_, d, by simpa using h2, h3⟩
      cases i with
      | zero => simp [h]
      | succ i => simpa using h1 i (by omega)
    · rw [tz_no h, lows_pos hb hn]
      exact ⟨fun i hi => absurd hi (by omega), n % b, rfl, h⟩
/-- the indices of the digits that are not 0, below i -/
def idx (l : List Nat) (i : Nat) : List Nat := (List.range i).filter fun j => decide (l[j]? ≠ some 0)
theorem idx_succ (l : List Nat) (i : Nat) : idx l (i + 1) = if l[i]? = some 0 then idx l i else idx l i ++ [i] := by
  unfold idx
  rw [List.range_succ, List.filter_append, List.filter_cons, List.filter_nil]
  by_cases h : l[i]? = some 0
  · simp [h]
  · simp [h]
theorem idx_len (l : List Nat) (i : Nat) : (idx l i).length ≤ i := by
  have := List.length_filter_le (fun j => decide (l[j]? ≠ some 0)) (List.range i)
  rw [List.length_range] at this
  exact this
theorem tz_lt {b n : Nat} (hb : 2 ≤ b) (hn : 0 < n) : tz b n < (lows b n).length := by
  obtain ⟨_, d, h, _⟩ := tz_at hb n hn
  exact (List.getElem?_eq_some_iff.mp h).1
/-- the least of these indices is the number of noughts at the end -/
theorem idx_min {b n : Nat} (hb : 2 ≤ b) (hn : 0 < n) : tz b n ∈ idx (lows b n) (lows b n).length ∧ ∀ m ∈ idx (lows b n) (lows b n).length, tz b n ≤ m := by
  obtain ⟨h0, d, h1, h2⟩ := tz_at hb n hn
  refine ⟨List.mem_filter.mpr ⟨List.mem_range.mpr (tz_lt hb hn), decide_eq_true ?_⟩, fun m hm => ?_⟩
  · rw [h1]
    intro q
    exact h2 (Option.some.inj q)
  · have := of_decide_eq_true (List.mem_filter.mp hm).2
    rcases Nat.lt_or_ge m (tz b n) with h | h
    · exact absurd (h0 m h) this
    · exact h
end M11

set_option Elab.async false
set_option linter.all false
set_option maxRecDepth 100000
set_option maxHeartbeats 4000000
namespace My
open PySem PySem.Spec PyProof.Rows L2
/-! ### numbers as values -/
def iN (l : List Nat) : List Int := l.map fun n : Nat => (n : Int)
def vN (l : List Nat) : List V := (iN l).map V.int
theorem vN_len (l : List Nat) : (vN l).length = l.length := by unfold vN iN; simp
theorem vN_app (l r : List Nat) : vN (l ++ r) = vN l ++ vN r := by unfold vN iN; simp
theorem vN_rev (l : List Nat) : vN l.reverse = (vN l).reverse := by unfold vN iN; simp
theorem vN_get (l : List Nat) (i : Nat) : (vN l)[i]? = l[i]?.map fun n : Nat => V.int (n : Int) := by unfold vN iN; simp; rfl
theorem vN_at {l : List Nat} {i n : Nat} (h : l[i]? = some n) : (vN l)[i]? = some (.int n) := by rw [vN_get, h]; rfl
theorem vN_of {l : List Nat} {i : Nat} {x : V} (h : (vN l)[i]? = some x) : ∃ n : Nat, l[i]? = some n ∧ x = .int n := by
  rw [vN_get] at h
  cases e : l[i]? with
  | none => rw [e] at h; cases h
  | some n => rw [e] at h; cases h; exact ⟨n, rfl, rfl⟩
theorem vN_cons (a : Nat) (l : List Nat) : vN (a :: l) = V.int a :: vN l := rfl
theorem vN_rep (k n : Nat) : vN (List.replicate k n) = List.replicate k (V.int n) := by unfold vN iN; simp
theorem iN_count (l : List Nat) (n : Nat) : (iN l).count (n : Int) = l.count n := by
  unfold iN
  induction l with
  | nil => rfl
  | cons a l ih =>
    rw [List.map_cons, List.count_cons, List.count_cons, ih]
    congr 1
    by_cases h : a = n
    · simp [h]
    · simp [h]
      omega
theorem vN_inj {l r : List Nat} (h : vN l = vN r) : l = r := by
  have h1 : iN l = iN r := by
    unfold vN at h
    exact List.map_inj_right (fun a b q => V.int.inj q) |>.mp h
  unfold iN at h1
  exact List.map_inj_right (fun a b q => by omega) |>.mp h1
/-! ### tuples of tuples -/
def RowsAt (K : PySem.W.Frag) (H : Hp) (p : Addr) (rows : List (List Nat)) : Prop := ∃ ps : List Addr, SqT K H p (ps.map V.ref) ∧ Paired (fun q r => SqT K H q (vN r)) ps rows
theorem Paired.get' {α β : Type} {R : α → β → Prop} : ∀ {l : List α} {r : List β} {i : Nat} {b : β}, Paired R l r → r[i]? = some b → ∃ a, l[i]? = some a ∧ R a b
  | _, _, _, _, .nil, h => by simp at h
  | _, _, 0, _, .cons q _, h => by simp at h; subst h; exact ⟨_, rfl, q⟩
  | _, _, i + 1, _, .cons _ t, h => by simp at h; simpa using Paired.get' t h
theorem Paired.len {α β : Type} {R : α → β → Prop} : ∀ {l : List α} {r : List β}, Paired R l r → l.length = r.length
  | _, _, .nil => rfl
  | _, _, .cons _ t => by simp [Paired.len t]
theorem Paired.imp' {α β : Type} {R S : α → β → Prop} (h : ∀ a b, R a b → S a b) : ∀ {l : List α} {r : List β}, Paired R l r → Paired S l r
  | _, _, .nil => .nil
  | _, _, .cons q t => .cons (h _ _ q) (Paired.imp' h t)
theorem Paired.snoc {α β : Type} {R : α → β → Prop} {a : α} {b : β} (h : R a b) : ∀ {l : List α} {r : List β}, Paired R l r → Paired R (l ++ [a]) (r ++ [b])
  | _, _, .nil => .cons h .nil
  | _, _, .cons q t => .cons q (Paired.snoc h t)
section
variable {K : PySem.W.Frag} {H H' : Hp} {p d : Addr} {rows : List (List Nat)}
theorem RowsAt.len (h : RowsAt K H p rows) : ∃ xs, SqT K H p xs ∧ xs.length = rows.length := by
  obtain ⟨ps, h1, h2⟩ := h
  exact ⟨_, h1, by rw [List.length_map]; exact Paired.len h2⟩
theorem RowsAt.same (e : Same H H') (h : RowsAt K H p rows) : RowsAt K H' p rows := by
  obtain ⟨ps, h1, h2⟩ := h
  exact ⟨ps, sameT e h1, Paired.imp' (fun _ _ q => sameT e q) h2⟩
theorem RowsAt.but {ys : List V} (hd : H d = some (.lst ys)) (e : But d H H') (h : RowsAt K H p rows) : RowsAt K H' p rows := by
  obtain ⟨ps, h1, h2⟩ := h
  exact ⟨ps, butT hd e h1, Paired.imp' (fun _ _ q => butT hd e q) h2⟩
/-- row i, by its place -/
theorem RowsAt.row {i : Nat} {r : List Nat} (h : RowsAt K H p rows) (hi : rows[i]? = some r) : ∃ (q : Addr) (xs : List V), SqT K H p xs ∧ xs[i]? = some (.ref q) ∧ SqT K H q (vN r) := by
  obtain ⟨ps, h1, h2⟩ := h
  obtain ⟨q, h3, h4⟩ := Paired.get' h2 hi
  exact ⟨q, _, h1, by rw [List.getElem?_map, h3]; rfl, h4⟩
end
/-! ### comprehensions with two for -/
section
variable {J J1 : It} {n n1 : Nat} {G G1 : Hp → Prop} {Y Y1 : Nat → Hp → V → Hp → Prop}
theorem lc2_it (w : Walk J n G Y) {g g1 : TG} {tt tt1 : TT} {wi1 : TI} {te : TE} {vs vs1 : List Nat} {σ : L2.St} {H1 : Hp} {D : Addr} {Qd : Hp → Prop} (Pv : Nat → Hp → Prop) (h0 : Pv 0 (upd H1 D (.lst []))) (hG : ∀ i H, i ≤ n → Pv i H → G H)
    (hs : ∀ i x H H', i < n → Pv i H → Y i H x H' → g x (wipe σ vs) H' fun σ2 H2 => wipe σ2 vs = wipe σ vs ∧ tt σ2 H2 fun b H3 =>
      if b = true then wi1 σ2 H3 fun J1 H4 => ∃ W1 : Nat → Nat → Hp → Prop, (∃ m, W1 0 m H4) ∧ ∀ j k H, W1 j k H →
        (J1.stop j H ∧ Pv (i + 1) H) ∨ (J1.go j H ∧ ∃ Nx1 : Hp → Prop, (∀ H', Nx1 H' → ∃ k', k' < k ∧ W1 (j + 1) k' H') ∧ ∀ x H', J1.yld j H x H' → g1 x (wipe σ2 vs1) H' fun σ3 H5 => wipe σ3 vs1 = wipe σ2 vs1 ∧ tt1 σ3 H5 fun b H6 =>
          if b = true then te σ3 H6 fun y H7 => ∃ acc, H7 D = some (.lst acc) ∧ acc.length < sizeLine ∧ Nx1 (upd H7 D (.lst (acc ++ [y]))) else Nx1 H6)
      else Pv (i + 1) H3) (hd : ∀ H, Pv n H → Qd H) :
    ∃ W : Nat → Nat → Hp → Prop, (∃ m, W 0 m (upd H1 D (.lst []))) ∧ ∀ i m H, W i m H →
      (J.stop i H ∧ Qd H) ∨ (J.go i H ∧ ∃ Nx : Hp → Prop, (∀ H', Nx H' → ∃ m', m' < m ∧ W (i + 1) m' H') ∧ ∀ x H', J.yld i H x H' → g x (wipe σ vs) H' fun σ2 H2 => wipe σ2 vs = wipe σ vs ∧ tt σ2 H2 fun b H3 =>
        if b = true then wi1 σ2 H3 fun J1 H4 => ∃ W1 : Nat → Nat → Hp → Prop, (∃ m, W1 0 m H4) ∧ ∀ j k H, W1 j k H →
          (J1.stop j H ∧ Nx H) ∨ (J1.go j H ∧ ∃ Nx1 : Hp → Prop, (∀ H', Nx1 H' → ∃ k', k' < k ∧ W1 (j + 1) k' H') ∧ ∀ x H', J1.yld j H x H' → g1 x (wipe σ2 vs1) H' fun σ3 H5 => wipe σ3 vs1 = wipe σ2 vs1 ∧ tt1 σ3 H5 fun b H6 =>
            if b = true then te σ3 H6 fun y H7 => ∃ acc, H7 D = some (.lst acc) ∧ acc.length < sizeLine ∧ Nx1 (upd H7 D (.lst (acc ++ [y]))) else Nx1 H6)
        else Nx H3) := by
  refine ⟨fun i m H => m = n - i ∧ i ≤ n ∧ Pv i H, ⟨n, by simp, Nat.zero_le _, h0⟩, ?_⟩
  rintro i m H ⟨rfl, hi, p⟩
  have q := hG i H hi p
  by_cases hlt : i < n
  · exact .inr ⟨w.goes i H hlt q, Pv (i + 1), fun H' p' => ⟨n - (i + 1), by omega, rfl, hlt, p'⟩, fun x H' y => hs i x H H' hlt p (w.yields i H x H' hlt q y)⟩
  · have e : i = n := by omega
    subst e
    exact .inl ⟨w.stops H q, hd H p⟩
/-- the inner one -/
theorem lc_in (w : Walk J1 n1 G1 Y1) {g1 : TG} {tt1 : TT} {te : TE} {vs1 : List Nat} {σ2 : L2.St} {D : Addr} {H4 : Hp} {Nx : Hp → Prop} (Pv : Nat → Hp → Prop) (h0 : Pv 0 H4) (hG : ∀ i H, i ≤ n1 → Pv i H → G1 H)
    (hs : ∀ j x H H', j < n1 → Pv j H → Y1 j H x H' → g1 x (wipe σ2 vs1) H' fun σ3 H5 => wipe σ3 vs1 = wipe σ2 vs1 ∧ tt1 σ3 H5 fun b H6 =>
      if b = true then te σ3 H6 fun y H7 => ∃ acc, H7 D = some (.lst acc) ∧ acc.length < sizeLine ∧ Pv (j + 1) (upd H7 D (.lst (acc ++ [y]))) else Pv (j + 1) H6) (hd : ∀ H, Pv n1 H → Nx H) :
    ∃ W1 : Nat → Nat → Hp → Prop, (∃ m, W1 0 m H4) ∧ ∀ j k H, W1 j k H →
      (J1.stop j H ∧ Nx H) ∨ (J1.go j H ∧ ∃ Nx1 : Hp → Prop, (∀ H', Nx1 H' → ∃ k', k' < k ∧ W1 (j + 1) k' H') ∧ ∀ x H', J1.yld j H x H' → g1 x (wipe σ2 vs1) H' fun σ3 H5 => wipe σ3 vs1 = wipe σ2 vs1 ∧ tt1 σ3 H5 fun b H6 =>
        if b = true then te σ3 H6 fun y H7 => ∃ acc, H7 D = some (.lst acc) ∧ acc.length < sizeLine ∧ Nx1 (upd H7 D (.lst (acc ++ [y]))) else Nx1 H6) := by
  refine ⟨fun i m H => m = n1 - i ∧ i ≤ n1 ∧ Pv i H, ⟨n1, by simp, Nat.zero_le _, h0⟩, ?_⟩
  rintro i m H ⟨rfl, hi, p⟩
  have q := hG i H hi p
  by_cases hlt : i < n1
  · exact .inr ⟨w.goes i H hlt q, Pv (i + 1), fun H' p' => ⟨n1 - (i + 1), by omega, rfl, hlt, p'⟩, fun x H' y => hs i x H H' hlt p (w.yields i H x H' hlt q y)⟩
  · have e : i = n1 := by omega
    subst e
    exact .inl ⟨w.stops H q, hd H p⟩
end
/-! ### methods of tuples and lists -/
section
variable {X : Cx}
def rCntT (K : PySem.W.Frag) : V → List V → Hp → VK → Prop := fun x xs H Q => ∃ (p : Addr) (ns : List Int) (k : Int), x = .ref p ∧ xs = [.int k] ∧ SqT K H p (ns.map V.int) ∧ Q (.int (ns.count k : Nat)) H
theorem mt_tcount : MtR X "tuple.count" (rCntT X.K) := by
  intro pins s σ H x xs v us Q I rx rxs h
  obtain ⟨p, ns, k, rfl, rfl, hs, q⟩ := h
  cases rx
  obtain ⟨u, rfl, ru⟩ := rxs.one
  obtain ⟨t, rfl⟩ := ru
  obtain ⟨its, rv, ⟨⟨cls, dd, data, sl⟩, ho, hc, n, hd⟩, hlen⟩ := I.tuple hs
  simp only at hc hd
  subst hc hd
  have hi := ints_of_vals rv
  refine call_meets PySem.F.slot_tuple_count ⟨_, ho, rfl⟩ PySem.F.entry_tuple_count (PySem.F.args_tuple_count_2 _ _)
    (SeqAt.tuple_countAt p its.toArray n dd sl (.int k t) (eqk k)) ⟨ho, fun y hy => (eqk_gives hi y (by simpa using hy)).at _ _, ?_⟩
  have ec : its.toArray.toList.countP (eqk k) = ns.count k := eqk_count hi
  refine ⟨.int (ns.count k : Nat), H, I.tok _, ⟨s.toks, ?_⟩, q⟩
  show Value.int ((its.toArray.toList.countP (eqk k) : Nat) : Int) s.toks = Value.int ((ns.count k : Nat) : Int) s.toks
  rw [ec]
theorem list_extT (l : Addr) (items : Array Value) (n : Nat) (b : Addr) (items2 : Array Value) (n2 : Nat) (dd : Option Addr) (sl : Array (Option Value)) (hs0 : ¬(!items.isEmpty && Builtin.List.listTooLong (items.size + items2.size)) = true) (hs1 : items.size ≤ sizeLine) (hs2 : items.size + items2.size ≤ sizeLine + 1) :
    Meets (Builtin.«list.extend» ⟨[.ref l, .ref b], []⟩) (fun _ R s => s.heap.get? l = some { cls := .type "list", dict := none, data := .seq items n, slots := #[] } ∧ s.heap.get? b = some { cls := .type "tuple", dict := dd, data := .seq items2 n2, slots := sl } ∧
      R (.ok (.ret Value.none)) { s with heap := s.heap.update l (Obj.mapSeq fun x => x ++ items2), toks := s.toks }) :=
  .of_wp fun prog w A R s h => by
    obtain ⟨hp, g, d, tk, os⟩ := s
    obtain ⟨hl, hb, h⟩ := h
    have f4 := AutoSeq1.sub_tuple_list
    have f2 := AutoSeq1.sub_tuple_tuple
    have hz' : (items ++ items2).size ≤ sizeLine + 1 := by rw [Array.size_append]; exact hs2
    wp_walk using (wpAny_updateSeq hl rfl (hz := hs1) (_hz' := hz')), wpAny_loadPart' hl, wpAny_loadPart' hb
    exact ⟨_, rfl, h⟩
def rExtendT (K : PySem.W.Frag) : V → List V → Hp → VK → Prop := fun x vs H Q => ∃ l b xs zs, x = .ref l ∧ vs = [.ref b] ∧ H l = some (.lst xs) ∧ SqT K H b zs ∧ xs.length + zs.length ≤ sizeLine ∧ Q .non (upd H l (.lst (xs ++ zs)))
theorem mt_extendT : MtM X "list.extend" (rExtendT X.K) := by
  intro pins s σ H x vs v us Q I rx rv h
  obtain ⟨l, b, xs, zs, rfl, rfl, hH, hB, hz, q⟩ := h
  cases rx
  obtain ⟨u, rfl, ru⟩ := rv.one
  cases ru
  obtain ⟨z, its, n, r, hl, e⟩ := I.lstM hH
  obtain ⟨its2, r2, ⟨⟨cls, dd, data, sl⟩, ho, hc, n2, hd⟩, hz2⟩ := I.tuple hB
  simp only at hc hd
  subst hc hd
  have hl2 := r2.length
  have hsz : its.toArray.size + its2.toArray.size ≤ sizeLine := by rw [List.size_toArray, List.size_toArray]; omega
  have hlong : ¬ (!its.toArray.isEmpty && Builtin.List.listTooLong (its.toArray.size + its2.toArray.size)) = true := by
    rw [notLongL hsz, Bool.and_false]
    exact Bool.false_ne_true
  refine call_meets F.slot_list_extend ⟨_, e, rfl⟩ F.entry_list_extend (F.args_list_extend_2 _ _)
    (list_extT l its.toArray n b its2.toArray n2 dd sl hlong (by rw [List.size_toArray]; omega) (by omega)) ⟨e, ho, ?_⟩
  refine ⟨.non, _, I.lset (its' := its ++ its2) hH e (by simp) (r.append r2) ?_, rfl, q⟩
  rw [List.length_append]
  omega
end
end My

/-! words told by machines, plain -/
namespace MW
open M11
structure Wd where
  b : Nat
  rows : List (List Nat)
  lets : List Nat
structure Wd.Ok (W : Wd) : Prop where
  b2 : 2 ≤ W.b
  b5 : W.b ≤ 5
  n1 : 1 ≤ W.lets.length
  n60 : W.lets.length ≤ 60
  len : W.rows.length = W.lets.length
  row : ∀ r ∈ W.rows, r.length = W.b ∧ ∀ s ∈ r, s < W.lets.length
  zero : ∃ r, W.rows[0]? = some r ∧ r[0]? = some 0
  let9 : ∀ l ∈ W.lets, l ≤ 9
def Wd.step (W : Wd) (s d : Nat) : Nat := ((W.rows[s]?).bind (·[d]?)).getD 0
def Wd.run (W : Wd) (s : Nat) (ds : List Nat) : Nat := ds.foldl W.step s
def Wd.st (W : Wd) (n : Nat) : Nat := W.run 0 (digs W.b n)
def Wd.letter (W : Wd) (s : Nat) : Nat := (W.lets[s]?).getD 0
def Wd.at_ (W : Wd) (n : Nat) : Nat := W.letter (W.st n)
def Wd.rowOf (W : Wd) (s : Nat) : List Nat := (W.rows[s]?).getD []
def Wd.expand (W : Wd) (l : List Nat) : List Nat := l.flatMap W.rowOf
def Wd.expands (W : Wd) : Nat → List Nat → List Nat
  | 0, l => l
  | n + 1, l => W.expands n (W.expand l)
section
variable {W : Wd}
theorem digs_step {b n : Nat} (hb : 2 ≤ b) (hn : 0 < n) : digs b n = digs b (n / b) ++ [n % b] := by
  unfold digs
  rw [lows_pos hb hn, List.reverse_cons]
theorem digs_zero (b : Nat) : digs b 0 = [] := by unfold digs; rw [lows_zero]; rfl
theorem digs_lt {b n d : Nat} (hb : 2 ≤ b) (h : d ∈ digs b n) : d < b := lows_lt hb n d (by unfold digs at h; exact List.mem_reverse.mp h)
theorem Wd.Ok.rowAt (O : W.Ok) {s : Nat} (h : s < W.lets.length) : ∃ r, W.rows[s]? = some r ∧ r.length = W.b ∧ ∀ x ∈ r, x < W.lets.length := by
  have hs : s < W.rows.length := by rw [O.len]; exact h
  exact ⟨W.rows[s], List.getElem?_eq_getElem hs, O.row _ (List.getElem_mem hs)⟩
theorem Wd.Ok.stepAt (O : W.Ok) {s d : Nat} (h : s < W.lets.length) (hd : d < W.b) : ∃ r, W.rows[s]? = some r ∧ r[d]? = some (W.step s d) ∧ W.step s d < W.lets.length := by
  obtain ⟨r, e, l, q⟩ := O.rowAt h
  have hd' : d < r.length := by omega
  have es : W.step s d = r[d] := by unfold Wd.step; rw [e]; simp [hd']
  exact ⟨r, e, by rw [es]; exact List.getElem?_eq_getElem hd', by rw [es]; exact q _ (List.getElem_mem hd')⟩
theorem Wd.Ok.letterAt (O : W.Ok) {s : Nat} (h : s < W.lets.length) : W.lets[s]? = some (W.letter s) ∧ W.letter s ≤ 9 := by
  have e : W.letter s = W.lets[s] := by unfold Wd.letter; simp [h]
  rw [e]
  exact ⟨List.getElem?_eq_getElem h, O.let9 _ (List.getElem_mem h)⟩
theorem Wd.Ok.run_lt (O : W.Ok) : ∀ {ds : List Nat} {s : Nat}, s < W.lets.length → (∀ d ∈ ds, d < W.b) → W.run s ds < W.lets.length
  | [], s, h, _ => h
  | d :: ds, s, h, q => by
    obtain ⟨_, _, _, l⟩ := O.stepAt h (q d (List.mem_cons_self ..))
    exact O.run_lt (ds := ds) l fun x hx => q x (List.mem_cons_of_mem _ hx)
theorem Wd.Ok.st_lt (O : W.Ok) (n : Nat) : W.st n < W.lets.length := O.run_lt (by have := O.n1; omega) fun d hd => digs_lt O.b2 hd
theorem Wd.run_snoc (W : Wd) (s : Nat) (ds : List Nat) (d : Nat) : W.run s (ds ++ [d]) = W.step (W.run s ds) d := by
  unfold Wd.run
  rw [List.foldl_append]
  rfl
theorem Wd.Ok.step00 (O : W.Ok) : W.step 0 0 = 0 := by
  obtain ⟨r, e, q⟩ := O.zero
  unfold Wd.step
  rw [e]
  simp [q]
theorem Wd.st_zero (W : Wd) : W.st 0 = 0 := by unfold Wd.st; rw [digs_zero]; rfl
/-- by the last digit -/
theorem Wd.Ok.st_eq (O : W.Ok) (n : Nat) : W.st n = W.step (W.st (n / W.b)) (n % W.b) := by
  rcases Nat.eq_zero_or_pos n with e | e
  · subst e
    rw [Nat.zero_div, Nat.zero_mod, Wd.st_zero, O.step00]
  · unfold Wd.st
    rw [digs_step O.b2 e, W.run_snoc]
theorem Wd.Ok.st_mul (O : W.Ok) (n d : Nat) (hd : d < W.b) : W.st (n * W.b + d) = W.step (W.st n) d := by
  have hb : 0 < W.b := by have := O.b2; omega
  have e := O.st_eq (n * W.b + d)
  rw [Nat.mul_comm n, Nat.mul_add_div hb, Nat.div_eq_of_lt hd, Nat.add_zero, Nat.mul_add_mod, Nat.mod_eq_of_lt hd, Nat.mul_comm] at e
  exact e
theorem Wd.Ok.rowOf (O : W.Ok) {s : Nat} (h : s < W.lets.length) : W.rowOf s = (List.range W.b).map (W.step s) := by
  obtain ⟨r, e, l, _⟩ := O.rowAt h
  have er : W.rowOf s = r := by unfold Wd.rowOf; rw [e]; rfl
  rw [er]
  apply List.ext_getElem?
  intro i
  rw [List.getElem?_map]
  by_cases hi : i < W.b
  · obtain ⟨r', e', q, _⟩ := O.stepAt h hi
    rw [e] at e'
    cases e'
    rw [q, List.getElem?_range hi]
    rfl
  · rw [List.getElem?_eq_none (by omega), List.getElem?_eq_none (by simp; omega)]
    rfl
/-- the states from a on, m of them -/
def Wd.sts (W : Wd) (a m : Nat) : List Nat := (List.range m).map fun j => W.st (a + j)
theorem Wd.sts_succ (W : Wd) (a m : Nat) : W.sts a (m + 1) = W.st a :: W.sts (a + 1) m := by
  unfold Wd.sts
  rw [List.range_succ_eq_map, List.map_cons, List.map_map]
  congr 1
  apply List.map_congr_left
  intro j _
  show W.st (a + (j + 1)) = W.st (a + 1 + j)
  congr 1
  omega
theorem Wd.sts_add (W : Wd) (a m k : Nat) : W.sts a (m + k) = W.sts a m ++ W.sts (a + m) k := by
  unfold Wd.sts
  rw [List.range_add, List.map_append, List.map_map]
  congr 1
  apply List.map_congr_left
  intro j _
  show W.st (a + (m + j)) = W.st (a + m + j)
  congr 1
  omega
theorem Wd.sts_len (W : Wd) (a m : Nat) : (W.sts a m).length = m := by unfold Wd.sts; simp
theorem Wd.expand_cons (W : Wd) (s : Nat) (l : List Nat) : W.expand (s :: l) = W.rowOf s ++ W.expand l := rfl
theorem Wd.expand_app (W : Wd) (l r : List Nat) : W.expand (l ++ r) = W.expand l ++ W.expand r := by unfold Wd.expand; rw [List.flatMap_append]
theorem Wd.Ok.expand_sts (O : W.Ok) : ∀ (m a : Nat), W.expand (W.sts a m) = W.sts (a * W.b) (m * W.b)
  | 0, a => by rw [Nat.zero_mul]; rfl
  | m + 1, a => by
    rw [W.sts_succ, W.expand_cons, O.expand_sts m (a + 1), O.rowOf (O.st_lt a)]
    have e : (m + 1) * W.b = W.b + m * W.b := by rw [Nat.succ_mul, Nat.add_comm]
    rw [e, W.sts_add]
    congr 1
    · unfold Wd.sts
      apply List.map_congr_left
      intro j hj
      exact (O.st_mul a j (List.mem_range.mp hj)).symm
    · congr 1
      rw [Nat.succ_mul]
theorem Wd.Ok.expands_sts (O : W.Ok) : ∀ (t m a : Nat), W.expands t (W.sts a m) = W.sts (a * W.b ^ t) (m * W.b ^ t)
  | 0, m, a => by rw [Nat.pow_zero, Nat.mul_one, Nat.mul_one]; rfl
  | t + 1, m, a => by
    show W.expands t (W.expand (W.sts a m)) = _
    rw [O.expand_sts, O.expands_sts t, Nat.pow_succ, Nat.mul_assoc, Nat.mul_assoc, Nat.mul_comm W.b]
theorem Wd.expands_snoc (W : Wd) : ∀ (t : Nat) (l : List Nat), W.expands (t + 1) l = W.expand (W.expands t l)
  | 0, _ => rfl
  | t + 1, l => W.expands_snoc t (W.expand l)
theorem Wd.Ok.expand_lt (O : W.Ok) {l : List Nat} (h : ∀ s ∈ l, s < W.lets.length) : (∀ s ∈ W.expand l, s < W.lets.length) ∧ (W.expand l).length = l.length * W.b := by
  induction l with
  | nil => exact ⟨fun s hs => absurd hs (by simp [Wd.expand]), by simp [Wd.expand]⟩
  | cons a l ih =>
    obtain ⟨i1, i2⟩ := ih fun s hs => h s (List.mem_cons_of_mem _ hs)
    obtain ⟨r, e, l1, q⟩ := O.rowAt (h a (List.mem_cons_self ..))
    have er : W.rowOf a = r := by unfold Wd.rowOf; rw [e]; rfl
    rw [W.expand_cons, er]
    refine ⟨fun s hs => ?_, ?_⟩
    · rcases List.mem_append.mp hs with h1 | h1
      · exact q s h1
      · exact i1 s h1
    · rw [List.length_append, l1, i2, List.length_cons, Nat.succ_mul, Nat.add_comm]
theorem Wd.Ok.expands_lt (O : W.Ok) : ∀ (t : Nat) {l : List Nat}, (∀ s ∈ l, s < W.lets.length) → (∀ s ∈ W.expands t l, s < W.lets.length) ∧ (W.expands t l).length = l.length * W.b ^ t
  | 0, l, h => ⟨h, by rw [Nat.pow_zero, Nat.mul_one]; rfl⟩
  | t + 1, l, h => by
    obtain ⟨h1, h2⟩ := O.expand_lt h
    obtain ⟨h3, h4⟩ := O.expands_lt t h1
    exact ⟨h3, by show (W.expands t (W.expand l)).length = _; rw [h4, h2, Nat.pow_succ, Nat.mul_assoc, Nat.mul_comm W.b]⟩
/-- numbers of times -/
theorem Wd.Ok.count_expand (O : W.Ok) (g : Nat) {l : List Nat} (h : ∀ s ∈ l, s < W.lets.length) : (W.expand l).count g = ((List.range W.lets.length).map fun s => l.count s * (W.rowOf s).count g).sum := by
  induction l with
  | nil => 
    have : ∀ m : Nat, ((List.range m).map fun s => ([] : List Nat).count s * (W.rowOf s).count g).sum = 0 := by
      intro m
      induction m with
      | zero => rfl
      | succ m ih => rw [List.range_succ, List.map_append, List.sum_append, ih]; simp
    rw [this]; rfl
  | cons a l ih =>
    rw [W.expand_cons, List.count_append, ih fun s hs => h s (List.mem_cons_of_mem _ hs)]
    have ha := h a (List.mem_cons_self ..)
    have key : ∀ m : Nat, ((List.range m).map fun s => (a :: l).count s * (W.rowOf s).count g).sum = (if a < m then (W.rowOf a).count g else 0) + ((List.range m).map fun s => l.count s * (W.rowOf s).count g).sum := by
      intro m
      induction m with
      | zero => rfl
      | succ m ih =>
        rw [List.range_succ, List.map_append, List.map_append, List.sum_append, List.sum_append, ih]
        simp only [List.map_cons, List.map_nil, List.sum_cons, List.sum_nil, Nat.add_zero, List.count_cons]
        by_cases e : a = m
        · subst e
          simp [Nat.add_mul]
          omega
        · have e2 : (a == m) = false := by simpa using e
          rw [e2]
          by_cases h1 : a < m
          · have h2 : a < m + 1 := by omega
            simp only [h1, h2, if_true, if_false, Bool.false_eq_true, Nat.add_zero]
            omega
          · have h2 : ¬ a < m + 1 := by omega
            simp only [h1, h2, if_false, Bool.false_eq_true, Nat.add_zero]
            omega
    rw [key, if_pos ha]
end
end MW
namespace MW
open M11
theorem Wd.Ok.block {W : Wd} (O : W.Ok) (t n : Nat) : (W.expands t [W.st n]).map W.letter = (List.range (W.b ^ t)).map fun j => W.at_ (n * W.b ^ t + j) := by
  have e : [W.st n] = W.sts n 1 := by unfold Wd.sts; simp
  rw [e, O.expands_sts, Nat.one_mul]
  unfold Wd.sts
  rw [List.map_map]
  rfl
end MW
namespace MW
open M11
theorem Wd.Ok.rowOf_len {W : Wd} (O : W.Ok) (s : Nat) : (W.rowOf s).length ≤ 5 := by
  unfold Wd.rowOf
  cases e : W.rows[s]? with
  | none => simp
  | some r =>
    have := (O.row r (List.mem_of_getElem? e)).1
    have := O.b5
    simp only [Option.getD_some]
    omega
theorem Wd.Ok.count_le {W : Wd} (O : W.Ok) (s g : Nat) : (W.rowOf s).count g ≤ 5 := Nat.le_trans List.count_le_length (O.rowOf_len s)
theorem Wd.Ok.expand_one {W : Wd} (O : W.Ok) (s : Nat) : W.expand [s] = W.rowOf s := by unfold Wd.expand; simp
theorem Wd.Ok.twice {W : Wd} (O : W.Ok) {s : Nat} (h : s < W.lets.length) (g : Nat) : (W.expands 2 [s]).count g = ((List.range W.lets.length).map fun m => (W.rowOf s).count m * (W.rowOf m).count g).sum := by
  show (W.expand (W.expand [s])).count g = _
  rw [O.count_expand g (O.expand_lt fun x hx => by rw [List.mem_singleton.mp hx]; exact h).1, O.expand_one]
theorem Wd.sts0 (W : Wd) : W.sts 0 1 = [0] := by unfold Wd.sts; simp [W.st_zero]
end MW

set_option Elab.async false
set_option linter.all false
set_option maxRecDepth 100000
set_option maxHeartbeats 4000000
namespace My
open PySem PySem.Spec PyProof.Rows L2 MW
/-! ### words in the heap -/
abbrev WC (K : PySem.W.Frag) : Addr := He.ga K "Word"
/-- the object of a word, made and filled -/
def WordAt (K : PySem.W.Frag) (H : Hp) (a : Addr) (W : Wd) : Prop := ∃ dx lt rw : Addr, H a = some (SlX.SlO a (WC K) dx [some (.int W.b), some (.ref lt), some (.ref rw)]) ∧ H dx = some (.xd []) ∧ SqT K H lt (vN W.lets) ∧ RowsAt K H rw W.rows ∧ W.Ok
section
variable {K : PySem.W.Frag} {H H' : Hp} {a d : Addr} {W : Wd}
theorem WordAt.same (e : Same H H') (h : WordAt K H a W) : WordAt K H' a W := by
  obtain ⟨dx, lt, rw, h1, h2, h3, h4, O⟩ := h
  exact ⟨dx, lt, rw, e _ _ h1, e _ _ h2, sameT e h3, h4.same e, O⟩
theorem WordAt.but {ys : List V} (hd : H d = some (.lst ys)) (e : But d H H') (h : WordAt K H a W) : WordAt K H' a W := by
  obtain ⟨dx, lt, rw, h1, h2, h3, h4, O⟩ := h
  refine ⟨dx, lt, rw, e _ _ (fun z => ?_) h1, e _ _ (fun z => ?_) h2, butT hd e h3, h4.but hd e, O⟩
  · rw [z, hd] at h1
    unfold SlX.SlO at h1
    cases h1
  · rw [z, hd] at h2
    cases h2
theorem WordAt.ok (h : WordAt K H a W) : W.Ok := by
  obtain ⟨dx, lt, rw, _, _, _, _, O⟩ := h
  exact O
theorem WordAt.slt (h : WordAt K H a W) : ∃ dx lt rw : Addr, SlX.Slt H a (WC K) dx [some (.int W.b), some (.ref lt), some (.ref rw)] ∧ SqT K H lt (vN W.lets) ∧ RowsAt K H rw W.rows := by
  obtain ⟨dx, lt, rw, h1, h2, h3, h4, O⟩ := h
  exact ⟨dx, lt, rw, .inr ⟨h1, h2⟩, h3, h4⟩
end
/-! ### what the written part says of the classes -/
structure WFacts (K : PySem.W.Frag) (mg : Str → Option Value) : Prop where
  c : SlX.SCls K (WC K)
  base : SlX.Slot1 K (WC K) "own_base" (He.ma K (WC K) "own_base") 0
  lets : SlX.Slot1 K (WC K) "own_letters" (He.ma K (WC K) "own_letters") 1
  rows : SlX.Slot1 K (WC K) "own_rows" (He.ma K (WC K) "own_rows") 2
  isi : SlX.SIsi K (WC K)
  kw : PySem.W.kitOne K (.ref (WC K)) (.ref (WC K)) = some true
  gw : mg "Word" = some (.ref (WC K))
/-- what it says of the class of machines that are known -/
structure KFacts (K : PySem.W.Frag) (mg : Str → Option Value) : Prop where
  kt : PySem.W.kitOne K (.type "tuple") (.ref (He.ga K "KnownMachine")) = some false
  gk : mg "KnownMachine" = some (.ref (He.ga K "KnownMachine"))
section
variable {K : PySem.W.Frag} {mg : Str → Option Value} {H : Hp} {a : Addr} {W : Wd} {Q : VK}
/-- w.own_base, and so on -/
theorem rd_base {te : TE} (F : WFacts K mg) {σ : L2.St} (h : te σ H fun x H1 => x = .ref a ∧ WordAt K H1 a W ∧ Q (.int W.b) H1) (m : ∀ R R' : VK, (∀ v H, R v H → R' v H) → te σ H R → te σ H R') : SlX.tSl K te "own_base" σ H Q :=
  m _ _ (fun v H1 ⟨e, hw, q⟩ => by
    obtain ⟨dx, lt, rw, h1, h2, h3⟩ := hw.slt
    exact ⟨a, _, dx, _, _, 0, _, e, h1, F.c, F.base, rfl, q⟩) h
end
/-! ### methods by their names -/
structure DefMeth (K : PySem.W.Frag) (x m : Str) (qual : Str) (st : Stmt) : Prop where
  fd : ∃ fd, FunD K m qual (defArgs st) (defBody st) (defScope st) [] [] (He.ma K (He.ga K x) m) fd
  me : Meth K (He.ga K x) m (He.ma K (He.ga K x) m)
def KeepsM (P : Program) (w : World) (K : PySem.W.Frag) (mg : Str → Option Value) (base : Heap) (CX : CXT) (k : Nat) (x m : Str) (ps : List Str) (sp : Sp) : Prop :=
  ∃ fd, FnOk P w K mg base CX k (He.ma K (He.ga K x) m) fd ps sp ∧ Binds K fd ps [] ∧ Meth K (He.ga K x) m (He.ma K (He.ga K x) m)
theorem KeepsM.fnR {P : Program} {w : World} {K : PySem.W.Frag} {mg : Str → Option Value} {base : Heap} {CX : CXT} {k : Nat} {x m : Str} {ps : List Str} {sp : Sp} (F : KeepsM P w K mg base CX k x m ps sp) : FnR P w K mg base CX k (He.ma K (He.ga K x) m) sp := by
  obtain ⟨fd, G, b, _⟩ := F
  refine (G.raw b .nil).imp fun vs H Q E h => ?_
  rw [List.append_nil]
  exact h
section
variable {P : Program} {w : World} {K : PySem.W.Frag} {mg : Str → Option Value} {base : Heap} {k : Nat} {x m qual : Str} {st : Stmt} {N ps : List Str} {sp : Sp}
theorem DefMeth.keeps (D : DefMeth K x m qual st) (S : FnScope N ps (defScope st)) (len : ∀ vs H Q E, sp vs H Q E → vs.length = ps.length)
    (hb : ∀ (kV doc pm : Value) (an : Option Addr) (cdv ct : Value) (us : List Value), us.length = ps.length → bindArgs (PySem.W.fnOf m qual (defArgs st) (defBody st) (defScope st) .none kV doc pm an cdv ct) ⟨us, []⟩ = pure (ps.zip us))
    (hbody : ∀ (cdv : Value) (A : Around) (outer : List Env) (s : Shared) (H : Hp) (vs : List V) (Q : VK) (E : XK), Room k (A.deeper (envOfC qual (defScope st) s.heap.objs.size (He.ma K (He.ga K x) m) cdv)) → sp vs H Q E →
      ∃ t, PSs (cxOf CX0 P w K mg base N qual (defScope st) (He.ma K (He.ga K x) m) cdv A outer s H E).nox (defBody st) t ∧ t { nx := fun _ H' => Q .non H', rt := Q } (start N vs) H) : KeepsM P w K mg base CX0 (k + 1) x m ps sp := by
  obtain ⟨fd, F⟩ := D.fd
  refine ⟨fd, F.ok S len fun cdv A outer s H vs Q E hr hsp => ?_, F.bindsN hb, D.me⟩
  obtain ⟨t, h, q⟩ := hbody cdv A outer s H vs Q E hr hsp
  exact ⟨t, h.nox, q⟩
end
section
variable {X : Cx} {k j : Nat} {x m : Str} {ps : List Str} {sp : Sp} {E : XK} {pos apos : Pos} {o e : Expr} {es : List Expr} {ta : TE} {t : TA} {pl : Sem Bool}
theorem pe_mdo (F : KeepsM X.prog X.w X.K X.mg X.base CX0 k x m ps sp) (c : SlX.SCls X.K (He.ga X.K x)) (hr : Room j X.A) (hx : Passes CX0 X E) (he : PE X o ta) (ha : PA X (e :: es) t) (hk : k ≤ j := by decide)
    (hst : starEach (e :: es) X.env = (false, eval e X.env) :: starEach es X.env := by rfl) (hpl : (backTo pos (starEach es X.env)).any (·.1) = false := by rfl)
    (ht : eval (.Call (.Attribute o m apos) (e :: es) [] pos) X.env = (do
      let ov ← eval o X.env
      standAt apos.atName
      let (f, first) ← holding [ov] (getMethod ov m pl)
      callWith pos f first (backTo pos (starEach (e :: es) X.env)) (backToKw pos (keywordEach [] X.env))) := by rfl) :
    PE X (.Call (.Attribute o m apos) (e :: es) [] pos) (SlX.tMethSl (He.ga X.K x) sp E ta t) := by
  have G := F.fnR
  obtain ⟨_, _, _, me⟩ := F
  exact SlX.pe_methSl he c me G (hr.mono hk) hx ha hst hpl ht
theorem pe_mdo0 (F : KeepsM X.prog X.w X.K X.mg X.base CX0 k x m ps sp) (c : SlX.SCls X.K (He.ga X.K x)) (hr : Room j X.A) (hx : Passes CX0 X E) (he : PE X o ta) (hk : k ≤ j := by decide)
    (ht : eval (.Call (.Attribute o m apos) [] [] pos) X.env = (do
      let ov ← eval o X.env
      standAt apos.atName
      let (f, first) ← holding [ov] (getMethod ov m pl)
      callWith pos f first (backTo pos (starEach [] X.env)) (backToKw pos (keywordEach [] X.env))) := by rfl) :
    PE X (.Call (.Attribute o m apos) [] [] pos) (SlX.tMethSl (He.ga X.K x) sp E ta tNil) := by
  have G := F.fnR
  obtain ⟨_, _, _, me⟩ := F
  exact SlX.pe_methSl0 he c me G (hr.mono hk) hx ht
theorem call_lenM (F : KeepsM X.prog X.w X.K X.mg X.base CX0 k x "__len__" ps sp) (hr : Room j X.A) (hx : Passes CX0 X E) (hk : k + 1 ≤ j := by decide) : CallR X (.builtin "len") (rLenOwn (He.ga X.K x) sp E) := by
  have G := F.fnR
  obtain ⟨_, _, _, me⟩ := F
  exact call_lenOwn me.at_ me.fn G (hr.mono hk) hx
end
/-! ### Word(base, rows, letters) -/
def KeepsI (P : Program) (w : World) (K : PySem.W.Frag) (mg : Str → Option Value) (base : Heap) (CX : CXT) (k : Nat) (x : Str) (ps : List Str) (dvs : List V) (sp : Sp) : Prop :=
  ∃ fd ds, FnOk P w K mg base CX k (He.ma K (He.ga K x) "__init__") fd ps sp ∧ Vals dvs ds ∧ Binds K fd ps ds ∧ Mk K (He.ga K x) (He.ma K (He.ga K x) "__init__") ∧ mg x = some (.ref (He.ga K x))
section
variable {X : Cx} {k j : Nat} {x : Str} {ps : List Str} {dvs : List V} {sp : Sp} {E : XK} {p pos : Pos} {e : Expr} {es : List Expr} {t : TA}
theorem pe_mk (F : KeepsI X.prog X.w X.K X.mg X.base CX0 k x ps dvs sp) (hr : Room j X.A) (hg : Gl X x) (hx : Passes CX0 X E) (ha : PA X (e :: es) t) (hk : k + 1 ≤ j := by decide) (hdb : (x == ("__debug__" : Str)) = false := by decide)
    (he : starEach (e :: es) X.env = (false, eval e X.env) :: starEach es X.env := by rfl) (hpl : (backTo pos (starEach es X.env)).any (·.1) = false := by rfl) :
    PE X (.Call (.Name x p) (e :: es) [] pos) (tMake (He.ga X.K x) sp dvs E t) := by
  obtain ⟨fd, ds, G, d, b, M, m⟩ := F
  exact pe_make M G (hr.mono hk) hg m b d hx ha hdb he hpl
end
/-- the promise of Word's __init__ where all three are given, rightly -/
def spWord (K : PySem.W.Frag) : Sp := fun vs H Q _ => ∃ (a rw lt dx : Addr) (W : Wd), vs = [.ref a, .int W.b, .ref rw, .ref lt] ∧ W.Ok ∧ dx ≠ a ∧ SlX.Slt H a (WC K) dx [] ∧ SqT K H lt (vN W.lets) ∧ RowsAt K H rw W.rows ∧
  ∀ H', (∀ b o, b ≠ a → b ≠ dx → H b = some o → H' b = some o) → H' a = some (SlX.SlO a (WC K) dx [some (.int W.b), some (.ref lt), some (.ref rw)]) → H' dx = some (.xd []) → Q .non H'
section
variable {K : PySem.W.Frag} {H : Hp} {rw lt : Addr} {W : Wd} {Q : VK} {E : XK}
/-- .. at a call -/
theorem mk_word (O : W.Ok) (hl : SqT K H lt (vN W.lets)) (hrw : RowsAt K H rw W.rows) {R : Addr → Hp → Prop} (q : ∀ a H', Same H H' → WordAt K H' a W → R a H') :
    ∀ x dx, H x = none → H dx = none → dx ≠ x → spWord K (.ref x :: ([V.int W.b, .ref rw, .ref lt] ++ [])) (upd (upd H dx (.own x)) x (.ins (WC K) dx [])) (fun v H2 => v = .non ∧ R x H2) E := by
  intro x dx nx ndx ne
  have e : Same H (upd (upd H dx (.own x)) x (.ins (WC K) dx [])) := fun b o h => by
    rw [upd_ne (ne_of_none h nx), upd_ne (ne_of_none h ndx)]
    exact h
  refine ⟨x, rw, lt, dx, W, rfl, O, ne, .inl ⟨upd_same, rfl⟩, sameT e hl, hrw.same e, fun H' k h1 h2 => ⟨rfl, ?_⟩⟩
  have e2 : Same H H' := fun b o h => k b o (ne_of_none h nx) (ne_of_none h ndx) (e b o h)
  exact q x H' e2 ⟨dx, lt, rw, h1, h2, sameT e2 hl, hrw.same e2, O⟩
end
end My

set_option Elab.async false
set_option linter.all false
set_option maxRecDepth 100000
set_option maxHeartbeats 4000000
/-! rules with the written part told (within comprehensions) -/
namespace My
open PySem PySem.Spec PyProof.Rows L2
theorem bi_len : bootBuiltins "len" = some (.builtin "len") := by decide +kernel
theorem bi_isinstance : bootBuiltins "isinstance" = some (.builtin "isinstance") := by decide +kernel
theorem bi_sum : bootBuiltins "sum" = some (.builtin "sum") := by decide +kernel
theorem bi_all : bootBuiltins "all" = some (.builtin "all") := by decide +kernel
theorem bi_any : bootBuiltins "any" = some (.builtin "any") := by decide +kernel
theorem bi_max : bootBuiltins "max" = some (.builtin "max") := by decide +kernel
theorem bi_min : bootBuiltins "min" = some (.builtin "min") := by decide +kernel
theorem bi_abs : bootBuiltins "abs" = some (.builtin "abs") := by decide +kernel
theorem bi_repr : bootBuiltins "repr" = some (.builtin "repr") := by decide +kernel
theorem bi_sorted : bootBuiltins "sorted" = some (.builtin "sorted") := by decide +kernel
theorem bi_int : bootBuiltins "int" = some (.type "int") := by decide +kernel
theorem bi_bool : bootBuiltins "bool" = some (.type "bool") := by decide +kernel
theorem bi_tuple : bootBuiltins "tuple" = some (.type "tuple") := by decide +kernel
theorem bi_list : bootBuiltins "list" = some (.type "list") := by decide +kernel
theorem bi_dict : bootBuiltins "dict" = some (.type "dict") := by decide +kernel
theorem bi_str : bootBuiltins "str" = some (.type "str") := by decide +kernel
theorem Paired.getL {α β : Type} {R : α → β → Prop} : ∀ {l : List α} {r : List β} {i : Nat} {a : α}, Paired R l r → l[i]? = some a → ∃ b, r[i]? = some b ∧ R a b
  | _, _, _, _, .nil, h => by simp at h
  | _, _, 0, _, .cons q _, h => by simp at h; subst h; exact ⟨_, rfl, q⟩
  | _, _, i + 1, _, .cons _ t, h => by simp at h; simpa using Paired.getL t h
theorem refs_of {ps : List Addr} {i : Nat} {x : V} (h : (ps.map V.ref)[i]? = some x) : ∃ q, ps[i]? = some q ∧ x = .ref q := by
  rw [List.getElem?_map] at h
  cases e : ps[i]? with
  | none => rw [e] at h; cases h
  | some q => rw [e] at h; cases h; exact ⟨q, rfl, rfl⟩
section
variable {X : Cx} (K : PySem.W.Frag)
theorem ix_tupK (h : X.K = K := by rfl) : IxR X (rIxT K) := h ▸ ix_tup
theorem ix_listK (h : X.K = K := by rfl) : IxR X (rIxL K) := h ▸ ix_list
theorem sl_tupAK (h : X.K = K := by rfl) : L2.SlR X (rSlA K) := h ▸ sl_tupA
theorem sl_listK (h : X.K = K := by rfl) : L2.SlR X (rSlL K) := h ▸ sl_list
theorem pi_tupK {tg l : Expr} {tl : TE} (hl : PE X l tl) (h : X.K = K := by rfl) : PI X tg l (iTup K tl) := h ▸ pi_tup hl
theorem pi_listK {tg l : Expr} {tl : TE} (hl : PE X l tl) (h : X.K = K := by rfl) : PI X tg l (iList K tl) := h ▸ pi_list hl
theorem pe_slK {e : Expr} {f : Str} {pos : Pos} {te : TE} (he : PE X e te) (h : X.K = K := by rfl) (hb : attributeBase e f X.env (eval e X.env) = eval e X.env := by rfl) : PE X (.Attribute e f pos) (SlX.tSl K te f) := h ▸ SlX.pe_sl he hb
theorem call_len_seqK (h : X.K = K := by rfl) : CallR X (.builtin "len") (fun xs H Q => ∃ p ys, xs = [.ref p] ∧ (SqL K H p ys ∨ SqT K H p ys) ∧ Q (.int ys.length) H) := h ▸ call_len_seq
theorem call_isiK' (h : X.K = K := by rfl) : CallR X (.builtin "isinstance") (rIsi K) := h ▸ call_isi
theorem call_isiSlK (u : Value) (h : X.K = K := by rfl) : CallR X (.builtin "isinstance") (SlX.rIsiSl K u) := h ▸ SlX.call_isiSl u
theorem call_tuple_ofK (h : X.K = K := by rfl) : CallR X (.type "tuple") (fun xs H Q => ∃ p ys, xs = [.ref p] ∧ ((SqL K H p ys ∧ ∀ l, H l = none → Q (.ref l) (upd H l (.tup ys))) ∨ (SqT K H p ys ∧ Q (.ref p) H))) := h ▸ call_tuple_of
theorem call_list_ofK (h : X.K = K := by rfl) : CallR X (.type "list") (fun xs H Q => ∃ p ys, xs = [.ref p] ∧ (SqL K H p ys ∨ SqT K H p ys) ∧ ∀ l, H l = none → Q (.ref l) (upd H l (.lst ys))) := h ▸ call_list_of
theorem cr_allK (hc : X.calm = true) (h : X.K = K := by rfl) : CallR X (.builtin "all") (rAll K) := h ▸ cr_all hc
theorem cr_sumK (hc : X.calm = true) (h : X.K = K := by rfl) : CallR X (.builtin "sum") (rSum K) := h ▸ cr_sum hc
theorem cr_sumTK (hc : X.calm = true) (h : X.K = K := by rfl) : CallR X (.builtin "sum") (rSumT K) := h ▸ cr_sumT hc
theorem op_eqDK (hu : X.A.units + 64 < cLine) (h : X.K = K := by rfl) : OpR X (compareOp .Eq) (rEqD K) := h ▸ op_eqD hu
theorem op_neDK (hu : X.A.units + 64 < cLine) (h : X.K = K := by rfl) : OpR X (compareOp .NotEq) (rNeD K) := h ▸ op_neD hu
theorem op_catUK (h : X.K = K := by rfl) : OpR X (binaryOp .Add) (rCatU K) := h ▸ op_catU
theorem op_repAK (h : X.K = K := by rfl) : OpR X (binaryOp .Mult) (rRepA K) := h ▸ op_repA
theorem mt_tcountK (h : X.K = K := by rfl) : MtR X "tuple.count" (rCntT K) := h ▸ mt_tcount
section
variable {o e : Expr} {es : List Expr} {to : TE} {t : TA} {T id : String} {name : Str} {r : V → List V → Hp → VK → Prop} {apos cpos : Pos}
theorem pe_bmK (pa : PlainAttrs T) (slot : Slot T name id) (hty : typeOf (.builtin id) = pure (.type "method_descriptor")) (hm : MtR X id r) (ho : PE X o to) (ha : PA X (e :: es) t) (h : X.K = K := by rfl)
    (hbase : attributeBase o name X.env (eval o X.env) = eval o X.env := by rfl)
    (hfew : ((backTo cpos (starEach (e :: es) X.env)).all (fun x => !x.1) && (backToKw cpos (keywordEach [] X.env)).all (fun x => x.1.isSome)
      && decide ((e :: es).length + ([] : List Keyword).length + (if ([] : List Keyword).isEmpty then 0 else 1) < 30)) = true := by rfl)
    (hline : (apos.endLine == cpos.line) = true := by rfl) (hs : starEach (e :: es) X.env = (false, eval e X.env) :: starEach es X.env := by rfl) (hplain : (backTo cpos (starEach es X.env)).any (·.1) = false := by rfl) :
    PE X (.Call (.Attribute o name apos) (e :: es) [] cpos) (tBM K T r to t) := h ▸ pe_bm pa slot hty hm ho ha hbase hfew hline hs hplain
end
section
variable {k j : Nat} {x m : Str} {ps : List Str} {sp : Sp} {E : XK} {pos apos : Pos} {o e : Expr} {es : List Expr} {ta : TE} {t : TA} {pl : Sem Bool}
theorem pe_mdoK (F : KeepsM X.prog X.w X.K X.mg X.base CX0 k x m ps sp) (c : SlX.SCls X.K (He.ga X.K x)) (hr : Room j X.A) (hx : Passes CX0 X E) (he : PE X o ta) (ha : PA X (e :: es) t) (hk : k ≤ j := by decide) (h : X.K = K := by rfl)
    (hst : starEach (e :: es) X.env = (false, eval e X.env) :: starEach es X.env := by rfl) (hpl : (backTo pos (starEach es X.env)).any (·.1) = false := by rfl)
    (ht : eval (.Call (.Attribute o m apos) (e :: es) [] pos) X.env = (do
      let ov ← eval o X.env
      standAt apos.atName
      let (f, first) ← holding [ov] (getMethod ov m pl)
      callWith pos f first (backTo pos (starEach (e :: es) X.env)) (backToKw pos (keywordEach [] X.env))) := by rfl) :
    PE X (.Call (.Attribute o m apos) (e :: es) [] pos) (SlX.tMethSl (He.ga K x) sp E ta t) := h ▸ pe_mdo F c hr hx he ha hk hst hpl ht
theorem call_lenMK (F : KeepsM X.prog X.w X.K X.mg X.base CX0 k x "__len__" ps sp) (hr : Room j X.A) (hx : Passes CX0 X E) (hk : k + 1 ≤ j := by decide) (h : X.K = K := by rfl) : CallR X (.builtin "len") (rLenOwn (He.ga K x) sp E) := h ▸ call_lenM F hr hx hk
end
end
end My

set_option Elab.async false
set_option linter.all false
set_option maxRecDepth 100000
set_option maxHeartbeats 4000000
/-! tuples of which it is known that they have no dict: their methods may be called -/
namespace My
open PySem PySem.Spec PyProof.Rows L2 MW
def ZT (H : Hp) (a : Addr) (xs : List V) : Prop := ∃ o, H a = some (.frz o (.tup xs)) ∧ o.dict = none
section
variable {K : PySem.W.Frag} {H H' : Hp} {a d : Addr} {xs ys : List V}
theorem ZT.sq (h : ZT H a xs) : SqT K H a xs := by
  obtain ⟨o, h, _⟩ := h
  exact .inl (.inr ⟨o, h⟩)
theorem ZT.same (e : Same H H') (h : ZT H a xs) : ZT H' a xs := by
  obtain ⟨o, h, q⟩ := h
  exact ⟨o, e _ _ h, q⟩
theorem ZT.but (hd : H d = some (.lst ys)) (e : But d H H') (h : ZT H a xs) : ZT H' a xs := by
  obtain ⟨o, h, q⟩ := h
  exact ⟨o, e _ _ (fun z => by rw [z, hd] at h; cases h) h, q⟩
end
/-- a new tuple of these -/
def TupZ (ys : List V) (H : Hp) (Q : VK) : Prop := ∀ p H', Same H H' → H p = none → ZT H' p ys → Q (.ref p) H'
section
variable {X : Cx} {pins : List (Addr × Obj)} {σ : L2.St} {H : Hp} {s : Shared}
theorem Inv.newZ {ys : List V} {its : List Value} {t' : Nat} {Q : VK} (I : L2.Inv X pins σ H s) (hz : ys.length ≤ sizeLine) (r : Vals ys its) (q : TupZ ys H Q) :
    EP X pins σ Q (.ref s.heap.objs.size) { s with heap := s.heap.push { cls := .type "tuple", data := .seq its.toArray }, toks := t' } := by
  have hn : H s.heap.objs.size = none := I.hok.fresh (Nat.le_refl _)
  have J := I.laid (t' := t') (a := s.heap.objs.size) (o := .frz { cls := .type "tuple", data := .seq its.toArray } (.tup ys)) (h' := s.heap.push { cls := .type "tuple", data := .seq its.toArray }) (fun b o e => Heap.get?_push_of_some _ e) (Nat.le_refl _)
    (show ObjOk X.prog X.w _ _ _ (.frz _ (.tup ys)) from by
      refine ⟨?_, ?_⟩
      · exact Heap.get?_push_size _ rfl
      · exact ⟨hz, its, r, IsTup.new _ _⟩)
  exact ⟨.ref s.heap.objs.size, _, J, rfl, q _ _ (same_new hn) hn ⟨_, upd_same, rfl⟩⟩
end
section
variable {X : Cx}
/-- tuple(list) -/
def rTupZ (K : PySem.W.Frag) : List V → Hp → VK → Prop := fun xs H Q => ∃ p ys, xs = [.ref p] ∧ SqL K H p ys ∧ TupZ ys H Q
theorem call_tuple_ofZ : CallR X (.type "tuple") (rTupZ X.K) := by
  intro pins s σ H xs us Q I r h
  obtain ⟨p, ys, rfl, hq, q⟩ := h
  obtain ⟨u, rfl, rx⟩ := vals1 r
  cases rx
  obtain ⟨its, r', pl, hz⟩ := I.list hq
  have hlen := r'.length
  refine call_tuple_list pl.isList (fun h' kp => ?_) (by simp only [List.size_toArray] <;> omega)
  have I1 : L2.Inv X pins σ H { s with heap := h' } := I.kept (t' := s.toks) kp
  exact Inv.newZ I1 hz r' q
/-- t + u, both not empty -/
def rCatZ (K : PySem.W.Frag) : R2 := fun x y H Q => ∃ a b xs ys, x = .ref a ∧ y = .ref b ∧ SqT K H a xs ∧ SqT K H b ys ∧ xs.length + ys.length ≤ sizeLine ∧ xs ≠ [] ∧ ys ≠ [] ∧ TupZ (xs ++ ys) H Q
theorem op_catZ : OpR X (binaryOp .Add) (rCatZ X.K) := by
  intro pins s σ H x y v u Q I rx ry h
  obtain ⟨a, b, xs, ys, rfl, rfl, ha, hb, hz, hx, hy, q⟩ := h
  cases rx
  cases ry
  obtain ⟨its, r1, p1, _⟩ := I.tuple ha
  obtain ⟨its2, r2, p2, _⟩ := I.tuple hb
  refine HT.cat_tup p1 p2 (fun z => hx (r1.nil_iff.mp z)) (fun z => absurd (r2.nil_iff.mp z) hy) (fun z => ?_) (by rw [← r1.length, ← r2.length]; exact hz)
  exact Inv.newZ I (by rw [List.length_append]; exact hz) (r1.append r2) q
/-- t[lo:hi], not the whole -/
def rSlZ (K : PySem.W.Frag) : V → Option Int → Option Int → Hp → VK → Prop := fun x lo hi H Q => ∃ a xs, x = .ref a ∧ SqT K H a xs ∧ ¬ (HT.sIx xs.length 0 lo = 0 ∧ HT.sIx xs.length xs.length hi = xs.length) ∧ TupZ (cutV xs lo hi) H Q
theorem sl_tupZ : L2.SlR X (rSlZ X.K) := by
  intro pins s σ H x v vl vu lo hi sl Q I rx hs pl pu h
  obtain ⟨a, xs, rfl, hx, hw, q⟩ := h
  cases rx
  obtain ⟨its, r, ht, hz⟩ := I.tuple hx
  have hlen : its.toArray.size = xs.length := by rw [List.size_toArray]; exact r.length.symm
  refine ⟨"tuple", _, PyProof.Rows.slot_tuple_getitem.lookup, ht.typeIs, ?_⟩
  refine HT.getItem_tuple_cut ht hs pl pu (by rw [hlen]; exact hw) ?_ (by rw [hlen]; exact hz)
  rw [hlen]
  exact Inv.newZ I (Nat.le_trans (cutV_length xs lo hi) hz) ((r.drop (HT.sIx xs.length 0 lo)).take (HT.sIx xs.length xs.length hi - HT.sIx xs.length 0 lo)) q
end
/-- t.m(e, ..), t such a tuple -/
def tZM (r : V → List V → Hp → VK → Prop) (to : TE) (t : TA) : TE := fun σ H Q => to σ H fun x H1 => (∃ a xs, x = .ref a ∧ ZT H1 a xs) ∧ t σ H1 fun xs H2 => r x xs H2 Q
section
variable {X : Cx} {o e : Expr} {es : List Expr} {to : TE} {t : TA} {id : String} {name : Str} {r : V → List V → Hp → VK → Prop} {apos cpos : Pos}
theorem pe_zm (slot : Slot "tuple" name id) (hty : typeOf (.builtin id) = pure (.type "method_descriptor")) (hm : MtR X id r) (ho : PE X o to) (ha : PA X (e :: es) t)
    (hbase : attributeBase o name X.env (eval o X.env) = eval o X.env := by rfl)
    (hfew : ((backTo cpos (starEach (e :: es) X.env)).all (fun x => !x.1) && (backToKw cpos (keywordEach [] X.env)).all (fun x => x.1.isSome)
      && decide ((e :: es).length + ([] : List Keyword).length + (if ([] : List Keyword).isEmpty then 0 else 1) < 30)) = true := by rfl)
    (hline : (apos.endLine == cpos.line) = true := by rfl) (hs : starEach (e :: es) X.env = (false, eval e X.env) :: starEach es X.env := by rfl) (hplain : (backTo cpos (starEach es X.env)).any (·.1) = false := by rfl) :
    PE X (.Call (.Attribute o name apos) (e :: es) [] cpos) (tZM r to t) := by
  refine ⟨fun pins s σ H Q I h => ?_⟩
  refine wpAny_Call_method_late hbase hfew hline rfl (thn (ho.run pins s σ H _ I h) fun v s1 ⟨x, H1, I1, r1, ⟨a, xs, ex, z⟩, q1⟩ => ?_)
  subst ex
  obtain rfl : v = Value.ref a := r1
  obtain ⟨ob, hz, hd⟩ := z
  obtain ⟨e1, q2⟩ := I1.hok a _ hz
  obtain ⟨_, its, _, ob2, e2, hc, _⟩ := q2
  refine ⟨"tuple", id, PySem.F.plainAttrs_tuple, slot, hty, ⟨ob2, e2, hc⟩, fun b eb => ?_, ?_⟩
  · cases eb
    exact ⟨ob, e1, hd⟩
  have hA := ha.run cpos pins s1 σ H1 _ I1 q1
  rw [hs] at hA ⊢
  refine Calls.callWith_builtin (by show (false || (backTo cpos (starEach es X.env)).any (·.1)) = false; rw [hplain] <;> rfl) (Calls.evalArgs_plain ?_)
  exact thn hA fun us s2 ⟨vs, H2, I2, r2, q2⟩ => hm pins s2 σ H2 (.ref a) vs (.ref a) us Q I2 rfl r2 q2
end
section
variable {X : Cx} (K : PySem.W.Frag)
theorem call_tuple_ofZK (h : X.K = K := by rfl) : CallR X (.type "tuple") (rTupZ K) := h ▸ call_tuple_ofZ
theorem op_catZK (h : X.K = K := by rfl) : OpR X (binaryOp .Add) (rCatZ K) := h ▸ op_catZ
theorem sl_tupZK (h : X.K = K := by rfl) : L2.SlR X (rSlZ K) := h ▸ sl_tupZ
end
/-! ### rows of such tuples -/
def RowsZ (K : PySem.W.Frag) (H : Hp) (p : Addr) (rows : List (List Nat)) : Prop := ∃ ps : List Addr, SqT K H p (ps.map V.ref) ∧ Paired (fun q r => ZT H q (vN r)) ps rows
section
variable {K : PySem.W.Frag} {H H' : Hp} {p d : Addr} {rows : List (List Nat)}
theorem RowsZ.at_ (h : RowsZ K H p rows) : RowsAt K H p rows := by
  obtain ⟨ps, h1, h2⟩ := h
  exact ⟨ps, h1, My.Paired.imp' (fun _ _ z => z.sq) h2⟩
theorem RowsZ.same (e : Same H H') (h : RowsZ K H p rows) : RowsZ K H' p rows := by
  obtain ⟨ps, h1, h2⟩ := h
  exact ⟨ps, sameT e h1, My.Paired.imp' (fun _ _ q => q.same e) h2⟩
theorem RowsZ.but {ys : List V} (hd : H d = some (.lst ys)) (e : But d H H') (h : RowsZ K H p rows) : RowsZ K H' p rows := by
  obtain ⟨ps, h1, h2⟩ := h
  exact ⟨ps, butT hd e h1, My.Paired.imp' (fun _ _ q => q.but hd e) h2⟩
end
/-- a word whose rows are such tuples -/
def WordZ (K : PySem.W.Frag) (H : Hp) (a : Addr) (W : Wd) : Prop := ∃ dx lt rw : Addr, H a = some (SlX.SlO a (WC K) dx [some (.int W.b), some (.ref lt), some (.ref rw)]) ∧ H dx = some (.xd []) ∧ SqT K H lt (vN W.lets) ∧ RowsZ K H rw W.rows ∧ W.Ok
section
variable {K : PySem.W.Frag} {H H' : Hp} {a d : Addr} {W : Wd}
theorem WordZ.at_ (h : WordZ K H a W) : WordAt K H a W := by
  obtain ⟨dx, lt, rw, h1, h2, h3, h4, O⟩ := h
  exact ⟨dx, lt, rw, h1, h2, h3, h4.at_, O⟩
theorem WordZ.same (e : Same H H') (h : WordZ K H a W) : WordZ K H' a W := by
  obtain ⟨dx, lt, rw, h1, h2, h3, h4, O⟩ := h
  exact ⟨dx, lt, rw, e _ _ h1, e _ _ h2, sameT e h3, h4.same e, O⟩
theorem WordZ.but {ys : List V} (hd : H d = some (.lst ys)) (e : But d H H') (h : WordZ K H a W) : WordZ K H' a W := by
  obtain ⟨dx, lt, rw, h1, h2, h3, h4, O⟩ := h
  refine ⟨dx, lt, rw, e _ _ (fun z => ?_) h1, e _ _ (fun z => ?_) h2, butT hd e h3, h4.but hd e, O⟩
  · rw [z, hd] at h1
    unfold SlX.SlO at h1
    cases h1
  · rw [z, hd] at h2
    cases h2
theorem WordZ.slt (h : WordZ K H a W) : ∃ dx lt rw : Addr, SlX.Slt H a (WC K) dx [some (.int W.b), some (.ref lt), some (.ref rw)] ∧ SqT K H lt (vN W.lets) ∧ RowsZ K H rw W.rows := by
  obtain ⟨dx, lt, rw, h1, h2, h3, h4, O⟩ := h
  exact ⟨dx, lt, rw, .inr ⟨h1, h2⟩, h3, h4⟩
/-- Word(base, rows, letters) -/
theorem mk_wordZ {rw lt : Addr} {R : Addr → Hp → Prop} {E : XK} (O : W.Ok) (hl : SqT K H lt (vN W.lets)) (hrw : RowsZ K H rw W.rows) (q : ∀ a H', Same H H' → WordZ K H' a W → R a H') :
    ∀ x dx, H x = none → H dx = none → dx ≠ x → spWord K (.ref x :: ([V.int W.b, .ref rw, .ref lt] ++ [])) (upd (upd H dx (.own x)) x (.ins (WC K) dx [])) (fun v H2 => v = .non ∧ R x H2) E := by
  intro x dx nx ndx ne
  have e : Same H (upd (upd H dx (.own x)) x (.ins (WC K) dx [])) := fun b o h => by
    rw [upd_ne (ne_of_none h nx), upd_ne (ne_of_none h ndx)]
    exact h
  refine ⟨x, rw, lt, dx, W, rfl, O, ne, .inl ⟨upd_same, rfl⟩, sameT e hl, hrw.at_.same e, fun H' k h1 h2 => ⟨rfl, ?_⟩⟩
  have e2 : Same H H' := fun b o h => k b o (ne_of_none h nx) (ne_of_none h ndx) (e b o h)
  exact q x H' e2 ⟨dx, lt, rw, h1, h2, sameT e2 hl, hrw.same e2, O⟩
end
end My

set_option Elab.async false
set_option linter.all false
set_option maxRecDepth 100000
set_option maxHeartbeats 4000000
/-! data of rows, for == -/
namespace My
open PySem PySem.Spec PyProof.Rows L2 MW
def dInts (l : List Nat) : List PyData := (iN l).map PyData.int
def dRows (rows : List (List Nat)) : List PyData := rows.map fun r => .tuple (dInts r)
theorem canRows : ∀ l : List (List Nat), PyData.canLayAll0 (dRows l) = true
  | [] => by simp [dRows, PyData.canLayAll0]
  | a :: l => by
    have h := canRows l
    have e : dRows (a :: l) = .tuple (dInts a) :: dRows l := rfl
    rw [e, PyData.canLayAll0, h, Bool.and_true, PyData.canLay0]
    exact canInts (iN a)
theorem depthRows : ∀ l : List (List Nat), PyData.depthAll (dRows l) ≤ 2
  | [] => by simp [dRows, PyData.depthAll]
  | a :: l => by
    have h := depthRows l
    have h2 : PyData.depthAll (dInts a) ≤ 1 := depthInts (iN a)
    have e : dRows (a :: l) = .tuple (dInts a) :: dRows l := rfl
    rw [e, PyData.depthAll, PyData.depth]
    omega
theorem shapedRows (l : List (List Nat)) : SeqAt.shaped (.tuple (dRows l)) = true := by
  have := depthRows l
  unfold SeqAt.shaped
  simp only [PyData.canLay0, canRows, Bool.true_and, PyData.depth]
  exact decide_eq_true (by omega)
theorem eqvRows (l : List (List Nat)) : PyData.eqv (.tuple (dRows l)) (.tuple (dRows l)) = true := SeqAt.eqv_refl _ (SeqAt.canLay_of_shaped (shapedRows l))
theorem dpRows {K : PySem.W.Frag} {H : Hp} {p : Addr} {rows : List (List Nat)} (h : RowsAt K H p rows) : Dp K H (.ref p) (.tuple (dRows rows)) := by
  obtain ⟨ps, h1, h2⟩ := h
  refine .tup h1 ?_
  clear h1
  induction h2 with
  | nil => exact .nil
  | cons q t ih => exact .cons (dpTI q) ih
theorem iN_sum (l : List Nat) : (iN l).sum = ((l.sum : Nat) : Int) := by
  induction l with
  | nil => rfl
  | cons a l ih =>
    have e : iN (a :: l) = (a : Int) :: iN l := rfl
    rw [e, List.sum_cons, List.sum_cons, ih, Int.natCast_add]
theorem dpN {K : PySem.W.Frag} {H : Hp} {a : Addr} {l : List Nat} (h : SqT K H a (vN l)) : Dp K H (.ref a) (.tuple (dInts l)) := dpTI h
end My

/-! first places, numbers by first place, machines -/
namespace MW
section
variable {α : Type} [DecidableEq α]
def put1 (l : List α) (x : α) : List α := if x ∈ l then l else l ++ [x]
def puts (l r : List α) : List α := r.foldl put1 l
def ded (l : List α) : List α := puts [] l
theorem put1_in {l : List α} {x : α} (h : x ∈ l) : put1 l x = l := if_pos h
theorem put1_out {l : List α} {x : α} (h : x ∉ l) : put1 l x = l ++ [x] := if_neg h
theorem mem_put1 {l : List α} {x y : α} : y ∈ put1 l x ↔ y ∈ l ∨ y = x := by
  unfold put1
  by_cases h : x ∈ l
  · rw [if_pos h]
    exact ⟨.inl, fun q => q.elim id fun e => e ▸ h⟩
  · rw [if_neg h]
    simp
theorem nodup_put1 {l : List α} {x : α} (h : l.Nodup) : (put1 l x).Nodup := by
  unfold put1
  by_cases m : x ∈ l
  · rw [if_pos m]; exact h
  · rw [if_neg m]
    rw [List.nodup_append]
    exact ⟨h, by simp, fun a ha b hb => by rw [List.mem_singleton.mp hb]; exact fun e => m (e ▸ ha)⟩
theorem put1_pre (l : List α) (x : α) : l <+: put1 l x := by
  unfold put1
  by_cases m : x ∈ l
  · rw [if_pos m]; exact List.prefix_refl l
  · rw [if_neg m]; exact List.prefix_append _ _
theorem puts_snoc (l r : List α) (x : α) : puts l (r ++ [x]) = put1 (puts l r) x := by unfold puts; rw [List.foldl_append]; rfl
theorem puts_pre (l : List α) : ∀ r : List α, l <+: puts l r
  | [] => List.prefix_refl l
  | x :: r => (put1_pre l x).trans (puts_pre (put1 l x) r)
theorem mem_puts {y : α} : ∀ {r l : List α}, y ∈ puts l r ↔ y ∈ l ∨ y ∈ r
  | [], l => by simp [puts]
  | x :: r, l => by
    show y ∈ puts (put1 l x) r ↔ _
    rw [mem_puts, mem_put1, List.mem_cons, or_assoc]
theorem nodup_puts : ∀ {r l : List α}, l.Nodup → (puts l r).Nodup
  | [], _, h => h
  | _ :: r, _, h => nodup_puts (r := r) (nodup_put1 h)
theorem mem_ded {l : List α} {y : α} : y ∈ ded l ↔ y ∈ l := by unfold ded; rw [mem_puts]; simp
theorem nodup_ded (l : List α) : (ded l).Nodup := nodup_puts List.nodup_nil
theorem ded_snoc (l : List α) (x : α) : ded (l ++ [x]) = put1 (ded l) x := puts_snoc [] l x
theorem ded_len (l : List α) : (ded l).length ≤ l.length := by
  have : ∀ (r l : List α), (puts l r).length ≤ l.length + r.length := by
    intro r
    induction r with
    | nil => intro l; exact Nat.le_refl _
    | cons x r ih =>
      intro l
      have h := ih (put1 l x)
      have h2 : (put1 l x).length ≤ l.length + 1 := by
        unfold put1
        split
        · omega
        · simp
      show (puts (put1 l x) r).length ≤ _
      rw [List.length_cons]
      omega
  have := this l []
  unfold ded
  simpa using this
/-- the first place -/
def ix (l : List α) (x : α) : Nat := l.idxOf x
theorem ix_app {l r : List α} {x : α} (h : x ∈ l) : ix (l ++ r) x = ix l x := by unfold ix; rw [List.idxOf_append, if_pos h]
theorem ix_pre {l r : List α} {x : α} (p : l <+: r) (h : x ∈ l) : ix r x = ix l x := by
  obtain ⟨t, rfl⟩ := p
  exact ix_app h
theorem ix_lt {l : List α} {x : α} (h : x ∈ l) : ix l x < l.length := List.idxOf_lt_length_of_mem h
theorem ix_get {l : List α} {x : α} (h : x ∈ l) : l[ix l x]? = some x := by
  rw [List.getElem?_eq_getElem (ix_lt h)]
  exact congrArg some (List.getElem_idxOf (ix_lt h))
theorem ix_at {l : List α} (n : l.Nodup) {i : Nat} {x : α} (h : l[i]? = some x) : ix l x = i := by
  obtain ⟨hi, e⟩ := List.getElem?_eq_some_iff.mp h
  rw [← e]
  exact List.Nodup.idxOf_getElem n i hi
theorem ix_new {l : List α} {x : α} (h : x ∉ l) : ix (l ++ [x]) x = l.length := by
  unfold ix
  rw [List.idxOf_append, if_neg h]
  simp
theorem ix_inj {l : List α} {x y : α} (hx : x ∈ l) (hy : y ∈ l) (e : ix l x = ix l y) : x = y := by
  have h1 := ix_get hx
  have h2 := ix_get hy
  rw [e, h2] at h1
  exact (Option.some.inj h1).symm
/-- the numbers by first place -/
def nums (ks : List α) : List Nat := ks.map fun k => ix (ded ks) k
theorem nums_len (ks : List α) : (nums ks).length = ks.length := by unfold nums; simp
end
/-! ### the breadth-first order -/
def rowOfL (rows : List (List Nat)) (s : Nat) : List Nat := (rows[s]?).getD []
def reachO (rows : List (List Nat)) : Nat → Nat → List Nat → List Nat
  | 0, _, o => o
  | f + 1, k, o => match o[k]? with
    | none => o
    | some s => reachO rows f (k + 1) (puts o (rowOfL rows s))
/-- the order from start on -/
def order (rows : List (List Nat)) (start : Nat) : List Nat := reachO rows (rows.length + 1) 0 [start]
def told (rows : List (List Nat)) (O : List Nat) : List (List Nat) := O.map fun s => (rowOfL rows s).map (ix O)
def pick (marks : List Nat) (O : List Nat) : List Nat := O.map fun s => (marks[s]?).getD 0
/-! ### classes -/
def keysOf (rows : List (List Nat)) (f : List Nat) : List (List Nat) := rows.zipIdx.map fun p => (f[p.2]?).getD 0 :: p.1.map fun t => (f[t]?).getD 0
/-- the classes that the rounds end with -/
inductive Cls (rows : List (List Nat)) : List Nat → Nat → List Nat → Prop where
  | stop {f : List Nat} {many : Nat} (h : (ded (keysOf rows f)).length = many) : Cls rows f many (nums (keysOf rows f))
  | go {f : List Nat} {many : Nat} {C : List Nat} (h : (ded (keysOf rows f)).length ≠ many) (q : Cls rows (nums (keysOf rows f)) (ded (keysOf rows f)).length C) : Cls rows f many C
/-- the numbers of marks by size -/
def ranks (srt marks : List Nat) : List Nat := marks.map fun m => ix srt m
section
theorem take_pre {α : Type} {l r : List α} (p : l <+: r) {k : Nat} (h : k ≤ l.length) : r.take k = l.take k := by
  obtain ⟨t, rfl⟩ := p
  rw [List.take_append_of_le_length h]
theorem get_pre {α : Type} {l r : List α} (p : l <+: r) {k : Nat} {x : α} (h : l[k]? = some x) : r[k]? = some x := by
  obtain ⟨t, rfl⟩ := p
  have hk := (List.getElem?_eq_some_iff.mp h).1
  rw [List.getElem?_append_left hk, h]
theorem nodup_lt : ∀ (n : Nat) {l : List Nat}, l.Nodup → (∀ x ∈ l, x < n) → l.length ≤ n
  | 0, [], _, _ => Nat.le_refl _
  | 0, a :: l, _, h => absurd (h a (List.mem_cons_self ..)) (by omega)
  | n + 1, l, nd, h => by
    by_cases m : n ∈ l
    · have h1 := nodup_lt n (l := l.erase n) (nd.erase n) (fun x hx => by
        have h2 := h x (List.mem_of_mem_erase hx)
        have h3 : x ≠ n := fun e => by
          rw [e] at hx
          exact (List.Nodup.not_mem_erase nd) hx
        omega)
      have h4 := List.length_erase_of_mem m
      have : 0 < l.length := List.length_pos_of_mem m
      omega
    · have := nodup_lt n nd fun x hx => by
        have h2 := h x hx
        have h3 : x ≠ n := fun e => m (e ▸ hx)
        omega
      omega
variable {rows : List (List Nat)}
theorem reachO_end {f k : Nat} {o : List Nat} (h : o.length ≤ k) : reachO rows f k o = o := by
  cases f with
  | zero => rfl
  | succ f =>
    unfold reachO
    rw [List.getElem?_eq_none h]
theorem reachO_step {f k s : Nat} {o : List Nat} (h : o[k]? = some s) : reachO rows (f + 1) k o = reachO rows f (k + 1) (puts o (rowOfL rows s)) := by
  rw [reachO, h]
theorem rowOfL_at {s : Nat} {r : List Nat} (h : rows[s]? = some r) : rowOfL rows s = r := by unfold rowOfL; rw [h]; rfl
theorem map_ix_preA {α : Type} [DecidableEq α] {o o' : List α} (p : o <+: o') {r : List α} (h : ∀ x ∈ r, x ∈ o) : r.map (ix o') = r.map (ix o) := by
  apply List.map_congr_left
  intro x hx
  exact ix_pre p (h x hx)
theorem map_ix_pre {o o' : List Nat} (p : o <+: o') {r : List Nat} (h : ∀ x ∈ r, x ∈ o) : r.map (ix o') = r.map (ix o) := by
  apply List.map_congr_left
  intro x hx
  exact ix_pre p (h x hx)
end
section
variable {α β : Type} [DecidableEq α] [DecidableEq β]
/-- as many unlike ones as there are images, at least -/
theorem nodup_len_le : ∀ {l r : List α}, l.Nodup → (∀ x ∈ l, x ∈ r) → l.length ≤ r.length
  | [], _, _, _ => Nat.zero_le _
  | a :: l, r, nd, h => by
    have h1 := nodup_len_le (l := l) (r := r.erase a) (List.nodup_cons.mp nd).2 (fun x hx => by
      have hne : x ≠ a := fun e => (List.nodup_cons.mp nd).1 (e ▸ hx)
      exact (List.mem_erase_of_ne hne).mpr (h x (List.mem_cons_of_mem _ hx)))
    have h2 := List.length_erase_of_mem (h a (List.mem_cons_self ..))
    have : 0 < r.length := List.length_pos_of_mem (h a (List.mem_cons_self ..))
    rw [List.length_cons]
    omega
theorem ded_map_le (f : α → β) (l : List α) : (ded (l.map f)).length ≤ (ded l).length := by
  have h := nodup_len_le (l := ded (l.map f)) (r := (ded l).map f) (nodup_ded _) (fun x hx => by
    obtain ⟨y, hy, e⟩ := List.mem_map.mp (mem_ded.mp hx)
    exact List.mem_map.mpr ⟨y, mem_ded.mpr hy, e⟩)
  rw [List.length_map] at h
  exact h
theorem ded_map_inj (f : α → β) (l : List α) (inj : ∀ a ∈ l, ∀ b ∈ l, f a = f b → a = b) : (ded l).length ≤ (ded (l.map f)).length := by
  have nd : ((ded l).map f).Nodup := by
    have n := nodup_ded l
    have hm : ∀ x ∈ ded l, x ∈ l := fun x hx => mem_ded.mp hx
    generalize ded l = m at n hm
    induction m with
    | nil => exact List.nodup_nil
    | cons a m ih =>
      rw [List.map_cons, List.nodup_cons]
      refine ⟨fun h => ?_, ih (List.nodup_cons.mp n).2 fun x hx => hm x (List.mem_cons_of_mem _ hx)⟩
      obtain ⟨b, hb, e⟩ := List.mem_map.mp h
      have := inj b (hm b (List.mem_cons_of_mem _ hb)) a (hm a (List.mem_cons_self ..)) e
      exact (List.nodup_cons.mp n).1 (this ▸ hb)
  have h := nodup_len_le nd (r := ded (l.map f)) (fun x hx => by
    obtain ⟨y, hy, e⟩ := List.mem_map.mp hx
    exact mem_ded.mpr (List.mem_map.mpr ⟨y, mem_ded.mp hy, e⟩))
  rw [List.length_map] at h
  exact h
theorem ded_nums (ks : List α) : (ded (nums ks)).length = (ded ks).length := by
  apply Nat.le_antisymm
  · exact ded_map_le _ ks
  · exact ded_map_inj _ ks fun a ha b hb e => ix_inj (mem_ded.mpr ha) (mem_ded.mpr hb) e
end
section
variable {rows : List (List Nat)} {f : List Nat}
theorem keysOf_len : (keysOf rows f).length = rows.length := by unfold keysOf; simp
theorem keysOf_get {s : Nat} {r : List Nat} (h : rows[s]? = some r) : (keysOf rows f)[s]? = some ((f[s]?).getD 0 :: r.map fun t => (f[t]?).getD 0) := by
  unfold keysOf
  rw [List.getElem?_map, List.getElem?_zipIdx, h]
  simp
theorem keysOf_heads (h : f.length = rows.length) : (keysOf rows f).map (fun k => k.headD 0) = f := by
  apply List.ext_getElem?
  intro i
  rw [List.getElem?_map]
  by_cases hi : i < rows.length
  · rw [keysOf_get (List.getElem?_eq_getElem hi), List.getElem?_eq_getElem (by omega)]
    simp
  · rw [List.getElem?_eq_none (by rw [keysOf_len]; omega), List.getElem?_eq_none (by omega)]
    rfl
theorem keysOf_card (h : f.length = rows.length) : (ded f).length ≤ (ded (keysOf rows f)).length ∧ (ded (keysOf rows f)).length ≤ rows.length := by
  constructor
  · have := ded_map_le (fun k : List Nat => k.headD 0) (keysOf rows f)
    rw [keysOf_heads h] at this
    exact this
  · have := ded_len (keysOf rows f)
    rw [keysOf_len] at this
    exact this
end
/-- an order that is closed -/
structure OrdOk (rows : List (List Nat)) (st : Nat) (O : List Nat) : Prop where
  nd : O.Nodup
  lt : ∀ s ∈ O, s < rows.length
  cl : ∀ s ∈ O, ∀ x ∈ rowOfL rows s, x ∈ O
  hd : O[0]? = some st
section
variable {rows : List (List Nat)} {st : Nat} {O : List Nat}
theorem told_len : (told rows O).length = O.length := by unfold told; simp
theorem told_get {i s : Nat} (h : O[i]? = some s) : (told rows O)[i]? = some ((rowOfL rows s).map (ix O)) := by unfold told; rw [List.getElem?_map, h]; rfl
theorem told_ok (o : OrdOk rows st O) {c : Nat} (hr : ∀ r ∈ rows, r.length ≤ c) : ∀ r ∈ told rows O, r.length ≤ c ∧ ∀ x ∈ r, x < (told rows O).length := by
  intro r h
  unfold told at h
  obtain ⟨s, hs, rfl⟩ := List.mem_map.mp h
  refine ⟨?_, fun x hx => ?_⟩
  · rw [List.length_map]
    have hlt := o.lt s hs
    rw [rowOfL_at (List.getElem?_eq_getElem hlt)]
    exact hr _ (List.getElem_mem hlt)
  · obtain ⟨y, hy, rfl⟩ := List.mem_map.mp hx
    rw [told_len]
    exact ix_lt (o.cl s hs y hy)
theorem pick_len {marks : List Nat} : (pick marks O).length = O.length := by unfold pick; simp
end
/-- rows and marks of classes -/
def quot (rows : List (List Nat)) (C : List Nat) : List (List Nat) := (List.range (ded C).length).map fun lot => (rowOfL rows (ix C lot)).map fun t => (C[t]?).getD 0
def quotM (marks C : List Nat) : List Nat := (List.range (ded C).length).map fun lot => (marks[ix C lot]?).getD 0
theorem quot_len (rows : List (List Nat)) (C : List Nat) : (quot rows C).length = (ded C).length := by unfold quot; simp
theorem Cls.nums {rows : List (List Nat)} {f C : List Nat} {many : Nat} (h : Cls rows f many C) : ∃ g, C = MW.nums (keysOf rows g) := by
  induction h with
  | stop h => exact ⟨_, rfl⟩
  | go h q ih => exact ih
/-- every number below is met -/
theorem nums_full {α : Type} [DecidableEq α] (ks : List α) {lot : Nat} (h : lot < (ded (nums ks)).length) : lot ∈ nums ks := by
  rw [ded_nums] at h
  have hm := mem_ded.mp (List.getElem_mem h)
  exact List.mem_map.mpr ⟨_, hm, ix_at (nodup_ded ks) (List.getElem?_eq_getElem h)⟩
theorem nums_lt {α : Type} [DecidableEq α] (ks : List α) : ∀ x ∈ nums ks, x < (ded (nums ks)).length := by
  intro x hx
  rw [ded_nums]
  obtain ⟨k, hk, rfl⟩ := List.mem_map.mp hx
  exact ix_lt (mem_ded.mpr hk)
/-- what the least machine is -/
def LeastOf (rows : List (List Nat)) (marks : List Nat) (rows' : List (List Nat)) (marks' : List Nat) : Prop :=
  ∃ srt C, srt.Perm (ded (pick marks (order rows 0))) ∧ srt.Pairwise (· ≤ ·) ∧ Cls (told rows (order rows 0)) (ranks srt (pick marks (order rows 0))) (ded (pick marks (order rows 0))).length C ∧ OrdOk rows 0 (order rows 0) ∧ C.length = (order rows 0).length ∧
    OrdOk (quot (told rows (order rows 0)) C) ((C[0]?).getD 0) (order (quot (told rows (order rows 0)) C) ((C[0]?).getD 0)) ∧
    rows' = told (quot (told rows (order rows 0)) C) (order (quot (told rows (order rows 0)) C) ((C[0]?).getD 0)) ∧
    marks' = pick (quotM (pick marks (order rows 0)) C) (order (quot (told rows (order rows 0)) C) ((C[0]?).getD 0))
end MW

set_option Elab.async false
set_option linter.all false
set_option maxRecDepth 100000
set_option maxHeartbeats 4000000
/-! dicts that number, sequences of either kind -/
namespace My
open PySem PySem.Spec PyProof.Rows L2 MW
theorem snocInd {α : Type} {P : List α → Prop} (h0 : P []) (h1 : ∀ l x, P l → P (l ++ [x])) (l : List α) : P l := by
  have : ∀ r : List α, P r.reverse := by
    intro r
    induction r with
    | nil => exact h0
    | cons x r ih => rw [List.reverse_cons]; exact h1 _ _ ih
  have h := this l.reverse
  rw [List.reverse_reverse] at h
  exact h
section
variable {α κ : Type} [DecidableEq α] [DecidableEq κ]
/-- the dict that numbers l -/
def numK (f : α → κ) (l : List α) : List (κ × V) := l.zipIdx.map fun p => (f p.1, .int (p.2 : Nat))
theorem numK_len (f : α → κ) (l : List α) : (numK f l).length = l.length := by unfold numK; simp
theorem numK_snoc (f : α → κ) (l : List α) (x : α) : numK f (l ++ [x]) = numK f l ++ [(f x, .int (l.length : Nat))] := by
  unfold numK
  rw [List.zipIdx_append, List.map_append]
  simp
theorem valV_app (k : κ) : ∀ (a b : List (κ × V)), valV (a ++ b) k = (valV a k).or (valV b k)
  | [], b => by rw [List.nil_append, valV_nil]; rfl
  | p :: a, b => by
    rw [List.cons_append]
    by_cases h : p.1 = k
    · rw [valV_pos h, valV_pos h]; rfl
    · rw [valV_neg h, valV_neg h, valV_app k a b]
theorem numK_val {f : α → κ} (inj : ∀ a b, f a = f b → a = b) (x : α) : ∀ l : List α, l.Nodup → valV (numK f l) (f x) = if x ∈ l then some (.int (ix l x : Nat)) else none := by
  intro l
  induction l using snocInd with
  | h0 => intro _; rfl
  | h1 l y ih =>
    intro n
    have nl : l.Nodup := (List.nodup_append.mp n).1
    have ny : y ∉ l := fun h => (List.nodup_append.mp n).2.2 y h y (by simp) rfl
    rw [numK_snoc, valV_app, ih nl]
    by_cases hx : x ∈ l
    · rw [if_pos hx, if_pos (List.mem_append_left _ hx), ix_app hx]; rfl
    · rw [if_neg hx]
      by_cases e : y = x
      · subst e
        rw [if_pos (by simp), ix_new ny, valV_pos (p := (f y, V.int (l.length : Nat))) rfl]
        rfl
      · rw [if_neg (by simp [hx, Ne.symm e]), valV_neg (p := (f y, V.int (l.length : Nat))) (fun z => e (inj _ _ z))]
        rfl
theorem numK_put {f : α → κ} (inj : ∀ a b, f a = f b → a = b) {x : α} {l : List α} (n : l.Nodup) (h : x ∉ l) : putK (numK f l) (f x) (.int (l.length : Nat)) = numK f (l ++ [x]) := by
  rw [putK_new _ (by rw [numK_val inj x l n, if_neg h]), numK_snoc]
end
def kN (n : Nat) : Key := .inl (n : Int)
theorem kN_inj (a b : Nat) (h : kN a = kN b) : a = b := by
  unfold kN at h
  have := Sum.inl.inj h
  omega
theorem kN_v (n : Nat) : kV (kN n) = .int n := rfl
def kL (l : List Nat) : List Key := l.map kN
theorem kL_inj (a b : List Nat) (h : kL a = kL b) : a = b := (List.map_inj_right kN_inj).mp h
theorem kL_v (l : List Nat) : (kL l).map kV = vN l := by unfold kL vN iN; rw [List.map_map, List.map_map]; rfl
theorem units1 {k : Nat} {A : Around} (h : Room k A) : A.units + 1 < cLine := by
  have := h.units
  omega
/-! ### a tuple or a list -/
def SqA (K : PySem.W.Frag) (H : Hp) (p : Addr) (xs : List V) : Prop := SqT K H p xs ∨ SqL K H p xs
def rIxA (K : PySem.W.Frag) : R2 := fun x y H Q => ∃ (p : Addr) (xs : List V) (i : Int) (v : V), x = .ref p ∧ y = .int i ∧ SqA K H p xs ∧ atI xs i = some v ∧ Q v H
section
variable {X : Cx} (K : PySem.W.Frag)
theorem ix_any : IxR X (rIxA X.K) := by
  intro value slice pins s σ H x y v u Q I rx ry h hs
  obtain ⟨p, xs, i, z, ex, ey, h, e, q⟩ := h
  rcases h with h | h
  · exact ix_tup value slice pins s σ H x y v u Q I rx ry ⟨p, xs, i, z, ex, ey, h, e, q⟩ hs
  · exact ix_list value slice pins s σ H x y v u Q I rx ry ⟨p, xs, i, z, ex, ey, h, e, q⟩ hs
theorem ix_anyK (h : X.K = K := by rfl) : IxR X (rIxA K) := h ▸ ix_any
end
section
variable {K : PySem.W.Frag} {H H' : Hp} {p d : Addr} {xs : List V} {Q : VK}
theorem SqA.same (e : Same H H') (h : SqA K H p xs) : SqA K H' p xs := h.elim (fun h => .inl (sameT e h)) fun h => .inr (e.seq h)
def RowsA (K : PySem.W.Frag) (H : Hp) (p : Addr) (rows : List (List Nat)) : Prop := ∃ ps : List Addr, SqA K H p (ps.map V.ref) ∧ Paired (fun q r => SqT K H q (vN r)) ps rows
theorem RowsA.same {rows : List (List Nat)} (e : Same H H') (h : RowsA K H p rows) : RowsA K H' p rows := by
  obtain ⟨ps, h1, h2⟩ := h
  exact ⟨ps, h1.same e, My.Paired.imp' (R := fun q r => SqT K H q (vN r)) (fun _ r z => sameT (xs := vN r) e z) h2⟩
theorem RowsA.row {rows : List (List Nat)} {i : Nat} {r : List Nat} (h : RowsA K H p rows) (hi : rows[i]? = some r) : ∃ (q : Addr) (xs : List V), SqA K H p xs ∧ xs[i]? = some (.ref q) ∧ SqT K H q (vN r) := by
  obtain ⟨ps, h1, h2⟩ := h
  obtain ⟨q, h3, h4⟩ := Paired.get' h2 hi
  exact ⟨q, _, h1, by rw [List.getElem?_map, h3]; rfl, h4⟩
theorem RowsAt.a {rows : List (List Nat)} (h : RowsAt K H p rows) : RowsA K H p rows := by
  obtain ⟨ps, h1, h2⟩ := h
  exact ⟨ps, .inl h1, h2⟩
end
/-! ### a dict comprehension over any walk -/
section
variable {J : It} {n : Nat} {G : Hp → Prop} {Y : Nat → Hp → V → Hp → Prop}
theorem dc_it (w : Walk J n G Y) {g : TG} {tt : TT} {tk tv : TE} {vs : List Nat} {σ : L2.St} {H1 : Hp} {D : Addr} {Qd : Hp → Prop} (Pv : Nat → Hp → Prop) (h0 : Pv 0 (upd H1 D (.dK []))) (hG : ∀ i H, i ≤ n → Pv i H → G H)
    (hs : ∀ i x H H', i < n → Pv i H → Y i H x H' → g x (wipe σ vs) H' fun σ2 H2 => wipe σ2 vs = wipe σ vs ∧ tt σ2 H2 fun b H3 =>
      if b = true then tk σ2 H3 fun y H4 => tv σ2 H4 fun z H5 => ∃ kvs k, y = kV k ∧ H5 D = some (.dK kvs) ∧ kvs.length < sizeLine ∧ Pv (i + 1) (upd H5 D (.dK (putK kvs k z))) else Pv (i + 1) H3) (hd : ∀ H, Pv n H → Qd H) :
    ∃ W : Nat → Nat → Hp → Prop, (∃ m, W 0 m (upd H1 D (.dK []))) ∧ ∀ i m H, W i m H →
      (J.stop i H ∧ Qd H) ∨ (J.go i H ∧ ∃ Nx : Hp → Prop, (∀ H', Nx H' → ∃ m', m' < m ∧ W (i + 1) m' H') ∧ ∀ x H', J.yld i H x H' → g x (wipe σ vs) H' fun σ2 H2 => wipe σ2 vs = wipe σ vs ∧ tt σ2 H2 fun b H3 =>
        if b = true then tk σ2 H3 fun y H4 => tv σ2 H4 fun z H5 => ∃ kvs k, y = kV k ∧ H5 D = some (.dK kvs) ∧ kvs.length < sizeLine ∧ Nx (upd H5 D (.dK (putK kvs k z))) else Nx H3) := by
  refine ⟨fun i m H => m = n - i ∧ i ≤ n ∧ Pv i H, ⟨n, by simp, Nat.zero_le _, h0⟩, ?_⟩
  rintro i m H ⟨rfl, hi, p⟩
  have q := hG i H hi p
  by_cases hlt : i < n
  · exact .inr ⟨w.goes i H hlt q, Pv (i + 1), fun H' p' => ⟨n - (i + 1), by omega, rfl, hlt, p'⟩, fun x H' y => hs i x H H' hlt p (w.yields i H x H' hlt q y)⟩
  · have e : i = n := by omega
    subst e
    exact .inl ⟨w.stops H q, hd H p⟩
end
end My

set_option Elab.async false
set_option linter.all false
set_option maxRecDepth 100000
set_option maxHeartbeats 4000000
/-! A small machine: values as trees, a def's names as slots. Here: values, how they lie in the heap. -/
namespace Mi
open PySem PySem.Spec PyProof.Rows L2 My

inductive MV where
  | non | bl (b : Bool) | int (i : Int) | str (x : Str)
  | tup (xs : List MV) | lst (xs : List MV)
  /-- a dict whose keys are ints and texts; one whose keys are tuples -/
  | dk (ks : List Key) (vs : List MV) | dn (kvs vs : List MV)
  /-- an instance of an own class with slots -/
  | ins (C : Str) (vs : List MV)
  deriving Inhabited

/-- the program, the world, the written part -/
structure GG where
  P : Program
  w : World
  K : PySem.W.Frag
abbrev GX (X : Cx) : GG := ⟨X.prog, X.w, X.K⟩
/-! tables of code objects: of the defs that make lambdas -/
def hasCell (st : Stmt) : Option Str := match st with
  | .FunctionDef name _ _ _ _ _ scope _ _ _ => if (name == ("law" : Str) || scope.names.any fun y => decide (y.2 = .cell)) = true then some name else none
  | _ => none
def lamDefs (P : Program) : List Str := P.main.body.filterMap hasCell
def codeOf (K : PySem.W.Frag) (f : Addr) : Option Addr := match K.lookup f with
  | some ⟨_, _, .func fd, _⟩ => (match fd.code with
    | .ref c => some c
    | _ => none)
  | _ => none
def tabOf (K : PySem.W.Frag) (f : Addr) : Option Addr := (codeOf K f).bind fun c => match K.lookup c with
  | some ⟨_, _, .fields vs, _⟩ => (match (vs[11]? : Option Value) with
    | some (.ref P) => some P
    | _ => none)
  | _ => none
def lamQ (x : Str) : Str := (x ++ ".<locals>.") ++ "<lambda>"
def GG.T (G : GG) : List (Addr × Str) := (lamDefs G.P).filterMap fun x => (tabOf G.K (He.ga G.K x)).map fun P => (P, lamQ x)
def GG.isT (G : GG) (a : Addr) : Prop := ∃ q, (a, q) ∈ G.T
abbrev TabsOk (G : GG) (H : Hp) : Prop := LamX.Tabs G.T H
/-- neither a table nor a code object -/
def NotTab (a : Addr) (o : HO) : Prop := (∀ ps, o ≠ .tbl ps) ∧ ∀ q, o ≠ LamX.CodeO a q
theorem heap_with (a : Addr) (o : Obj) (h : ∀ c d s, o ≠ ⟨c, d, .freed, s⟩) : ∃ hp : Heap, hp.get? a = some o := by
  refine ⟨{ objs := Array.replicate (a + 1) o }, ?_⟩
  unfold Heap.get?
  have e : (Array.replicate (a + 1) o)[a]? = some o := by
    rw [Array.getElem?_replicate]
    simp
  rw [e]
  obtain ⟨c, d, dat, s⟩ := o
  cases dat <;> first | rfl | exact absurd rfl (h _ _ _)
theorem code_ne {a : Addr} {q : Str} {f : Heap → Prop} (hf : ∀ hp o vs, hp.get? a = some o → o.data = .fields vs → ¬ f hp) : (HO.ext f) ≠ LamX.CodeO a q := fun z => by
  unfold LamX.CodeO at z
  have z' := HO.ext.inj z
  obtain ⟨hp, e⟩ := heap_with a { cls := .none, data := .fields #[.none, .str q (0 : Nat)] } (fun c d s h => by cases h)
  refine hf hp _ _ e rfl ?_
  rw [z']
  exact ⟨_, _, _, e, rfl, rfl⟩

mutual
/-- what a value is as a key -/
def nkM : MV → Option NestedKey
  | .non => some .none
  | .bl b => some (.num (if b = true then 1 else 0))
  | .int i => some (.num i)
  | .str x => some (.text x)
  | .tup ms => (nksM ms).map .tup
  | _ => none
def nksM : List MV → Option (List NestedKey)
  | [] => some []
  | m :: ms => (nkM m).bind fun k => (nksM ms).map (k :: ·)
end
/-- a dict with keys that are tuples -/
def DnO (G : GG) (a : Addr) (es : List (NestedKey × Addr × V)) : HO := .ext fun h => (a == sysModules) = false ∧ es.length ≤ sizeLine ∧ ∃ xs : List (NestedKey × Addr × Value),
  Paired (fun (p : NestedKey × Addr × V) (q : NestedKey × Addr × Value) => p.1 = q.1 ∧ p.2.1 = q.2.1 ∧ RelV p.2.2 q.2.2) es xs ∧
    ∃ o es' ep, h.get? a = some o ∧ o.ExactDict ∧ o.data = .dict es' ep ∧ es'.toList = xs.map (entryOfKey (nestedKind G.P G.w)) ∧ (xs.map (·.1)).Nodup
def zip3 : List NestedKey → List Addr → List V → List (NestedKey × Addr × V)
  | k :: ks, a :: as, v :: vs => (k, a, v) :: zip3 ks as vs
  | _, _, _ => []

/-- a tuple that is read: tracked (and not among what changes), or written -/
def TupM (K : PySem.W.Frag) (M : Addr → Prop) (H : Hp) (a : Addr) (vs : List V) : Prop :=
  (Rd H a (.tup vs) ∧ ¬ M a) ∨ ∃ (o : Obj) (its : Array Value) (n : Nat), K.lookup a = some o ∧ o.cls = .type "tuple" ∧ o.data = .seq its n ∧ its.size ≤ sizeLine ∧ Vals vs its.toList
/-- .. a list that is read -/
def LstM (K : PySem.W.Frag) (M : Addr → Prop) (H : Hp) (a : Addr) (vs : List V) : Prop :=
  (Rd H a (.lst vs) ∧ ¬ M a) ∨ ∃ (o : Obj) (its : Array Value) (n : Nat), K.lookup a = some o ∧ o.cls = .type "list" ∧ o.dict = none ∧ o.data = .seq its n ∧ its.size ≤ sizeLine ∧ Vals vs its.toList
mutual
/-- m lies in H as x, away from M -/
def Rep (G : GG) (M : Addr → Prop) (H : Hp) : MV → V → Prop
  | .non, x => x = .non
  | .bl b, x => x = .bl b
  | .int i, x => x = .int i
  | .str s, x => x = .str s
  | .tup ms, x => ∃ a vs, x = .ref a ∧ TupM G.K M H a vs ∧ Reps G M H ms vs
  | .lst ms, x => ∃ a vs, x = .ref a ∧ LstM G.K M H a vs ∧ True ∧ Reps G M H ms vs
  | .dk ks ms, x => ∃ a vs, x = .ref a ∧ H a = some (.dK (ks.zip vs)) ∧ ks.length = vs.length ∧ ¬ M a ∧ Reps G M H ms vs
  | .dn kms ms, x => ∃ a ks as vs, x = .ref a ∧ H a = some (DnO G a (zip3 ks as vs)) ∧ nksM kms = some ks ∧ ks.length = vs.length ∧ as.length = vs.length ∧ (∀ k ∈ ks, k.depth ≤ 8) ∧ ¬ M a ∧ Reps G M H kms (as.map V.ref) ∧ Reps G M H ms vs
  | .ins C ms, x => (C = ("" : Str) ∧ ∃ a o, x = .ref a ∧ H a = some o) ∨ ∃ a dx vs, x = .ref a ∧ H a = some (SlX.SlO a (He.ga G.K C) dx (vs.map some)) ∧ H dx = some (.xd []) ∧ ¬ M a ∧ ¬ M dx ∧ Reps G M H ms vs
def Reps (G : GG) (M : Addr → Prop) (H : Hp) : List MV → List V → Prop
  | [], vs => vs = []
  | m :: ms, vs => ∃ v r, vs = v :: r ∧ Rep G M H m v ∧ Reps G M H ms r
end
/-- m lies in H at a, as a thing that may be changed -/
def Own (G : GG) (M : Addr → Prop) (H : Hp) : MV → Addr → Prop
  | .lst ms, a => ∃ vs, H a = some (.lst vs) ∧ Reps G M H ms vs
  | .dk ks ms, a => ∃ vs, H a = some (.dK (ks.zip vs)) ∧ ks.length = vs.length ∧ Reps G M H ms vs
  | .dn kms ms, a => ∃ ks as vs, H a = some (DnO G a (zip3 ks as vs)) ∧ nksM kms = some ks ∧ ks.length = vs.length ∧ as.length = vs.length ∧ (∀ k ∈ ks, k.depth ≤ 8) ∧ Reps G M H kms (as.map V.ref) ∧ Reps G M H ms vs
  | .ins C _, a => C = ("" : Str) ∧ ∃ o, H a = some o ∧ NotTab a o
  | _, _ => False
/-- one of both -/
def RepB (G : GG) (M : Addr → Prop) (H : Hp) (m : MV) (x : V) : Prop := Rep G M H m x ∨ ∃ a, x = .ref a ∧ Own G M H m a

structure Keep (M : Addr → Prop) (H H' : Hp) : Prop where
  at_ : ∀ b o, ¬ M b → H b = some o → H' b = some o
  on : ∀ b o, H b = some o → ∃ o', H' b = some o'
def Trk (M : Addr → Prop) (H : Hp) : Prop := ∀ a, M a → ∃ o, H a = some o
section
variable {G : GG} {M M' : Addr → Prop} {H H' H2 : Hp} {a : Addr} {x : V}
theorem Keep.refl : Keep M H H := ⟨fun _ _ _ h => h, fun _ o h => ⟨o, h⟩⟩
theorem Keep.of_same (e : Same H H') : Keep M H H' := ⟨fun _ _ _ h => e _ _ h, fun _ o h => ⟨o, e _ _ h⟩⟩
theorem Keep.trans (k : Keep M H H') (k2 : Keep M' H' H2) (m : ∀ b o, H b = some o → M' b → M b) : Keep M H H2 :=
  ⟨fun b o n h => k2.at_ b o (fun z => n (m b o h z)) (k.at_ b o n h), fun b o h => let ⟨_, h1⟩ := k.on b o h; k2.on b _ h1⟩
theorem Keep.mono (k : Keep M H H') (m : ∀ b, M b → M' b) : Keep M' H H' := ⟨fun b o n h => k.at_ b o (fun z => n (m b z)) h, k.on⟩
theorem Trk.new (t : Trk M H) (n : H a = none) : ¬ M a := fun m => by
  obtain ⟨o, e⟩ := t a m
  rw [n] at e
  cases e
theorem Keep.isnone (k : Keep M H H') (n : H' a = none) : H a = none := by
  cases e : H a with
  | none => rfl
  | some o =>
    obtain ⟨_, e2⟩ := k.on _ _ e
    rw [n] at e2
    cases e2
theorem Rd.keep {u : HO} (k : Keep M H H') (n : ¬ M a) (h : Rd H a u) : Rd H' a u := h.elim (fun h => .inl (k.at_ _ _ n h)) fun ⟨o, h⟩ => .inr ⟨o, k.at_ _ _ n h⟩
theorem Rd.on {u : HO} (h : Rd H a u) : ∃ o, H a = some o := h.elim (fun h => ⟨_, h⟩) fun ⟨_, h⟩ => ⟨_, h⟩
theorem TupM.keep {K : PySem.W.Frag} {vs : List V} (k : Keep M H H') (m : ∀ b o, H b = some o → M' b → M b) (h : TupM K M H a vs) : TupM K M' H' a vs := by
  rcases h with ⟨h, n⟩ | h
  · obtain ⟨o, e⟩ := Rd.on h
    exact .inl ⟨Rd.keep k n h, fun z => n (m _ _ e z)⟩
  · exact .inr h
theorem LstM.keep {K : PySem.W.Frag} {vs : List V} (k : Keep M H H') (m : ∀ b o, H b = some o → M' b → M b) (h : LstM K M H a vs) : LstM K M' H' a vs := by
  rcases h with ⟨h, n⟩ | h
  · obtain ⟨o, e⟩ := Rd.on h
    exact .inl ⟨Rd.keep k n h, fun z => n (m _ _ e z)⟩
  · exact .inr h
theorem LstM.sq {K : PySem.W.Frag} {vs : List V} (h : LstM K M H a vs) : SqL K H a vs := h.elim (fun h => .inl h.1) fun h => .inr h
theorem LstM.of {K : PySem.W.Frag} {vs : List V} (h : Rd H a (.lst vs)) (n : ¬ M a) : LstM K M H a vs := .inl ⟨h, n⟩
theorem TupM.sq {K : PySem.W.Frag} {vs : List V} (h : TupM K M H a vs) : SqT K H a vs := h.elim (fun h => .inl h.1) fun h => .inr h
end
theorem dn_ne {G : GG} {a : Addr} {es : List (NestedKey × Addr × V)} (q : Str) : DnO G a es ≠ LamX.CodeO a q := code_ne fun hp o vs e d h => by
  obtain ⟨_, _, xs, _, o', es', ep, e', _, d', _⟩ := h
  rw [e] at e'
  cases e'
  rw [d] at d'
  cases d'
theorem slo_ne {a C dx : Addr} {vs : List (Option V)} (q : Str) : SlX.SlO a C dx vs ≠ LamX.CodeO a q := code_ne fun hp o vs e d h => by
  obtain ⟨sl, e', _⟩ := h
  rw [e] at e'
  cases e'
  cases d
theorem codeO_tbl {c : Addr} {q : Str} (ps : Array Value) : LamX.CodeO c q ≠ .tbl ps := LamX.codeO_ne ps
theorem nt_lst {a : Addr} {xs : List V} : NotTab a (.lst xs) := ⟨fun ps z => (by cases z), fun q z => (by unfold LamX.CodeO at z; cases z)⟩
theorem nt_dK {a : Addr} {xs : List (Key × V)} : NotTab a (.dK xs) := ⟨fun ps z => (by cases z), fun q z => (by unfold LamX.CodeO at z; cases z)⟩
theorem nt_dn {G : GG} {a : Addr} {es : List (NestedKey × Addr × V)} : NotTab a (DnO G a es) := ⟨fun ps z => (by unfold DnO at z; cases z), dn_ne⟩
/-- what may be changed is no table and no code object -/
theorem Own.notTab {G : GG} {M : Addr → Prop} {H : Hp} {v : MV} {a : Addr} (h : Own G M H v a) : ∃ o, H a = some o ∧ NotTab a o := by
  cases v with
  | lst ms =>
    simp only [Own] at h
    obtain ⟨vs, h1, _⟩ := h
    exact ⟨_, h1, fun ps z => (by cases z), fun q z => (by unfold LamX.CodeO at z; cases z)⟩
  | dk ks ms =>
    simp only [Own] at h
    obtain ⟨vs, h1, _⟩ := h
    exact ⟨_, h1, fun ps z => (by cases z), fun q z => (by unfold LamX.CodeO at z; cases z)⟩
  | dn kms ms =>
    simp only [Own] at h
    obtain ⟨ks, as, vs, h1, _⟩ := h
    exact ⟨_, h1, fun ps z => (by unfold DnO at z; cases z), dn_ne⟩
  | ins C ms =>
    simp only [Own] at h
    exact h.2
  | _ => simp only [Own] at h
/-- the tables stay where what changes is none of them -/
theorem TabsOk.but {G : GG} {H H' : Hp} {a : Addr} (t : TabsOk G H) (e : ∀ b o, b ≠ a → H b = some o → H' b = some o) {o : HO} (ha : H a = some o) (n : NotTab a o) : TabsOk G H' := fun p hp => by
  obtain ⟨ps, h1, h2, h3⟩ := t p hp
  have np : p.1 ≠ a := fun z => by
    rw [z, ha] at h1
    exact n.1 ps (Option.some.inj h1)
  refine ⟨ps, e _ _ np h1, h2, fun pos cv hc => ?_⟩
  obtain ⟨c, e1, e2⟩ := h3 pos cv hc
  have nc : c ≠ a := fun z => by
    subst z
    rw [ha] at e2
    exact n.2 _ (Option.some.inj e2)
  exact ⟨c, e1, e _ _ nc e2⟩
theorem TabsOk.new {G : GG} {H H' : Hp} (t : TabsOk G H) (e : ∀ b o, H b = some o → H' b = some o) : TabsOk G H' := LamX.Tabs.ext t e
/-- what may be changed is no table -/
theorem Own.notT {G : GG} {M : Addr → Prop} {H : Hp} {v : MV} {a : Addr} (h : Own G M H v a) (t : TabsOk G H) : ¬ G.isT a := fun ⟨q, hq⟩ => by
  obtain ⟨o, h1, n⟩ := h.notTab
  obtain ⟨ps, h2, _⟩ := t _ hq
  rw [h1] at h2
  exact n.1 ps (Option.some.inj h2)
mutual
theorem Rep.keep {G : GG} {M M' : Addr → Prop} {H H' : Hp} (k : Keep M H H') (m : ∀ b o, H b = some o → M' b → M b) : ∀ (v : MV) (x : V), Rep G M H v x → Rep G M' H' v x
  | .non, _, h => by simp only [Rep] at h ⊢; exact h
  | .bl _, _, h => by simp only [Rep] at h ⊢; exact h
  | .int _, _, h => by simp only [Rep] at h ⊢; exact h
  | .str _, _, h => by simp only [Rep] at h ⊢; exact h
  | .tup ms, x, h => by
    simp only [Rep] at h ⊢
    obtain ⟨a, vs, e, h1, h2⟩ := h
    exact ⟨a, vs, e, h1.keep k m, Reps.keep k m ms vs h2⟩
  | .lst ms, x, h => by
    simp only [Rep] at h ⊢
    obtain ⟨a, vs, e, h1, _, h2⟩ := h
    exact ⟨a, vs, e, h1.keep k m, trivial, Reps.keep k m ms vs h2⟩
  | .dk ks ms, x, h => by
    simp only [Rep] at h ⊢
    obtain ⟨a, vs, e, h1, hl, n, h2⟩ := h
    exact ⟨a, vs, e, k.at_ _ _ n h1, hl, fun q => n (m _ _ h1 q), Reps.keep k m ms vs h2⟩
  | .dn kms ms, x, h => by
    simp only [Rep] at h ⊢
    obtain ⟨a, ks, as, vs, e, h1, hk, hl, hl2, hd, n, h2, h3⟩ := h
    exact ⟨a, ks, as, vs, e, k.at_ _ _ n h1, hk, hl, hl2, hd, fun q => n (m _ _ h1 q), Reps.keep k m kms _ h2, Reps.keep k m ms vs h3⟩
  | .ins C ms, x, h => by
    simp only [Rep] at h ⊢
    rcases h with ⟨e, a, o, e2, h⟩ | ⟨a, dx, vs, e, h1, h2, n, n2, h3⟩
    · obtain ⟨o', h'⟩ := k.on a o h
      exact .inl ⟨e, a, o', e2, h'⟩
    · exact .inr ⟨a, dx, vs, e, k.at_ _ _ n h1, k.at_ _ _ n2 h2, fun q => n (m _ _ h1 q), fun q => n2 (m _ _ h2 q), Reps.keep k m ms vs h3⟩
theorem Reps.keep {G : GG} {M M' : Addr → Prop} {H H' : Hp} (k : Keep M H H') (m : ∀ b o, H b = some o → M' b → M b) : ∀ (v : List MV) (x : List V), Reps G M H v x → Reps G M' H' v x
  | [], _, h => by simp only [Reps] at h ⊢; exact h
  | v :: vs, _, h => by
    simp only [Reps] at h ⊢
    obtain ⟨y, r, e, h1, h2⟩ := h
    exact ⟨y, r, e, Rep.keep k m v y h1, Reps.keep k m vs r h2⟩
end
section
variable {G : GG} {M M' : Addr → Prop} {H H' H2 : Hp} {a : Addr} {x : V} {v : MV}
theorem Own.keep (k : Keep M H H') (m : ∀ b o, H b = some o → M' b → M b) (e : ∀ o, H a = some o → H' a = some o) (h : Own G M H v a) : Own G M' H' v a := by
  cases v with
  | lst ms =>
    simp only [Own] at h ⊢
    obtain ⟨vs, h1, h2⟩ := h
    exact ⟨vs, e _ h1, h2.keep k m⟩
  | dk ks ms =>
    simp only [Own] at h ⊢
    obtain ⟨vs, h1, hl, h2⟩ := h
    exact ⟨vs, e _ h1, hl, h2.keep k m⟩
  | dn kms ms =>
    simp only [Own] at h ⊢
    obtain ⟨ks, as, vs, h1, hk, hl, hl2, hd, h2, h3⟩ := h
    exact ⟨ks, as, vs, e _ h1, hk, hl, hl2, hd, h2.keep k m, h3.keep k m⟩
  | ins C ms =>
    simp only [Own] at h ⊢
    obtain ⟨e1, o, h, nt⟩ := h
    exact ⟨e1, o, e o h, nt⟩
  | _ => simp only [Own] at h
theorem Own.on (h : Own G M H v a) : ∃ o, H a = some o := by
  cases v with
  | lst ms =>
    simp only [Own] at h
    obtain ⟨vs, h1, _⟩ := h
    exact ⟨_, h1⟩
  | dk ks ms =>
    simp only [Own] at h
    obtain ⟨vs, h1, _⟩ := h
    exact ⟨_, h1⟩
  | dn kms ms =>
    simp only [Own] at h
    obtain ⟨ks, as, vs, h1, _⟩ := h
    exact ⟨_, h1⟩
  | ins C ms =>
    simp only [Own] at h
    exact ⟨h.2.choose, h.2.choose_spec.1⟩
  | _ => simp only [Own] at h
/-- what may be changed, seen as what may not -/
theorem Own.rep (h : Own G M H v a) (n : ¬ M a) : Rep G M H v (.ref a) := by
  cases v with
  | lst ms =>
    simp only [Own] at h
    obtain ⟨vs, h1, h2⟩ := h
    simp only [Rep]
    exact ⟨a, vs, rfl, .of (.inl h1) n, trivial, h2⟩
  | dk ks ms =>
    simp only [Own] at h
    obtain ⟨vs, h1, hl, h2⟩ := h
    simp only [Rep]
    exact ⟨a, vs, rfl, h1, hl, n, h2⟩
  | dn kms ms =>
    simp only [Own] at h
    obtain ⟨ks, as, vs, h1, hk, hl, hl2, hd, h2, h3⟩ := h
    simp only [Rep]
    exact ⟨a, ks, as, vs, rfl, h1, hk, hl, hl2, hd, n, h2, h3⟩
  | ins C ms =>
    simp only [Own] at h
    obtain ⟨e1, o, h, _⟩ := h
    simp only [Rep]
    exact .inl ⟨e1, a, o, rfl, h⟩
  | _ => simp only [Own] at h
theorem RepB.keep (k : Keep M H H') (m : ∀ b o, H b = some o → M' b → M b) (e : ∀ a, x = .ref a → ∀ o, H a = some o → H' a = some o) (h : RepB G M H v x) : RepB G M' H' v x := by
  rcases h with h | ⟨a, rfl, h⟩
  · exact .inl (h.keep k m)
  · exact .inr ⟨a, rfl, h.keep k m (e a rfl)⟩
theorem RepB.same (e : Same H H') (h : RepB G M H v x) : RepB G M H' v x := h.keep (.of_same e) (fun _ _ _ z => z) fun _ _ _ z => e _ _ z
theorem Rep.same (e : Same H H') (h : Rep G M H v x) : Rep G M H' v x := h.keep (.of_same e) fun _ _ _ z => z
theorem Reps.same {vs : List MV} {xs : List V} (e : Same H H') (h : Reps G M H vs xs) : Reps G M H' vs xs := h.keep (.of_same e) fun _ _ _ z => z
theorem Rep.less (m : ∀ b, M' b → M b) (h : Rep G M H v x) : Rep G M' H v x := h.keep .refl fun _ _ _ z => m _ z
theorem Reps.len : ∀ {ms : List MV} {vs : List V}, Reps G M H ms vs → vs.length = ms.length
  | [], vs, h => by simp only [Reps] at h; rw [h]; rfl
  | m :: ms, vs, h => by
    simp only [Reps] at h
    obtain ⟨v, r, rfl, _, h2⟩ := h
    simp [Reps.len h2]
theorem Reps.get : ∀ {ms : List MV} {vs : List V} {i : Nat} {m : MV}, Reps G M H ms vs → ms[i]? = some m → ∃ v, vs[i]? = some v ∧ Rep G M H m v
  | [], vs, i, m, h, e => by simp at e
  | m :: ms, vs, 0, n, h, e => by
    simp only [Reps] at h
    obtain ⟨v, r, rfl, h1, h2⟩ := h
    simp at e
    subst e
    exact ⟨v, rfl, h1⟩
  | m :: ms, vs, i + 1, n, h, e => by
    simp only [Reps] at h
    obtain ⟨v, r, rfl, h1, h2⟩ := h
    simp at e ⊢
    exact Reps.get h2 e
theorem Reps.getV : ∀ {ms : List MV} {vs : List V} {i : Nat} {v : V}, Reps G M H ms vs → vs[i]? = some v → ∃ m, ms[i]? = some m ∧ Rep G M H m v
  | [], vs, i, m, h, e => by simp only [Reps] at h; subst h; simp at e
  | m :: ms, vs, 0, n, h, e => by
    simp only [Reps] at h
    obtain ⟨v, r, rfl, h1, h2⟩ := h
    simp at e
    subst e
    exact ⟨m, rfl, h1⟩
  | m :: ms, vs, i + 1, n, h, e => by
    simp only [Reps] at h
    obtain ⟨v, r, rfl, h1, h2⟩ := h
    simp at e ⊢
    exact Reps.getV h2 e
theorem Reps.app : ∀ {ms ns : List MV} {vs ws : List V}, Reps G M H ms vs → Reps G M H ns ws → Reps G M H (ms ++ ns) (vs ++ ws)
  | [], ns, vs, ws, h, h' => by simp only [Reps] at h; subst h; exact h'
  | m :: ms, ns, vs, ws, h, h' => by
    simp only [Reps] at h
    obtain ⟨v, r, rfl, h1, h2⟩ := h
    simp only [List.cons_append, Reps]
    exact ⟨v, _, rfl, h1, Reps.app h2 h'⟩
theorem Reps.one (h : Rep G M H v x) : Reps G M H [v] [x] := by
  simp only [Reps]
  exact ⟨x, [], rfl, h, rfl⟩
theorem Reps.nil : Reps G M H [] [] := by simp only [Reps]
theorem Reps.consI {ms : List MV} {vs : List V} (h : Rep G M H v x) (h2 : Reps G M H ms vs) : Reps G M H (v :: ms) (x :: vs) := by
  simp only [Reps]
  exact ⟨x, vs, rfl, h, h2⟩
theorem Reps.take : ∀ {ms : List MV} {vs : List V} (n : Nat), Reps G M H ms vs → Reps G M H (ms.take n) (vs.take n)
  | [], vs, n, h => by simp only [Reps] at h; subst h; simp only [List.take_nil]; exact Reps.nil
  | m :: ms, vs, 0, h => by simp only [List.take_zero]; exact Reps.nil
  | m :: ms, vs, n + 1, h => by
    simp only [Reps] at h
    obtain ⟨v, r, rfl, h1, h2⟩ := h
    simp only [List.take_succ_cons]
    exact Reps.consI h1 (Reps.take n h2)
theorem Reps.drop : ∀ {ms : List MV} {vs : List V} (n : Nat), Reps G M H ms vs → Reps G M H (ms.drop n) (vs.drop n)
  | [], vs, n, h => by simp only [Reps] at h; subst h; simp only [List.drop_nil]; exact Reps.nil
  | m :: ms, vs, 0, h => by simp only [List.drop_zero]; exact h
  | m :: ms, vs, n + 1, h => by
    simp only [Reps] at h
    obtain ⟨v, r, rfl, h1, h2⟩ := h
    simp only [List.drop_succ_cons]
    exact Reps.drop n h2
theorem Reps.rev : ∀ {ms : List MV} {vs : List V}, Reps G M H ms vs → Reps G M H ms.reverse vs.reverse
  | [], vs, h => by simp only [Reps] at h; subst h; exact Reps.nil
  | m :: ms, vs, h => by
    simp only [Reps] at h
    obtain ⟨v, r, rfl, h1, h2⟩ := h
    simp only [List.reverse_cons]
    exact Reps.app (Reps.rev h2) (Reps.one h1)
theorem Reps.set {y : V} {w : MV} (h' : Rep G M H w y) : ∀ {ms : List MV} {vs : List V} (i : Nat), Reps G M H ms vs → Reps G M H (ms.set i w) (vs.set i y)
  | [], vs, i, h => by simp only [Reps] at h; subst h; exact Reps.nil
  | m :: ms, vs, 0, h => by
    simp only [Reps] at h
    obtain ⟨v, r, rfl, h1, h2⟩ := h
    exact Reps.consI h' h2
  | m :: ms, vs, i + 1, h => by
    simp only [Reps] at h
    obtain ⟨v, r, rfl, h1, h2⟩ := h
    exact Reps.consI h1 (Reps.set h' i h2)
theorem Reps.all {ms : List MV} {vs : List V} (h : Reps G M H ms vs) : Paired (Rep G M H) ms vs := by
  induction ms generalizing vs with
  | nil =>
    simp only [Reps] at h
    subst h
    exact .nil
  | cons m ms ih =>
    simp only [Reps] at h
    obtain ⟨v, r, rfl, h1, h2⟩ := h
    exact .cons h1 (ih h2)
theorem Reps.of {ms : List MV} {vs : List V} (h : Paired (Rep G M H) ms vs) : Reps G M H ms vs := by
  induction h with
  | nil => exact Reps.nil
  | cons h1 _ ih => exact Reps.consI h1 ih
end
end Mi

set_option Elab.async false
set_option linter.all false
set_option maxRecDepth 100000
set_option maxHeartbeats 4000000
/-! cells, the state of a def, what stands between steps; the readings -/
namespace Mi
open PySem PySem.Spec PyProof.Rows L2 My

/-- what a slot holds: a value that no one changes; a list or dict that this def may change (own: made here; io: the caller's; lown, lio: the same, while it is walked) -/
inductive Kd where
  | val | own | io | lown | lio
  deriving DecidableEq
structure Cell where
  k : Kd
  v : MV
instance : Inhabited MV := ⟨.non⟩
instance : Inhabited Cell := ⟨⟨.val, .non⟩⟩
abbrev Sg := List (Option Cell)
/-- an exception: its class, what it keeps -/
structure Ex where
  cls : Str
  fs : List (Str × MV)
inductive R (α : Type) where
  | ok (a : α) (γ : Sg)
  | ex (e : Ex) (γ : Sg)
  | no
inductive RO where
  | nx (γ : Sg) | rt (c : Cell) (γ : Sg) | bk (γ : Sg) | ct (γ : Sg) | ex (e : Ex) (γ : Sg) | no
abbrev FE := Sg → R Cell
abbrev FT := Sg → R Bool
abbrev FA := Sg → R (List MV)
abbrev FS := Sg → RO

/-- a def's entry: the heap, what may not be touched (its own addresses among it), what is to stay, where the caller's lists lie, what is lent (walked) -/
structure Ent where
  H0 : Hp
  Mf : Addr → Prop
  F : Addr → HO → Prop
  io : Nat → Option Addr
  ln : Nat → Option (Addr × HO)
  lnF : ∀ j p, ln j = some p → F p.1 p.2
  Tm : Addr → Prop
  TmM : ∀ a, Tm a → Mf a
theorem Ent.ext' {Z Z' : Ent} (h1 : Z.H0 = Z'.H0) (h2 : Z.Mf = Z'.Mf) (h3 : Z.F = Z'.F) (h4 : Z.io = Z'.io) (h5 : Z.ln = Z'.ln) (h6 : Z.Tm = Z'.Tm) : Z = Z' := by
  cases Z
  cases Z'
  subst h1 h2 h3 h4 h5 h6
  rfl
abbrev AM := Nat → Option Addr
def Mz (Z : Ent) (A : AM) : Addr → Prop := fun a => Z.Mf a ∨ ∃ i, A i = some a
/-- slot i, of which A knows o, holds c as x -/
def CellOk (G : GG) (Z : Ent) (A : AM) (H : Hp) (i : Nat) (c : Cell) (x : V) : Prop := match c.k with
  | .val => A i = none ∧ Rep G (Mz Z A) H c.v x
  | .own => ∃ a, A i = some a ∧ x = .ref a ∧ Own G (Mz Z A) H c.v a
  | .io => ∃ a, A i = some a ∧ x = .ref a ∧ Own G (Mz Z A) H c.v a
  | _ => A i = none ∧ ∃ a o, Z.ln i = some (a, o) ∧ x = .ref a ∧ Own G (Mz Z A) H c.v a
/-- the tables: they may be changed, nothing of what stays is one, they are in order -/
structure TB (G : GG) (Z : Ent) (H : Hp) : Prop where
  tm : ∀ p ∈ G.T, Z.Tm p.1
  nf : ∀ p ∈ G.T, ∀ o, ¬ Z.F p.1 o
  ok : TabsOk G H
/-- all but the tables stays -/
structure SameT (G : GG) (H H' : Hp) : Prop where
  at_ : ∀ b o, ¬ G.isT b → H b = some o → H' b = some o
  on : ∀ b o, H b = some o → ∃ o', H' b = some o'
  tb : TabsOk G H'
theorem SameT.of {G : GG} {H H' : Hp} (t : TabsOk G H) (e : Same H H') : SameT G H H' := ⟨fun b o _ h => e b o h, fun b o h => ⟨o, e b o h⟩, t.new e⟩
theorem TB.some {G : GG} {Z : Ent} {H : Hp} (t : TB G Z H) {b : Addr} (h : G.isT b) : ∃ ps, H b = some (.tbl ps) := let ⟨q, hq⟩ := h; let ⟨ps, e, _⟩ := t.ok _ hq; ⟨ps, e⟩
structure Sim (G : GG) (Z : Ent) (A : AM) (γ : Sg) (σ : L2.St) (H : Hp) : Prop where
  len : γ.length = σ.length
  cell : ∀ i c, γ[i]? = some (some c) → ∃ x, σ[i]? = some (some x) ∧ CellOk G Z A H i c x
  adr : ∀ i a, A i = some a → ∃ c, γ[i]? = some (some c) ∧ (∀ o, ¬ Z.F a o) ∧ match c.k with
    | .own => Z.H0 a = none ∧ ¬ Z.Mf a
    | .io => Z.io i = some a ∧ Z.Mf a
    | _ => False
  inj : ∀ i j a, A i = some a → A j = some a → i = j
  mf : ∀ a, Z.Mf a → ∃ o, H a = some o
  fr : ∀ b o, Z.F b o → H b = some o
  new : ∀ b o, Z.H0 b = some o → ∃ o', H b = some o'
  tb : TB G Z H
def Le (A' A : AM) : Prop := ∀ i a, A' i = some a → A i = some a
theorem Le.refl {A : AM} : Le A A := fun _ _ h => h
theorem Le.trans {A A' A'' : AM} (h : Le A'' A') (h' : Le A' A) : Le A'' A := fun i a e => h' i a (h i a e)
theorem Le.mz {Z : Ent} {A A' : AM} (h : Le A' A) (a : Addr) : Mz Z A' a → Mz Z A a := fun m => m.elim .inl fun ⟨i, e⟩ => .inr ⟨i, h i a e⟩
/-- from one place to a later one -/
def Stp (Z : Ent) (A : AM) (H : Hp) (A' : AM) (H' : Hp) : Prop := Keep (Mz Z A) H H' ∧ ∀ b o, H b = some o → Mz Z A' b → Mz Z A b
theorem Stp.refl {Z : Ent} {A : AM} {H : Hp} : Stp Z A H A H := ⟨.refl, fun _ _ _ m => m⟩
theorem Stp.of {Z : Ent} {A A' : AM} {H H' : Hp} (le : Le A' A) (k : Keep (Mz Z A) H H') : Stp Z A H A' H' := ⟨k, fun b _ _ m => le.mz b m⟩
theorem Stp.trans {Z : Ent} {A A' A'' : AM} {H H' H'' : Hp} (s : Stp Z A H A' H') (s' : Stp Z A' H' A'' H'') : Stp Z A H A'' H'' :=
  ⟨s.1.trans s'.1 fun b o hb m => s.2 b o hb m, fun b o hb m => let ⟨o', hb'⟩ := s.1.on b o hb; s.2 b o hb (s'.2 b o' hb' m)⟩
theorem Stp.of_same {Z : Ent} {A : AM} {H H' : Hp} (e : Same H H') : Stp Z A H A H' := .of .refl (.of_same e)
section
variable {G : GG} {Z Z' : Ent} {A A' : AM} {γ γ' : Sg} {σ σ' : L2.St} {H H' : Hp} {M M' : Addr → Prop} {c : Cell} {x : V} {i : Nat}
/-- what a cell says stays -/
theorem CellOk.keep (hA : A' i = A i) (hln : ∀ p, Z.ln i = some p → Z'.ln i = some p ∧ (∀ u, H p.1 = some u → H' p.1 = some u)) (k : Keep (Mz Z A) H H') (m : ∀ b o, H b = some o → Mz Z' A' b → Mz Z A b)
    (e : ∀ a, A i = some a → ∀ u, H a = some u → H' a = some u) (h : CellOk G Z A H i c x) : CellOk G Z' A' H' i c x := by
  obtain ⟨kk, v⟩ := c
  cases kk with
  | val => exact ⟨hA.trans h.1, h.2.keep k m⟩
  | own => obtain ⟨a, e1, e2, h⟩ := h; exact ⟨a, hA.trans e1, e2, h.keep k m (e a e1)⟩
  | io => obtain ⟨a, e1, e2, h⟩ := h; exact ⟨a, hA.trans e1, e2, h.keep k m (e a e1)⟩
  | lown => obtain ⟨e1, a, o, e2, e3, h⟩ := h; exact ⟨hA.trans e1, a, o, (hln _ e2).1, e3, h.keep k m (hln _ e2).2⟩
  | lio => obtain ⟨e1, a, o, e2, e3, h⟩ := h; exact ⟨hA.trans e1, a, o, (hln _ e2).1, e3, h.keep k m (hln _ e2).2⟩
theorem CellOk.repB (h : CellOk G Z A H i c x) : RepB G (Mz Z A) H c.v x := by
  obtain ⟨kk, v⟩ := c
  cases kk with
  | val => exact .inl h.2
  | own => obtain ⟨a, e1, e2, h⟩ := h; exact .inr ⟨a, e2, h⟩
  | io => obtain ⟨a, e1, e2, h⟩ := h; exact .inr ⟨a, e2, h⟩
  | lown => obtain ⟨e1, a, o, _, e2, h⟩ := h; exact .inr ⟨a, e2, h⟩
  | lio => obtain ⟨e1, a, o, _, e2, h⟩ := h; exact .inr ⟨a, e2, h⟩
theorem Sim.trk (S : Sim G Z A γ σ H) : Trk (Mz Z A) H := fun a m => by
  rcases m with m | ⟨i, e⟩
  · exact S.mf a m
  · obtain ⟨c, h1, _, h4⟩ := S.adr i a e
    obtain ⟨y, h2, h3⟩ := S.cell i c h1
    obtain ⟨kk, v⟩ := c
    cases kk with
    | own => obtain ⟨b, e1, e2, h⟩ := h3; rw [e] at e1; cases e1; exact h.on
    | io => obtain ⟨b, e1, e2, h⟩ := h3; rw [e] at e1; cases e1; exact h.on
    | val => exact h4.elim
    | lown => exact h4.elim
    | lio => exact h4.elim
/-- the cells, seen from fewer addresses -/
theorem Sim.cellLe (S : Sim G Z A γ σ H) {i : Nat} (hA : A' i = A i) (le : ∀ b, Mz Z A' b → Mz Z A b) (h : CellOk G Z A H i c x) : CellOk G Z A' H i c x :=
  h.keep hA (fun p e => ⟨e, fun _ z => z⟩) .refl (fun b _ _ m => le b m) fun _ _ _ z => z
theorem Sim.ownT (S : Sim G Z A γ σ H) {a : Addr} (h : A i = some a) : ¬ G.isT a := by
  obtain ⟨c, h1, _, h4⟩ := S.adr i a h
  obtain ⟨y, h2, h3⟩ := S.cell i c h1
  obtain ⟨kk, v⟩ := c
  cases kk with
  | own => obtain ⟨b, e1, e2, w⟩ := h3; rw [h] at e1; cases e1; exact w.notT S.tb.ok
  | io => obtain ⟨b, e1, e2, w⟩ := h3; rw [h] at e1; cases e1; exact w.notT S.tb.ok
  | val => exact h4.elim
  | lown => exact h4.elim
  | lio => exact h4.elim
theorem Sim.fT (S : Sim G Z A γ σ H) {b : Addr} {o : HO} (h : Z.F b o) : ¬ G.isT b := fun ⟨q, hq⟩ => S.tb.nf _ hq o h
theorem Sim.mzT (S : Sim G Z A γ σ H) {b : Addr} (h : ¬ Mz Z A b) : ¬ G.isT b := fun ⟨q, hq⟩ => h (.inl (Z.TmM _ (S.tb.tm _ hq)))
theorem Sim.keepT (S : Sim G Z A γ σ H) (e : SameT G H H') : Keep (Mz Z A) H H' := ⟨fun b o n hb => e.at_ b o (S.mzT n) hb, e.on⟩
/-- more stands in the heap -/
theorem Sim.sameT (e : SameT G H H') (S : Sim G Z A γ σ H) : Sim G Z A γ σ H' where
  len := S.len
  cell := fun i c h => let ⟨x, h1, h2⟩ := S.cell i c h; ⟨x, h1, h2.keep rfl (fun p e1 => ⟨e1, fun u z => e.at_ _ u (S.fT (Z.lnF i p e1)) z⟩) (S.keepT e) (fun _ _ _ z => z) fun a ha u z => e.at_ _ u (S.ownT ha) z⟩
  adr := S.adr
  inj := S.inj
  mf := fun a m => let ⟨o, h⟩ := S.mf a m; e.on _ _ h
  fr := fun b o h => e.at_ _ _ (S.fT h) (S.fr b o h)
  new := fun b o h => let ⟨o', h'⟩ := S.new b o h; e.on _ _ h'
  tb := ⟨S.tb.tm, S.tb.nf, e.tb⟩
theorem Sim.same (e : Same H H') (S : Sim G Z A γ σ H) : Sim G Z A γ σ H' := S.sameT (.of S.tb.ok e)
theorem Sim.h0 (S : Sim G Z A γ σ H) {a : Addr} (n : H a = none) : Z.H0 a = none := by
  cases e : Z.H0 a with
  | none => rfl
  | some o =>
    obtain ⟨_, e2⟩ := S.new _ _ e
    rw [n] at e2
    cases e2
theorem Sim.nF (S : Sim G Z A γ σ H) {a : Addr} (n : H a = none) : ∀ o, ¬ Z.F a o := fun o h => by
  have := S.fr _ _ h
  rw [n] at this
  cases this
end
/-- the entry with one more thing that is not to be touched: made, not yet in a slot -/
def Ent.wait (Z : Ent) (p : Addr) (o : HO) : Ent := ⟨Z.H0, fun a => Z.Mf a ∨ a = p, fun a u => Z.F a u ∨ (a = p ∧ u = o), Z.io, Z.ln, fun j p h => .inl (Z.lnF j p h), Z.Tm, fun a h => .inl (Z.TmM a h)⟩
theorem TB.put {G : GG} {Z : Ent} {H : Hp} {a : Addr} {o : HO} (t : TB G Z H) (n : ¬ G.isT a) : TB G (Z.wait a o) H := ⟨t.tm, fun q hq u hu => hu.elim (t.nf q hq u) fun z => n ⟨q.2, by rw [← z.1]; exact hq⟩, t.ok⟩
section
variable {G : GG} {Z : Ent} {A A' : AM} {γ γ' : Sg} {σ σ' : L2.St} {H H' : Hp} {p : Addr} {o : HO}
theorem mz_wait (a : Addr) : Mz (Z.wait p o) A a ↔ Mz Z A a ∨ a = p := by
  unfold Mz Ent.wait
  constructor
  · rintro ((h | h) | h)
    · exact .inl (.inl h)
    · exact .inr h
    · exact .inl (.inr h)
  · rintro ((h | h) | h)
    · exact .inl (.inl h)
    · exact .inr h
    · exact .inl (.inr h)
/-- a new thing waits -/
theorem Sim.waitT (S : Sim G Z A γ σ H) (e : SameT G H H') (n : H p = none) (h : H' p = some o) : Sim G (Z.wait p o) A γ σ H' where
  len := S.len
  cell := fun i c hc => by
    obtain ⟨x, h1, h2⟩ := S.cell i c hc
    refine ⟨x, h1, CellOk.keep (Z := Z) (Z' := Z.wait p o) rfl (fun p e1 => ⟨e1, fun u z => e.at_ _ u (S.fT (Z.lnF i p e1)) z⟩) (S.keepT e) (fun b u hb hm => ?_) (fun a ha u z => e.at_ _ u (S.ownT ha) z) h2⟩
    rcases (mz_wait b).mp hm with m | rfl
    · exact m
    · rw [n] at hb; cases hb
  adr := fun i a hi => by
    obtain ⟨c, h1, h2, h3⟩ := S.adr i a hi
    have na : a ≠ p := fun z => by
      obtain ⟨u, hu⟩ := S.trk a (.inr ⟨i, hi⟩)
      rw [z, n] at hu
      cases hu
    refine ⟨c, h1, fun u hu => hu.elim (h2 u) fun z => na z.1, ?_⟩
    obtain ⟨k, v⟩ := c
    cases k with
    | val => exact h3
    | own => exact ⟨h3.1, fun m => m.elim h3.2 na⟩
    | lown => exact h3
    | io => exact ⟨h3.1, .inl h3.2⟩
    | lio => exact h3
  inj := S.inj
  mf := fun a m => m.elim (fun m => let ⟨u, hu⟩ := S.mf a m; e.on _ _ hu) fun z => ⟨o, z ▸ h⟩
  fr := fun b u hb => hb.elim (fun hb => e.at_ _ _ (S.fT hb) (S.fr b u hb)) fun ⟨z, z'⟩ => by rw [z, z']; exact h
  new := fun b u hb => let ⟨u', hu⟩ := S.new b u hb; e.on _ _ hu
  tb := ⟨S.tb.tm, fun q hq u hu => hu.elim (S.tb.nf q hq u) fun z => by
    obtain ⟨ps, h1, _⟩ := S.tb.ok q hq
    rw [z.1, n] at h1
    exact absurd h1 (by simp), e.tb⟩
theorem Sim.wait (S : Sim G Z A γ σ H) (e : Same H H') (n : H p = none) (h : H' p = some o) : Sim G (Z.wait p o) A γ σ H' := S.waitT (.of S.tb.ok e) n h
theorem Sim.waits (S : Sim G (Z.wait p o) A γ σ H) : H p = some o := S.fr p o (.inr ⟨rfl, rfl⟩)
theorem Sim.wait_ne (S : Sim G (Z.wait p o) A γ σ H) : ∀ i, A i ≠ some p := fun i e => by
  obtain ⟨c, _, h, _⟩ := S.adr i p e
  exact h o (.inr ⟨rfl, rfl⟩)
/-- it waits no more -/
theorem Sim.drop (S : Sim G (Z.wait p o) A γ σ H) : Sim G Z A γ σ H where
  len := S.len
  cell := fun i c hc => by
    obtain ⟨x, h1, h2⟩ := S.cell i c hc
    exact ⟨x, h1, CellOk.keep (Z := Z.wait p o) (Z' := Z) rfl (fun p e1 => ⟨e1, fun _ z => z⟩) .refl (fun b u hb hm => (mz_wait b).mpr (.inl hm)) (fun _ _ _ z => z) h2⟩
  adr := fun i a hi => by
    obtain ⟨c, h1, h2, h3⟩ := S.adr i a hi
    refine ⟨c, h1, fun u hu => h2 u (.inl hu), ?_⟩
    obtain ⟨k, v⟩ := c
    cases k with
    | val => exact h3
    | own => exact ⟨h3.1, fun m => h3.2 (.inl m)⟩
    | lown => exact h3
    | io => exact ⟨h3.1, h3.2.elim (fun m => m) fun z => absurd hi (by rw [z]; exact S.wait_ne i)⟩
    | lio => exact h3
  inj := S.inj
  mf := fun a m => S.mf a (.inl m)
  fr := fun b u hb => S.fr b u (.inl hb)
  new := S.new
  tb := ⟨S.tb.tm, fun q hq u hu => S.tb.nf q hq u (.inl hu), S.tb.ok⟩
end
/-- what stands behind an expression: a value; or a new thing of which no one else knows (H0: the heap ahead of the step) -/
def HeldS (G : GG) (Z : Ent) (A : AM) (γ : Sg) (σ : L2.St) (H0 H : Hp) (c : Cell) (x : V) : Prop := match c.k with
  | .val => Sim G Z A γ σ H ∧ Rep G (Mz Z A) H c.v x
  | .own => ∃ a o, x = .ref a ∧ H0 a = none ∧ ¬ Z.Mf a ∧ Own G (Mz (Z.wait a o) A) H c.v a ∧ Sim G (Z.wait a o) A γ σ H
  | _ => False
section
variable {G : GG} {Z : Ent} {A A' : AM} {γ γ' : Sg} {σ σ' : L2.St} {H H' H0 H00 : Hp} {c : Cell} {x : V} {v : MV}
theorem _root_.Mi.Own.rep' {a : Addr} {o : HO} (h : Own G (Mz (Z.wait a o) A) H v a) (S : Sim G (Z.wait a o) A γ σ H) (n : ¬ Z.Mf a) : Rep G (Mz Z A) H v (.ref a) :=
  Own.rep (h.keep .refl (fun b _ _ m => (mz_wait b).mpr (.inl m)) fun _ z => z) fun m => m.elim n fun ⟨i, e⟩ => S.wait_ne i e
theorem HeldS.sim (h : HeldS G Z A γ σ H0 H c x) : Sim G Z A γ σ H := by
  obtain ⟨k, v⟩ := c
  cases k with
  | val => exact h.1
  | own =>
    obtain ⟨a, o, _, _, _, _, S⟩ := h
    exact S.drop
  | io => exact h.elim
  | lown => exact h.elim
  | lio => exact h.elim
theorem HeldS.rep (h : HeldS G Z A γ σ H0 H c x) : Rep G (Mz Z A) H c.v x := by
  obtain ⟨k, v⟩ := c
  cases k with
  | val => exact h.2
  | own =>
    obtain ⟨a, o, rfl, _, n, h, S⟩ := h
    exact (h.rep' S n)
  | io => exact h.elim
  | lown => exact h.elim
  | lio => exact h.elim
theorem HeldS.old (e : ∀ a, H0 a = none → H00 a = none) (h : HeldS G Z A γ σ H0 H c x) : HeldS G Z A γ σ H00 H c x := by
  obtain ⟨k, v⟩ := c
  cases k with
  | val => exact h
  | own =>
    obtain ⟨a, o, e1, n, r⟩ := h
    exact ⟨a, o, e1, e a n, r⟩
  | io => exact h.elim
  | lown => exact h.elim
  | lio => exact h.elim
theorem HeldS.val (S : Sim G Z A γ σ H) (h : Rep G (Mz Z A) H v x) : HeldS G Z A γ σ H0 H ⟨.val, v⟩ x := ⟨S, h⟩
end
/-- an exception in the heap -/
def ExRep (G : GG) (M : Addr → Prop) (H : Hp) (e : Ex) (cls : Value) (d : Option Addr) : Prop :=
  cls = .ref (He.ga G.K e.cls) ∧ match e.fs with
    | [] => d = none
    | fs => ∃ a vs, d = some a ∧ H a = some (.xd ((fs.map (·.1)).zip vs)) ∧ ¬ M a ∧ Reps G M H (fs.map (·.2)) vs
/-- what follows an exception -/
def EndX (G : GG) (Z : Ent) (W : WX) (A : AM) (σ : L2.St) (H : Hp) (e : Ex) (γ' : Sg) : Prop := ∀ A' H' cls d, Sim G Z A' γ' σ H' → Le A' A → Keep (Mz Z A) H H' → ExRep G (Mz Z A') H' e cls d → W cls d σ H'
/-- what follows an expression -/
def EndE (G : GG) (Z : Ent) (W : WX) (A : AM) (σ : L2.St) (H : Hp) (Q : VK) : R Cell → Prop
  | .ok c γ' => ∀ x A' H', HeldS G Z A' γ' σ H H' c x → Le A' A → Keep (Mz Z A) H H' → Q x H'
  | .ex e γ' => EndX G Z W A σ H e γ'
  | .no => False
def tME (G : GG) (f : FE) (W : WX) : TE := fun σ H Q => ∃ Z A γ, Sim G Z A γ σ H ∧ EndE G Z W A σ H Q (f γ)
def RE (X : Cx) (e : Expr) (f : FE) : Prop := ∀ W : WX, Takes X W → PE X e (tME (GX X) f W)
def EndT (G : GG) (Z : Ent) (W : WX) (A : AM) (σ : L2.St) (H : Hp) (Q : Bool → Hp → Prop) : R Bool → Prop
  | .ok b γ' => ∀ A' H', Sim G Z A' γ' σ H' → Le A' A → Keep (Mz Z A) H H' → Q b H'
  | .ex e γ' => EndX G Z W A σ H e γ'
  | .no => False
def tMT (G : GG) (f : FT) (W : WX) : TT := fun σ H Q => ∃ Z A γ, Sim G Z A γ σ H ∧ EndT G Z W A σ H Q (f γ)
def RT (X : Cx) (e : Expr) (f : FT) : Prop := ∀ W : WX, Takes X W → PT X e (tMT (GX X) f W)
def EndA (G : GG) (Z : Ent) (W : WX) (A : AM) (σ : L2.St) (H : Hp) (Q : List V → Hp → Prop) : R (List MV) → Prop
  | .ok ms γ' => ∀ xs A' H', Sim G Z A' γ' σ H' → Le A' A → Keep (Mz Z A) H H' → Reps G (Mz Z A') H' ms xs → Q xs H'
  | .ex e γ' => EndX G Z W A σ H e γ'
  | .no => False
def tMA (G : GG) (f : FA) (W : WX) : TA := fun σ H Q => ∃ Z A γ, Sim G Z A γ σ H ∧ EndA G Z W A σ H Q (f γ)
def RA (X : Cx) (es : List Expr) (f : FA) : Prop := ∀ W : WX, Takes X W → PA X es (tMA (GX X) f W)
def EndS (G : GG) (Z : Ent) (W : WX) (D : Ends) (A : AM) (H : Hp) : RO → Prop
  | .nx γ' => ∀ σ' A' H', Sim G Z A' γ' σ' H' → Stp Z A H A' H' → D.nx σ' H'
  | .rt c γ' => ∀ x σ' A' H', HeldS G Z A' γ' σ' Z.H0 H' c x → D.rt x H'
  | .bk γ' => ∀ σ' A' H', Sim G Z A' γ' σ' H' → Stp Z A H A' H' → D.bk σ' H'
  | .ct γ' => ∀ σ' A' H', Sim G Z A' γ' σ' H' → Stp Z A H A' H' → D.ct σ' H'
  | .ex e γ' => ∀ σ' A' H' cls d, Sim G Z A' γ' σ' H' → Stp Z A H A' H' → ExRep G (Mz Z A') H' e cls d → W cls d σ' H'
  | .no => False
theorem EndS.mono {G : GG} {Z : Ent} {W : WX} {D : Ends} {A A1 : AM} {H H1 : Hp} {r : RO} (s : Stp Z A H A1 H1) (h : EndS G Z W D A H r) : EndS G Z W D A1 H1 r := by
  cases r with
  | nx γ => exact fun σ' A' H' S s' => h σ' A' H' S (s.trans s')
  | rt c γ => exact h
  | bk γ => exact fun σ' A' H' S s' => h σ' A' H' S (s.trans s')
  | ct γ => exact fun σ' A' H' S s' => h σ' A' H' S (s.trans s')
  | ex e γ => exact fun σ' A' H' cls d S s' => h σ' A' H' cls d S (s.trans s')
  | no => exact h
/-- other ends -/
theorem EndS.imp {G : GG} {Z : Ent} {W W' : WX} {D D' : Ends} {A A1 : AM} {H H1 : Hp} {r : RO} (h : EndS G Z W D A H r) (hn : ∀ σ' H', D.nx σ' H' → D'.nx σ' H') (hr : ∀ x H', D.rt x H' → D'.rt x H') (hb : ∀ σ' H', D.bk σ' H' → D'.bk σ' H') (hc : ∀ σ' H', D.ct σ' H' → D'.ct σ' H') (hw : ∀ c d σ H, W c d σ H → W' c d σ H) : EndS G Z W' D' A H r := by
  cases r with
  | nx γ => exact fun σ' A' H' S s' => hn _ _ (h σ' A' H' S s')
  | rt c γ => exact fun x σ' A' H' hs => hr _ _ (h x σ' A' H' hs)
  | bk γ => exact fun σ' A' H' S s' => hb _ _ (h σ' A' H' S s')
  | ct γ => exact fun σ' A' H' S s' => hc _ _ (h σ' A' H' S s')
  | ex e γ => exact fun σ' A' H' cls d S s' xr => hw _ _ _ _ (h σ' A' H' cls d S s' xr)
  | no => exact h
def tMS (G : GG) (f : FS) (W : WX) : TS := fun D σ H => ∃ Z A γ, Sim G Z A γ σ H ∧ EndS G Z W D A H (f γ)
def RS (X : Cx) (st : Stmt) (f : FS) : Prop := ∀ W : WX, Takes X W → PS X st (tMS (GX X) f W)
def RSs (X : Cx) (st : List Stmt) (f : FS) : Prop := ∀ W : WX, Takes X W → PSs X st (tMS (GX X) f W)

/-! weaker readings -/
theorem PE_imp {X : Cx} {e : Expr} {t t' : TE} (h : PE X e t) (i : ∀ σ H Q, t' σ H Q → t σ H Q) : PE X e t' := ⟨fun pins s σ H Q I q => h.run pins s σ H Q I (i _ _ _ q)⟩
theorem PT_imp {X : Cx} {e : Expr} {t t' : TT} (h : PT X e t) (i : ∀ σ H Q, t' σ H Q → t σ H Q) : PT X e t' := ⟨fun pins s σ H Q I q => h.run pins s σ H Q I (i _ _ _ q)⟩
theorem PA_imp {X : Cx} {e : List Expr} {t t' : TA} (h : PA X e t) (i : ∀ σ H Q, t' σ H Q → t σ H Q) : PA X e t' := ⟨fun pos pins s σ H Q I q => h.run pos pins s σ H Q I (i _ _ _ q)⟩
theorem PS_imp {X : Cx} {e : Stmt} {t t' : TS} (h : PS X e t) (i : ∀ D σ H, t' D σ H → t D σ H) : PS X e t' := ⟨fun pins s σ H D I q => h.run pins s σ H D I (i _ _ _ q)⟩
theorem PSs_imp {X : Cx} {e : List Stmt} {t t' : TS} (h : PSs X e t) (i : ∀ D σ H, t' D σ H → t D σ H) : PSs X e t' := ⟨fun pins s σ H D I q => h.run pins s σ H D I (i _ _ _ q)⟩
end Mi

set_option Elab.async false
set_option linter.all false
set_option maxRecDepth 100000
set_option maxHeartbeats 4000000
/-! operands, operators -/
namespace Mi
open PySem PySem.Spec PyProof.Rows L2 My

/-! ### several things that wait -/
theorem wait_comm {Z : Ent} {a b : Addr} {o u : HO} : (Z.wait a o).wait b u = (Z.wait b u).wait a o := by
  refine Ent.ext' rfl ?_ ?_ rfl rfl rfl
  · funext c
    unfold Ent.wait
    simp only [or_assoc, or_comm (a := c = a)]
  · funext c q
    unfold Ent.wait
    simp only [or_assoc, or_comm (a := c = a ∧ q = o)]
def Ent.waits (Z : Ent) : List (Addr × HO) → Ent
  | [] => Z
  | p :: l => (Z.waits l).wait p.1 p.2
theorem waits_wait {Z : Ent} {a : Addr} {o : HO} : ∀ l : List (Addr × HO), (Z.wait a o).waits l = (Z.waits l).wait a o
  | [] => rfl
  | p :: l => by
    simp only [Ent.waits]
    rw [waits_wait l, wait_comm]
theorem waits_mz {Z : Ent} {A : AM} : ∀ (l : List (Addr × HO)) (a : Addr), Mz (Z.waits l) A a ↔ Mz Z A a ∨ ∃ p ∈ l, a = p.1
  | [], a => by simp [Ent.waits]
  | p :: l, a => by
    simp only [Ent.waits]
    rw [mz_wait, waits_mz l]
    simp only [List.mem_cons, exists_eq_or_imp, or_assoc, or_comm (a := a = p.1)]
theorem waits_H0 {Z : Ent} : ∀ l : List (Addr × HO), (Z.waits l).H0 = Z.H0
  | [] => rfl
  | p :: l => waits_H0 l
theorem waits_Mf {Z : Ent} {a : Addr} : ∀ l : List (Addr × HO), Z.Mf a → (Z.waits l).Mf a
  | [], h => h
  | p :: l, h => .inl (waits_Mf l h)
section
variable {G : GG} {Z : Ent} {A A' A0 : AM} {γ γ' : Sg} {σ σ' : L2.St} {H H' H0 H00 : Hp} {c : Cell} {x : V} {v : MV} {l : List (Addr × HO)}
theorem Sim.drops : ∀ {l : List (Addr × HO)}, Sim G (Z.waits l) A γ σ H → Sim G Z A γ σ H
  | [], S => S
  | _ :: _, S => Sim.drops (l := _) (Sim.drop S)
theorem Rep.drops (h : Rep G (Mz (Z.waits l) A) H v x) : Rep G (Mz Z A) H v x := h.less fun b m => (waits_mz l b).mpr (.inl m)
theorem HeldS.drops (h : HeldS G (Z.waits l) A γ σ H0 H c x) : HeldS G Z A γ σ H0 H c x := by
  obtain ⟨k, v⟩ := c
  cases k with
  | val => exact ⟨h.1.drops, h.2.drops⟩
  | own =>
    obtain ⟨a, o, e, n, nm, h1, S⟩ := h
    refine ⟨a, o, e, n, fun m => nm (waits_Mf l m), h1.keep .refl (fun b _ _ m => ?_) fun _ z => z, ?_⟩
    · rw [mz_wait] at m ⊢
      exact m.imp_left fun m => (waits_mz l b).mpr (.inl m)
    · rw [← waits_wait] at S
      exact S.drops
  | io => exact h.elim
  | lown => exact h.elim
  | lio => exact h.elim

/-- a value that was reckoned earlier, and is still known -/
def Hold (G : GG) (Z : Ent) (A : AM) (H : Hp) (v : MV) (x : V) : Prop := Rep G (Mz Z A) H v x ∨ ∃ a o, x = .ref a ∧ Z.F a o ∧ Own G (Mz Z A) H v a
theorem Hold.step (h : Hold G Z A H v x) (S : Sim G Z A γ σ H) (S' : Sim G Z A' γ' σ' H') (le : Le A' A) (k : Keep (Mz Z A) H H') : Hold G Z A' H' v x := by
  rcases h with h | ⟨a, o, e, f, h⟩
  · exact .inl (h.keep k fun b _ _ m => le.mz b m)
  · refine .inr ⟨a, o, e, f, h.keep k (fun b _ _ m => le.mz b m) fun u hu => ?_⟩
    have := S.fr a o f
    rw [this] at hu
    cases hu
    exact S'.fr a o f
theorem Hold.wait (h : Hold G Z A H v x) (S : Sim G Z A γ σ H) {a : Addr} {o : HO} (e : Same H H') (n : H a = none) : Hold G (Z.wait a o) A H' v x := by
  have m : ∀ b u, H b = some u → Mz (Z.wait a o) A b → Mz Z A b := fun b u hb m => ((mz_wait b).mp m).elim (fun m => m) fun z => by rw [z, n] at hb; cases hb
  rcases h with h | ⟨b, u, e1, f, h⟩
  · exact .inl (h.keep (.of_same e) m)
  · exact .inr ⟨b, u, e1, .inl f, h.keep (.of_same e) m fun _ z => e _ _ z⟩
theorem Hold.repB (h : Hold G Z A H v x) : RepB G (Mz Z A) H v x := h.imp_right fun ⟨a, _, e, _, h⟩ => ⟨a, e, h⟩
theorem Keep.waits (k : Keep (Mz (Z.waits l) A) H H') (n : ∀ p ∈ l, H0 p.1 = none) (k0 : Keep (Mz Z A0) H0 H) (le : Le A A0) : Keep (Mz Z A0) H0 H' :=
  k0.trans k fun b o hb m => by
    rcases (waits_mz l b).mp m with m | ⟨p, hp, rfl⟩
    · exact le.mz b m
    · rw [n p hp] at hb; cases hb
end

/-! ### operands: a slot that is looked at where it is needed, or an expression -/
inductive Opd where
  | sl (i : Nat) | ex (f : FE)
def oEv : Opd → FE
  | .sl i, γ => match γ[i]? with
    | some (some c) => .ok c γ
    | _ => .no
  | .ex f, γ => f γ
def oGet : Opd → Cell → Sg → Option MV
  | .sl i, _, γ => match γ[i]? with
    | some (some c) => some c.v
    | _ => none
  | .ex _, c, _ => some c.v
def HeldQ (G : GG) (Z : Ent) (A : AM) (γ : Sg) (σ : L2.St) (H0 H : Hp) (o : Opd) (c : Cell) (x : V) : Prop := match o with
  | .sl i => Sim G Z A γ σ H ∧ σ[i]? = some (some x)
  | .ex _ => HeldS G Z A γ σ H0 H c x
def EndQ (G : GG) (Z : Ent) (W : WX) (A : AM) (σ : L2.St) (H : Hp) (Q : VK) (o : Opd) : R Cell → Prop
  | .ok c γ' => ∀ x A' H', HeldQ G Z A' γ' σ H H' o c x → Le A' A → Keep (Mz Z A) H H' → Q x H'
  | .ex e γ' => EndX G Z W A σ H e γ'
  | .no => False
def tMQ (G : GG) (o : Opd) (W : WX) : TE := fun σ H Q => ∃ Z A γ, Sim G Z A γ σ H ∧ EndQ G Z W A σ H Q o (oEv o γ)
def RQ (X : Cx) (e : Expr) (o : Opd) : Prop := ∀ W : WX, Takes X W → PE X e (tMQ (GX X) o W)
section
variable {X : Cx} {e : Expr} {f : FE} {i : Nat}
theorem rq_ex (h : RE X e f) : RQ X e (.ex f) := h
theorem rq_sl (h : PE X e (tVar i)) : RQ X e (.sl i) := fun W tk => PE_imp h fun σ H Q ⟨Z, A, γ, S, h⟩ => by
  show ∃ v, _ ∧ _
  unfold oEv at h
  simp only at h
  cases e1 : γ[i]? with
  | none => rw [e1] at h; exact h.elim
  | some o =>
    cases o with
    | none => rw [e1] at h; exact h.elim
    | some c =>
      rw [e1] at h
      obtain ⟨x, h1, h2⟩ := S.cell i c e1
      exact ⟨x, h1, h x A H ⟨S, h1⟩ .refl .refl⟩
end
/-- between two operands -/
structure Stg (G : GG) (Z : Ent) (A0 : AM) (H0 : Hp) (l : List (Addr × HO)) (A : AM) (γ : Sg) (σ : L2.St) (H : Hp) : Prop where
  sim : Sim G (Z.waits l) A γ σ H
  le : Le A A0
  kp : Keep (Mz Z A0) H0 H
  nw : ∀ p ∈ l, H0 p.1 = none
/-- what is known of an operand later on -/
def Later (G : GG) (Z : Ent) (A : AM) (γ : Sg) (σ : L2.St) (H : Hp) (o : Opd) (c : Cell) (x : V) : Prop := match o with
  | .sl i => σ[i]? = some (some x)
  | .ex _ => Hold G Z A H c.v x
section
variable {G : GG} {Z : Ent} {A A' A0 : AM} {γ γ' : Sg} {σ σ' : L2.St} {H H' H0 H00 : Hp} {c d : Cell} {x y : V} {v : MV} {l : List (Addr × HO)} {o q : Opd} {W : WX}
theorem Stg.start (S : Sim G Z A γ σ H) : Stg G Z A H [] A γ σ H := ⟨S, .refl, .refl, fun _ h => nomatch h⟩
theorem Later.step (h : Later G Z A γ σ H o c x) (S : Sim G Z A γ σ H) (S' : Sim G Z A' γ' σ H') (le : Le A' A) (k : Keep (Mz Z A) H H') : Later G Z A' γ' σ H' o c x := by
  cases o with
  | sl i => exact h
  | ex f => exact Hold.step h S S' le k
theorem Later.repB (h : Later G Z A γ σ H o c x) (S : Sim G Z A γ σ H) (e : oGet o c γ = some v) : RepB G (Mz Z A) H v x := by
  cases o with
  | ex f =>
    have e : some c.v = some v := e
    cases e
    exact h.repB
  | sl i =>
    unfold oGet at e
    simp only at e
    split at e
    · rename_i c' hc
      cases e
      obtain ⟨y, h1, h2⟩ := S.cell i c' hc
      have h : σ[i]? = some (some x) := h
      rw [h] at h1
      cases h1
      exact h2.repB
    · cases e
/-- one operand more. Next: what is left to do -/
theorem Stg.run (T : Stg G Z A0 H0 l A γ σ H) {Q : VK}
    (h : match oEv o γ with
      | .ok c γ' => ∀ x l' A' H', Stg G Z A0 H0 l' A' γ' σ H' → (∀ q d y, Later G (Z.waits l) A γ σ H q d y → Later G (Z.waits l') A' γ' σ H' q d y) → Later G (Z.waits l') A' γ' σ H' o c x → Q x H'
      | .ex e γ' => EndX G Z W A0 σ H0 e γ'
      | .no => False) : tMQ G o W σ H Q := by
  refine ⟨Z.waits l, A, γ, T.sim, ?_⟩
  cases e1 : oEv o γ with
  | no => rw [e1] at h; exact h
  | ex e γ' =>
    rw [e1] at h
    intro A' H' cls d S le k xr
    refine h A' H' cls d S.drops (le.trans T.le) (k.waits T.nw T.kp T.le) ?_
    obtain ⟨h1, h2⟩ := xr
    refine ⟨h1, ?_⟩
    cases e2 : e.fs with
    | nil => rw [e2] at h2; exact h2
    | cons p ps =>
      rw [e2] at h2
      obtain ⟨a, vs, z1, z2, z3, z4⟩ := h2
      exact ⟨a, vs, z1, z2, fun m => z3 ((waits_mz l a).mpr (.inl m)), z4.keep .refl fun b _ _ m => (waits_mz l b).mpr (.inl m)⟩
  | ok c γ' =>
    rw [e1] at h
    intro x A' H' hq le k
    cases o with
    | sl i =>
      have e2 : γ' = γ := by
        unfold oEv at e1
        simp only at e1
        split at e1
        · cases e1; rfl
        · cases e1
      exact h x l A' H' ⟨hq.1, le.trans T.le, k.waits T.nw T.kp T.le, T.nw⟩ (fun q d y z => z.step T.sim hq.1 le k) hq.2
    | ex f =>
      have hq : HeldS G (Z.waits l) A' γ' σ H H' c x := hq
      obtain ⟨kk, v⟩ := c
      cases kk with
      | val => exact h x l A' H' ⟨hq.1, le.trans T.le, k.waits T.nw T.kp T.le, T.nw⟩ (fun q d y z => z.step T.sim hq.1 le k) (.inl hq.2)
      | own =>
        obtain ⟨a, ob, rfl, n, nm, h1, S⟩ := hq
        have n0 : H0 a = none := T.kp.isnone n
        refine h (.ref a) ((a, ob) :: l) A' H' ⟨S, le.trans T.le, k.waits T.nw T.kp T.le, fun p hp => ?_⟩ (fun q d y z => ?_) (.inr ⟨a, ob, rfl, .inr ⟨rfl, rfl⟩, h1⟩)
        · rcases List.mem_cons.mp hp with rfl | hp
          · exact n0
          · exact T.nw p hp
        · cases q with
          | sl i => exact z
          | ex f' =>
            show Hold _ _ _ _ _ _
            have z : Hold G (Z.waits l) A H d.v y := z
            have m : ∀ b u, H b = some u → Mz ((Z.waits l).wait a ob) A' b → Mz (Z.waits l) A b := fun b u hb m => ((mz_wait b).mp m).elim (fun m => le.mz b m) fun z => by rw [z, n] at hb; cases hb
            rcases z with z | ⟨b, u, e1, f1, z⟩
            · exact .inl (z.keep k m)
            · refine .inr ⟨b, u, e1, .inl f1, z.keep k m fun u' hu => ?_⟩
              have := T.sim.fr b u f1
              rw [this] at hu
              cases hu
              exact S.fr b u (.inl f1)
      | io => exact hq.elim
      | lown => exact hq.elim
      | lio => exact hq.elim
end

/-- what an operation gives: a value, or a new thing -/
def Res (G : GG) (M : Addr → Prop) (H H' : Hp) (c : Cell) (z : V) : Prop := match c.k with
  | .val => Rep G M H' c.v z
  | .own => ∃ a, z = .ref a ∧ H a = none ∧ Own G (fun b => M b ∨ b = a) H' c.v a
  | _ => False
section
variable {G : GG} {Z : Ent} {A A' A0 : AM} {γ γ' : Sg} {σ σ' : L2.St} {H H' H0 H00 : Hp} {c d : Cell} {x y z : V} {v : MV} {l : List (Addr × HO)} {W : WX}
theorem Res.heldT (S : Sim G Z A γ σ H) (e : SameT G H H') (r : Res G (Mz Z A) H H' c z) : HeldS G Z A γ σ H H' c z := by
  obtain ⟨k, v⟩ := c
  cases k with
  | val => exact ⟨S.sameT e, r⟩
  | own =>
    obtain ⟨a, rfl, n, h⟩ := r
    obtain ⟨o, ho⟩ := h.on
    refine ⟨a, o, rfl, n, fun m => ?_, h.keep .refl (fun b _ _ m => (mz_wait b).mp m) fun _ z => z, S.waitT e n ho⟩
    obtain ⟨u, hu⟩ := S.mf a m
    rw [n] at hu
    cases hu
  | io => exact r.elim
  | lown => exact r.elim
  | lio => exact r.elim
theorem Res.held (S : Sim G Z A γ σ H) (e : Same H H') (r : Res G (Mz Z A) H H' c z) : HeldS G Z A γ σ H H' c z := Res.heldT S (.of S.tb.ok e) r
/-- the end of an operation behind its operands -/
theorem Stg.finS (T : Stg G Z A0 H0 l A γ σ H) {Q : VK} (e : SameT G H H') (r : Res G (Mz (Z.waits l) A) H H' c z) (h : EndE G Z W A0 σ H0 Q (.ok c γ)) : Q z H' :=
  h z A H' ((r.heldT T.sim e).drops.old fun a n => T.kp.isnone n) T.le (Keep.waits (T.sim.keepT e) T.nw T.kp T.le)
theorem Stg.fin (T : Stg G Z A0 H0 l A γ σ H) {Q : VK} (e : Same H H') (r : Res G (Mz (Z.waits l) A) H H' c z) (h : EndE G Z W A0 σ H0 Q (.ok c γ)) : Q z H' :=
  h z A H' ((r.held T.sim e).drops.old fun a n => T.kp.isnone n) T.le (Keep.waits (.of_same e) T.nw T.kp T.le)
end
/-- a place of two values, of one -/
def Op2 (X : Cx) (f : Value → Value → Sem Value) (g : MV → MV → Option Cell) : Prop :=
  ∃ r : R2, OpR X f r ∧ ∀ M v w c x y H Q, Trk M H → g v w = some c → RepB (GX X) M H v x → RepB (GX X) M H w y → (∀ z H', Same H H' → Res (GX X) M H H' c z → Q z H') → r x y H Q
def e2 (g : MV → MV → Option Cell) (o q : Opd) : FE := fun γ => match oEv o γ with
  | .ok c γ1 => (match oEv q γ1 with
    | .ok d γ2 => (match oGet o c γ2, oGet q d γ2 with
      | some v, some w => (match g v w with
        | some u => .ok u γ2
        | none => .no)
      | _, _ => .no)
    | .ex e γ2 => .ex e γ2
    | .no => .no)
  | .ex e γ1 => .ex e γ1
  | .no => .no
def e1 (g : MV → Option Cell) (o : Opd) : FE := fun γ => match oEv o γ with
  | .ok c γ1 => (match oGet o c γ1 with
    | some v => (match g v with
      | some u => .ok u γ1
      | none => .no)
    | none => .no)
  | .ex e γ1 => .ex e γ1
  | .no => .no
section
variable {X : Cx} {a b : Expr} {o q : Opd} {pos : Pos} {g : MV → MV → Option Cell} {g1 : MV → Option Cell}
/-- two operands, then what is asked of both -/
theorem two {r : R2} {W : WX} {σ : L2.St} {H : Hp} {Q : VK} (hr : ∀ M v w c x y H Q, Trk M H → g v w = some c → RepB (GX X) M H v x → RepB (GX X) M H w y → (∀ z H', Same H H' → Res (GX X) M H H' c z → Q z H') → r x y H Q)
    (h : tME (GX X) (e2 g o q) W σ H Q) : tMQ (GX X) o W σ H fun x H1 => tMQ (GX X) q W σ H1 fun y H2 => r x y H2 Q := by
  obtain ⟨Z, A, γ, S, h⟩ := h
  refine (Stg.start S).run ?_
  unfold e2 at h
  cases E1 : oEv o γ with
  | no => rw [E1] at h; exact h
  | ex e γ1 => rw [E1] at h; exact h
  | ok c γ1 =>
    rw [E1] at h
    simp only at h ⊢
    intro x l1 A1 H1 T1 _ L1
    refine T1.run ?_
    cases E2 : oEv q γ1 with
    | no => rw [E2] at h; exact h
    | ex e γ2 => rw [E2] at h; exact h
    | ok d γ2 =>
      rw [E2] at h
      simp only at h ⊢
      intro y l2 A2 H2 T2 up L2
      have L1' := up _ _ _ L1
      cases E3 : oGet o c γ2 with
      | none => rw [E3] at h; exact h.elim
      | some v =>
        cases E4 : oGet q d γ2 with
        | none => rw [E3, E4] at h; exact h.elim
        | some w =>
          rw [E3, E4] at h
          simp only at h
          cases E5 : g v w with
          | none => rw [E5] at h; exact h.elim
          | some u =>
            rw [E5] at h
            exact hr _ v w u x y H2 Q T2.sim.trk E5 (L1'.repB T2.sim E3) (L2.repB T2.sim E4) fun z H' e r => T2.fin e r h
theorem one {r : V → Hp → VK → Prop} {W : WX} {σ : L2.St} {H : Hp} {Q : VK} (hr : ∀ M v c x H Q, Trk M H → g1 v = some c → RepB (GX X) M H v x → (∀ z H', Same H H' → Res (GX X) M H H' c z → Q z H') → r x H Q)
    (h : tME (GX X) (e1 g1 o) W σ H Q) : tMQ (GX X) o W σ H fun x H1 => r x H1 Q := by
  obtain ⟨Z, A, γ, S, h⟩ := h
  refine (Stg.start S).run ?_
  unfold e1 at h
  cases E1 : oEv o γ with
  | no => rw [E1] at h; exact h
  | ex e γ1 => rw [E1] at h; exact h
  | ok c γ1 =>
    rw [E1] at h
    simp only at h ⊢
    intro x l1 A1 H1 T1 _ L1
    cases E3 : oGet o c γ1 with
    | none => rw [E3] at h; exact h.elim
    | some v =>
      rw [E3] at h
      simp only at h
      cases E5 : g1 v with
      | none => rw [E5] at h; exact h.elim
      | some u =>
        rw [E5] at h
        exact hr _ v u x H1 Q T1.sim.trk E5 (L1.repB T1.sim E3) fun z H' e r => T1.fin e r h
/-- .. an operation that may change tables -/
def TrG (G : GG) (M : Addr → Prop) (H : Hp) : Prop := Trk M H ∧ (∀ p ∈ G.T, M p.1) ∧ TabsOk G H
theorem Sim.trg {G : GG} {Z : Ent} {A : AM} {γ : Sg} {σ : L2.St} {H : Hp} (S : Sim G Z A γ σ H) : TrG G (Mz Z A) H := ⟨S.trk, fun p hp => .inl (Z.TmM _ (S.tb.tm p hp)), S.tb.ok⟩
theorem oneT {r : V → Hp → VK → Prop} {W : WX} {σ : L2.St} {H : Hp} {Q : VK} (hr : ∀ M v c x H Q, TrG (GX X) M H → g1 v = some c → RepB (GX X) M H v x → (∀ z H', SameT (GX X) H H' → Res (GX X) M H H' c z → Q z H') → r x H Q)
    (h : tME (GX X) (e1 g1 o) W σ H Q) : tMQ (GX X) o W σ H fun x H1 => r x H1 Q := by
  obtain ⟨Z, A, γ, S, h⟩ := h
  refine (Stg.start S).run ?_
  unfold e1 at h
  cases E1 : oEv o γ with
  | no => rw [E1] at h; exact h
  | ex e γ1 => rw [E1] at h; exact h
  | ok c γ1 =>
    rw [E1] at h
    simp only at h ⊢
    intro x l1 A1 H1 T1 _ L1
    cases E3 : oGet o c γ1 with
    | none => rw [E3] at h; exact h.elim
    | some v =>
      rw [E3] at h
      simp only at h
      cases E5 : g1 v with
      | none => rw [E5] at h; exact h.elim
      | some u =>
        rw [E5] at h
        exact hr _ v u x H1 Q T1.sim.trg E5 (L1.repB T1.sim E3) fun z H' e r => T1.finS e r h
theorem re_bin {op : Operator} (P : Op2 X (binaryOp op) g) (ha : RQ X a o) (hb : RQ X b q) : RE X (.BinOp a op b pos) (e2 g o q) := fun W tk => by
  obtain ⟨r, hr, hm⟩ := P
  exact PE_imp (pe_op hr (ha W tk) (hb W tk)) fun σ H Q h => two hm h
theorem re_cmp {op : CmpOp} (P : Op2 X (compareOp op) g) (ha : RQ X a o) (hb : RQ X b q) (hm : behindInMarks op b = false) : RE X (.Compare a [op] [b] pos) (e2 g o q) := fun W tk => by
  obtain ⟨r, hr, hm'⟩ := P
  exact PE_imp (pe_cmpR hr (ha W tk) (hb W tk) hm) fun σ H Q h => two hm' h
def Op1 (X : Cx) (f : Value → Sem Value) (g : MV → Option Cell) : Prop :=
  ∃ r : V → Hp → VK → Prop, UnR X f r ∧ ∀ M v c x H Q, Trk M H → g v = some c → RepB (GX X) M H v x → (∀ z H', Same H H' → Res (GX X) M H H' c z → Q z H') → r x H Q
theorem re_un {op : UnaryOp} (P : Op1 X (unaryOp op) g1) (ha : RQ X a o) : RE X (.UnaryOp op a pos) (e1 g1 o) := fun W tk => by
  obtain ⟨r, hr, hm⟩ := P
  exact PE_imp (pe_un hr (ha W tk)) fun σ H Q h => one hm h
end
end Mi

set_option Elab.async false
set_option linter.all false
set_option maxRecDepth 100000
set_option maxHeartbeats 4000000
/-! names, constants, tests, displays, subscripts -/
namespace Mi
open PySem PySem.Spec PyProof.Rows L2 My

/-! ### names -/
def AM.del (A : AM) (i : Nat) : AM := fun j => if j = i then none else A j
theorem AM.del_le {A : AM} {i : Nat} : Le (A.del i) A := fun j a h => by
  unfold AM.del at h
  split at h
  · cases h
  · exact h
theorem AM.del_ne {A : AM} {i j : Nat} (h : j ≠ i) : A.del i j = A j := if_neg h
theorem AM.del_eq {A : AM} {i : Nat} : A.del i i = none := if_pos rfl
def eVar (i : Nat) : FE := fun γ => match γ[i]? with
  | some (some ⟨.val, v⟩) => .ok ⟨.val, v⟩ γ
  | some (some ⟨.own, v⟩) => .ok ⟨.val, v⟩ (γ.set i (some ⟨.val, v⟩))
  | _ => .no
def eC (v : MV) : FE := fun γ => .ok ⟨.val, v⟩ γ
section
variable {G : GG} {Z : Ent} {A A' A0 : AM} {γ γ' : Sg} {σ σ' : L2.St} {H H' H0 H00 : Hp} {c d : Cell} {x y z : V} {v : MV} {l : List (Addr × HO)} {W : WX}
/-- a list of one's own that is handed on stays as it is from then on -/
theorem Sim.freeze {i : Nat} (S : Sim G Z A γ σ H) (hi : γ[i]? = some (some ⟨.own, v⟩)) : ∃ a, σ[i]? = some (some (.ref a)) ∧ A i = some a ∧ Sim G Z (A.del i) (γ.set i (some ⟨.val, v⟩)) σ H ∧ Rep G (Mz Z (A.del i)) H v (.ref a) := by
  have hlt : i < γ.length := (List.getElem?_eq_some_iff.mp hi).1
  obtain ⟨x, h1, a, e, rfl, h2⟩ := S.cell i _ hi
  obtain ⟨c', hc', nf, hk⟩ := S.adr i a e
  rw [hi] at hc'
  cases hc'
  have less : ∀ b, Mz Z (A.del i) b → Mz Z A b := fun b m => AM.del_le.mz b m
  have na : ¬ Mz Z (A.del i) a := fun m => m.elim hk.2 fun ⟨j, hj⟩ => by
    have hji : j ≠ i := fun z => by rw [z, AM.del_eq] at hj; cases hj
    rw [AM.del_ne hji] at hj
    exact hji (S.inj j i a hj e)
  have rp : Rep G (Mz Z (A.del i)) H v (.ref a) := Own.rep (h2.keep .refl (fun b _ _ m => less b m) fun _ z => z) na
  refine ⟨a, h1, e, ⟨by rw [List.length_set]; exact S.len, fun j c hj => ?_, fun j b hj => ?_, fun j k b hj hk => S.inj j k b (AM.del_le j b hj) (AM.del_le k b hk), S.mf, S.fr, S.new, S.tb⟩, rp⟩
  · by_cases hji : j = i
    · subst hji
      rw [List.getElem?_set_self hlt] at hj
      cases hj
      exact ⟨_, h1, AM.del_eq, rp⟩
    · rw [List.getElem?_set_ne (Ne.symm hji)] at hj
      obtain ⟨y, h3, h4⟩ := S.cell j c hj
      exact ⟨y, h3, S.cellLe (AM.del_ne hji) less h4⟩
  · have hji : j ≠ i := fun z => by rw [z, AM.del_eq] at hj; cases hj
    rw [AM.del_ne hji] at hj
    rw [List.getElem?_set_ne (Ne.symm hji)]
    exact S.adr j b hj
theorem EndE.var {i : Nat} {Q : VK} (S : Sim G Z A γ σ H) (h : EndE G Z W A σ H Q (eVar i γ)) : ∃ x, σ[i]? = some (some x) ∧ Q x H := by
  unfold eVar at h
  cases e : γ[i]? with
  | none => rw [e] at h; exact h.elim
  | some o =>
    cases o with
    | none => rw [e] at h; exact h.elim
    | some c =>
      rw [e] at h
      obtain ⟨k, v⟩ := c
      cases k with
      | val =>
        obtain ⟨x, h1, _, h2⟩ := S.cell i _ e
        exact ⟨x, h1, h x A H ⟨S, h2⟩ .refl .refl⟩
      | own =>
        obtain ⟨a, h1, _, S', h2⟩ := S.freeze e
        exact ⟨_, h1, h _ _ H ⟨S', h2⟩ AM.del_le .refl⟩
      | io => exact h.elim
      | lown => exact h.elim
      | lio => exact h.elim
end
section
variable {X : Cx} {a b e : Expr} {es : List Expr} {f : FE} {fa : FA} {o q : Opd} {pos : Pos} {g : MV → MV → Option Cell} {g1 : MV → Option Cell} {x : Str}
theorem re_var {i : Nat} (h : PE X e (tVar i)) : RE X e (eVar i) := fun W tk => PE_imp h fun σ H Q ⟨Z, A, γ, S, h⟩ => EndE.var S h
theorem re_const {u : V} {v : MV} (h : PE X e (tC u)) (r : ∀ M H, Rep (GX X) M H v u) : RE X e (eC v) := fun W tk => PE_imp h fun σ H Q ⟨Z, A, γ, S, h⟩ =>
  h u A H ⟨S, r _ _⟩ .refl .refl
theorem re_int {i j} : RE X (.Constant (.int i) j pos) (eC (.int i)) := re_const pe_int fun _ _ => by simp only [Rep]
theorem re_bl {b j} : RE X (.Constant (.bool b) j pos) (eC (.bl b)) := re_const pe_bl fun _ _ => by simp only [Rep]
theorem re_non {j} : RE X (.Constant .none j pos) (eC .non) := re_const pe_non fun _ _ => by simp only [Rep]
theorem re_str {x j} : RE X (.Constant (.str x) j pos) (eC (.str x)) := re_const pe_str fun _ _ => by simp only [Rep]
/-- a module's constant -/
theorem re_gint {i : Int} (hg : Gl X x) (hm : ∃ t, X.mg x = some (.int i t)) (hd : (x == ("__debug__" : Str)) = false := by decide) : RE X (.Name x pos) (eC (.int i)) := by
  obtain ⟨t, hm⟩ := hm
  exact re_const (pe_glob hg hm (v := .int i) ⟨t, rfl⟩ hd) fun _ _ => by simp only [Rep]
theorem re_gstr {i : Str} (hg : Gl X x) (hm : ∃ t, X.mg x = some (.str i t)) (hd : (x == ("__debug__" : Str)) = false := by decide) : RE X (.Name x pos) (eC (.str i)) := by
  obtain ⟨t, hm⟩ := hm
  exact re_const (pe_glob hg hm (v := .str i) ⟨t, rfl⟩ hd) fun _ _ => by simp only [Rep]

/-! ### tests -/
def truM : MV → Option Bool
  | .non => some false
  | .bl b => some b
  | .int i => some (i != 0)
  | .str y => if y.length ≤ sizeLine then some ((y.length : Int) != 0) else none
  | .tup xs => some (!xs.isEmpty)
  | .lst xs => some (!xs.isEmpty)
  | _ => none
theorem Reps.isEmpty {G : GG} {M : Addr → Prop} {H : Hp} {ms : List MV} {vs : List V} (h : Reps G M H ms vs) : vs.isEmpty = ms.isEmpty := by
  cases ms with
  | nil => simp only [Reps] at h; rw [h]; rfl
  | cons m ms =>
    simp only [Reps] at h
    obtain ⟨v, r, rfl, _, _⟩ := h
    rfl
theorem truM_ok {G : GG} {M : Addr → Prop} {H : Hp} {v : MV} {x : V} {k : Bool} (h : RepB G M H v x) (e : truM v = some k) : TruV G.K x H k := by
  cases v with
  | non => rcases h with h | ⟨a, _, h⟩ <;> simp only [Rep, Own] at h; subst h; cases e; rfl
  | bl b => rcases h with h | ⟨a, _, h⟩ <;> simp only [Rep, Own] at h; subst h; cases e; rfl
  | int b => rcases h with h | ⟨a, _, h⟩ <;> simp only [Rep, Own] at h; subst h; cases e; rfl
  | str b =>
    rcases h with h | ⟨a, _, h⟩ <;> simp only [Rep, Own] at h
    subst h
    unfold truM at e
    simp only at e
    split at e
    · rename_i hl
      cases e
      exact ⟨hl, rfl⟩
    · cases e
  | tup ms =>
    rcases h with h | ⟨a, _, h⟩ <;> simp only [Rep, Own] at h
    obtain ⟨a, vs, rfl, h1, h2⟩ := h
    cases e
    exact .inr (.inl ⟨vs, h1.sq, by rw [h2.isEmpty]⟩)
  | lst ms =>
    cases e
    rcases h with h | ⟨a, rfl, h⟩ <;> simp only [Rep, Own] at h
    · obtain ⟨a, vs, rfl, h1, _, h2⟩ := h
      exact .inl ⟨vs, h1.sq, by rw [h2.isEmpty]⟩
    · obtain ⟨vs, h1, h2⟩ := h
      exact .inl ⟨vs, .of h1, by rw [h2.isEmpty]⟩
  | dk _ _ => cases e
  | dn _ _ => cases e
  | ins _ _ => cases e
def tQ (o : Opd) : FT := fun γ => match oEv o γ with
  | .ok c γ1 => (match oGet o c γ1 with
    | some v => (match truM v with
      | some b => .ok b γ1
      | none => .no)
    | none => .no)
  | .ex e γ1 => .ex e γ1
  | .no => .no
/-- a value that must be a truth value, as a test -/
def tB (f : FE) : FT := fun γ => match f γ with
  | .ok ⟨.val, .bl b⟩ γ1 => .ok b γ1
  | .ex e γ1 => .ex e γ1
  | _ => .no
theorem Stg.finT {G : GG} {Z : Ent} {A A0 : AM} {γ : Sg} {σ : L2.St} {H H0 : Hp} {l : List (Addr × HO)} {W : WX} {Q : Bool → Hp → Prop} {b : Bool} (T : Stg G Z A0 H0 l A γ σ H) (h : EndT G Z W A0 σ H0 Q (.ok b γ)) : Q b H :=
  h A H T.sim.drops T.le T.kp
theorem rt_q (ha : RQ X e o) (he : ∀ whole, isTrue e X.env whole = (do let v ← whole; standAt e.pos; holding [v] (truthy v))) : RT X e (tQ o) := fun W tk => by
  refine PT_imp (pt_truth (ha W tk) he) fun σ H Q ⟨Z, A, γ, S, h⟩ => ?_
  refine (Stg.start S).run ?_
  unfold tQ at h
  cases E1 : oEv o γ with
  | no => rw [E1] at h; exact h
  | ex e γ1 => rw [E1] at h; exact h
  | ok c γ1 =>
    rw [E1] at h
    simp only at h ⊢
    intro x l1 A1 H1 T1 _ L1
    cases E3 : oGet o c γ1 with
    | none => rw [E3] at h; exact h.elim
    | some v =>
      rw [E3] at h
      simp only at h
      cases E5 : truM v with
      | none => rw [E5] at h; exact h.elim
      | some u =>
        rw [E5] at h
        exact ⟨u, truM_ok (G := GX X) (L1.repB T1.sim E3) E5, T1.finT h⟩
theorem tB_of {Z : Ent} {A : AM} {σ : L2.St} {H : Hp} {W : WX} {Q : Bool → Hp → Prop} {r : R Cell} {γ : Sg} (f : FE) (S : Sim (GX X) Z A γ σ H) (h : EndT (GX X) Z W A σ H Q (tB f γ)) : EndE (GX X) Z W A σ H (fun x H' => ∃ c, x = .bl c ∧ Q c H') (f γ) := by
  unfold tB at h
  cases E1 : f γ with
  | no => rw [E1] at h; exact h
  | ex e γ1 => rw [E1] at h; exact h
  | ok c γ1 =>
    rw [E1] at h
    obtain ⟨k, v⟩ := c
    cases k with
    | val =>
      cases v with
      | bl b =>
        intro x A' H' hs le kp
        have hr := hs.2
        simp only [Rep] at hr
        exact ⟨b, hr, h A' H' hs.1 le kp⟩
      | _ => exact h.elim
    | own => cases v <;> exact h.elim
    | io => cases v <;> exact h.elim
    | lown => cases v <;> exact h.elim
    | lio => cases v <;> exact h.elim
theorem rt_cmp {op : CmpOp} (P : Op2 X (compareOp op) g) (ha : RQ X a o) (hb : RQ X b q) (hm : behindInMarks op b = false) : RT X (.Compare a [op] [b] pos) (tB (e2 g o q)) := fun W tk => by
  obtain ⟨r, hr, hm'⟩ := P
  refine PT_imp (pt_cmpR hr (ha W tk) (hb W tk) hm) fun σ H Q ⟨Z, A, γ, S, h⟩ => ?_
  exact two hm' ⟨Z, A, γ, S, tB_of (r := .no) _ S h⟩
def tNt (f : FT) : FT := fun γ => match f γ with
  | .ok b γ1 => .ok (!b) γ1
  | .ex e γ1 => .ex e γ1
  | .no => .no
theorem rt_not {t : FT} (h : RT X a t) : RT X (.UnaryOp .Not a pos) (tNt t) := fun W tk => PT_imp (pt_not (h W tk)) fun σ H Q ⟨Z, A, γ, S, h⟩ => by
  refine ⟨Z, A, γ, S, ?_⟩
  unfold tNt at h
  cases E1 : t γ with
  | no => rw [E1] at h; exact h
  | ex e γ1 => rw [E1] at h; exact h
  | ok c γ1 => rw [E1] at h; exact h
def RW (X : Cx) (e : Expr) (f : FT) : Prop := ∀ W : WX, Takes X W → PW X e (tMT (GX X) f W)
def tAn (f g : FT) : FT := fun γ => match f γ with
  | .ok true γ1 => g γ1
  | r => r
def tOrr (f g : FT) : FT := fun γ => match f γ with
  | .ok false γ1 => g γ1
  | r => r
theorem EndT.mono {G : GG} {Z : Ent} {A A' : AM} {γ : Sg} {σ : L2.St} {H H' : Hp} {W : WX} {Q : Bool → Hp → Prop} {r : R Bool} (le : Le A' A) (k : Keep (Mz Z A) H H') (h : EndT G Z W A σ H Q r) : EndT G Z W A' σ H' Q r := by
  have k2 : ∀ {H2 : Hp}, Keep (Mz Z A') H' H2 → Keep (Mz Z A) H H2 := fun k' => k.trans k' fun b _ _ m => le.mz b m
  cases r with
  | no => exact h
  | ok b γ' => exact fun A2 H2 S le2 kk => h A2 H2 S (le2.trans le) (k2 kk)
  | ex e γ' => exact fun A2 H2 cls d S le2 kk => h A2 H2 cls d S (le2.trans le) (k2 kk)
theorem EndE.mono {G : GG} {Z : Ent} {A A' : AM} {σ : L2.St} {H H' : Hp} {W : WX} {Q : VK} {r : R Cell} (le : Le A' A) (k : Keep (Mz Z A) H H') (h : EndE G Z W A σ H Q r) : EndE G Z W A' σ H' Q r := by
  have k2 : ∀ {H2 : Hp}, Keep (Mz Z A') H' H2 → Keep (Mz Z A) H H2 := fun k' => k.trans k' fun b _ _ m => le.mz b m
  cases r with
  | no => exact h
  | ok b γ' => exact fun x A2 H2 hs le2 kk => h x A2 H2 (hs.old fun a n => k.isnone n) (le2.trans le) (k2 kk)
  | ex e γ' => exact fun A2 H2 cls d S le2 kk => h A2 H2 cls d S (le2.trans le) (k2 kk)
theorem EndA.mono {G : GG} {Z : Ent} {A A' : AM} {σ : L2.St} {H H' : Hp} {W : WX} {Q : List V → Hp → Prop} {r : R (List MV)} (le : Le A' A) (k : Keep (Mz Z A) H H') (h : EndA G Z W A σ H Q r) : EndA G Z W A' σ H' Q r := by
  have k2 : ∀ {H2 : Hp}, Keep (Mz Z A') H' H2 → Keep (Mz Z A) H H2 := fun k' => k.trans k' fun b _ _ m => le.mz b m
  cases r with
  | no => exact h
  | ok b γ' => exact fun x A2 H2 S le2 kk => h x A2 H2 S (le2.trans le) (k2 kk)
  | ex e γ' => exact fun A2 H2 cls d S le2 kk => h A2 H2 cls d S (le2.trans le) (k2 kk)
/-- a test, then what follows -/
theorem EndT.then {G : GG} {Z : Ent} {A : AM} {γ : Sg} {σ : L2.St} {H : Hp} {W : WX} {Q Q' : Bool → Hp → Prop} {r : R Bool} (h : EndT G Z W A σ H Q r) (i : ∀ b γ' A' H', r = .ok b γ' → Sim G Z A' γ' σ H' → Le A' A → Keep (Mz Z A) H H' → Q b H' → Q' b H') : EndT G Z W A σ H Q' r := by
  cases r with
  | no => exact h
  | ok b γ' => exact fun A2 H2 S le2 kk => i b γ' A2 H2 rfl S le2 kk (h A2 H2 S le2 kk)
  | ex e γ' => exact h
theorem rw_and1 {t : FT} (h : RT X a t) : RW X (.BoolOp .And [a] pos) t := fun W tk => pw_and1 (h W tk)
theorem rw_or1 {t : FT} (h : RT X a t) : RW X (.BoolOp .Or [a] pos) t := fun W tk => pw_or1 (h W tk)
theorem PW_imp {X : Cx} {e : Expr} {t t' : TT} (h : PW X e t) (i : ∀ σ H Q, t' σ H Q → t σ H Q) : PW X e t' := ⟨fun wh pins s σ H Q I q => h.run wh pins s σ H Q I (i _ _ _ q)⟩
theorem rw_and {t u : FT} {rest : List Expr} (ha : RT X a t) (hb : RW X (.BoolOp .And (b :: rest) pos) u) : RW X (.BoolOp .And (a :: b :: rest) pos) (tAn t u) := fun W tk =>
  PW_imp (pw_and (ha W tk) (hb W tk)) fun σ H Q ⟨Z, A, γ, S, h⟩ => by
    refine ⟨Z, A, γ, S, ?_⟩
    unfold tAn at h
    cases E1 : t γ with
    | no => rw [E1] at h; exact h
    | ex e γ1 => rw [E1] at h; exact h
    | ok c γ1 =>
      rw [E1] at h
      intro A' H' S' le k
      cases c with
      | true =>
        simp only [if_true]
        exact ⟨Z, A', γ1, S', EndT.mono (γ := γ) le k h⟩
      | false => exact h A' H' S' le k
theorem rw_or {t u : FT} {rest : List Expr} (ha : RT X a t) (hb : RW X (.BoolOp .Or (b :: rest) pos) u) : RW X (.BoolOp .Or (a :: b :: rest) pos) (tOrr t u) := fun W tk =>
  PW_imp (pw_or (ha W tk) (hb W tk)) fun σ H Q ⟨Z, A, γ, S, h⟩ => by
    refine ⟨Z, A, γ, S, ?_⟩
    unfold tOrr at h
    cases E1 : t γ with
    | no => rw [E1] at h; exact h
    | ex e γ1 => rw [E1] at h; exact h
    | ok c γ1 =>
      rw [E1] at h
      intro A' H' S' le k
      cases c with
      | false =>
        simp only [Bool.false_eq_true, if_false]
        exact ⟨Z, A', γ1, S', EndT.mono (γ := γ) le k h⟩
      | true => exact h A' H' S' le k
theorem rt_w {t : FT} (h : RW X a t) : RT X a t := fun W tk => (h W tk).pt
/-! as values -/
def eAn (f g : FE) : FE := fun γ => match f γ with
  | .ok ⟨.val, .bl true⟩ γ1 => g γ1
  | .ok ⟨.val, .bl false⟩ γ1 => .ok ⟨.val, .bl false⟩ γ1
  | .ok _ _ => .no
  | r => r
def eOr (f g : FE) : FE := fun γ => match f γ with
  | .ok ⟨.val, .bl true⟩ γ1 => .ok ⟨.val, .bl true⟩ γ1
  | .ok ⟨.val, .bl false⟩ γ1 => g γ1
  | .ok _ _ => .no
  | r => r
def eNt (f : FE) : FE := fun γ => match f γ with
  | .ok ⟨.val, .bl b⟩ γ1 => .ok ⟨.val, .bl (!b)⟩ γ1
  | .ok _ _ => .no
  | r => r
theorem re_one {op : BoolOp} (h : RE X a f) : RE X (.BoolOp op [a] pos) f := fun W tk => pe_one (h W tk)
theorem re_and {f2 : FE} {rest : List Expr} (ha : RE X a f) (hb : RE X (.BoolOp .And (b :: rest) pos) f2) : RE X (.BoolOp .And (a :: b :: rest) pos) (eAn f f2) := fun W tk =>
  PE_imp (pe_and (ha W tk) (hb W tk)) fun σ H Q ⟨Z, A, γ, S, h⟩ => by
    refine ⟨Z, A, γ, S, ?_⟩
    unfold eAn at h
    cases E1 : f γ with
    | no => rw [E1] at h; exact h
    | ex e γ1 => rw [E1] at h; exact h
    | ok c γ1 =>
      rw [E1] at h
      obtain ⟨k, v⟩ := c
      cases k with
      | val =>
        cases v with
        | bl b =>
          intro x A' H' hs le kp
          have hr := hs.2
          simp only [Rep] at hr
          cases b with
          | true => exact ⟨true, hr, ⟨Z, A', γ1, hs.1, EndE.mono le kp h⟩⟩
          | false => exact ⟨false, hr, h (.bl false) A' H' ⟨hs.1, by simp only [Rep]⟩ le kp⟩
        | _ => exact h.elim
      | own => cases v <;> exact h.elim
      | io => cases v <;> exact h.elim
      | lown => cases v <;> exact h.elim
      | lio => cases v <;> exact h.elim
theorem re_or {f2 : FE} {rest : List Expr} (ha : RE X a f) (hb : RE X (.BoolOp .Or (b :: rest) pos) f2) : RE X (.BoolOp .Or (a :: b :: rest) pos) (eOr f f2) := fun W tk =>
  PE_imp (pe_or (ha W tk) (hb W tk)) fun σ H Q ⟨Z, A, γ, S, h⟩ => by
    refine ⟨Z, A, γ, S, ?_⟩
    unfold eOr at h
    cases E1 : f γ with
    | no => rw [E1] at h; exact h
    | ex e γ1 => rw [E1] at h; exact h
    | ok c γ1 =>
      rw [E1] at h
      obtain ⟨k, v⟩ := c
      cases k with
      | val =>
        cases v with
        | bl b =>
          intro x A' H' hs le kp
          have hr := hs.2
          simp only [Rep] at hr
          cases b with
          | true => exact ⟨true, hr, h (.bl true) A' H' ⟨hs.1, by simp only [Rep]⟩ le kp⟩
          | false => exact ⟨false, hr, ⟨Z, A', γ1, hs.1, EndE.mono le kp h⟩⟩
        | _ => exact h.elim
      | own => cases v <;> exact h.elim
      | io => cases v <;> exact h.elim
      | lown => cases v <;> exact h.elim
      | lio => cases v <;> exact h.elim
theorem re_not (ha : RE X a f) : RE X (.UnaryOp .Not a pos) (eNt f) := fun W tk =>
  PE_imp (pe_not (ha W tk)) fun σ H Q ⟨Z, A, γ, S, h⟩ => by
    refine ⟨Z, A, γ, S, ?_⟩
    unfold eNt at h
    cases E1 : f γ with
    | no => rw [E1] at h; exact h
    | ex e γ1 => rw [E1] at h; exact h
    | ok c γ1 =>
      rw [E1] at h
      obtain ⟨k, v⟩ := c
      cases k with
      | val =>
        cases v with
        | bl b =>
          intro x A' H' hs le kp
          have hr := hs.2
          simp only [Rep] at hr
          exact ⟨b, hr, h (.bl (!b)) A' H' ⟨hs.1, by simp only [Rep]⟩ le kp⟩
        | _ => exact h.elim
      | own => cases v <;> exact h.elim
      | io => cases v <;> exact h.elim
      | lown => cases v <;> exact h.elim
      | lio => cases v <;> exact h.elim
/-! ### a if t else b -/
def eIf (t : FT) (f g : FE) : FE := fun γ => match t γ with
  | .ok true γ1 => f γ1
  | .ok false γ1 => g γ1
  | .ex e γ1 => .ex e γ1
  | .no => .no
theorem re_if {t : FT} {f2 : FE} (ht : RT X e t) (ha : RE X a f) (hb : RE X b f2) : RE X (.IfExp e a b pos) (eIf t f f2) := fun W tk =>
  PE_imp (pe_ifExp (ht W tk) (ha W tk) (hb W tk)) fun σ H Q ⟨Z, A, γ, S, h⟩ => by
    refine ⟨Z, A, γ, S, ?_⟩
    unfold eIf at h
    cases E1 : t γ with
    | no => rw [E1] at h; exact h
    | ex e γ1 => rw [E1] at h; exact h
    | ok c γ1 =>
      rw [E1] at h
      intro A' H' S' le k
      cases c with
      | true =>
        simp only [if_true]
        exact ⟨Z, A', γ1, S', EndE.mono le k h⟩
      | false =>
        simp only [Bool.false_eq_true, if_false]
        exact ⟨Z, A', γ1, S', EndE.mono le k h⟩
/-! ### lists of arguments, displays -/
def aNil : FA := fun γ => .ok [] γ
def aCons (f : FE) (r : FA) : FA := fun γ => match f γ with
  | .ok c γ1 => (match r γ1 with
    | .ok ms γ2 => .ok (c.v :: ms) γ2
    | .ex e γ2 => .ex e γ2
    | .no => .no)
  | .ex e γ1 => .ex e γ1
  | .no => .no
theorem ra_nil : RA X [] aNil := fun W tk => PA_imp pa_nil fun σ H Q ⟨Z, A, γ, S, h⟩ => h [] A H S .refl .refl Reps.nil
theorem ra_cons (ha : RE X a f) (hr : RA X es fa) (hs : starEach (a :: es) X.env = (false, eval a X.env) :: starEach es X.env := by rfl) : RA X (a :: es) (aCons f fa) := fun W tk =>
  PA_imp (pa_cons (ha W tk) (hr W tk) hs) fun σ H Q ⟨Z, A, γ, S, h⟩ => by
    refine ⟨Z, A, γ, S, ?_⟩
    unfold aCons at h
    cases E1 : f γ with
    | no => rw [E1] at h; exact h
    | ex e γ1 => rw [E1] at h; exact h
    | ok c γ1 =>
      rw [E1] at h
      simp only at h
      intro x A1 H1 hs le k
      refine ⟨Z, A1, γ1, hs.sim, ?_⟩
      cases E2 : fa γ1 with
      | no => rw [E2] at h; exact h
      | ex e γ2 =>
        rw [E2] at h
        exact fun A2 H2 cls d S le2 kk => h A2 H2 cls d S (le2.trans le) (k.trans kk fun b _ _ m => le.mz b m)
      | ok ms γ2 =>
        rw [E2] at h
        intro xs A2 H2 S2 le2 kk r2
        exact h (x :: xs) A2 H2 S2 (le2.trans le) (k.trans kk fun b _ _ m => le.mz b m) (Reps.consI (hs.rep.keep kk fun b _ _ m => le2.mz b m) r2)
/-- so many -/
def Lim (n : Nat) (fa : FA) : Prop := ∀ γ ms γ', fa γ = .ok ms γ' → ms.length = n
theorem lim_nil : Lim 0 aNil := fun γ ms γ' h => by
  unfold aNil at h
  cases h
  rfl
theorem lim_cons {n : Nat} (h : Lim n fa) : Lim (n + 1) (aCons f fa) := fun γ ms γ' e => by
  unfold aCons at e
  split at e
  · split at e
    · rename_i E
      cases e
      rw [List.length_cons, h _ _ _ E]
    · cases e
    · cases e
  · cases e
  · cases e
def eTup (fa : FA) : FE := fun γ => match fa γ with
  | .ok ms γ1 => .ok ⟨.val, .tup ms⟩ γ1
  | .ex e γ1 => .ex e γ1
  | .no => .no
def eLst (fa : FA) : FE := fun γ => match fa γ with
  | .ok ms γ1 => .ok ⟨.own, .lst ms⟩ γ1
  | .ex e γ1 => .ex e γ1
  | .no => .no
theorem re_tup {x1} {n : Nat} (ha : RA X es fa) (hn : Lim n fa) (hz : n ≤ 1000 := by decide) : RE X (.Tuple es x1 pos) (eTup fa) := fun W tk =>
  PE_imp (pe_tup (ha W tk)) fun σ H Q ⟨Z, A, γ, S, h⟩ => by
    refine ⟨Z, A, γ, S, ?_⟩
    unfold eTup at h
    cases E1 : fa γ with
    | no => rw [E1] at h; exact h
    | ex e γ1 => rw [E1] at h; exact h
    | ok ms γ1 =>
      rw [E1] at h
      intro xs A1 H1 S1 le k r
      refine ⟨by rw [r.len, hn _ _ _ E1, sizeLine_eq]; omega, fun p np => ?_⟩
      have e : Same H1 (upd H1 p (.tup xs)) := same_new np
      refine h (.ref p) A1 _ ⟨S1.same e, ?_⟩ le (k.trans (Keep.of_same e) fun b _ _ m => le.mz b m)
      simp only [Rep]
      exact ⟨p, xs, rfl, .inl ⟨.inl upd_same, S1.trk.new np⟩, r.same e⟩
theorem Res.newList {M : Addr → Prop} {H : Hp} {p : Addr} {ms : List MV} {xs : List V} (np : H p = none) (r : Reps (GX X) M H ms xs) : Res (GX X) M H (upd H p (.lst xs)) ⟨.own, .lst ms⟩ (.ref p) := by
  refine ⟨p, rfl, np, ?_⟩
  simp only [Own]
  refine ⟨xs, upd_same, r.keep (.of_same (same_new np)) fun b o hb m => ?_⟩
  rcases m with m | rfl
  · exact m
  · rw [np] at hb; cases hb
theorem re_lst {n : Nat} (ha : RA X es fa) (hn : Lim n fa) (hz : n ≤ 1000 := by decide) : RE X (.List es pos) (eLst fa) := fun W tk =>
  PE_imp (pe_lst (ha W tk)) fun σ H Q ⟨Z, A, γ, S, h⟩ => by
    refine ⟨Z, A, γ, S, ?_⟩
    unfold eLst at h
    cases E1 : fa γ with
    | no => rw [E1] at h; exact h
    | ex e γ1 => rw [E1] at h; exact h
    | ok ms γ1 =>
      rw [E1] at h
      intro xs A1 H1 S1 le k r
      refine ⟨by rw [r.len, hn _ _ _ E1, sizeLine_eq]; omega, fun p np => ?_⟩
      have e : Same H1 (upd H1 p (.lst xs)) := same_new np
      have r2 : HeldS (GX X) Z A1 γ1 σ H1 _ ⟨.own, .lst ms⟩ (.ref p) := Res.held S1 e (Res.newList np r)
      exact h (.ref p) A1 _ (r2.old fun a n => k.isnone n) le (k.trans (Keep.of_same e) fun b _ _ m => le.mz b m)
/-! ### subscripts -/
def ixM : MV → MV → Option Cell
  | .lst xs, .int i => (atI xs i).map fun v => ⟨.val, v⟩
  | .tup xs, .int i => (atI xs i).map fun v => ⟨.val, v⟩
  | .str z, .int i => if z.length ≤ sizeLine then (atI z.cps.toList i).map fun c => ⟨.val, .str ⟨#[c]⟩⟩ else none
  | _, _ => none
theorem Reps.at_ {G : GG} {M : Addr → Prop} {H : Hp} {ms : List MV} {vs : List V} {i : Int} {m : MV} (h : Reps G M H ms vs) (e : atI ms i = some m) : ∃ v, atI vs i = some v ∧ Rep G M H m v := by
  unfold atI at e ⊢
  rw [h.len]
  cases E : ixN ms.length i with
  | none => rw [E] at e; cases e
  | some j =>
    rw [E] at e
    exact h.get e
theorem re_ix (ha : RQ X a o) (hb : RQ X b q) (hs : PlainIx b := by intro _ _; rfl) : RE X (.Subscript a b pos) (e2 ixM o q) := fun W tk => by
  refine PE_imp (pe_ix ix_seq (ha W tk) (hb W tk) hs) fun σ H Q h => two (fun M v w c x y H Q tr e rv rw q => ?_) h
  cases v with
  | lst xs =>
    cases w with
    | int i =>
      rcases rw with rw | ⟨_, _, rw⟩ <;> simp only [Rep, Own] at rw
      subst rw
      unfold ixM at e
      simp only [Option.map_eq_some_iff] at e
      obtain ⟨m, e, rfl⟩ := e
      rcases rv with rv | ⟨p, rfl, rv⟩ <;> simp only [Rep, Own] at rv
      · obtain ⟨p, vs, rfl, h1, _, h2⟩ := rv
        obtain ⟨z, e1, r⟩ := h2.at_ e
        exact .inl ⟨p, vs, i, z, rfl, rfl, h1.sq, e1, q z H (.refl _) r⟩
      · obtain ⟨vs, h1, h2⟩ := rv
        obtain ⟨z, e1, r⟩ := h2.at_ e
        exact .inl ⟨p, vs, i, z, rfl, rfl, .of h1, e1, q z H (.refl _) r⟩
    | _ => cases e
  | tup xs =>
    cases w with
    | int i =>
      rcases rw with rw | ⟨_, _, rw⟩ <;> simp only [Rep, Own] at rw
      subst rw
      unfold ixM at e
      simp only [Option.map_eq_some_iff] at e
      obtain ⟨m, e, rfl⟩ := e
      rcases rv with rv | ⟨p, _, rv⟩ <;> simp only [Rep, Own] at rv
      obtain ⟨p, vs, rfl, h1, h2⟩ := rv
      obtain ⟨z, e1, r⟩ := h2.at_ e
      exact .inr (.inl ⟨p, vs, i, z, rfl, rfl, h1.sq, e1, q z H (.refl _) r⟩)
    | _ => cases e
  | str s =>
    cases w with
    | int i =>
      rcases rw with rw | ⟨_, _, rw⟩ <;> simp only [Rep, Own] at rw
      subst rw
      rcases rv with rv | ⟨p, _, rv⟩ <;> simp only [Rep, Own] at rv
      subst rv
      unfold ixM at e
      simp only at e
      split at e
      · rename_i hl
        simp only [Option.map_eq_some_iff] at e
        obtain ⟨m, e, rfl⟩ := e
        exact .inr (.inr ⟨s, i, m, rfl, rfl, hl, e, q _ H (.refl _) (by show Rep _ _ _ _ _; simp only [Rep])⟩)
      · cases e
    | _ => cases e
  | _ => cases w <;> cases e
end
end Mi

set_option Elab.async false
set_option linter.all false
set_option maxRecDepth 100000
set_option maxHeartbeats 4000000
/-! statements -/
namespace Mi
open PySem PySem.Spec PyProof.Rows L2 My

def AM.put (A : AM) (i : Nat) (a : Addr) : AM := fun j => if j = i then some a else A j
theorem AM.put_ne {A : AM} {i j : Nat} {a : Addr} (h : j ≠ i) : A.put i a j = A j := if_neg h
theorem AM.put_eq {A : AM} {i : Nat} {a : Addr} : A.put i a i = some a := if_pos rfl
/-- a slot that may be stored into -/
def canSet (γ : Sg) (i : Nat) : Bool := match γ[i]? with
  | some none => true
  | some (some ⟨.val, _⟩) => true
  | some (some ⟨.own, _⟩) => true
  | _ => false
theorem canSet_lt {γ : Sg} {i : Nat} (h : canSet γ i = true) : i < γ.length := by
  unfold canSet at h
  rcases Nat.lt_or_ge i γ.length with h1 | h1
  · exact h1
  · rw [List.getElem?_eq_none h1] at h; cases h
section
variable {G : GG} {Z : Ent} {A A' A0 : AM} {γ γ' : Sg} {σ σ' : L2.St} {H H' H0 H00 : Hp} {c d : Cell} {x y z : V} {v : MV} {W : WX}
/-- a slot is forgotten, whatever it held -/
theorem Sim.clear {i : Nat} (S : Sim G Z A γ σ H) : Sim G Z (A.del i) (γ.set i none) σ H := by
  have less : ∀ b, Mz Z (A.del i) b → Mz Z A b := fun b m => AM.del_le.mz b m
  refine ⟨by rw [List.length_set]; exact S.len, fun j c hj => ?_, fun j b hj => ?_, fun j k b hj hk => S.inj j k b (AM.del_le j b hj) (AM.del_le k b hk), S.mf, S.fr, S.new, S.tb⟩
  · by_cases hji : j = i
    · subst hji
      rw [List.getElem?_set] at hj
      simp only [if_true] at hj
      split at hj <;> cases hj
    · rw [List.getElem?_set_ne (Ne.symm hji)] at hj
      obtain ⟨y, h3, h4⟩ := S.cell j c hj
      exact ⟨y, h3, S.cellLe (AM.del_ne hji) less h4⟩
  · have hji : j ≠ i := fun z => by rw [z, AM.del_eq] at hj; cases hj
    rw [AM.del_ne hji] at hj
    rw [List.getElem?_set_ne (Ne.symm hji)]
    exact S.adr j b hj
/-- a value comes to a slot -/
theorem Sim.setVal {i : Nat} (S : Sim G Z A γ σ H) (hl : i < γ.length) (r : Rep G (Mz Z A) H v x) : Sim G Z (A.del i) (γ.set i (some ⟨.val, v⟩)) (σ.set i (some x)) H := by
  have less : ∀ b, Mz Z (A.del i) b → Mz Z A b := fun b m => AM.del_le.mz b m
  have hs : i < σ.length := by rw [← S.len]; exact hl
  refine ⟨by rw [List.length_set, List.length_set]; exact S.len, fun j c hj => ?_, fun j b hj => ?_, fun j k b hj hk => S.inj j k b (AM.del_le j b hj) (AM.del_le k b hk), S.mf, S.fr, S.new, S.tb⟩
  · by_cases hji : j = i
    · subst hji
      rw [List.getElem?_set_self hl] at hj
      cases hj
      exact ⟨x, List.getElem?_set_self hs, AM.del_eq, r.less less⟩
    · rw [List.getElem?_set_ne (Ne.symm hji)] at hj ⊢
      obtain ⟨y, h3, h4⟩ := S.cell j c hj
      exact ⟨y, h3, S.cellLe (AM.del_ne hji) less h4⟩
  · have hji : j ≠ i := fun z => by rw [z, AM.del_eq] at hj; cases hj
    rw [AM.del_ne hji] at hj
    rw [List.getElem?_set_ne (Ne.symm hji)]
    exact S.adr j b hj
/-- a new thing comes to a slot -/
theorem Sim.setOwn {i : Nat} {a : Addr} {o : HO} (S : Sim G (Z.wait a o) A γ σ H) (hl : i < γ.length) (h0 : Z.H0 a = none) (nm : ¬ Z.Mf a) (nf : ∀ o, ¬ Z.F a o) (r : Own G (Mz (Z.wait a o) A) H v a) :
    Sim G Z (A.put i a) (γ.set i (some ⟨.own, v⟩)) (σ.set i (some (.ref a))) H := by
  have less : ∀ b, Mz Z (A.put i a) b → Mz (Z.wait a o) A b := fun b m => (mz_wait b).mpr (m.elim (fun m => .inl (.inl m)) fun ⟨j, hj⟩ => by
    by_cases hji : j = i
    · rw [hji, AM.put_eq] at hj
      cases hj
      exact .inr rfl
    · rw [AM.put_ne hji] at hj
      exact .inl (.inr ⟨j, hj⟩))
  have hs : i < σ.length := by rw [← S.len]; exact hl
  refine ⟨by rw [List.length_set, List.length_set]; exact S.len, fun j c hj => ?_, fun j b hj => ?_, fun j k b hj hk => ?_, S.drop.mf, S.drop.fr, S.new, S.drop.tb⟩
  · by_cases hji : j = i
    · subst hji
      rw [List.getElem?_set_self hl] at hj
      cases hj
      exact ⟨_, List.getElem?_set_self hs, a, AM.put_eq, rfl, r.keep .refl (fun b _ _ m => less b m) fun _ z => z⟩
    · rw [List.getElem?_set_ne (Ne.symm hji)] at hj ⊢
      obtain ⟨y, h3, h4⟩ := S.cell j c hj
      exact ⟨y, h3, CellOk.keep (Z := Z.wait a o) (Z' := Z) (AM.put_ne hji) (fun p e => ⟨e, fun _ z => z⟩) .refl (fun b _ _ m => less b m) (fun _ _ _ z => z) h4⟩
  · by_cases hji : j = i
    · subst hji
      rw [AM.put_eq] at hj
      cases hj
      exact ⟨_, List.getElem?_set_self hl, nf, h0, nm⟩
    · rw [AM.put_ne hji] at hj
      rw [List.getElem?_set_ne (Ne.symm hji)]
      exact S.drop.adr j b hj
  · by_cases hji : j = i
    · by_cases hki : k = i
      · rw [hji, hki]
      · rw [hji, AM.put_eq] at hj
        cases hj
        rw [AM.put_ne hki] at hk
        exact absurd hk (S.wait_ne k)
    · rw [AM.put_ne hji] at hj
      by_cases hki : k = i
      · rw [hki, AM.put_eq] at hk
        cases hk
        exact absurd hj (S.wait_ne j)
      · rw [AM.put_ne hki] at hk
        exact S.inj j k b hj hk
/-- what an expression gave comes to a slot -/
theorem HeldS.store {i : Nat} (S0 : Sim G Z A0 γ' σ' H0) (h : HeldS G Z A γ σ H0 H c x) (hl : i < γ.length) : ∃ A', Sim G Z A' (γ.set i (some c)) (σ.set i (some x)) H ∧ ∀ b o, H0 b = some o → Mz Z A' b → Mz Z A b := by
  obtain ⟨k, v⟩ := c
  cases k with
  | val => exact ⟨_, h.1.setVal hl h.2, fun b _ _ m => AM.del_le.mz b m⟩
  | own =>
    obtain ⟨a, o, rfl, n, nm, r, S⟩ := h
    refine ⟨_, S.setOwn hl (S0.h0 n) nm (S0.nF n) r, fun b o hb m => m.elim .inl fun ⟨j, hj⟩ => ?_⟩
    by_cases hji : j = i
    · rw [hji, AM.put_eq] at hj
      cases hj
      rw [n] at hb
      cases hb
    · rw [AM.put_ne hji] at hj
      exact .inr ⟨j, hj⟩
  | io => exact h.elim
  | lown => exact h.elim
  | lio => exact h.elim
end

/-! ### blocks -/
def sNil : FS := fun γ => .nx γ
def sSeq (f g : FS) : FS := fun γ => match f γ with
  | .nx γ1 => g γ1
  | r => r
def PO' (X : Cx) : Prop := PassesOwn (model X.prog X.w) X.A X.env X.xe
/-- statements stand where exceptions pass -/
def QS (X : Cx) (st : Stmt) (f : FS) : Prop := PO' X → RS X st f
def QSs (X : Cx) (st : List Stmt) (f : FS) : Prop := PO' X → RSs X st f
section
variable {X : Cx} {a b e : Expr} {es : List Expr} {f : FE} {fa : FA} {o q : Opd} {pos : Pos} {g : MV → MV → Option Cell} {g1 : MV → Option Cell} {x : Str} {st : Stmt} {sts sts2 : List Stmt} {s s2 : FS} {t : FT}
theorem qs_nil : QSs X [] sNil := fun _ W tk => PSs_imp pss_nil fun D σ H ⟨Z, A, γ, S, h⟩ => h σ A H S .refl
theorem qs_cons (h1 : QS X st s) (h2 : QSs X sts s2) : QSs X (st :: sts) (sSeq s s2) := fun po W tk => PSs_imp (pss_cons (h1 po W tk) (h2 po W tk)) fun D σ H ⟨Z, A, γ, S, h⟩ => by
  refine ⟨Z, A, γ, S, ?_⟩
  unfold sSeq at h
  cases E : s γ with
  | nx γ1 =>
    rw [E] at h
    exact fun σ' A' H' S' s' => ⟨Z, A', γ1, S', h.mono s'⟩
  | rt c γ1 => rw [E] at h; exact h
  | bk γ1 => rw [E] at h; exact h
  | ct γ1 => rw [E] at h; exact h
  | ex e γ1 => rw [E] at h; exact h
  | no => rw [E] at h; exact h
theorem qs_one (h1 : QS X st s) : QSs X [st] s := fun po W tk => pss_one (h1 po W tk)
theorem qs_pass : QS X (.Pass pos) sNil := fun _ W tk => PS_imp ps_pass fun D σ H ⟨Z, A, γ, S, h⟩ => h σ A H S .refl
def sBreak : FS := fun γ => .bk γ
def sCont : FS := fun γ => .ct γ
theorem qs_break : QS X (.Break pos) sBreak := fun _ W tk => PS_imp ps_break fun D σ H ⟨Z, A, γ, S, h⟩ => h σ A H S .refl
theorem qs_cont : QS X (.Continue pos) sCont := fun _ W tk => PS_imp ps_continue fun D σ H ⟨Z, A, γ, S, h⟩ => h σ A H S .refl
def sExpr (f : FE) : FS := fun γ => match f γ with
  | .ok _ γ1 => .nx γ1
  | .ex e γ1 => .ex e γ1
  | .no => .no
theorem qs_expr (ha : RE X e f) (hs : swapsWith e none pos.line X.env = pure false := by rfl) : QS X (.Expr e pos) (sExpr f) := fun _ W tk => PS_imp (ps_expr (ha W tk) hs) fun D σ H ⟨Z, A, γ, S, h⟩ => by
  refine ⟨Z, A, γ, S, ?_⟩
  unfold sExpr at h
  cases E : f γ with
  | ok c γ1 => rw [E] at h; exact fun x A' H' hs le k => h σ A' H' hs.sim (.of le k)
  | ex e γ1 => rw [E] at h; exact fun A' H' cls d S' le k xr => h σ A' H' cls d S' (.of le k) xr
  | no => rw [E] at h; exact h
def sRet (f : FE) : FS := fun γ => match f γ with
  | .ok c γ1 => .rt c γ1
  | .ex e γ1 => .ex e γ1
  | .no => .no
theorem qs_ret (ha : RE X e f) : QS X (.Return (some e) pos) (sRet f) := fun _ W tk => PS_imp (ps_ret (ha W tk)) fun D σ H ⟨Z, A, γ, S, h⟩ => by
  refine ⟨Z, A, γ, S, ?_⟩
  unfold sRet at h
  cases E : f γ with
  | ok c γ1 => rw [E] at h; exact fun x A' H' hs le k => h x σ A' H' (hs.old fun a n => S.h0 n)
  | ex e γ1 => rw [E] at h; exact fun A' H' cls d S' le k xr => h σ A' H' cls d S' (.of le k) xr
  | no => rw [E] at h; exact h
def sRetN : FS := fun γ => .rt ⟨.val, .non⟩ γ
theorem qs_retN : QS X (.Return none pos) sRetN := fun _ W tk => PS_imp ps_retN fun D σ H ⟨Z, A, γ, S, h⟩ => h .non σ A H ⟨S, by simp only [Rep]⟩
/-- a list of one's own is handed out -/
def sRetV (i : Nat) : FS := fun γ => match γ[i]? with
  | some (some ⟨.val, v⟩) => .rt ⟨.val, v⟩ γ
  | some (some ⟨.own, v⟩) => .rt ⟨.own, v⟩ (γ.set i none)
  | _ => .no
theorem qs_retV {i : Nat} (ha : PE X e (tVar i)) : QS X (.Return (some e) pos) (sRetV i) := fun _ W tk => PS_imp (ps_ret ha) fun D σ H ⟨Z, A, γ, S, h⟩ => by
  show ∃ v, _ ∧ _
  unfold sRetV at h
  cases E : γ[i]? with
  | none => rw [E] at h; exact h.elim
  | some o =>
    cases o with
    | none => rw [E] at h; exact h.elim
    | some c =>
      rw [E] at h
      obtain ⟨k, v⟩ := c
      cases k with
      | val =>
        obtain ⟨x, h1, _, h2⟩ := S.cell i _ E
        exact ⟨x, h1, h x σ A H ⟨S, h2⟩⟩
      | own =>
        obtain ⟨x, h1, a, e, rfl, h2⟩ := S.cell i _ E
        obtain ⟨c', hc', nf, hk⟩ := S.adr i a e
        rw [E] at hc'
        cases hc'
        obtain ⟨o, ho⟩ := h2.on
        refine ⟨_, h1, h (.ref a) σ (A.del i) H ⟨a, o, rfl, hk.1, hk.2, ?_, ?_⟩⟩
        · refine h2.keep .refl (fun b _ _ m => ?_) fun _ z => z
          rcases (mz_wait b).mp m with m | rfl
          · exact AM.del_le.mz b m
          · exact .inr ⟨i, e⟩
        · have less : ∀ b, Mz (Z.wait a o) (A.del i) b → Mz Z A b := fun b m => ((mz_wait b).mp m).elim (fun m => AM.del_le.mz b m) fun z => .inr ⟨i, z ▸ e⟩
          refine ⟨by rw [List.length_set]; exact S.len, fun j c hj => ?_, fun j b hj => ?_, fun j k b hj hk => S.inj j k b (AM.del_le j b hj) (AM.del_le k b hk),
            fun b m => m.elim (S.mf b) fun z => ⟨o, z ▸ ho⟩, fun b u hb => hb.elim (S.fr b u) fun ⟨z, z'⟩ => by rw [z, z']; exact ho, S.new, S.tb.put (S.ownT e)⟩
          · by_cases hji : j = i
            · subst hji
              rw [List.getElem?_set] at hj
              simp only [if_true] at hj
              split at hj <;> cases hj
            · rw [List.getElem?_set_ne (Ne.symm hji)] at hj
              obtain ⟨y, h3, h4⟩ := S.cell j c hj
              exact ⟨y, h3, CellOk.keep (Z := Z) (Z' := Z.wait a o) (AM.del_ne hji) (fun p e => ⟨e, fun _ z => z⟩) .refl (fun b _ _ m => less b m) (fun _ _ _ z => z) h4⟩
          · have hji : j ≠ i := fun z => by rw [z, AM.del_eq] at hj; cases hj
            rw [AM.del_ne hji] at hj
            rw [List.getElem?_set_ne (Ne.symm hji)]
            obtain ⟨c, h3, h4, h5⟩ := S.adr j b hj
            have nb : b ≠ a := fun z => hji (S.inj j i a (z ▸ hj) e)
            refine ⟨c, h3, fun u hu => hu.elim (h4 u) fun z => nb z.1, ?_⟩
            obtain ⟨k, w⟩ := c
            cases k with
            | val => exact h5
            | own => exact ⟨h5.1, fun m => m.elim h5.2 nb⟩
            | lown => exact h5
            | io => exact ⟨h5.1, .inl h5.2⟩
            | lio => exact h5
      | io => exact h.elim
      | lown => exact h.elim
      | lio => exact h.elim
def sIf (t : FT) (s s2 : FS) : FS := fun γ => match t γ with
  | .ok true γ1 => s γ1
  | .ok false γ1 => s2 γ1
  | .ex e γ1 => .ex e γ1
  | .no => .no
theorem qs_if (ht : RT X e t) (h1 : QSs X sts s) (h2 : QSs X sts2 s2) : QS X (.If e sts sts2 pos) (sIf t s s2) := fun po W tk => PS_imp (ps_if (ht W tk) (h1 po W tk) (h2 po W tk)) fun D σ H ⟨Z, A, γ, S, h⟩ => by
  refine ⟨Z, A, γ, S, ?_⟩
  unfold sIf at h
  cases E : t γ with
  | no => rw [E] at h; exact h
  | ex e γ1 => rw [E] at h; exact fun A' H' cls d S' le k xr => h σ A' H' cls d S' (.of le k) xr
  | ok b γ1 =>
    rw [E] at h
    intro A' H' S' le k
    cases b with
    | true => simp only [if_true]; exact ⟨Z, A', γ1, S', h.mono (.of le k)⟩
    | false => simp only [Bool.false_eq_true, if_false]; exact ⟨Z, A', γ1, S', h.mono (.of le k)⟩
/-- so many turns at most -/
def whileM (t : FT) (s : FS) : Nat → FS
  | 0, _ => .no
  | n + 1, γ => match t γ with
    | .ok true γ1 => (match s γ1 with
      | .nx γ2 => whileM t s n γ2
      | .ct γ2 => whileM t s n γ2
      | .bk γ2 => .nx γ2
      | .rt c γ2 => .rt c γ2
      | .ex e γ2 => .ex e γ2
      | .no => .no)
    | .ok false γ1 => .nx γ1
    | .ex e γ1 => .ex e γ1
    | .no => .no
def sWhile (n : Nat) (t : FT) (s : FS) : FS := whileM t s n
theorem qs_while {n : Nat} (ht : RT X e t) (h1 : QSs X sts s) : QS X (.While e sts [] pos) (sWhile n t s) := fun po W tk => PS_imp (ps_while po (ht W tk) (h1 po W tk)) fun D σ H ⟨Z, A, γ, S, h⟩ => by
  refine ⟨fun m σ H => ∃ A γ, Sim (GX X) Z A γ σ H ∧ EndS (GX X) Z W D A H (whileM t s m γ), ⟨n, A, γ, S, h⟩, ?_⟩
  rintro m σ H ⟨A, γ, S, h⟩
  refine ⟨Z, A, γ, S, ?_⟩
  cases m with
  | zero => exact h.elim
  | succ m =>
    unfold whileM at h
    cases E : t γ with
    | no => rw [E] at h; exact h
    | ex e γ1 => rw [E] at h; exact fun A' H' cls d S' le k xr => h σ A' H' cls d S' (.of le k) xr
    | ok b γ1 =>
      rw [E] at h
      intro A' H' S' le k
      cases b with
      | false => simp only [Bool.false_eq_true, if_false]; exact h σ A' H' S' (.of le k)
      | true =>
        simp only [if_true]
        refine ⟨fun σ' H' => ∃ A γ, Sim (GX X) Z A γ σ' H' ∧ EndS (GX X) Z W D A H' (whileM t s m γ), fun σ' H' q => ⟨m, Nat.lt_succ_self m, q⟩, Z, A', γ1, S', ?_⟩
        simp only at h
        replace h := h.mono (.of le k)
        cases E2 : s γ1 with
        | nx γ2 => rw [E2] at h; exact fun σ' A2 H2 S2 s2 => ⟨A2, γ2, S2, h.mono s2⟩
        | ct γ2 => rw [E2] at h; exact fun σ' A2 H2 S2 s2 => ⟨A2, γ2, S2, h.mono s2⟩
        | bk γ2 => rw [E2] at h; exact fun σ' A2 H2 S2 s2 => h σ' A2 H2 S2 s2
        | rt c γ2 => rw [E2] at h; exact h
        | ex e γ2 => rw [E2] at h; exact h
        | no => rw [E2] at h; exact h
/-! ### stores to names -/
def sSet (i : Nat) (f : FE) : FS := fun γ => match f γ with
  | .ok c γ1 => if canSet γ1 i then .nx (γ1.set i (some c)) else .no
  | .ex e γ1 => .ex e γ1
  | .no => .no
/-- the end of a store to a name -/
theorem set_end {Z : Ent} {A : AM} {γ : Sg} {σ : L2.St} {H : Hp} {W : WX} {D : Ends} {i : Nat} (S : Sim (GX X) Z A γ σ H) (h : EndS (GX X) Z W D A H (sSet i f γ)) : EndE (GX X) Z W A σ H (fun x H1 => gName i x σ H1 D.nx) (f γ) := by
  unfold sSet at h
  cases E : f γ with
  | no => rw [E] at h; exact h
  | ex e γ1 => rw [E] at h; exact fun A' H' cls d S' le k xr => h σ A' H' cls d S' (.of le k) xr
  | ok c γ1 =>
    rw [E] at h
    simp only at h
    intro x A' H' hs le k
    cases E2 : canSet γ1 i with
    | false => rw [E2] at h; exact h.elim
    | true =>
      rw [E2] at h
      simp only [if_true] at h
      obtain ⟨A2, S2, m2⟩ := hs.store S (canSet_lt E2)
      exact h _ A2 H' S2 ⟨k, fun b o hb m => le.mz b (m2 b o hb m)⟩
theorem qs_set {i : Nat} {pos' : Pos} (hN : X.N.Nodup) (hi : X.N[i]? = some x) (hx : Loc X.env.scope x) (ha : RE X e f) (hs : swapsWith e (some (.Name x pos')) pos.line X.env = pure false := by rfl) (hf : X.fn x = true ∨ X.env.scope.names.lookup x = some .local := by first | exact .inl rfl | exact .inr rfl | assumption) :
    QS X (.Assign [.Name x pos'] e pos) (sSet i f) := fun _ W tk => PS_imp (ps_set hN hi hx (ha W tk) hs hf) fun D σ H ⟨Z, A, γ, S, h⟩ => ⟨Z, A, γ, S, set_end S h⟩
/-! a, b = x, y; a, b, c = x, y, z -/
def put2 (i j : Nat) (c d : Cell) (γ : Sg) : RO := if canSet γ i && canSet γ j then .nx ((γ.set i (some c)).set j (some d)) else .no
def sPar (i j : Nat) (f f2 : FE) : FS := fun γ => match f γ with
  | .ok c γ1 => (match f2 γ1 with
    | .ok d γ2 => put2 i j c d γ2
    | .ex e γ2 => .ex e γ2
    | .no => .no)
  | .ex e γ1 => .ex e γ1
  | .no => .no
def put3 (i j l : Nat) (c d u : Cell) (γ : Sg) : RO := if canSet γ i && canSet γ j && canSet γ l then .nx (((γ.set i (some c)).set j (some d)).set l (some u)) else .no
def sPar3 (i j l : Nat) (f f2 f3 : FE) : FS := fun γ => match f γ with
  | .ok c γ1 => (match f2 γ1 with
    | .ok d γ2 => (match f3 γ2 with
      | .ok u γ3 => put3 i j l c d u γ3
      | .ex e γ3 => .ex e γ3
      | .no => .no)
    | .ex e γ2 => .ex e γ2
    | .no => .no)
  | .ex e γ1 => .ex e γ1
  | .no => .no
end
/-! ### what is held while more is reckoned -/
/-- held: a value, or a thing that waits -/
def Wait (G : GG) (Z Z1 : Ent) (A : AM) (H0 H : Hp) (c : Cell) (x : V) : Prop := match c.k with
  | .val => Z1 = Z ∧ Rep G (Mz Z1 A) H c.v x
  | .own => ∃ a o, x = .ref a ∧ H0 a = none ∧ ¬ Z.Mf a ∧ (∀ u, ¬ Z.F a u) ∧ Z1 = Z.wait a o ∧ Own G (Mz Z1 A) H c.v a
  | _ => False
section
variable {G : GG} {Z Z1 Z2 : Ent} {A A' A0 : AM} {γ γ' : Sg} {σ σ' : L2.St} {H H' H0 H00 : Hp} {c d : Cell} {x y z : V} {v : MV} {W : WX}
theorem HeldS.wait (S0 : Sim G Z A0 γ' σ' H0) (h : HeldS G Z A γ σ H0 H c x) : ∃ Z1, Sim G Z1 A γ σ H ∧ Wait G Z Z1 A H0 H c x ∧ (∀ {A γ σ H}, Sim G Z1 A γ σ H → Sim G Z A γ σ H) ∧ Z1.H0 = Z.H0 ∧ ∀ a, Mz Z1 A a → Mz Z A a ∨ H0 a = none := by
  obtain ⟨k, v⟩ := c
  cases k with
  | val => exact ⟨Z, h.1, ⟨rfl, h.2⟩, fun S => S, rfl, fun a m => .inl m⟩
  | own =>
    obtain ⟨a, o, rfl, n, nm, r, S⟩ := h
    exact ⟨_, S, ⟨a, o, rfl, n, nm, S0.nF n, rfl, r⟩, fun S => S.drop, rfl, fun b m => by
      rcases (mz_wait b).mp m with m | rfl
      · exact .inl m
      · exact .inr n⟩
  | io => exact h.elim
  | lown => exact h.elim
  | lio => exact h.elim
theorem Wait.step (h : Wait G Z Z1 A H0 H c x) (S : Sim G Z1 A γ σ H) (S' : Sim G Z1 A' γ' σ' H') (le : Le A' A) (k : Keep (Mz Z1 A) H H') : Wait G Z Z1 A' H0 H' c x := by
  obtain ⟨kk, v⟩ := c
  cases kk with
  | val => exact ⟨h.1, h.2.keep k fun b _ _ m => le.mz b m⟩
  | own =>
    obtain ⟨a, o, rfl, n, nm, nf, rfl, r⟩ := h
    refine ⟨a, o, rfl, n, nm, nf, rfl, r.keep k (fun b _ _ m => le.mz b m) fun u hu => ?_⟩
    rw [S.waits] at hu
    cases hu
    exact S'.waits
  | io => exact h.elim
  | lown => exact h.elim
  | lio => exact h.elim
/-- it comes to a slot; another thing, of a further entry, goes on waiting -/
theorem Wait.put {i : Nat} (h0 : ∀ a, H0 a = none → Z.H0 a = none) (h : Wait G Z Z1 A H0 H c x) (S : Sim G Z1 A γ σ H) (hl : i < γ.length) : ∃ A', Sim G Z A' (γ.set i (some c)) (σ.set i (some x)) H ∧ ∀ b, Mz Z A' b → Mz Z1 A b := by
  obtain ⟨kk, v⟩ := c
  cases kk with
  | val =>
    obtain ⟨rfl, r⟩ := h
    exact ⟨_, S.setVal hl r, fun b m => AM.del_le.mz b m⟩
  | own =>
    obtain ⟨a, o, rfl, n, nm, nf, rfl, r⟩ := h
    refine ⟨_, S.setOwn hl (h0 a n) nm nf r, fun b m => (mz_wait b).mpr (m.elim (fun m => .inl (.inl m)) fun ⟨j, hj⟩ => ?_)⟩
    by_cases hji : j = i
    · rw [hji, AM.put_eq] at hj
      cases hj
      exact .inr rfl
    · rw [AM.put_ne hji] at hj
      exact .inl (.inr ⟨j, hj⟩)
  | io => exact h.elim
  | lown => exact h.elim
  | lio => exact h.elim
theorem Wait.keep' (h : Wait G Z Z1 A H0 H c x) (S : Sim G Z1 A γ σ H) (S' : Sim G Z1 A' γ' σ' H') (k : Keep (Mz Z1 A) H H') (m : ∀ b o, H b = some o → Mz Z1 A' b → Mz Z1 A b) : Wait G Z Z1 A' H0 H' c x := by
  obtain ⟨kk, v⟩ := c
  cases kk with
  | val => exact ⟨h.1, h.2.keep k m⟩
  | own =>
    obtain ⟨a, o, rfl, n, nm, nf, rfl, r⟩ := h
    refine ⟨a, o, rfl, n, nm, nf, rfl, r.keep k m fun u hu => ?_⟩
    rw [S.waits] at hu
    cases hu
    exact S'.waits
  | io => exact h.elim
  | lown => exact h.elim
  | lio => exact h.elim
end
section
variable {X : Cx} {a b c : Expr} {f f2 f3 : FE} {pos : Pos}
theorem canSet_set {γ : Sg} {i j : Nat} {c : Option Cell} (h : i < γ.length) : i < (γ.set j c).length := by rw [List.length_set]; exact h
theorem par_core {i j : Nat} (hij : i ≠ j) {W : WX} {D : Ends} {σ : L2.St} {H : Hp} {R : List V → Hp → Prop} (hR : ∀ v w H2, D.nx ((σ.set i (some v)).set j (some w)) H2 → R [v, w] H2) (h : tMS (GX X) (sPar i j f f2) W D σ H) :
    tCons (tME (GX X) f W) (tCons (tME (GX X) f2 W) tNil) σ H R := by
    obtain ⟨Z, A, γ, S, h⟩ := h
    refine ⟨Z, A, γ, S, ?_⟩
    unfold sPar at h
    cases E1 : f γ with
    | no => rw [E1] at h; exact h
    | ex e γ1 => rw [E1] at h; exact fun A' H' cls d S' le k xr => h σ A' H' cls d S' (.of le k) xr
    | ok c γ1 =>
      rw [E1] at h
      simp only at h
      intro v A1 H1 hs1 le1 k1
      obtain ⟨Z1, S1, w1, un1, z1, m1⟩ := hs1.wait S
      refine ⟨Z1, A1, γ1, S1, ?_⟩
      cases E2 : f2 γ1 with
      | no => rw [E2] at h; exact h
      | ex e γ2 =>
        rw [E2] at h
        intro A2 H2 cls d S2 le2 k2 xr
        refine h σ A2 H2 cls d (un1 S2) ⟨k1.trans k2 fun b o hb m => (m1 b m).elim (fun m => le1.mz b m) fun n => (by rw [n] at hb; cases hb), fun b o hb m => (le2.trans le1).mz b m⟩ ⟨xr.1, ?_⟩
        have q := xr.2
        revert q
        cases e.fs with
        | nil => exact fun q => q
        | cons p ps =>
          rintro ⟨a, vs, q1, q2, q3, q4⟩
          have less : ∀ b, Mz Z A2 b → Mz Z1 A2 b := fun b m => by
            obtain ⟨kk, vv⟩ := c
            cases kk with
            | val => rw [w1.1]; exact m
            | own => obtain ⟨_, _, _, _, _, _, e, _⟩ := w1; rw [e]; exact (mz_wait b).mpr (.inl m)
            | io => exact w1.elim
            | lown => exact w1.elim
            | lio => exact w1.elim
          exact ⟨a, vs, q1, q2, fun m => q3 (less a m), q4.keep .refl fun b _ _ m => less b m⟩
      | ok d γ2 =>
        rw [E2] at h
        intro w A2 H2 hs2 le2 k2
        simp only [put2] at h
        cases E3 : canSet γ2 i && canSet γ2 j with
        | false => rw [E3] at h; exact h.elim
        | true =>
          rw [E3] at h
          simp only [Bool.and_eq_true] at E3
          obtain ⟨ci, cj⟩ := E3
          obtain ⟨Z2, S2, w2, un2, z2, m2⟩ := hs2.wait S1
          obtain ⟨A3, S3, m3⟩ := w2.put (i := j) (fun a n => by rw [z1]; exact S.h0 (k1.isnone n)) S2 (canSet_lt cj)
          have w1' := w1.keep' S1 S3 k2 fun b o hb m => (m2 b (m3 b m)).elim (fun m => le2.mz b m) fun n => by rw [n] at hb; cases hb
          obtain ⟨A4, S4, m4⟩ := w1'.put (i := i) (fun a n => S.h0 n) S3 (canSet_set (canSet_lt ci))
          rw [List.set_comm _ _ (Ne.symm hij), List.set_comm _ _ (Ne.symm hij)] at S4
          have k12 : Keep (Mz Z A) H H2 := k1.trans k2 fun b o hb m => (m1 b m).elim (fun m => le1.mz b m) fun n => by rw [n] at hb; cases hb
          refine hR v w H2 (h _ A4 H2 S4 ⟨k12, fun b o hb m => ?_⟩)
          obtain ⟨o1, hb1⟩ := k1.on b o hb
          rcases m2 b (m3 b (m4 b m)) with m | n
          · rcases m1 b (le2.mz b m) with m | n
            · exact le1.mz b m
            · rw [n] at hb; cases hb
          · rw [n] at hb1; cases hb1
theorem qs_par {i j : Nat} {x y : Str} {px py pt : Pos} {kt k2 pt2} (hc : X.calm = true) (hN : X.N.Nodup) (hi : X.N[i]? = some x) (hj : X.N[j]? = some y) (hij : i ≠ j)
    (hx : X.env.scope.names.lookup x = some .local) (hy : X.env.scope.names.lookup y = some .local) (ha : RE X a f) (hb : RE X b f2)
    (hw : swappedStores [.Tuple [.Name x px, .Name y py] kt pt] (.Tuple [a, b] k2 pt2) X.env = pure (some [x, y]))
    (hs : swapsWithSole [.Tuple [.Name x px, .Name y py] kt pt] (.Tuple [a, b] k2 pt2) pos.line X.env = pure false := by rfl)
    (h1 : starEach [a, b] X.env = (false, eval a X.env) :: starEach [b] X.env := by rfl) (h2 : starEach [b] X.env = (false, eval b X.env) :: starEach [] X.env := by rfl) :
    QS X (.Assign [.Tuple [.Name x px, .Name y py] kt pt] (.Tuple [a, b] k2 pt2) pos) (sPar i j f f2) := fun _ W tk =>
  PS_imp (ps_par hc hN hi hj hij hx hy (pa_cons (ha W tk) (pa_cons (hb W tk) pa_nil h2) h1) hw hs) fun D σ H h => par_core hij (fun v w H2 q => ⟨v, w, rfl, q⟩) h
theorem EndS.same' {G : GG} {Z : Ent} {W : WX} {D : Ends} {A : AM} {H : Hp} {r : RO} (h : EndS G Z W D A H r) : EndS G Z W { D with nx := fun σ H => ∀ H', Same H H' → D.nx σ H' } A H r := by
  cases r with
  | nx γ => exact fun σ' A' H' S st H'' e => h σ' A' H'' (S.same e) (st.trans (.of_same e))
  | rt c γ => exact h
  | bk γ => exact h
  | ct γ => exact h
  | ex e γ => exact h
  | no => exact h
/-- .. where the names stand in cells: by way of a tuple -/
theorem qs_parA {i j : Nat} {x y : Str} {px py pt : Pos} {kt k2 pt2} (hc : X.calm = true) (hN : X.N.Nodup) (hi : X.N[i]? = some x) (hj : X.N[j]? = some y) (hij : i ≠ j) (hx : Loc X.env.scope x) (hy : Loc X.env.scope y) (ha : RE X a f) (hb : RE X b f2)
    (hs : swapsWithSole [.Tuple [.Name x px, .Name y py] kt pt] (.Tuple [a, b] k2 pt2) pos.line X.env = pure false := by rfl) (hw : swappedStores [.Tuple [.Name x px, .Name y py] kt pt] (.Tuple [a, b] k2 pt2) X.env = pure none := by rfl)
    (h0 : (assignEach [.Tuple [.Name x px, .Name y py] kt pt] X.env).map (·.2) = [assign (.Tuple [.Name x px, .Name y py] kt pt) X.env] := by rfl)
    (h1 : starEach [a, b] X.env = (false, eval a X.env) :: starEach [b] X.env := by rfl) (h2 : starEach [b] X.env = (false, eval b X.env) :: starEach [] X.env := by rfl)
    (hn : (assignEach [.Name x px, .Name y py] X.env).length = 2 := by rfl) (hst : (assignEach [.Name x px, .Name y py] X.env).findIdx? (·.1) = none := by rfl)
    (hc1 : (assignEach [.Name x px, .Name y py] X.env).map (·.2) = assign (.Name x px) X.env :: (assignEach [.Name y py] X.env).map (·.2) := by rfl) (hc2 : (assignEach [.Name y py] X.env).map (·.2) = assign (.Name y py) X.env :: (assignEach [] X.env).map (·.2) := by rfl)
    (hf : X.fn x = true ∨ X.env.scope.names.lookup x = some .local := by first | exact .inl rfl | exact .inr rfl) (hf2 : X.fn y = true ∨ X.env.scope.names.lookup y = some .local := by first | exact .inl rfl | exact .inr rfl) :
    QS X (.Assign [.Tuple [.Name x px, .Name y py] kt pt] (.Tuple [a, b] k2 pt2) pos) (sPar i j f f2) := fun _ W tk =>
  PS_imp (ps_asg (pe_tup (pa_cons (ha W tk) (pa_cons (hb W tk) pa_nil h2) h1)) (pg_tup hc (pgs_cons (pg_name hN hi hx hf) (pgs_cons (pg_name hN hj hy hf2) pgs_nil hc2) hc1) hn hst) hs hw h0) fun D σ H ⟨Z, A, γ, S, h⟩ => by
    unfold tAsg tTup
    exact par_core hij (D := { D with nx := fun σ H => ∀ H', Same H H' → D.nx σ H' }) (fun v w H2 q => ⟨by show 2 ≤ sizeLine; rw [sizeLine_eq]; omega, fun p np => ⟨p, [v, w], rfl, .inl (.inl upd_same), rfl, v, [w], rfl, w, [], rfl, rfl, q _ (same_new np)⟩⟩) ⟨Z, A, γ, S, h.same'⟩
theorem par3_core {i j l : Nat} (hij : i ≠ j) (hil : i ≠ l) (hjl : j ≠ l) {W : WX} {D : Ends} {σ : L2.St} {H : Hp} {R : List V → Hp → Prop} (hR : ∀ v w y H2, D.nx (((σ.set i (some v)).set j (some w)).set l (some y)) H2 → R [v, w, y] H2) (h : tMS (GX X) (sPar3 i j l f f2 f3) W D σ H) :
    tCons (tME (GX X) f W) (tCons (tME (GX X) f2 W) (tCons (tME (GX X) f3 W) tNil)) σ H R := by
    obtain ⟨Z, A, γ, S, h⟩ := h
    have xdrop : ∀ {Z Z1 : Ent} {A1 A2 : AM} {H0 H1 H2 : Hp} {c : Cell} {v : V} {e : Ex} {cls : Value} {d : Option Addr}, Wait (GX X) Z Z1 A1 H0 H1 c v → ExRep (GX X) (Mz Z1 A2) H2 e cls d → ExRep (GX X) (Mz Z A2) H2 e cls d := fun {Z Z1 A1 A2 H0 H1 H2 c v e cls d} w1 xr => by
      refine ⟨xr.1, ?_⟩
      have q := xr.2
      revert q
      cases e.fs with
      | nil => exact fun q => q
      | cons p ps =>
        rintro ⟨a, vs, q1, q2, q3, q4⟩
        have less : ∀ b, Mz Z A2 b → Mz Z1 A2 b := fun b m => by
          obtain ⟨kk, vv⟩ := c
          cases kk with
          | val => rw [w1.1]; exact m
          | own => obtain ⟨_, _, _, _, _, _, e, _⟩ := w1; rw [e]; exact (mz_wait b).mpr (.inl m)
          | io => exact w1.elim
          | lown => exact w1.elim
          | lio => exact w1.elim
        exact ⟨a, vs, q1, q2, fun m => q3 (less a m), q4.keep .refl fun b _ _ m => less b m⟩
    refine ⟨Z, A, γ, S, ?_⟩
    unfold sPar3 at h
    cases E1 : f γ with
    | no => rw [E1] at h; exact h
    | ex e γ1 => rw [E1] at h; exact fun A' H' cls d S' le k xr => h σ A' H' cls d S' (.of le k) xr
    | ok c γ1 =>
      rw [E1] at h
      simp only at h
      intro v A1 H1 hs1 le1 k1
      obtain ⟨Z1, S1, w1, un1, z1, m1⟩ := hs1.wait S
      refine ⟨Z1, A1, γ1, S1, ?_⟩
      cases E2 : f2 γ1 with
      | no => rw [E2] at h; exact h
      | ex e γ2 =>
        rw [E2] at h
        exact fun A2 H2 cls d S2 le2 k2 xr => h σ A2 H2 cls d (un1 S2) ⟨k1.trans k2 fun b o hb m => (m1 b m).elim (fun m => le1.mz b m) fun n => (by rw [n] at hb; cases hb), fun b o hb m => (le2.trans le1).mz b m⟩ (xdrop w1 xr)
      | ok d γ2 =>
        rw [E2] at h
        simp only at h
        intro w A2 H2 hs2 le2 k2
        obtain ⟨Z2, S2, w2, un2, z2, m2⟩ := hs2.wait S1
        have k12 : Keep (Mz Z A) H H2 := k1.trans k2 fun b o hb m => (m1 b m).elim (fun m => le1.mz b m) fun n => by rw [n] at hb; cases hb
        have m12 : ∀ b o, H b = some o → Mz Z2 A2 b → Mz Z A b := fun b o hb m => by
          obtain ⟨o1, hb1⟩ := k1.on b o hb
          rcases m2 b m with m | n
          · rcases m1 b (le2.mz b m) with m | n
            · exact le1.mz b m
            · rw [n] at hb; cases hb
          · rw [n] at hb1; cases hb1
        refine ⟨Z2, A2, γ2, S2, ?_⟩
        cases E4 : f3 γ2 with
        | no => rw [E4] at h; exact h
        | ex e γ3 =>
          rw [E4] at h
          exact fun A3 H3 cls d S3 le3 k3 xr => h σ A3 H3 cls d (un1 (un2 S3)) ⟨k12.trans k3 m12, fun b o hb m => (le3.trans (le2.trans le1)).mz b m⟩ (xdrop w1 (xdrop w2 xr))
        | ok u γ3 =>
          rw [E4] at h
          intro y A3 H3 hs3 le3 k3
          simp only [put3] at h
          cases E3 : canSet γ3 i && canSet γ3 j && canSet γ3 l with
          | false => rw [E3] at h; exact h.elim
          | true =>
            rw [E3] at h
            simp only [Bool.and_eq_true] at E3
            obtain ⟨⟨ci, cj⟩, cl⟩ := E3
            obtain ⟨Z3, S3, w3, un3, z3, m3⟩ := hs3.wait S2
            obtain ⟨A4, S4, m4⟩ := w3.put (i := l) (fun a n => by rw [z2, z1]; exact S.h0 (k1.isnone (k2.isnone n))) S3 (canSet_lt cl)
            have w2' := w2.keep' S2 S4 k3 fun b o hb m => (m3 b (m4 b m)).elim (fun m => le3.mz b m) fun n => by rw [n] at hb; cases hb
            obtain ⟨A5, S5, m5⟩ := w2'.put (i := j) (fun a n => by rw [z1]; exact S.h0 (k1.isnone n)) S4 (canSet_set (canSet_lt cj))
            have k13 : Keep (Mz Z1 A1) H1 H3 := k2.trans k3 fun b o hb m => (m2 b m).elim (fun m => le2.mz b m) fun n => by rw [n] at hb; cases hb
            have w1' := w1.keep' S1 S5 k13 fun b o hb m => by
              obtain ⟨o2, hb2⟩ := k2.on b o hb
              rcases m3 b (m4 b (m5 b m)) with m | n
              · rcases m2 b (le3.mz b m) with m | n
                · exact le2.mz b m
                · rw [n] at hb; cases hb
              · rw [n] at hb2; cases hb2
            obtain ⟨A6, S6, m6⟩ := w1'.put (i := i) (fun a n => S.h0 n) S5 (canSet_set (canSet_set (canSet_lt ci)))
            rw [List.set_comm _ _ (Ne.symm hij), List.set_comm _ _ (Ne.symm hij), List.set_comm _ _ (Ne.symm hil), List.set_comm _ _ (Ne.symm hil), List.set_comm _ _ (Ne.symm hjl), List.set_comm _ _ (Ne.symm hjl)] at S6
            refine hR v w y H3 (h _ A6 H3 S6 ⟨k12.trans k3 m12, fun b o hb m => ?_⟩)
            obtain ⟨o2, hb2⟩ := k12.on b o hb
            rcases m3 b (m4 b (m5 b (m6 b m))) with m | n
            · exact m12 b o hb (le3.mz b m)
            · rw [n] at hb2; cases hb2
theorem qs_par3 {i j l : Nat} {x y z : Str} {px py pz pt : Pos} {kt k2 pt2} (hc : X.calm = true) (hN : X.N.Nodup) (hi : X.N[i]? = some x) (hj : X.N[j]? = some y) (hl : X.N[l]? = some z) (hij : i ≠ j) (hil : i ≠ l) (hjl : j ≠ l)
    (hx : X.env.scope.names.lookup x = some .local) (hy : X.env.scope.names.lookup y = some .local) (hz : X.env.scope.names.lookup z = some .local) (ha : RE X a f) (hb : RE X b f2) (hcc : RE X c f3)
    (hw : swappedStores [.Tuple [.Name x px, .Name y py, .Name z pz] kt pt] (.Tuple [a, b, c] k2 pt2) X.env = pure (some [x, y, z]))
    (hs : swapsWithSole [.Tuple [.Name x px, .Name y py, .Name z pz] kt pt] (.Tuple [a, b, c] k2 pt2) pos.line X.env = pure false := by rfl)
    (h1 : starEach [a, b, c] X.env = (false, eval a X.env) :: starEach [b, c] X.env := by rfl) (h2 : starEach [b, c] X.env = (false, eval b X.env) :: starEach [c] X.env := by rfl) (h3 : starEach [c] X.env = (false, eval c X.env) :: starEach [] X.env := by rfl) :
    QS X (.Assign [.Tuple [.Name x px, .Name y py, .Name z pz] kt pt] (.Tuple [a, b, c] k2 pt2) pos) (sPar3 i j l f f2 f3) := fun _ W tk =>
  PS_imp (ps_par3 hc hN hi hj hl hij hil hjl hx hy hz (pa_cons (ha W tk) (pa_cons (hb W tk) (pa_cons (hcc W tk) pa_nil h3) h2) h1) hw hs) fun D σ H h => par3_core hij hil hjl (fun v w y H2 q => ⟨v, w, y, rfl, q⟩) h
theorem qs_par3A {i j l : Nat} {x y z : Str} {px py pz pt : Pos} {kt k2 pt2} (hc : X.calm = true) (hN : X.N.Nodup) (hi : X.N[i]? = some x) (hj : X.N[j]? = some y) (hl : X.N[l]? = some z) (hij : i ≠ j) (hil : i ≠ l) (hjl : j ≠ l) (hx : Loc X.env.scope x) (hy : Loc X.env.scope y) (hz : Loc X.env.scope z) (ha : RE X a f) (hb : RE X b f2) (hcc : RE X c f3)
    (hs : swapsWithSole [.Tuple [.Name x px, .Name y py, .Name z pz] kt pt] (.Tuple [a, b, c] k2 pt2) pos.line X.env = pure false := by rfl) (hw : swappedStores [.Tuple [.Name x px, .Name y py, .Name z pz] kt pt] (.Tuple [a, b, c] k2 pt2) X.env = pure none := by rfl)
    (h0 : (assignEach [.Tuple [.Name x px, .Name y py, .Name z pz] kt pt] X.env).map (·.2) = [assign (.Tuple [.Name x px, .Name y py, .Name z pz] kt pt) X.env] := by rfl)
    (h1 : starEach [a, b, c] X.env = (false, eval a X.env) :: starEach [b, c] X.env := by rfl) (h2 : starEach [b, c] X.env = (false, eval b X.env) :: starEach [c] X.env := by rfl) (h3 : starEach [c] X.env = (false, eval c X.env) :: starEach [] X.env := by rfl)
    (hn : (assignEach [.Name x px, .Name y py, .Name z pz] X.env).length = 3 := by rfl) (hst : (assignEach [.Name x px, .Name y py, .Name z pz] X.env).findIdx? (·.1) = none := by rfl)
    (hc1 : (assignEach [.Name x px, .Name y py, .Name z pz] X.env).map (·.2) = assign (.Name x px) X.env :: (assignEach [.Name y py, .Name z pz] X.env).map (·.2) := by rfl) (hc2 : (assignEach [.Name y py, .Name z pz] X.env).map (·.2) = assign (.Name y py) X.env :: (assignEach [.Name z pz] X.env).map (·.2) := by rfl)
    (hc3 : (assignEach [.Name z pz] X.env).map (·.2) = assign (.Name z pz) X.env :: (assignEach [] X.env).map (·.2) := by rfl)
    (hf : X.fn x = true ∨ X.env.scope.names.lookup x = some .local := by first | exact .inl rfl | exact .inr rfl) (hf2 : X.fn y = true ∨ X.env.scope.names.lookup y = some .local := by first | exact .inl rfl | exact .inr rfl) (hf3 : X.fn z = true ∨ X.env.scope.names.lookup z = some .local := by first | exact .inl rfl | exact .inr rfl) :
    QS X (.Assign [.Tuple [.Name x px, .Name y py, .Name z pz] kt pt] (.Tuple [a, b, c] k2 pt2) pos) (sPar3 i j l f f2 f3) := fun _ W tk =>
  PS_imp (ps_asg (pe_tup (pa_cons (ha W tk) (pa_cons (hb W tk) (pa_cons (hcc W tk) pa_nil h3) h2) h1)) (pg_tup hc (pgs_cons (pg_name hN hi hx hf) (pgs_cons (pg_name hN hj hy hf2) (pgs_cons (pg_name hN hl hz hf3) pgs_nil hc3) hc2) hc1) hn hst) hs hw h0) fun D σ H ⟨Z, A, γ, S, h⟩ => by
    unfold tAsg tTup
    exact par3_core hij hil hjl (D := { D with nx := fun σ H => ∀ H', Same H H' → D.nx σ H' }) (fun v w y H2 q => ⟨by show 3 ≤ sizeLine; rw [sizeLine_eq]; omega, fun p np => ⟨p, [v, w, y], rfl, .inl (.inl upd_same), rfl, v, [w, y], rfl, w, [y], rfl, y, [], rfl, rfl, q _ (same_new np)⟩⟩) ⟨Z, A, γ, S, h.same'⟩
end
end Mi

set_option Elab.async false
set_option linter.all false
set_option maxRecDepth 100000
set_option maxHeartbeats 4000000
/-! targets, for -/
namespace Mi
open PySem PySem.Spec PyProof.Rows L2 My

/-! ### targets -/
inductive Tg where
  | nm (i : Nat) | tp (ts : List Tg)
mutual
def asgM : Tg → MV → Sg → Option Sg
  | .nm i, v, γ => if canSet γ i then some (γ.set i (some ⟨.val, v⟩)) else none
  | .tp ts, .tup vs, γ => asgMs ts vs γ
  | .tp _, _, _ => none
def asgMs : List Tg → List MV → Sg → Option Sg
  | [], [], γ => some γ
  | t :: ts, v :: vs, γ => (asgM t v γ).bind (asgMs ts vs)
  | _, _, _ => none
end
mutual
def Tg.slots : Tg → List Nat
  | .nm i => [i]
  | .tp ts => Tg.slotss ts
def Tg.slotss : List Tg → List Nat
  | [] => []
  | t :: ts => t.slots ++ Tg.slotss ts
end
def tMG (G : GG) (t : Tg) : TG := fun x σ H Q => ∃ Z A γ v, Sim G Z A γ σ H ∧ Rep G (Mz Z A) H v x ∧ ∃ γ', asgM t v γ = some γ' ∧ ∀ σ' A', Sim G Z A' γ' σ' H → Le A' A → (∀ i, i ∉ t.slots → σ'[i]? = σ[i]?) → Q σ' H
def tMGs (G : GG) (ts : List Tg) : TGs := fun xs σ H Q => ∃ Z A γ vs, Sim G Z A γ σ H ∧ Reps G (Mz Z A) H vs xs ∧ ∃ γ', asgMs ts vs γ = some γ' ∧ ∀ σ' A', Sim G Z A' γ' σ' H → Le A' A → (∀ i, i ∉ Tg.slotss ts → σ'[i]? = σ[i]?) → Q σ' H
def RG (X : Cx) (e : Expr) (t : Tg) : Prop := PG X e (tMG (GX X) t)
def RGs (X : Cx) (es : List Expr) (ts : List Tg) : Prop := PGs X es (tMGs (GX X) ts)
theorem PG_imp {X : Cx} {e : Expr} {t t' : TG} (h : PG X e t) (i : ∀ v σ H Q, t' v σ H Q → t v σ H Q) : PG X e t' := ⟨fun pins s σ H v u Q I r q => h.run pins s σ H v u Q I r (i _ _ _ _ q)⟩
theorem PGs_imp {X : Cx} {e : List Expr} {t t' : TGs} (h : PGs X e t) (i : ∀ v σ H Q, t' v σ H Q → t v σ H Q) : PGs X e t' := ⟨fun pins s σ H v u Q I r q => h.run pins s σ H v u Q I r (i _ _ _ _ q)⟩
theorem Reps.less {G : GG} {M M' : Addr → Prop} {H : Hp} {vs : List MV} {xs : List V} (m : ∀ b, M' b → M b) (h : Reps G M H vs xs) : Reps G M' H vs xs := h.keep .refl fun _ _ _ z => m _ z
section
variable {X : Cx} {a b e : Expr} {es : List Expr} {f : FE} {o q : Opd} {pos : Pos} {x : Str} {s : FS} {sts : List Stmt}
theorem rg_nm {i : Nat} (hN : X.N.Nodup) (hi : X.N[i]? = some x) (hx : Loc X.env.scope x) (hf : X.fn x = true ∨ X.env.scope.names.lookup x = some .local := by first | exact .inl rfl | exact .inr rfl | assumption) : RG X (.Name x pos) (.nm i) :=
  PG_imp (pg_name hN hi hx hf) fun v σ H Q ⟨Z, A, γ, m, S, r, γ', e, h⟩ => by
    simp only [asgM] at e
    split at e
    · rename_i hc
      cases e
      exact h _ _ (S.setVal (canSet_lt hc) r) AM.del_le fun j hj => List.getElem?_set_ne (fun z => hj (by rw [Tg.slots, z]; exact List.mem_singleton_self _))
    · cases e
theorem rgs_nil : RGs X [] [] := PGs_imp pgs_nil fun v σ H Q ⟨Z, A, γ, vs, S, r, γ', e, h⟩ => by
  cases vs with
  | nil =>
    simp only [Reps] at r
    simp only [asgMs] at e
    cases e
    exact ⟨r, h σ A S .refl fun _ _ => rfl⟩
  | cons v vs => simp only [asgMs] at e; cases e
theorem rgs_cons {t : Tg} {ts : List Tg} (h1 : RG X e t) (h2 : RGs X es ts) (hs : (assignEach (e :: es) X.env).map (·.2) = assign e X.env :: (assignEach es X.env).map (·.2) := by rfl) : RGs X (e :: es) (t :: ts) :=
  PGs_imp (pgs_cons h1 h2 hs) fun xs σ H Q ⟨Z, A, γ, vs, S, r, γ', e, h⟩ => by
    cases vs with
    | nil => simp only [asgMs] at e; cases e
    | cons v vs =>
      simp only [Reps] at r
      obtain ⟨x, xr, rfl, r1, r2⟩ := r
      simp only [asgMs] at e
      cases E : asgM t v γ with
      | none => rw [E] at e; cases e
      | some γ1 =>
        rw [E] at e
        refine ⟨x, xr, rfl, Z, A, γ, v, S, r1, γ1, E, fun σ1 A1 S1 le1 o1 => ?_⟩
        refine ⟨Z, A1, γ1, vs, S1, r2.less fun b m => le1.mz b m, γ', e, fun σ2 A2 S2 le2 o2 => h σ2 A2 S2 (le2.trans le1) fun i hi => ?_⟩
        simp only [Tg.slotss, List.mem_append, not_or] at hi
        rw [o2 i hi.2, o1 i hi.1]
theorem rg_tp {k : Nat} {ts : List Tg} (hc : X.calm = true) (h : RGs X es ts) (hn : (assignEach es X.env).length = ts.length := by rfl) (hst : (assignEach es X.env).findIdx? (·.1) = none := by rfl) : RG X (.Tuple es k pos) (.tp ts) :=
  PG_imp (pg_tup hc h hn hst) fun x σ H Q ⟨Z, A, γ, v, S, r, γ', e, h⟩ => by
    cases v with
    | tup vs =>
      simp only [Rep] at r
      obtain ⟨p, xs, rfl, h1, h2⟩ := r
      simp only [asgM] at e
      refine ⟨p, xs, rfl, h1.sq, ?_, Z, A, γ, vs, S, h2, γ', e, h⟩
      have len : ∀ (ts : List Tg) (vs : List MV) (γ γ' : Sg), asgMs ts vs γ = some γ' → vs.length = ts.length := by
        intro ts
        induction ts with
        | nil => intro vs γ γ' e; cases vs <;> simp only [asgMs] at e <;> first | rfl | cases e
        | cons t ts ih =>
          intro vs γ γ' e
          cases vs with
          | nil => simp only [asgMs] at e; cases e
          | cons v vs =>
            simp only [asgMs] at e
            cases E : asgM t v γ with
            | none => rw [E] at e; cases e
            | some γ1 =>
              rw [E] at e
              rw [List.length_cons, List.length_cons, ih vs γ1 γ' e]
      rw [h2.len]
      exact len ts vs γ γ' e
    | _ => simp only [asgM] at e; cases e
/-- target = e, any target -/
def sAsg (t : Tg) (f : FE) : FS := fun γ => match f γ with
  | .ok c γ1 => (match asgM t c.v γ1 with
    | some γ2 => .nx γ2
    | none => .no)
  | .ex e γ1 => .ex e γ1
  | .no => .no
theorem qs_asg {t : Tg} {tg : Expr} (ha : RE X e f) (hg : RG X tg t) (hs : swapsWithSole [tg] e pos.line X.env = pure false := by rfl) (hw : swappedStores [tg] e X.env = pure none := by rfl)
    (h1 : (assignEach [tg] X.env).map (·.2) = [assign tg X.env] := by rfl) : QS X (.Assign [tg] e pos) (sAsg t f) := fun _ W tk => PS_imp (ps_asg (ha W tk) hg hs hw h1) fun D σ H ⟨Z, A, γ, S, h⟩ => by
  refine ⟨Z, A, γ, S, ?_⟩
  unfold sAsg at h
  cases E1 : f γ with
  | no => rw [E1] at h; exact h
  | ex e γ1 => rw [E1] at h; exact fun A' H' cls d S' le k xr => h σ A' H' cls d S' (.of le k) xr
  | ok c γ1 =>
    rw [E1] at h
    simp only at h
    intro x A1 H1 hs le k
    cases E2 : asgM t c.v γ1 with
    | none => rw [E2] at h; exact h.elim
    | some γ2 =>
      rw [E2] at h
      exact ⟨Z, A1, γ1, c.v, hs.sim, hs.rep, γ2, E2, fun σ' A' S' le' _ => h σ' A' H1 S' (.of (le'.trans le) k)⟩
end

/-! ### what is walked -/
structure ItOk (G : GG) (J : It) (ms : List MV) (P : Ent → AM → Hp → Prop) (src : Addr → Prop) : Prop where
  stp : ∀ {Z A γ σ H A' γ' σ' H'}, P Z A H → Sim G Z A γ σ H → Sim G Z A' γ' σ' H' → Stp Z A H A' H' → P Z A' H'
  wait : ∀ {Z : Ent} {A H H' p o}, P Z A H → Same H H' → H p = none → P (Z.wait p o) A H'
  rew : ∀ {Z : Ent} {A H p o o'}, ¬ src p → P (Z.wait p o) A H → P (Z.wait p o') A (upd H p o')
  at_ : ∀ {Z A H a}, P Z A H → src a → ∃ o, H a = some o
  go : ∀ {Z i A H}, i < ms.length → P Z A H → J.go i H
  stop : ∀ {Z A H}, P Z A H → J.stop ms.length H
  yld : ∀ {Z i A γ σ H x H'}, P Z A H → Sim G Z A γ σ H → i < ms.length → J.yld i H x H' → Same H H' ∧ ∃ m, ms[i]? = some m ∧ Rep G (Mz Z A) H' m x
abbrev FI := Sg → R (List MV)
def EndI (G : GG) (Z : Ent) (W : WX) (A : AM) (σ : L2.St) (H : Hp) (R' : It → Hp → Prop) : R (List MV) → Prop
  | .ok ms γ' => ∀ J l A' H' P src, Stg G Z A H l A' γ' σ H' → ItOk G J ms P src → P (Z.waits l) A' H' → R' J H'
  | .ex e γ' => EndX G Z W A σ H e γ'
  | .no => False
def tMI (G : GG) (fi : FI) (W : WX) : TI := fun σ H R' => ∃ Z A γ, Sim G Z A γ σ H ∧ EndI G Z W A σ H R' (fi γ)
def RI (X : Cx) (tg e : Expr) (fi : FI) : Prop := ∀ W : WX, Takes X W → PI X tg e (tMI (GX X) fi W)
theorem PI_imp {X : Cx} {tg e : Expr} {t t' : TI} (h : PI X tg e t) (i : ∀ σ H R, t' σ H R → t σ H R) : PI X tg e t' := ⟨fun pins s σ H R I q => h.run pins s σ H R I (i _ _ _ q)⟩
/-- the ends, from the entry with things that wait -/
theorem Stg.ends {G : GG} {Z : Ent} {A A0 : AM} {γ : Sg} {σ : L2.St} {H H0 : Hp} {l : List (Addr × HO)} {W : WX} {D : Ends} {r : RO} (T : Stg G Z A0 H0 l A γ σ H) (h : EndS G Z W D A0 H0 r) : EndS G (Z.waits l) W D A H r := by
  have st : ∀ {A' H'}, Stp (Z.waits l) A H A' H' → Stp Z A0 H0 A' H' := fun {A' H'} s => ⟨Keep.waits s.1 T.nw T.kp T.le, fun b o hb m => by
    obtain ⟨o', hb'⟩ := T.kp.on b o hb
    rcases (waits_mz l b).mp (s.2 b o' hb' ((waits_mz l b).mpr (.inl m))) with m | ⟨p, hp, rfl⟩
    · exact T.le.mz b m
    · rw [T.nw p hp] at hb; cases hb⟩
  cases r with
  | nx γ' => exact fun σ' A' H' S s => h σ' A' H' S.drops (st s)
  | rt c γ' => exact fun x σ' A' H' hs => h x σ' A' H' (by rw [waits_H0] at hs; exact hs.drops)
  | bk γ' => exact fun σ' A' H' S s => h σ' A' H' S.drops (st s)
  | ct γ' => exact fun σ' A' H' S s => h σ' A' H' S.drops (st s)
  | ex e γ' =>
    intro σ' A' H' cls d S s xr
    refine h σ' A' H' cls d S.drops (st s) ⟨xr.1, ?_⟩
    have q := xr.2
    revert q
    cases e.fs with
    | nil => exact fun q => q
    | cons p ps =>
      rintro ⟨a, vs, q1, q2, q3, q4⟩
      exact ⟨a, vs, q1, q2, fun m => q3 ((waits_mz l a).mpr (.inl m)), q4.keep .refl fun b _ _ m => (waits_mz l b).mpr (.inl m)⟩
  | no => exact h
def forM (t : Tg) (s : FS) : List MV → FS
  | [], γ => .nx γ
  | m :: ms, γ => match asgM t m γ with
    | none => .no
    | some γ1 => match s γ1 with
      | .nx γ2 => forM t s ms γ2
      | .ct γ2 => forM t s ms γ2
      | .bk γ2 => .nx γ2
      | .rt c γ2 => .rt c γ2
      | .ex e γ2 => .ex e γ2
      | .no => .no
def sFor (t : Tg) (fi : FI) (s : FS) : FS := fun γ => match fi γ with
  | .ok ms γ1 => forM t s ms γ1
  | .ex e γ1 => .ex e γ1
  | .no => .no
section
variable {X : Cx} {a b e : Expr} {es : List Expr} {f : FE} {o q : Opd} {pos : Pos} {x : Str} {s : FS} {sts : List Stmt} {fi : FI}
theorem qs_for {t : Tg} {tg : Expr} (hc : X.calm = true) (hi : RI X tg e fi) (hg : RG X tg t) (hb : QSs X sts s) (hs : ∀ x, foldedSetIterable e X.env x = pure x := by intro _; rfl) : QS X (.For tg e sts [] pos) (sFor t fi s) := fun po W tk =>
  PS_imp (ps_for po hc (hi W tk) hg (hb po W tk) hs) fun D σ H ⟨Z, A, γ, S, h⟩ => by
    refine ⟨Z, A, γ, S, ?_⟩
    unfold sFor at h
    cases E1 : fi γ with
    | no => rw [E1] at h; exact h
    | ex e γ1 => rw [E1] at h; exact fun A' H' cls d S' le k xr => h σ A' H' cls d S' (.of le k) xr
    | ok ms γ1 =>
      rw [E1] at h
      simp only at h
      intro J l A1 H1 P src T K p1
      refine ⟨fun i m σ' H' => m = ms.length - i ∧ i ≤ ms.length ∧ ∃ A' γ', Sim (GX X) (Z.waits l) A' γ' σ' H' ∧ P (Z.waits l) A' H' ∧ EndS (GX X) (Z.waits l) W D A' H' (forM t s (ms.drop i) γ'),
        ⟨ms.length, by simp, Nat.zero_le _, A1, γ1, T.sim, p1, T.ends h⟩, ?_⟩
      rintro i m σ' H' ⟨rfl, hi, A', γ', S', p', h'⟩
      by_cases hlt : i < ms.length
      · refine .inr ⟨K.go hlt p', fun σ3 H3 => ∃ A3 γ3, Sim (GX X) (Z.waits l) A3 γ3 σ3 H3 ∧ P (Z.waits l) A3 H3 ∧ EndS (GX X) (Z.waits l) W D A3 H3 (forM t s (ms.drop (i + 1)) γ3), fun σ3 H3 q => ⟨ms.length - (i + 1), by omega, rfl, hlt, q⟩, fun x H2 y => ?_⟩
        obtain ⟨e2, m, hm, r2⟩ := K.yld p' S' hlt y
        have em : ms.drop i = m :: ms.drop (i + 1) := by
          rw [List.drop_eq_getElem_cons hlt]
          rw [List.getElem?_eq_getElem hlt] at hm
          rw [Option.some.inj hm]
        rw [em] at h'
        simp only [forM] at h'
        have S2 := S'.same e2
        have st2 : Stp (Z.waits l) A' H' A' H2 := .of_same e2
        have p2 := K.stp p' S' S2 st2
        replace h' := h'.mono st2
        cases E2 : asgM t m γ' with
        | none => rw [E2] at h'; exact h'.elim
        | some γ2 =>
          rw [E2] at h'
          refine ⟨_, A', γ', m, S2, r2, γ2, E2, fun σ3 A3 S3 le3 _ => ?_⟩
          have st3 : Stp (Z.waits l) A' H2 A3 H2 := .of le3 .refl
          have p3 := K.stp p2 S2 S3 st3
          replace h' := h'.mono st3
          refine ⟨_, A3, γ2, S3, ?_⟩
          simp only at h'
          cases E3 : s γ2 with
          | nx γ4 => rw [E3] at h'; exact fun σ4 A4 H4 S4 st4 => ⟨A4, γ4, S4, K.stp p3 S3 S4 st4, h'.mono st4⟩
          | ct γ4 => rw [E3] at h'; exact fun σ4 A4 H4 S4 st4 => ⟨A4, γ4, S4, K.stp p3 S3 S4 st4, h'.mono st4⟩
          | bk γ4 => rw [E3] at h'; exact h'
          | rt c γ4 => rw [E3] at h'; exact h'
          | ex e γ4 => rw [E3] at h'; exact h'
          | no => rw [E3] at h'; exact h'
      · have e : i = ms.length := by omega
        subst e
        rw [List.drop_length] at h'
        exact .inl ⟨K.stop p', h' σ' A' H' S' .refl⟩
end
/-! ### lent while it is walked -/
def Ent.lend (Z : Ent) (j : Nat) (a : Addr) (o : HO) : Ent := ⟨Z.H0, fun b => Z.Mf b ∨ b = a, fun b u => Z.F b u ∨ (b = a ∧ u = o), Z.io, fun i => if i = j then some (a, o) else Z.ln i, fun i p h => by
  by_cases hi : i = j
  · rw [if_pos hi] at h
    cases h
    exact .inr ⟨rfl, rfl⟩
  · rw [if_neg hi] at h
    exact .inl (Z.lnF i p h), Z.Tm, fun a h => .inl (Z.TmM a h)⟩
/-- slot j is lent while s runs -/
def sLend (j : Nat) (s : FS) : FS := fun γ => match γ[j]? with
  | some (some ⟨.own, v⟩) => (match s (γ.set j (some ⟨.lown, v⟩)) with
    | .nx γ' => (match γ'[j]? with
      | some (some ⟨.lown, v'⟩) => .nx (γ'.set j (some ⟨.own, v'⟩))
      | _ => .no)
    | .rt c γ' => (match γ'[j]? with
      | some (some ⟨.lown, _⟩) => .rt c (γ'.set j none)
      | _ => .no)
    | .ex e γ' => (match γ'[j]? with
      | some (some ⟨.lown, _⟩) => .ex e (γ'.set j none)
      | _ => .no)
    | _ => .no)
  | _ => s γ
theorem lend_mz {Z : Ent} {A : AM} {j : Nat} {a : Addr} {o : HO} (e : A j = some a) (b : Addr) : Mz (Z.lend j a o) (A.del j) b ↔ Mz Z A b := by
  unfold Mz Ent.lend
  constructor
  · rintro ((h | rfl) | ⟨i, h⟩)
    · exact .inl h
    · exact .inr ⟨j, e⟩
    · exact .inr ⟨i, AM.del_le i b h⟩
  · rintro (h | ⟨i, h⟩)
    · exact .inl (.inl h)
    · by_cases hi : i = j
      · rw [hi, e] at h
        cases h
        exact .inl (.inr rfl)
      · exact .inr ⟨i, by rw [AM.del_ne hi]; exact h⟩
theorem TB.put2 {G : GG} {Z : Ent} {H : Hp} {j : Nat} {a : Addr} {o : HO} (t : TB G Z H) (n : ¬ G.isT a) : TB G (Z.lend j a o) H := ⟨t.tm, fun q hq u hu => hu.elim (t.nf q hq u) fun z => n ⟨q.2, by rw [← z.1]; exact hq⟩, t.ok⟩
section
variable {G : GG} {Z : Ent} {A A' A0 : AM} {γ γ' : Sg} {σ σ' : L2.St} {H H' H0 H00 : Hp} {c d : Cell} {x y z : V} {v : MV} {W : WX} {j : Nat} {a : Addr} {o : HO}
theorem Sim.lend (S : Sim G Z A γ σ H) (hj : γ[j]? = some (some ⟨.own, v⟩)) : ∃ a o, A j = some a ∧ H a = some o ∧ Z.H0 a = none ∧ ¬ Z.Mf a ∧ (∀ u, ¬ Z.F a u) ∧ Sim G (Z.lend j a o) (A.del j) (γ.set j (some ⟨.lown, v⟩)) σ H := by
  have hlt : j < γ.length := (List.getElem?_eq_some_iff.mp hj).1
  obtain ⟨x, h1, a, e, rfl, h2⟩ := S.cell j _ hj
  obtain ⟨c', hc', nf, hk⟩ := S.adr j a e
  rw [hj] at hc'
  cases hc'
  obtain ⟨o, ho⟩ := h2.on
  refine ⟨a, o, e, ho, hk.1, hk.2, nf, by rw [List.length_set]; exact S.len, fun i c hi => ?_, fun i b hi => ?_, fun i k b hi hk => S.inj i k b (AM.del_le i b hi) (AM.del_le k b hk),
    fun b m => m.elim (S.mf b) fun z => ⟨o, z ▸ ho⟩, fun b u hb => hb.elim (S.fr b u) fun ⟨z, z'⟩ => by rw [z, z']; exact ho, S.new, S.tb.put2 (S.ownT e)⟩
  · by_cases hij : i = j
    · subst hij
      rw [List.getElem?_set_self hlt] at hi
      cases hi
      exact ⟨_, h1, AM.del_eq, a, o, if_pos rfl, rfl, h2.keep .refl (fun b _ _ m => (lend_mz e b).mp m) fun _ z => z⟩
    · rw [List.getElem?_set_ne (Ne.symm hij)] at hi
      obtain ⟨y, h3, h4⟩ := S.cell i c hi
      exact ⟨y, h3, CellOk.keep (Z := Z) (Z' := Z.lend j a o) (AM.del_ne hij) (fun p q => ⟨(if_neg hij).trans q, fun _ z => z⟩) .refl (fun b _ _ m => (lend_mz e b).mp m) (fun _ _ _ z => z) h4⟩
  · have hij : i ≠ j := fun z => by rw [z, AM.del_eq] at hi; cases hi
    rw [AM.del_ne hij] at hi
    rw [List.getElem?_set_ne (Ne.symm hij)]
    obtain ⟨c, h3, h4, h5⟩ := S.adr i b hi
    have nb : b ≠ a := fun z => hij (S.inj i j a (z ▸ hi) e)
    refine ⟨c, h3, fun u hu => hu.elim (h4 u) fun z => nb z.1, ?_⟩
    obtain ⟨k, w⟩ := c
    cases k with
    | val => exact h5
    | own => exact ⟨h5.1, fun m => m.elim h5.2 nb⟩
    | lown => exact h5
    | io => exact ⟨h5.1, .inl h5.2⟩
    | lio => exact h5
theorem Sim.lend_ne (S : Sim G (Z.lend j a o) A γ σ H) : ∀ i, A i ≠ some a := fun i e => by
  obtain ⟨c, _, h, _⟩ := S.adr i a e
  exact h o (.inr ⟨rfl, rfl⟩)
/-- back -/
theorem Sim.back {v : MV} (S : Sim G (Z.lend j a o) A γ σ H) (h0 : Z.H0 a = none) (nm : ¬ Z.Mf a) (nf : ∀ u, ¬ Z.F a u) (hj : γ[j]? = some (some ⟨.lown, v⟩)) : Sim G Z (A.put j a) (γ.set j (some ⟨.own, v⟩)) σ H := by
  have hlt : j < γ.length := (List.getElem?_eq_some_iff.mp hj).1
  obtain ⟨x, h1, e0, a', o', hl, rfl, h2⟩ := S.cell j _ hj
  have hl : (if j = j then some (a, o) else Z.ln j) = some (a', o') := hl
  rw [if_pos rfl] at hl
  cases hl
  have mm : ∀ b, Mz Z (A.put j a) b → Mz (Z.lend j a o) A b := fun b m => m.elim (fun m => .inl (.inl m)) fun ⟨i, hi⟩ => by
    by_cases hij : i = j
    · rw [hij, AM.put_eq] at hi
      cases hi
      exact .inl (.inr rfl)
    · rw [AM.put_ne hij] at hi
      exact .inr ⟨i, hi⟩
  refine ⟨by rw [List.length_set]; exact S.len, fun i c hi => ?_, fun i b hi => ?_, fun i k b hi hk => ?_, fun b m => S.mf b (.inl m), fun b u hb => S.fr b u (.inl hb), S.new, ⟨S.tb.tm, fun q hq u hu => S.tb.nf q hq u (.inl hu), S.tb.ok⟩⟩
  · by_cases hij : i = j
    · subst hij
      rw [List.getElem?_set_self hlt] at hi
      cases hi
      exact ⟨_, h1, a, AM.put_eq, rfl, h2.keep .refl (fun b _ _ m => mm b m) fun _ z => z⟩
    · rw [List.getElem?_set_ne (Ne.symm hij)] at hi
      obtain ⟨y, h3, h4⟩ := S.cell i c hi
      refine ⟨y, h3, CellOk.keep (Z := Z.lend j a o) (Z' := Z) (AM.put_ne hij) (fun p q => ⟨?_, fun _ z => z⟩) .refl (fun b _ _ m => mm b m) (fun _ _ _ z => z) h4⟩
      have q : (if i = j then some (a, o) else Z.ln i) = some p := q
      rw [if_neg hij] at q
      exact q
  · by_cases hij : i = j
    · subst hij
      rw [AM.put_eq] at hi
      cases hi
      exact ⟨_, List.getElem?_set_self hlt, nf, h0, nm⟩
    · rw [AM.put_ne hij] at hi
      rw [List.getElem?_set_ne (Ne.symm hij)]
      obtain ⟨c, h3, h4, h5⟩ := S.adr i b hi
      refine ⟨c, h3, fun u hu => h4 u (.inl hu), ?_⟩
      obtain ⟨k, w⟩ := c
      cases k with
      | val => exact h5
      | own => exact ⟨h5.1, fun m => h5.2 (.inl m)⟩
      | lown => exact h5
      | io => exact ⟨h5.1, h5.2.elim (fun m => m) fun z => absurd hi (by rw [z]; exact S.lend_ne i)⟩
      | lio => exact h5
  · by_cases hij : i = j
    · by_cases hkj : k = j
      · rw [hij, hkj]
      · rw [hij, AM.put_eq] at hi
        cases hi
        rw [AM.put_ne hkj] at hk
        exact absurd hk (S.lend_ne k)
    · rw [AM.put_ne hij] at hi
      by_cases hkj : k = j
      · rw [hkj, AM.put_eq] at hk
        cases hk
        exact absurd hi (S.lend_ne i)
      · rw [AM.put_ne hkj] at hk
        exact S.inj i k b hi hk
/-- not back: the slot is forgotten -/
theorem Sim.unlend {v : MV} (S : Sim G (Z.lend j a o) A γ σ H) (hj : γ[j]? = some (some ⟨.lown, v⟩)) : Sim G Z A (γ.set j none) σ H := by
  have mm : ∀ b, Mz Z A b → Mz (Z.lend j a o) A b := fun b m => m.imp_left .inl
  refine ⟨by rw [List.length_set]; exact S.len, fun i c hi => ?_, fun i b hi => ?_, S.inj, fun b m => S.mf b (.inl m), fun b u hb => S.fr b u (.inl hb), S.new, ⟨S.tb.tm, fun q hq u hu => S.tb.nf q hq u (.inl hu), S.tb.ok⟩⟩
  · by_cases hij : i = j
    · subst hij
      rw [List.getElem?_set] at hi
      simp only [if_true] at hi
      split at hi <;> cases hi
    · rw [List.getElem?_set_ne (Ne.symm hij)] at hi
      obtain ⟨y, h3, h4⟩ := S.cell i c hi
      refine ⟨y, h3, CellOk.keep (Z := Z.lend j a o) (Z' := Z) rfl (fun p q => ⟨?_, fun _ z => z⟩) .refl (fun b _ _ m => mm b m) (fun _ _ _ z => z) h4⟩
      have q : (if i = j then some (a, o) else Z.ln i) = some p := q
      rw [if_neg hij] at q
      exact q
  · obtain ⟨c, h3, h4, h5⟩ := S.adr i b hi
    have hij : i ≠ j := by
      rintro rfl
      rw [hj] at h3
      cases h3
      exact h5
    rw [List.getElem?_set_ne (Ne.symm hij)]
    refine ⟨c, h3, fun u hu => h4 u (.inl hu), ?_⟩
    obtain ⟨k, w⟩ := c
    cases k with
    | val => exact h5
    | own => exact ⟨h5.1, fun m => h5.2 (.inl m)⟩
    | lown => exact h5
    | io => exact ⟨h5.1, h5.2.elim (fun m => m) fun z => absurd hi (by rw [z]; exact S.lend_ne i)⟩
    | lio => exact h5
theorem lend_wait {b : Addr} {u : HO} : (Z.lend j a o).wait b u = (Z.wait b u).lend j a o := by
  refine Ent.ext' rfl ?_ ?_ rfl rfl rfl
  · funext c
    unfold Ent.wait Ent.lend
    simp only [or_assoc, or_comm (a := c = a)]
  · funext c q
    unfold Ent.wait Ent.lend
    simp only [or_assoc, or_comm (a := c = a ∧ q = o)]
theorem HeldS.unlend {v : MV} (h : HeldS G (Z.lend j a o) A γ σ H0 H c x) (hj : γ[j]? = some (some ⟨.lown, v⟩)) : HeldS G Z A (γ.set j none) σ H0 H c x := by
  have mm : ∀ b, Mz Z A b → Mz (Z.lend j a o) A b := fun b m => m.imp_left .inl
  obtain ⟨kk, w⟩ := c
  cases kk with
  | val => exact ⟨h.1.unlend hj, h.2.less mm⟩
  | own =>
    obtain ⟨b, u, e, n, nm, r, S⟩ := h
    refine ⟨b, u, e, n, fun m => nm (.inl m), r.keep .refl (fun d _ _ m => ?_) fun _ z => z, ?_⟩
    · rw [mz_wait] at m ⊢
      exact m.imp_left (mm d)
    · rw [lend_wait] at S
      exact S.unlend hj
  | io => exact h.elim
  | lown => exact h.elim
  | lio => exact h.elim
end
theorem qs_lend {X : Cx} {st : Stmt} {s : FS} (j : Nat) (h1 : QS X st s) : QS X st (sLend j s) := fun po W tk => PS_imp (h1 po W tk) fun D σ H ⟨Z, A, γ, S, h⟩ => by
  unfold sLend at h
  split at h
  · rename_i v hj
    obtain ⟨a, o, e, ho, h0, nm, nf, S1⟩ := S.lend hj
    have hlt : j < γ.length := (List.getElem?_eq_some_iff.mp hj).1
    refine ⟨_, _, _, S1, ?_⟩
    have kk : ∀ {H'}, Keep (Mz (Z.lend j a o) (A.del j)) H H' → Keep (Mz Z A) H H' := fun k => k.mono fun b m => (lend_mz e b).mp m
    cases E : s (γ.set j (some ⟨.lown, v⟩)) with
    | nx γ' =>
      rw [E] at h
      simp only at h
      split at h
      · rename_i v' hj'
        intro σ' A' H' S' st
        refine h σ' _ H' (S'.back h0 nm nf hj') ⟨kk st.1, fun b u hb m => ?_⟩
        rcases m with m | ⟨i, hi⟩
        · exact .inl m
        · by_cases hij : i = j
          · rw [hij, AM.put_eq] at hi
            cases hi
            exact .inr ⟨j, e⟩
          · rw [AM.put_ne hij] at hi
            exact (lend_mz e b).mp (st.2 b u hb (.inr ⟨i, hi⟩))
      · exact h.elim
    | rt c γ' =>
      rw [E] at h
      simp only at h
      split at h
      · rename_i v' hj'
        exact fun x σ' A' H' hs => h x σ' A' H' (hs.unlend hj')
      · exact h.elim
    | ex e' γ' =>
      rw [E] at h
      simp only at h
      split at h
      · rename_i v' hj'
        intro σ' A' H' cls d S' st xr
        refine h σ' A' H' cls d (S'.unlend hj') ⟨kk st.1, fun b u hb m => ?_⟩ ⟨xr.1, ?_⟩
        · exact (lend_mz e b).mp (st.2 b u hb (m.imp_left .inl))
        · have q := xr.2
          revert q
          cases e'.fs with
          | nil => exact fun q => q
          | cons p ps =>
            rintro ⟨b, vs, q1, q2, q3, q4⟩
            exact ⟨b, vs, q1, q2, fun m => q3 (m.imp_left .inl), q4.keep .refl fun b _ _ m => m.imp_left .inl⟩
      · exact h.elim
    | bk γ' => rw [E] at h; exact h.elim
    | ct γ' => rw [E] at h; exact h.elim
    | no => rw [E] at h; exact h.elim
  · exact ⟨Z, A, γ, S, h⟩
end Mi

set_option Elab.async false
set_option linter.all false
set_option maxRecDepth 100000
set_option maxHeartbeats 4000000
/-! what is walked: lists, tuples, texts, ranges, enumerate, zip -/
namespace Mi
open PySem PySem.Spec PyProof.Rows L2 My RZ

section
variable {G : GG} {Z : Ent} {A A' A0 : AM} {γ γ' : Sg} {σ σ' : L2.St} {H H' H0 H00 : Hp} {c d : Cell} {x y z : V} {v : MV} {l : List (Addr × HO)} {o q : Opd} {W : WX}
theorem Hold.stp (h : Hold G Z A H v x) (S : Sim G Z A γ σ H) (S' : Sim G Z A' γ' σ' H') (s : Stp Z A H A' H') : Hold G Z A' H' v x := by
  rcases h with h | ⟨a, o, e, f, h⟩
  · exact .inl (h.keep s.1 s.2)
  · refine .inr ⟨a, o, e, f, h.keep s.1 s.2 fun u hu => ?_⟩
    have := S.fr a o f
    rw [this] at hu
    cases hu
    exact S'.fr a o f
/-- an operand that stays while it is walked -/
def walkable (o : Opd) (c : Cell) : Bool := match o with
  | .ex _ => true
  | .sl _ => match c.k with
    | .own => false
    | .io => false
    | _ => true
theorem Later.hold (h : Later G Z A γ σ H o c x) (S : Sim G Z A γ σ H) (hw : walkable o c = true) (hc : ∀ i, o = .sl i → γ[i]? = some (some c)) : Hold G Z A H c.v x := by
  cases o with
  | ex f => exact h
  | sl i =>
    obtain ⟨y, h1, h2⟩ := S.cell i c (hc i rfl)
    have h : σ[i]? = some (some x) := h
    rw [h] at h1
    cases h1
    obtain ⟨k, v⟩ := c
    cases k with
    | val => exact .inl h2.2
    | own => cases hw
    | io => cases hw
    | lown => obtain ⟨_, a, u, e, rfl, r⟩ := h2; exact .inr ⟨a, u, rfl, Z.lnF i _ e, r⟩
    | lio => obtain ⟨_, a, u, e, rfl, r⟩ := h2; exact .inr ⟨a, u, rfl, Z.lnF i _ e, r⟩
theorem oEv_sl {i : Nat} (e : oEv (.sl i) γ = .ok c γ') : γ' = γ ∧ γ[i]? = some (some c) := by
  unfold oEv at e
  simp only at e
  split at e
  · rename_i c' hc
    cases e
    exact ⟨rfl, hc⟩
  · cases e
theorem Hold.lst {ms : List MV} (h : Hold G Z A H (.lst ms) x) : ∃ a vs, x = .ref a ∧ SqL G.K H a vs ∧ Reps G (Mz Z A) H ms vs := by
  rcases h with h | ⟨a, o, rfl, _, h⟩
  · simp only [Rep] at h
    obtain ⟨a, vs, rfl, h1, _, h2⟩ := h
    exact ⟨a, vs, rfl, h1.sq, h2⟩
  · simp only [Own] at h
    obtain ⟨vs, h1, h2⟩ := h
    exact ⟨a, vs, rfl, .of h1, h2⟩
theorem Hold.tup {ms : List MV} (h : Hold G Z A H (.tup ms) x) : ∃ a vs, x = .ref a ∧ SqT G.K H a vs ∧ Reps G (Mz Z A) H ms vs := by
  rcases h with h | ⟨a, o, rfl, _, h⟩
  · simp only [Rep] at h
    obtain ⟨a, vs, rfl, h1, h2⟩ := h
    exact ⟨a, vs, rfl, h1.sq, h2⟩
  · simp only [Own] at h
theorem Hold.str {s : Str} (h : Hold G Z A H (.str s) x) : x = .str s := by
  rcases h with h | ⟨a, o, rfl, _, h⟩
  · simp only [Rep] at h; exact h
  · simp only [Own] at h
end
section
variable {G : GG} {Z : Ent} {A : AM} {H H' : Hp} {v : MV} {x : V} {p a : Addr} {o o' : HO}
theorem Hold.wait' (h : Hold G Z A H v x) (e : Same H H') (n : H p = none) : Hold G (Z.wait p o) A H' v x := by
  have m : ∀ b u, H b = some u → Mz (Z.wait p o) A b → Mz Z A b := fun b u hb m => ((mz_wait b).mp m).elim (fun m => m) fun z => by rw [z, n] at hb; cases hb
  rcases h with h | ⟨b, u, e1, f, h⟩
  · exact .inl (h.keep (.of_same e) m)
  · exact .inr ⟨b, u, e1, .inl f, h.keep (.of_same e) m fun _ z => e _ _ z⟩
theorem Keep.upd {M : Addr → Prop} (m : M p) : Keep M H (L2.upd H p o) :=
  ⟨fun b u n h => by rw [upd_ne (show b ≠ p from fun z => n (by rw [z]; exact m))]; exact h, fun b u h => by
    by_cases e : b = p
    · subst e; exact ⟨_, upd_same⟩
    · exact ⟨u, by rw [upd_ne e]; exact h⟩⟩
theorem wait_same (b : Addr) : Mz (Z.wait p o') A b → Mz (Z.wait p o) A b := fun m => (mz_wait b).mpr ((mz_wait b).mp m)
theorem wait_in : Mz (Z.wait p o) A p := (mz_wait p).mpr (.inr rfl)
theorem Hold.rew (n : p ≠ a) (h : Hold G (Z.wait p o) A H v (.ref a)) : Hold G (Z.wait p o') A (L2.upd H p o') v (.ref a) := by
  rcases h with h | ⟨b, u, e, f, h⟩
  · exact .inl (h.keep (Keep.upd wait_in) fun b _ _ m => wait_same b m)
  · cases e
    refine .inr ⟨a, u, rfl, f.elim .inl fun z => absurd z.1.symm n, h.keep (Keep.upd wait_in) (fun b _ _ m => wait_same b m) fun _ z => by rw [upd_ne (Ne.symm n)]; exact z⟩
theorem Hold.rewT {ms : List MV} (h : Hold G (Z.wait p o) A H (.tup ms) x) : Hold G (Z.wait p o') A (L2.upd H p o') (.tup ms) x := by
  rcases h with h | ⟨b, u, e, f, h⟩
  · exact .inl (h.keep (Keep.upd wait_in) fun b _ _ m => wait_same b m)
  · simp only [Own] at h
/-- a list that stands in the written part -/
def WrL (K : PySem.W.Frag) (a : Addr) (vs : List V) : Prop := ∃ (o : Obj) (its : Array Value) (n : Nat), K.lookup a = some o ∧ o.cls = .type "list" ∧ o.dict = none ∧ o.data = .seq its n ∧ its.size ≤ sizeLine ∧ Vals vs its.toList
/-- a list that is walked: w: written, else tracked -/
def HoldL (G : GG) (Z : Ent) (A : AM) (H : Hp) (ms : List MV) (a : Addr) : Bool → Prop
  | true => ∃ vs, WrL G.K a vs ∧ Reps G (Mz Z A) H ms vs
  | false => Hold G Z A H (.lst ms) (.ref a) ∧ ∃ o, H a = some o
theorem HoldL.lst {ms : List MV} {w : Bool} (h : HoldL G Z A H ms a w) : ∃ b vs, V.ref a = .ref b ∧ SqL G.K H b vs ∧ Reps G (Mz Z A) H ms vs := by
  cases w with
  | true =>
    obtain ⟨vs, h1, h2⟩ := h
    exact ⟨a, vs, rfl, .inr h1, h2⟩
  | false =>
    obtain ⟨b, vs, e, h1, h2⟩ := h.1.lst
    exact ⟨b, vs, e, h1, h2⟩
theorem HoldL.split {ms : List MV} (h : Hold G Z A H (.lst ms) (.ref a)) : ∃ w, HoldL G Z A H ms a w := by
  cases e : H a with
  | some o => exact ⟨false, h, o, e⟩
  | none =>
    refine ⟨true, ?_⟩
    rcases h with h | ⟨b, u, e1, f, h⟩
    · simp only [Rep] at h
      obtain ⟨b, vs, e2, h1, _, h2⟩ := h
      cases e2
      rcases h1 with ⟨h1, _⟩ | h1
      · obtain ⟨o, h1⟩ := Rd.on h1
        rw [e] at h1
        cases h1
      · exact ⟨vs, h1, h2⟩
    · cases e1
      obtain ⟨o, h⟩ := h.on
      rw [e] at h
      cases h
theorem HoldL.stp {ms : List MV} {w : Bool} {A' : AM} {γ γ' : Sg} {σ σ' : L2.St} (h : HoldL G Z A H ms a w) (S : Sim G Z A γ σ H) (S' : Sim G Z A' γ' σ' H') (s : Stp Z A H A' H') : HoldL G Z A' H' ms a w := by
  cases w with
  | true =>
    obtain ⟨vs, h1, h2⟩ := h
    exact ⟨vs, h1, h2.keep s.1 s.2⟩
  | false =>
    obtain ⟨h1, o, h2⟩ := h
    exact ⟨h1.stp S S' s, s.1.on a o h2⟩
theorem HoldL.wait' {ms : List MV} {w : Bool} (h : HoldL G Z A H ms a w) (e : Same H H') (n : H p = none) : HoldL G (Z.wait p o) A H' ms a w := by
  have m : ∀ b u, H b = some u → Mz (Z.wait p o) A b → Mz Z A b := fun b u hb m => ((mz_wait b).mp m).elim (fun m => m) fun z => by rw [z, n] at hb; cases hb
  cases w with
  | true =>
    obtain ⟨vs, h1, h2⟩ := h
    exact ⟨vs, h1, h2.keep (.of_same e) m⟩
  | false =>
    obtain ⟨h1, u, h2⟩ := h
    exact ⟨h1.wait' e n, u, e _ _ h2⟩
theorem HoldL.rew {ms : List MV} {w : Bool} (n : w = false → p ≠ a) (h : HoldL G (Z.wait p o) A H ms a w) : HoldL G (Z.wait p o') A (L2.upd H p o') ms a w := by
  cases w with
  | true =>
    obtain ⟨vs, h1, h2⟩ := h
    exact ⟨vs, h1, h2.keep (Keep.upd wait_in) fun b _ _ m => wait_same b m⟩
  | false =>
    obtain ⟨h1, u, h2⟩ := h
    exact ⟨h1.rew (n rfl), u, by rw [upd_ne (Ne.symm (n rfl))]; exact h2⟩
theorem HoldL.on {ms : List MV} {w : Bool} (e : w = false) (h : HoldL G Z A H ms a w) : ∃ o, H a = some o := by
  subst e
  exact h.2
end
def seqM : MV → Option (List MV)
  | .lst ms => some ms
  | .tup ms => some ms
  | .str z => some (z.cps.toList.map fun c => .str ⟨#[c]⟩)
  | _ => none
def fSeq (o : Opd) : FI := fun γ => match oEv o γ with
  | .ok c γ1 => if walkable o c then (match seqM c.v with
    | some ms => .ok ms γ1
    | none => .no) else .no
  | .ex e γ1 => .ex e γ1
  | .no => .no
/-- iter of a value: a list, a tuple, a text -/
def seqIt (K : PySem.W.Frag) (x : V) (H : Hp) (R : It → Hp → Prop) : Prop :=
  (∃ a, x = .ref a ∧ (∃ xs, SqL K H a xs) ∧ R (Itl K a) H) ∨ (∃ a, x = .ref a ∧ (∃ xs, SqT K H a xs) ∧ R (Itt K a) H) ∨ ∃ z, x = .str z ∧ R (Its z) H
theorem pi_seq {X : Cx} {tg l : Expr} {tl : TE} (hl : PE X l tl) : PI X tg l (fun σ H R => tl σ H fun x H1 => seqIt X.K x H1 R) := by
  refine ⟨fun pins s σ H R I h => ?_⟩
  refine thn (hl.run pins s σ H _ I h) fun v s1 ⟨x, H1, I1, r1, q1⟩ => ?_
  rcases q1 with ⟨a, e, ⟨xs, hq⟩, q⟩ | ⟨a, e, ⟨xs, hq⟩, q⟩ | ⟨z, e, q⟩
  · subst e
    cases r1
    obtain ⟨its, rv, p, hz⟩ := I1.list hq
    refine wpAny_pyIter_list p.isList ?_
    refine ⟨s1.heap.objs.size, [s1.heap.objs.size], _, _, H1, rfl, I1.kept (t' := s1.toks) fun b o e => Heap.get?_push_of_some _ e, turn_list a _, ⟨_, Heap.get?_push_size _ rfl, rfl, rfl⟩, fun b hb => ?_, q⟩
    have e : b = s1.heap.objs.size := by simpa using hb
    subst e
    exact I1.fpOk (Nat.le_refl _) (I1.hok.fresh (Nat.le_refl _))
  · subst e
    cases r1
    obtain ⟨its, rv, p, hz⟩ := I1.tuple hq
    refine wpAny_pyIter_tuple (show s1.heap.IsTuple a its.toArray from p) ?_
    refine ⟨s1.heap.objs.size, [s1.heap.objs.size], _, _, H1, rfl, I1.kept (t' := s1.toks) fun b o e => Heap.get?_push_of_some _ e, turn_tuple a _, ⟨_, Heap.get?_push_size _ rfl, rfl, rfl⟩, fun b hb => ?_, q⟩
    have e : b = s1.heap.objs.size := by simpa using hb
    subst e
    exact I1.fpOk (Nat.le_refl _) (I1.hok.fresh (Nat.le_refl _))
  · subst e
    obtain ⟨t, rfl⟩ := r1
    cases ha : z.cps.all (· < 128)
    · exact wpAny_pyIter_wide ha (pi_one (tk := s1.toks) I1 _ (turn_str _ z t "str_iterator" (.inr rfl)) ⟨_, Heap.get?_push_size _ rfl, rfl, rfl⟩ q)
    · exact wpAny_pyIter_ascii ha (pi_one (tk := s1.toks) I1 _ (turn_str _ z t "str_ascii_iterator" (.inl rfl)) ⟨_, Heap.get?_push_size _ rfl, rfl, rfl⟩ q)
section
variable {G : GG} {Z : Ent} {ms : List MV} {a : Addr} {w : Bool}
theorem it_list : ItOk G (Itl G.K a) ms (fun Z A H => HoldL G Z A H ms a w) (fun b => w = false ∧ b = a) where
  stp := fun p S S' s => p.stp S S' s
  wait := fun p e n => p.wait' e n
  rew := fun n p => p.rew (fun z e => n ⟨z, e⟩)
  at_ := fun p e => by obtain ⟨e1, e⟩ := e; subst e; exact p.on e1
  go := fun {Z i A H} hi p => by
    obtain ⟨b, vs, e, h1, h2⟩ := p.lst
    cases e
    obtain ⟨v, hv, _⟩ := h2.get (List.getElem?_eq_getElem hi)
    exact ⟨vs, v, h1, hv⟩
  stop := fun {Z A H} p => by
    obtain ⟨b, vs, e, h1, h2⟩ := p.lst
    cases e
    exact ⟨vs, h1, by rw [h2.len]; exact Nat.le_refl _⟩
  yld := fun {Z i A γ σ H x H'} p S hi y => by
    obtain ⟨b, vs, e, h1, h2⟩ := p.lst
    cases e
    obtain ⟨v, hv, r⟩ := h2.get (List.getElem?_eq_getElem hi)
    obtain ⟨e, y⟩ := y
    subst e
    have := y vs h1
    rw [hv] at this
    cases this
    exact ⟨.refl _, _, List.getElem?_eq_getElem hi, r⟩
theorem it_tup : ItOk G (Itt G.K a) ms (fun Z A H => Hold G Z A H (.tup ms) (.ref a)) (fun b => False) where
  stp := fun p S S' s => p.stp S S' s
  wait := fun p e n => p.wait' e n
  rew := fun n p => p.rewT
  at_ := fun p e => e.elim
  go := fun {Z i A H} hi p => by
    obtain ⟨b, vs, e, h1, h2⟩ := p.tup
    cases e
    obtain ⟨v, hv, _⟩ := h2.get (List.getElem?_eq_getElem hi)
    exact ⟨vs, v, h1, hv⟩
  stop := fun {Z A H} p => by
    obtain ⟨b, vs, e, h1, h2⟩ := p.tup
    cases e
    exact ⟨vs, h1, by rw [h2.len]; exact Nat.le_refl _⟩
  yld := fun {Z i A γ σ H x H'} p S hi y => by
    obtain ⟨b, vs, e, h1, h2⟩ := p.tup
    cases e
    obtain ⟨v, hv, r⟩ := h2.get (List.getElem?_eq_getElem hi)
    obtain ⟨e, y⟩ := y
    subst e
    have := y vs h1
    rw [hv] at this
    cases this
    exact ⟨.refl _, _, List.getElem?_eq_getElem hi, r⟩
theorem it_str {z : Str} : ItOk G (Its z) (z.cps.toList.map fun c => .str ⟨#[c]⟩) (fun Z A H => True) (fun b => False) where
  stp := fun _ _ _ _ => trivial
  wait := fun _ _ _ => trivial
  rew := fun _ _ => trivial
  at_ := fun _ e => e.elim
  go := fun {Z i A H} hi p => by
    show i < z.cps.size
    simpa using hi
  stop := fun {Z A H} p => by
    show z.cps.size ≤ _
    simp
  yld := fun {Z i A γ σ H x H'} p S hi y => by
    obtain ⟨rfl, c, hc, rfl⟩ := y
    refine ⟨.refl _, .str ⟨#[c]⟩, ?_, by simp only [Rep]⟩
    rw [List.getElem?_map, Array.getElem?_toList, hc]
    rfl
theorem it_rng {lo : Int} {n : Nat} : ItOk G (Itr lo n) ((List.range n).map fun k => .int (lo + (k : Nat))) (fun Z A H => True) (fun b => False) where
  stp := fun _ _ _ _ => trivial
  wait := fun _ _ _ => trivial
  rew := fun _ _ => trivial
  at_ := fun _ e => e.elim
  go := fun {Z i A H} hi p => by
    show i < n
    simpa using hi
  stop := fun {Z A H} p => by
    show n ≤ _
    simp
  yld := fun {Z i A γ σ H x H'} p S hi y => by
    obtain ⟨rfl, rfl⟩ := y
    have hn : i < n := by simpa using hi
    refine ⟨.refl _, .int (lo + i), ?_, by simp only [Rep]⟩
    rw [List.getElem?_map, List.getElem?_range hn]
    rfl
/-- pairs, new at each turn -/
def pairsM (ms ns : List MV) : List MV := List.zipWith (fun m n => .tup [m, n]) ms ns
theorem pairsM_get {ms ns : List MV} {i : Nat} {m n : MV} (h1 : ms[i]? = some m) (h2 : ns[i]? = some n) : (pairsM ms ns)[i]? = some (.tup [m, n]) := by
  unfold pairsM
  rw [List.getElem?_zipWith, h1, h2]
theorem rep_pair {A : AM} {γ : Sg} {σ : L2.St} {H : Hp} {T : Addr} {x y : V} {m n : MV} (S : Sim G Z A γ σ H) (hT : H T = none) (r1 : Rep G (Mz Z A) H m x) (r2 : Rep G (Mz Z A) H n y) : Rep G (Mz Z A) (upd H T (.tup [x, y])) (.tup [m, n]) (.ref T) := by
  have e : Same H (upd H T (.tup [x, y])) := same_new hT
  simp only [Rep]
  exact ⟨T, [x, y], rfl, .inl ⟨.inl upd_same, S.trk.new hT⟩, Reps.consI (r1.same e) (Reps.one (r2.same e))⟩
def enumM (ms : List MV) : List MV := pairsM ((List.range ms.length).map fun k => .int ((k : Nat) : Int)) ms
theorem enumM_len (ms : List MV) : (enumM ms).length = ms.length := by unfold enumM pairsM; simp
theorem it_enum {w : Bool} : ItOk G (Ite G.K a) (enumM ms) (fun Z A H => HoldL G Z A H ms a w) (fun b => w = false ∧ b = a) where
  stp := fun p S S' s => p.stp S S' s
  wait := fun p e n => p.wait' e n
  rew := fun n p => p.rew (fun z e => n ⟨z, e⟩)
  at_ := fun p e => by obtain ⟨e1, e⟩ := e; subst e; exact p.on e1
  go := fun {Z i A H} hi p => by
    rw [enumM_len] at hi
    obtain ⟨b, vs, e, h1, h2⟩ := p.lst
    cases e
    obtain ⟨v, hv, _⟩ := h2.get (List.getElem?_eq_getElem hi)
    exact ⟨vs, v, h1, hv⟩
  stop := fun {Z A H} p => by
    rw [enumM_len]
    obtain ⟨b, vs, e, h1, h2⟩ := p.lst
    cases e
    exact ⟨vs, h1, by rw [h2.len]; exact Nat.le_refl _⟩
  yld := fun {Z i A γ σ H x H'} p S hi y => by
    rw [enumM_len] at hi
    obtain ⟨b, vs, e, h1, h2⟩ := p.lst
    cases e
    obtain ⟨v, hv, r⟩ := h2.get (List.getElem?_eq_getElem hi)
    obtain ⟨T, w, rfl, hT, rfl, hw⟩ := y
    have := hw vs h1
    rw [hv] at this
    cases this
    exact ⟨same_new hT, _, pairsM_get (by rw [List.getElem?_map, List.getElem?_range hi]; rfl) (List.getElem?_eq_getElem hi), rep_pair S hT (by simp only [Rep]) r⟩
theorem it_enumT : ItOk G (Iet G.K a) (enumM ms) (fun Z A H => Hold G Z A H (.tup ms) (.ref a)) (fun b => False) where
  stp := fun p S S' s => p.stp S S' s
  wait := fun p e n => p.wait' e n
  rew := fun n p => p.rewT
  at_ := fun p e => e.elim
  go := fun {Z i A H} hi p => by
    rw [enumM_len] at hi
    obtain ⟨b, vs, e, h1, h2⟩ := p.tup
    cases e
    obtain ⟨v, hv, _⟩ := h2.get (List.getElem?_eq_getElem hi)
    exact ⟨vs, v, h1, hv⟩
  stop := fun {Z A H} p => by
    rw [enumM_len]
    obtain ⟨b, vs, e, h1, h2⟩ := p.tup
    cases e
    exact ⟨vs, h1, by rw [h2.len]⟩
  yld := fun {Z i A γ σ H x H'} p S hi y => by
    rw [enumM_len] at hi
    obtain ⟨b, vs, e, h1, h2⟩ := p.tup
    cases e
    obtain ⟨v, hv, r⟩ := h2.get (List.getElem?_eq_getElem hi)
    obtain ⟨T, w, rfl, hT, rfl, hw⟩ := y
    have := hw vs h1
    rw [hv] at this
    cases this
    exact ⟨same_new hT, _, pairsM_get (by rw [List.getElem?_map, List.getElem?_range hi]; rfl) (List.getElem?_eq_getElem hi), rep_pair S hT (by simp only [Rep]) r⟩
end
section
variable {X : Cx} {tg a b e : Expr} {es elts : List Expr} {f : FE} {fa : FA} {o q : Opd} {pos p tpos : Pos} {x : Str} {s : FS} {sts : List Stmt} {fi : FI} {kk : Nat}
theorem ri_seq (ha : RQ X e o) : RI X tg e (fSeq o) := fun W tk => PI_imp (pi_seq (ha W tk)) fun σ H R ⟨Z, A, γ, S, h⟩ => by
  refine (Stg.start S).run ?_
  unfold fSeq at h
  cases E1 : oEv o γ with
  | no => rw [E1] at h; exact h
  | ex e γ1 => rw [E1] at h; exact h
  | ok c γ1 =>
    rw [E1] at h
    simp only at h ⊢
    intro x l1 A1 H1 T1 _ L1
    split at h
    · rename_i hw
      have hd := L1.hold T1.sim hw fun i e => by
        subst e
        obtain ⟨e1, e2⟩ := oEv_sl E1
        rw [e1]
        exact e2
      obtain ⟨k, v⟩ := c
      cases v with
      | lst ms =>
        obtain ⟨a, vs, rfl, h1, h2⟩ := hd.lst
        obtain ⟨w, hl⟩ := HoldL.split hd
        exact .inl ⟨a, rfl, ⟨vs, h1⟩, h _ l1 A1 H1 _ _ T1 it_list hl⟩
      | tup ms =>
        obtain ⟨a, vs, rfl, h1, h2⟩ := hd.tup
        exact .inr (.inl ⟨a, rfl, ⟨vs, h1⟩, h _ l1 A1 H1 _ _ T1 it_tup hd⟩)
      | str z =>
        have := hd.str
        exact .inr (.inr ⟨z, this, h _ l1 A1 H1 _ _ T1 it_str trivial⟩)
      | _ => exact h.elim
    · exact h.elim
/-! range -/
def rangeM1 : List MV → Option (List MV)
  | [.int j] => if -(2 ^ 62) ≤ j ∧ j < 2 ^ 62 then some ((List.range j.toNat).map fun k => .int ((0 : Int) + (k : Nat))) else none
  | _ => none
def rangeM2 : List MV → Option (List MV)
  | [.int i, .int j] => if -(2 ^ 62) ≤ i ∧ i < 2 ^ 62 ∧ -(2 ^ 62) ≤ j ∧ j < 2 ^ 62 then some ((List.range (j - i).toNat).map fun k => .int (i + (k : Nat))) else none
  | _ => none
def fArgs (g : List MV → Option (List MV)) (fa : FA) : FI := fun γ => match fa γ with
  | .ok ms γ1 => (match g ms with
    | some r => .ok r γ1
    | none => .no)
  | .ex e γ1 => .ex e γ1
  | .no => .no
theorem EndA.fin {G : GG} {Z : Ent} {A A1 : AM} {γ : Sg} {σ : L2.St} {H H1 : Hp} (S1 : Sim G Z A1 γ σ H1) (le : Le A1 A) (k : Keep (Mz Z A) H H1) : Stg G Z A H [] A1 γ σ H1 := ⟨S1, le, k, fun _ h => nomatch h⟩
theorem ri_range1 (hg : Gl X "range") (hm : X.mg "range" = none) (ha : RA X [a] fa) (hs : starEach [a] X.env = [(false, eval a X.env)] := by rfl) : RI X tg (.Call (.Name "range" p) [a] [] pos) (fArgs rangeM1 fa) := fun W tk =>
  PI_imp (pi_range1 hg hm (ha W tk) hs) fun σ H R ⟨Z, A, γ, S, h⟩ => by
    refine ⟨Z, A, γ, S, ?_⟩
    unfold fArgs at h
    cases E1 : fa γ with
    | no => rw [E1] at h; exact h
    | ex e γ1 => rw [E1] at h; exact h
    | ok ms γ1 =>
      rw [E1] at h
      simp only at h
      intro xs A1 H1 S1 le k r
      cases E2 : rangeM1 ms with
      | none => rw [E2] at h; exact h.elim
      | some rr =>
        rw [E2] at h
        unfold rangeM1 at E2
        split at E2
        · rename_i j
          simp only [Reps, Rep] at r
          obtain ⟨v, w, rfl, rfl, rfl⟩ := r
          split at E2
          · rename_i hb
            cases E2
            exact ⟨j, rfl, hb.1, hb.2, h _ [] A1 H1 _ _ (EndA.fin S1 le k) it_rng trivial⟩
          · cases E2
        · cases E2
theorem ri_range2 (hg : Gl X "range") (hm : X.mg "range" = none) (ha : RA X [a, b] fa) (hs : starEach [a, b] X.env = [(false, eval a X.env), (false, eval b X.env)] := by rfl) (hs2 : starEach [b] X.env = [(false, eval b X.env)] := by rfl) :
    RI X tg (.Call (.Name "range" p) [a, b] [] pos) (fArgs rangeM2 fa) := fun W tk =>
  PI_imp (pi_range2 hg hm (ha W tk) hs hs2) fun σ H R ⟨Z, A, γ, S, h⟩ => by
    refine ⟨Z, A, γ, S, ?_⟩
    unfold fArgs at h
    cases E1 : fa γ with
    | no => rw [E1] at h; exact h
    | ex e γ1 => rw [E1] at h; exact h
    | ok ms γ1 =>
      rw [E1] at h
      simp only at h
      intro xs A1 H1 S1 le k r
      cases E2 : rangeM2 ms with
      | none => rw [E2] at h; exact h.elim
      | some rr =>
        rw [E2] at h
        unfold rangeM2 at E2
        split at E2
        · rename_i i j
          simp only [Reps, Rep] at r
          obtain ⟨v, w, rfl, rfl, v2, w2, rfl, rfl, rfl⟩ := r
          split at E2
          · rename_i hb
            cases E2
            exact ⟨i, j, rfl, hb, h _ [] A1 H1 _ _ (EndA.fin S1 le k) it_rng trivial⟩
          · cases E2
        · cases E2
/-! enumerate, zip -/
def fEnum (o : Opd) : FI := fun γ => match oEv o γ with
  | .ok c γ1 => if walkable o c then (match c.v with
    | .lst ms => .ok (enumM ms) γ1
    | .tup ms => .ok (enumM ms) γ1
    | _ => .no) else .no
  | .ex e γ1 => .ex e γ1
  | .no => .no
def iEnA (K : PySem.W.Frag) (ta : TA) : TI := fun σ H R => ta σ H fun vs H1 => ∃ a, vs = [.ref a] ∧ ((∃ xs, SqL K H1 a xs ∧ R (Ite K a) H1) ∨ ∃ xs, SqT K H1 a xs ∧ R (Iet K a) H1)
theorem pi_enumA {ta : TA} (hg : Gl X "enumerate") (hm : X.mg "enumerate" = none) (ha : PA X [e] ta) (hs : starEach [e] X.env = [(false, eval e X.env)] := by rfl) :
    PI X (.Tuple elts kk tpos) (.Call (.Name "enumerate" p) [e] [] pos) (iEnA X.K ta) := by
  refine ⟨fun pins s σ H R I h => ?_⟩
  refine Call_ (ld_blt I hg hm boot_enumerate (PyProof.Rows.callWith_type1 (thn (ha.run pos pins s σ H _ I h) fun us s1 ⟨vs, H1, I1, r1, q1⟩ => ?_) hs rfl))
  · obtain ⟨a, ex, q1⟩ := q1
    subst ex
    cases r1 with
    | cons r rr =>
      cases rr
      cases r
      rcases q1 with ⟨xs, hq, q⟩ | ⟨xs, hq, q⟩
      · obtain ⟨its, rv, p', hz⟩ := I1.list hq
        refine call_enumerate_list p'.isList fun h' he hit hsz hk => wpAny_pyIter_enum he ?_
        have I2 : L2.Inv X pins σ H1 { s1 with heap := h' } := I1.kept (t' := s1.toks) hk
        refine ⟨s1.heap.objs.size + 1, [s1.heap.objs.size + 1, s1.heap.objs.size], _, _, H1, rfl, I2, turn_enum a (s1.heap.objs.size + 1) s1.heap.objs.size, ⟨⟨.none, he⟩, hit, Nat.succ_ne_self _⟩, fun b hb => ?_, q⟩
        have hle : s1.heap.objs.size ≤ b := by
          rcases (show b = s1.heap.objs.size + 1 ∨ b = s1.heap.objs.size by simpa using hb) with z | z
          · rw [z]; exact Nat.le_add_right _ _
          · rw [z]; exact Nat.le_refl _
        exact I1.fpOk hle (I1.hok.fresh hle)
      · obtain ⟨its, rv, p', hz⟩ := I1.tuple hq
        have hal : a < s1.heap.objs.size := p'.lt
        refine call_enum1 (begins_tuple a its.toArray) (show s1.heap.IsTuple a its.toArray from p') fun h' he hit hsz hk => wpAny_pyIter_enum he ?_
        have I2 : L2.Inv X pins σ H1 { s1 with heap := h' } := I1.kept (t' := s1.toks) hk
        refine ⟨s1.heap.objs.size + 1, [s1.heap.objs.size + 1, s1.heap.objs.size], _, _, H1, rfl, I2, turn_enumT a (s1.heap.objs.size + 1) s1.heap.objs.size (Nat.succ_ne_self _) (Nat.ne_of_lt hal) (Nat.ne_of_lt (Nat.lt_succ_of_lt hal)), ⟨⟨.none, he⟩, ⟨_, hit, rfl, rfl⟩⟩, fun b hb => ?_, q⟩
        have hle : s1.heap.objs.size ≤ b := by
          rcases (show b = s1.heap.objs.size + 1 ∨ b = s1.heap.objs.size by simpa using hb) with z | z
          · rw [z]; exact Nat.le_add_right _ _
          · rw [z]; exact Nat.le_refl _
        exact I1.fpOk hle (I1.hok.fresh hle)
theorem ri_enum (hg : Gl X "enumerate") (hm : X.mg "enumerate" = none) (ha : RQ X e o) (hs : starEach [e] X.env = (false, eval e X.env) :: starEach [] X.env := by rfl) : RI X (.Tuple elts kk tpos) (.Call (.Name "enumerate" p) [e] [] pos) (fEnum o) := fun W tk =>
  PI_imp (pi_enumA hg hm (pa_cons (ha W tk) pa_nil hs) hs) fun σ H R ⟨Z, A, γ, S, h⟩ => by
    refine (Stg.start S).run ?_
    unfold fEnum at h
    cases E1 : oEv o γ with
    | no => rw [E1] at h; exact h
    | ex e γ1 => rw [E1] at h; exact h
    | ok c γ1 =>
      rw [E1] at h
      simp only at h ⊢
      intro x l1 A1 H1 T1 _ L1
      split at h
      · rename_i hw
        have hd := L1.hold T1.sim hw fun i e => by
          subst e
          obtain ⟨e1, e2⟩ := oEv_sl E1
          rw [e1]
          exact e2
        obtain ⟨k, v⟩ := c
        cases v with
        | lst ms =>
          obtain ⟨a, vs, rfl, h1, h2⟩ := hd.lst
          obtain ⟨w, hl⟩ := HoldL.split hd
          exact ⟨a, rfl, .inl ⟨vs, h1, h _ l1 A1 H1 _ _ T1 it_enum hl⟩⟩
        | tup ms =>
          obtain ⟨a, vs, rfl, h1, h2⟩ := hd.tup
          exact ⟨a, rfl, .inr ⟨vs, h1, h _ l1 A1 H1 _ _ T1 it_enumT hd⟩⟩
        | _ => exact h.elim
      · exact h.elim
def fZip (o q : Opd) : FI := fun γ => match oEv o γ with
  | .ok c γ1 => if walkable o c then (match oEv q γ1 with
    | .ok d γ2 => if walkable q d then (match c.v, d.v with
      | .lst ms, .lst ns => .ok (pairsM ms ns) γ2
      | .tup ms, .tup ns => .ok (pairsM ms ns) γ2
      | _, _ => .no) else .no
    | .ex e γ2 => .ex e γ2
    | .no => .no) else .no
  | .ex e γ1 => .ex e γ1
  | .no => .no
end
section
variable {G : GG} {Z : Ent} {ms ns : List MV} {a b : Addr}
theorem pairsM_len : (pairsM ms ns).length = min ms.length ns.length := by unfold pairsM; simp
theorem it_zip {w w2 : Bool} : ItOk G (Itz G.K a b) (pairsM ms ns) (fun Z A H => HoldL G Z A H ms a w ∧ HoldL G Z A H ns b w2) (fun c => (w = false ∧ c = a) ∨ (w2 = false ∧ c = b)) where
  stp := fun p S S' s => ⟨p.1.stp S S' s, p.2.stp S S' s⟩
  wait := fun p e n => ⟨p.1.wait' e n, p.2.wait' e n⟩
  rew := fun n p => ⟨p.1.rew (fun z e => n (.inl ⟨z, e⟩)), p.2.rew (fun z e => n (.inr ⟨z, e⟩))⟩
  at_ := fun p e => by
    rcases e with ⟨e1, e⟩ | ⟨e1, e⟩
    · subst e; exact p.1.on e1
    · subst e; exact p.2.on e1
  go := fun {Z i A H} hi p => by
    rw [pairsM_len] at hi
    obtain ⟨_, vs, e, h1, h2⟩ := p.1.lst
    cases e
    obtain ⟨_, ws, e, h3, h4⟩ := p.2.lst
    cases e
    obtain ⟨v, hv, _⟩ := h2.get (List.getElem?_eq_getElem (show i < ms.length by omega))
    obtain ⟨w, hw, _⟩ := h4.get (List.getElem?_eq_getElem (show i < ns.length by omega))
    exact ⟨vs, ws, v, w, h1, h3, hv, hw⟩
  stop := fun {Z A H} p => by
    rw [pairsM_len]
    obtain ⟨_, vs, e, h1, h2⟩ := p.1.lst
    cases e
    obtain ⟨_, ws, e, h3, h4⟩ := p.2.lst
    cases e
    exact ⟨vs, ws, h1, h3, by rw [h2.len, h4.len]; omega⟩
  yld := fun {Z i A γ σ H x H'} p S hi y => by
    rw [pairsM_len] at hi
    obtain ⟨_, vs, e, h1, h2⟩ := p.1.lst
    cases e
    obtain ⟨_, ws, e, h3, h4⟩ := p.2.lst
    cases e
    obtain ⟨v, hv, r⟩ := h2.get (List.getElem?_eq_getElem (show i < ms.length by omega))
    obtain ⟨w, hw, r'⟩ := h4.get (List.getElem?_eq_getElem (show i < ns.length by omega))
    obtain ⟨T, x1, y1, rfl, hT, rfl, e1, e2⟩ := y
    have q1 := e1 vs h1
    rw [hv] at q1
    cases q1
    have q2 := e2 ws h3
    rw [hw] at q2
    cases q2
    exact ⟨same_new hT, _, pairsM_get (List.getElem?_eq_getElem _) (List.getElem?_eq_getElem _), rep_pair S hT r r'⟩
theorem it_zipT : ItOk G (ItzT G.K a b) (pairsM ms ns) (fun Z A H => Hold G Z A H (.tup ms) (.ref a) ∧ Hold G Z A H (.tup ns) (.ref b)) (fun c => False) where
  stp := fun p S S' s => ⟨p.1.stp S S' s, p.2.stp S S' s⟩
  wait := fun p e n => ⟨p.1.wait' e n, p.2.wait' e n⟩
  rew := fun n p => ⟨p.1.rewT, p.2.rewT⟩
  at_ := fun p e => e.elim
  go := fun {Z i A H} hi p => by
    rw [pairsM_len] at hi
    obtain ⟨_, vs, e, h1, h2⟩ := p.1.tup
    cases e
    obtain ⟨_, ws, e, h3, h4⟩ := p.2.tup
    cases e
    obtain ⟨v, hv, _⟩ := h2.get (List.getElem?_eq_getElem (show i < ms.length by omega))
    obtain ⟨w, hw, _⟩ := h4.get (List.getElem?_eq_getElem (show i < ns.length by omega))
    exact ⟨vs, ws, v, w, h1, h3, hv, hw⟩
  stop := fun {Z A H} p => by
    rw [pairsM_len]
    obtain ⟨_, vs, e, h1, h2⟩ := p.1.tup
    cases e
    obtain ⟨_, ws, e, h3, h4⟩ := p.2.tup
    cases e
    exact ⟨vs, ws, h1, h3, by rw [h2.len, h4.len]; omega⟩
  yld := fun {Z i A γ σ H x H'} p S hi y => by
    rw [pairsM_len] at hi
    obtain ⟨_, vs, e, h1, h2⟩ := p.1.tup
    cases e
    obtain ⟨_, ws, e, h3, h4⟩ := p.2.tup
    cases e
    obtain ⟨v, hv, r⟩ := h2.get (List.getElem?_eq_getElem (show i < ms.length by omega))
    obtain ⟨w, hw, r'⟩ := h4.get (List.getElem?_eq_getElem (show i < ns.length by omega))
    obtain ⟨T, x1, y1, rfl, hT, rfl, e1, e2⟩ := y
    have q1 := e1 vs h1
    rw [hv] at q1
    cases q1
    have q2 := e2 ws h3
    rw [hw] at q2
    cases q2
    exact ⟨same_new hT, _, pairsM_get (List.getElem?_eq_getElem _) (List.getElem?_eq_getElem _), rep_pair S hT r r'⟩
end
section
variable {X : Cx} {tg a b e : Expr} {es elts : List Expr} {f : FE} {fa : FA} {o q : Opd} {pos p tpos : Pos} {kk : Nat}
/-- what is known of an operand, in the entry with more that waits -/
theorem Hold.up {G : GG} {Z Z' : Ent} {A A' : AM} {γ γ' : Sg} {σ : L2.St} {H H' : Hp} {c : Cell} {x : V} (f : FE) (up : ∀ q d y, Later G Z A γ σ H q d y → Later G Z' A' γ' σ H' q d y) (h : Hold G Z A H c.v x) : Hold G Z' A' H' c.v x := up (.ex f) c x h
theorem ri_zip (hg : Gl X "zip") (hm : X.mg "zip" = none) (ha : RQ X a o) (hb : RQ X b q)
    (hs : starEach [a, b] X.env = (false, eval a X.env) :: starEach [b] X.env := by rfl) (hs2 : starEach [b] X.env = (false, eval b X.env) :: starEach [] X.env := by rfl) (hpl : (backTo pos (starEach [b] X.env)).any (·.1) = false := by rfl) :
    RI X (.Tuple elts kk tpos) (.Call (.Name "zip" p) [a, b] [] pos) (fZip o q) := fun W tk =>
  PI_imp (pi_zipA hg hm (pa_cons (ha W tk) (pa_cons (hb W tk) pa_nil hs2) hs) hs hpl) fun σ H R ⟨Z, A, γ, S, h⟩ => by
    refine (Stg.start S).run ?_
    unfold fZip at h
    cases E1 : oEv o γ with
    | no => rw [E1] at h; exact h
    | ex e γ1 => rw [E1] at h; exact h
    | ok c γ1 =>
      rw [E1] at h
      simp only at h ⊢
      intro x l1 A1 H1 T1 _ L1
      split at h
      · rename_i hw
        have hd := L1.hold T1.sim hw fun i e => by
          subst e
          obtain ⟨e1, e2⟩ := oEv_sl E1
          rw [e1]
          exact e2
        refine T1.run ?_
        cases E2 : oEv q γ1 with
        | no => rw [E2] at h; exact h
        | ex e γ2 => rw [E2] at h; exact h
        | ok d γ2 =>
          rw [E2] at h
          simp only at h ⊢
          intro y l2 A2 H2 T2 up L2
          split at h
          · rename_i hw2
            have hd2 := L2.hold T2.sim hw2 fun i e => by
              subst e
              obtain ⟨e1, e2⟩ := oEv_sl E2
              rw [e1]
              exact e2
            have hd' := Hold.up (eC .non) up hd
            obtain ⟨k, v⟩ := c
            obtain ⟨k2, v2⟩ := d
            cases v with
            | lst ms =>
              cases v2 with
              | lst ns =>
                obtain ⟨a1, vs, rfl, h1, h2⟩ := hd'.lst
                obtain ⟨a2, ws, rfl, h3, h4⟩ := hd2.lst
                obtain ⟨w, hl⟩ := HoldL.split hd'
                obtain ⟨w2, hl2⟩ := HoldL.split hd2
                exact ⟨a1, a2, vs, ws, rfl, .inl ⟨h1, h3, h _ l2 A2 H2 _ _ T2 it_zip ⟨hl, hl2⟩⟩⟩
              | _ => exact h.elim
            | tup ms =>
              cases v2 with
              | tup ns =>
                obtain ⟨a1, vs, rfl, h1, h2⟩ := hd'.tup
                obtain ⟨a2, ws, rfl, h3, h4⟩ := hd2.tup
                exact ⟨a1, a2, vs, ws, rfl, .inr ⟨h1, h3, h _ l2 A2 H2 _ _ T2 it_zipT ⟨hd', hd2⟩⟩⟩
              | _ => exact h.elim
            | _ => cases v2 <;> exact h.elim
          · exact h.elim
      · exact h.elim
end
end Mi

set_option Elab.async false
set_option linter.all false
set_option maxRecDepth 100000
set_option maxHeartbeats 4000000
/-! list comprehensions -/
namespace Mi
open PySem PySem.Spec PyProof.Rows L2 My

def wipeG (γ : Sg) : List Nat → Sg
  | [] => γ
  | v :: vs => (wipeG γ vs).set v none
def valOf (γ : Sg) (v : Nat) : Option Cell := match γ[v]? with
  | some (some ⟨.val, m⟩) => some ⟨.val, m⟩
  | _ => none
/-- behind a block: its own slots hold what they held as values -/
def backG (γ1 : Sg) : List Nat → Sg → Sg
  | [], γ => γ
  | v :: vs, γ => (backG γ1 vs γ).set v (valOf γ1 v)
section
variable {G : GG} {Z : Ent} {A A' A0 A1 : AM} {γ γ' γ1 : Sg} {σ σ' : L2.St} {H H' H0 H1 : Hp} {c d : Cell} {x y z : V} {v : MV} {l : List (Addr × HO)} {W : WX} {vs : List Nat}
theorem Sim.clear2 {i : Nat} (S : Sim G Z A γ σ H) : Sim G Z (A.del i) (γ.set i none) (σ.set i none) H := by
  have S' := S.clear (i := i)
  refine ⟨by rw [List.length_set, List.length_set]; exact S.len, fun j c hj => ?_, S'.adr, S'.inj, S'.mf, S'.fr, S'.new, S'.tb⟩
  have hji : j ≠ i := by
    rintro rfl
    rw [List.getElem?_set] at hj
    simp only [if_true] at hj
    split at hj <;> cases hj
  rw [List.getElem?_set_ne (Ne.symm hji)]
  exact S'.cell j c hj
theorem Sim.wipe (S : Sim G Z A γ σ H) : ∀ vs : List Nat, ∃ A', Le A' A ∧ Sim G Z A' (wipeG γ vs) (L2.wipe σ vs) H
  | [] => ⟨A, .refl, S⟩
  | v :: vs => by
    obtain ⟨A', le, S'⟩ := Sim.wipe S vs
    exact ⟨_, AM.del_le.trans le, S'.clear2⟩
theorem wipeG_len (γ : Sg) : ∀ vs : List Nat, (wipeG γ vs).length = γ.length
  | [] => rfl
  | v :: vs => by unfold wipeG; rw [List.length_set, wipeG_len γ vs]
theorem wipeG_at {γ : Sg} {i : Nat} : ∀ {vs : List Nat}, i ∈ vs → (wipeG γ vs)[i]? = none ∨ (wipeG γ vs)[i]? = some none
  | [], h => by cases h
  | v :: vs, h => by
    unfold wipeG
    by_cases e : v = i
    · subst e
      rw [List.getElem?_set]
      simp only [if_true]
      split
      · exact .inr rfl
      · exact .inl rfl
    · rw [List.getElem?_set_ne e]
      exact wipeG_at ((List.mem_cons.mp h).elim (fun z => absurd z.symm e) fun h => h)
theorem wipeG_out {γ : Sg} {i : Nat} : ∀ {vs : List Nat}, i ∉ vs → (wipeG γ vs)[i]? = γ[i]?
  | [], h => rfl
  | v :: vs, h => by
    unfold wipeG
    rw [List.getElem?_set_ne (fun e => h (by rw [e]; exact List.mem_cons_self)), wipeG_out fun z => h (List.mem_cons_of_mem _ z)]
theorem wipe_out' {σ : L2.St} {i : Nat} : ∀ {vs : List Nat}, i ∉ vs → (L2.wipe σ vs)[i]? = σ[i]?
  | [], h => rfl
  | v :: vs, h => by
    unfold L2.wipe
    rw [List.getElem?_set_ne (fun e => h (by rw [e]; exact List.mem_cons_self)), wipe_out' fun z => h (List.mem_cons_of_mem _ z)]
theorem wipe_at' {σ : L2.St} {i : Nat} : ∀ {vs : List Nat}, i ∈ vs → (L2.wipe σ vs)[i]? = if i < σ.length then some none else none
  | [], h => by cases h
  | v :: vs, h => by
    unfold L2.wipe
    by_cases e : v = i
    · subst e
      rw [List.getElem?_set]
      simp only [if_true, L2.wipe_length]
    · rw [List.getElem?_set_ne e]
      exact wipe_at' ((List.mem_cons.mp h).elim (fun z => absurd z.symm e) fun h => h)
theorem wipe_eq {σ σ' : L2.St} (hl : σ'.length = σ.length) (h : ∀ i, i ∉ vs → σ'[i]? = σ[i]?) : L2.wipe σ' vs = L2.wipe σ vs := by
  apply List.ext_getElem?
  intro i
  by_cases hi : i ∈ vs
  · rw [wipe_at' hi, wipe_at' hi, hl]
  · rw [wipe_out' hi, wipe_out' hi, h i hi]
theorem wipe_wipe {σ : L2.St} : L2.wipe (L2.wipe σ vs) vs = L2.wipe σ vs := wipe_eq (L2.wipe_length σ vs) fun i hi => wipe_out' hi
theorem backG_len : ∀ vs : List Nat, (backG γ1 vs γ).length = γ.length
  | [] => rfl
  | v :: vs => by unfold backG; rw [List.length_set, backG_len vs]
theorem backG_out {i : Nat} : ∀ {vs : List Nat}, i ∉ vs → (backG γ1 vs γ)[i]? = γ[i]?
  | [], h => rfl
  | v :: vs, h => by
    unfold backG
    rw [List.getElem?_set_ne (fun e => h (by rw [e]; exact List.mem_cons_self)), backG_out fun z => h (List.mem_cons_of_mem _ z)]
theorem backG_at {i : Nat} {c : Cell} : ∀ {vs : List Nat}, i ∈ vs → (backG γ1 vs γ)[i]? = some (some c) → γ1[i]? = some (some c) ∧ c.k = .val
  | [], h, _ => by cases h
  | v :: vs, h, e => by
    unfold backG at e
    by_cases hv : v = i
    · subst hv
      rw [List.getElem?_set] at e
      simp only [if_true] at e
      split at e
      · have e := Option.some.inj e
        unfold valOf at e
        split at e
        · rename_i m hm
          cases e
          exact ⟨hm, rfl⟩
        · cases e
      · cases e
    · rw [List.getElem?_set_ne hv] at e
      exact backG_at ((List.mem_cons.mp h).elim (fun z => absurd z.symm hv) fun h => h) e
/-- behind the block -/
theorem Sim.backG {Z1 : Ent} (S1 : Sim G Z1 A1 γ1 σ H1) (S : Sim G Z A γ (L2.wipe σ vs) H) (hg : ∀ i ∈ vs, γ[i]? = none ∨ γ[i]? = some none) (k : Keep (Mz Z1 A1) H1 H) (m : ∀ b o, H1 b = some o → Mz Z A b → Mz Z1 A1 b) : Sim G Z A (Mi.backG γ1 vs γ) σ H := by
  refine ⟨by rw [backG_len, S.len, L2.wipe_length], fun i c hi => ?_, fun i a hi => ?_, S.inj, S.mf, S.fr, S.new, S.tb⟩
  · by_cases hv : i ∈ vs
    · obtain ⟨e1, e2⟩ := backG_at hv hi
      obtain ⟨x, h1, h2⟩ := S1.cell i c e1
      obtain ⟨kk, w⟩ := c
      cases e2
      refine ⟨x, h1, ?_, h2.2.keep k m⟩
      cases e3 : A i with
      | none => rfl
      | some a =>
        obtain ⟨c', h3, _⟩ := S.adr i a e3
        rcases hg i hv with e | e <;> rw [e] at h3 <;> cases h3
    · rw [backG_out hv] at hi
      obtain ⟨x, h1, h2⟩ := S.cell i c hi
      rw [wipe_out' hv] at h1
      exact ⟨x, h1, h2⟩
  · obtain ⟨c', h3, h4⟩ := S.adr i a hi
    have hv : i ∉ vs := fun hv => by rcases hg i hv with e | e <;> rw [e] at h3 <;> cases h3
    exact ⟨c', by rw [backG_out hv]; exact h3, h4⟩
/-- the thing that waits has changed -/
theorem Sim.rew {p : Addr} {o o' : HO} (nt : NotTab p o) (nf : ∀ u, ¬ Z.F p u) (S : Sim G (Z.wait p o) A γ σ H) : Sim G (Z.wait p o') A γ σ (L2.upd H p o') := by
  have k : Keep (Mz (Z.wait p o) A) H (L2.upd H p o') := Keep.upd wait_in
  refine ⟨S.len, fun i c hi => ?_, fun i a hi => ?_, S.inj, fun a m => ?_, fun b u hb => ?_, fun b u hb => let ⟨u', h'⟩ := S.new b u hb; k.on b u' h', ⟨S.tb.tm, fun q hq u hu => hu.elim (fun z => S.tb.nf q hq u (.inl z)) (fun z => S.tb.nf q hq o (.inr ⟨z.1, rfl⟩)), S.tb.ok.but (fun b u n hb => by rw [upd_ne n]; exact hb) S.waits nt⟩⟩
  · obtain ⟨x, h1, h2⟩ := S.cell i c hi
    refine ⟨x, h1, CellOk.keep (Z := Z.wait p o) (Z' := Z.wait p o') rfl (fun q e => ⟨e, fun u z => ?_⟩) k (fun b _ _ m => wait_same b m) (fun a e u z => ?_) h2⟩
    · have hf : Z.F q.1 q.2 := Z.lnF i q e
      rw [upd_ne (show q.1 ≠ p from fun z => nf q.2 (z ▸ hf))]
      exact z
    · rw [upd_ne (show a ≠ p from fun z => S.wait_ne i (z ▸ e))]
      exact z
  · obtain ⟨c, h1, h2, h3⟩ := S.adr i a hi
    have na : a ≠ p := fun z => S.wait_ne i (z ▸ hi)
    exact ⟨c, h1, fun u hu => hu.elim (fun hu => h2 u (.inl hu)) fun z => na z.1, h3⟩
  · obtain ⟨u, hu⟩ := S.mf a m
    exact k.on a u hu
  · rcases hb with hb | ⟨rfl, rfl⟩
    · rw [upd_ne (show b ≠ p from fun z => nf u (z ▸ hb))]
      exact S.fr b u (.inl hb)
    · exact upd_same
end

mutual
theorem asgM_len : ∀ (t : Tg) (v : MV) (γ γ' : Sg), asgM t v γ = some γ' → γ'.length = γ.length
  | .nm i, v, γ, γ', e => by
    simp only [asgM] at e
    split at e
    · cases e; rw [List.length_set]
    · cases e
  | .tp ts, .tup vs, γ, γ', e => by
    simp only [asgM] at e
    exact asgMs_len ts vs γ γ' e
  | .tp _, .non, _, _, e | .tp _, .bl _, _, _, e | .tp _, .int _, _, _, e | .tp _, .str _, _, _, e | .tp _, .lst _, _, _, e | .tp _, .dk _ _, _, _, e | .tp _, .dn _ _, _, _, e | .tp _, .ins _ _, _, _, e => by simp only [asgM] at e; cases e
theorem asgMs_len : ∀ (ts : List Tg) (vs : List MV) (γ γ' : Sg), asgMs ts vs γ = some γ' → γ'.length = γ.length
  | [], [], γ, γ', e => by simp only [asgMs] at e; cases e; rfl
  | t :: ts, v :: vs, γ, γ', e => by
    simp only [asgMs] at e
    cases E : asgM t v γ with
    | none => rw [E] at e; cases e
    | some γ1 =>
      rw [E] at e
      rw [asgMs_len ts vs γ1 γ' e, asgM_len t v γ γ1 E]
  | [], _ :: _, _, _, e | _ :: _, [], _, _, e => by simp only [asgMs] at e; cases e
end
def compM (t : Tg) (tt : FT) (f : FE) (vs : List Nat) : List MV → Sg → Option (List MV × Sg)
  | [], γ => some ([], γ)
  | m :: ms, γ => match asgM t m γ with
    | none => none
    | some γ1 => match tt γ1 with
      | .ok true γ2 => (match f γ2 with
        | .ok c γ3 => (compM t tt f vs ms (wipeG γ3 vs)).map fun r => (c.v :: r.1, r.2)
        | _ => none)
      | .ok false γ2 => compM t tt f vs ms (wipeG γ2 vs)
      | _ => none
def eComp (t : Tg) (fi : FI) (tt : FT) (f : FE) (vs : List Nat) : FE := fun γ => match fi γ with
  | .ok ms γ1 => if ms.length ≤ sizeLine then (match compM t tt f vs ms (wipeG γ1 vs) with
    | some (rs, γ2) => .ok ⟨.own, .lst rs⟩ (backG γ1 vs γ2)
    | none => .no) else .no
  | .ex e γ1 => .ex e γ1
  | .no => .no
def tYesM : FT := fun γ => .ok true γ
def RTs (X : Cx) (ifs : List Expr) (t : FT) : Prop := ∀ W : WX, Takes X W → PTs X ifs (tMT (GX X) t W)
theorem PTs_imp {X : Cx} {e : List Expr} {t t' : TT} (h : PTs X e t) (i : ∀ σ H Q, t' σ H Q → t σ H Q) : PTs X e t' := ⟨fun pins s σ H Q I q => h.run pins s σ H Q I (i _ _ _ q)⟩
theorem rts_nil {X : Cx} : RTs X [] tYesM := fun W tk => PTs_imp pts_nil fun σ H Q ⟨Z, A, γ, S, h⟩ => h A H S .refl .refl
theorem rts_one {X : Cx} {c : Expr} {t : FT} (h : RT X c t) : RTs X [c] t := fun W tk => pts_one (h W tk)
def Bot : WX := fun _ _ _ _ => False
theorem takes_bot {X : Cx} : Takes X Bot := fun u s' ⟨_, _, _, _, _, _, _, _, _, _, _, _, _, _, _, _, h⟩ => h.elim
/-- the reading of a comprehension, from what it computes -/
theorem comp_end {X : Cx} {t : Tg} {fi : FI} {tt : FT} {f : FE} {vs : List Nat} {W : WX} (hsub : ∀ i ∈ t.slots, i ∈ vs) {σ : L2.St} {H : Hp} {Q : VK} (h : tME (GX X) (eComp t fi tt f vs) W σ H Q) :
    tLc (tMI (GX X) fi W) (tMG (GX X) t) (tMT (GX X) tt Bot) (tME (GX X) f Bot) vs σ H Q := by
  obtain ⟨Z, A, γ, S, h⟩ := h
  refine ⟨Z, A, γ, S, ?_⟩
  unfold eComp at h
  cases E1 : fi γ with
  | no => rw [E1] at h; exact h
  | ex e γ1 => rw [E1] at h; exact h
  | ok ms γ1 =>
    rw [E1] at h
    simp only at h
    intro J l A1 H1 P src T K p1 D nD
    split at h
    rotate_left
    · exact h.elim
    rename_i hz
    cases E2 : compM t tt f vs ms (wipeG γ1 vs) with
    | none => rw [E2] at h; exact h.elim
    | some r =>
      obtain ⟨all, γf⟩ := r
      rw [E2] at h
      simp only at h
      have S1 := T.sim
      have nsrc : ¬ src D := fun hs => by
        obtain ⟨o, ho⟩ := K.at_ p1 hs
        rw [nD] at ho
        cases ho
      have eD : Same H1 (upd H1 D (.lst [])) := same_new nD
      have Sw := S1.wait eD nD (o := .lst []) upd_same
      obtain ⟨A2, le2, S2⟩ := Sw.wipe vs
      have nf : ∀ u, ¬ (Z.waits l).F D u := S1.nF nD
      have pw : P ((Z.waits l).wait D (.lst [])) A1 (upd H1 D (.lst [])) := K.wait p1 eD nD
      refine ⟨fun i m H' => m = ms.length - i ∧ i ≤ ms.length ∧ ∃ A' γ' acc rs rest, Sim (GX X) ((Z.waits l).wait D (.lst acc)) A' γ' (L2.wipe σ vs) H' ∧ (∀ j ∈ vs, γ'[j]? = none ∨ γ'[j]? = some none) ∧ Reps (GX X) (Mz ((Z.waits l).wait D (.lst acc)) A') H' rs acc ∧
          P ((Z.waits l).wait D (.lst acc)) A' H' ∧ compM t tt f vs (ms.drop i) γ' = some (rest, γf) ∧ rs ++ rest = all ∧ Le A' A1 ∧ Keep (Mz (Z.waits l) A1) H1 H' ∧ rs.length ≤ i,
        ⟨ms.length, by simp, Nat.zero_le _, A2, wipeG γ1 vs, [], [], all, S2, fun j hj => wipeG_at hj, Reps.nil, ?_, by rw [List.drop_zero]; exact E2, rfl, le2, .of_same eD, Nat.le_refl _⟩, ?_⟩
      · exact K.stp pw Sw S2 (.of le2 .refl)
      · rintro i m H' ⟨rfl, hi, A', γ', acc, rs, rest, S', hv, hrs, p', hc, hall, le', k', hri⟩
        by_cases hlt : i < ms.length
        · refine .inr ⟨K.go hlt p', fun H3 => i + 1 ≤ ms.length ∧ ∃ A3 γ3 acc3 rs3 rest3, Sim (GX X) ((Z.waits l).wait D (.lst acc3)) A3 γ3 (L2.wipe σ vs) H3 ∧ (∀ j ∈ vs, γ3[j]? = none ∨ γ3[j]? = some none) ∧ Reps (GX X) (Mz ((Z.waits l).wait D (.lst acc3)) A3) H3 rs3 acc3 ∧
              P ((Z.waits l).wait D (.lst acc3)) A3 H3 ∧ compM t tt f vs (ms.drop (i + 1)) γ3 = some (rest3, γf) ∧ rs3 ++ rest3 = all ∧ Le A3 A1 ∧ Keep (Mz (Z.waits l) A1) H1 H3 ∧ rs3.length ≤ i + 1,
            fun H3 q => ⟨ms.length - (i + 1), by omega, rfl, q.1, q.2⟩, fun x H2 y => ?_⟩
          obtain ⟨e2, m, hm, r2⟩ := K.yld p' S' hlt y
          have em : ms.drop i = m :: ms.drop (i + 1) := by
            rw [List.drop_eq_getElem_cons hlt]
            rw [List.getElem?_eq_getElem hlt] at hm
            rw [Option.some.inj hm]
          rw [em] at hc
          simp only [compM] at hc
          have S2 := S'.same e2
          have st2 : Stp ((Z.waits l).wait D (.lst acc)) A' H' A' H2 := .of_same e2
          have p2 := K.stp p' S' S2 st2
          -- from the start to a later place
          have kk : ∀ {A3 H3}, Le A3 A' → Keep (Mz ((Z.waits l).wait D (.lst acc)) A') H' H3 → Keep (Mz (Z.waits l) A1) H1 H3 := fun {A3 H3} le3 k3 => k'.trans k3 fun b o hb m => by
            rcases (mz_wait b).mp m with m | rfl
            · exact le'.mz b m
            · rw [nD] at hb; cases hb
          cases E3 : asgM t m γ' with
          | none => rw [E3] at hc; cases hc
          | some γ2 =>
            rw [E3] at hc
            simp only at hc
            refine ⟨_, A', γ', m, S2, r2, γ2, E3, fun σ3 A3 S3 le3 out3 => ⟨?_, ?_⟩⟩
            · rw [← wipe_wipe (σ := σ)]
              exact wipe_eq (by rw [← S3.len, ← S2.len]; exact (asgM_len _ _ _ _ E3)) fun j hj => out3 j fun z => hj (hsub j z)
            have hw : L2.wipe σ3 vs = L2.wipe σ vs := by
              rw [← wipe_wipe (σ := σ)]
              exact wipe_eq (by rw [← S3.len, ← S2.len]; exact (asgM_len _ _ _ _ E3)) fun j hj => out3 j fun z => hj (hsub j z)
            refine ⟨_, A3, γ2, S3, ?_⟩
            cases E4 : tt γ2 with
            | no => rw [E4] at hc; cases hc
            | ex e γ3 => rw [E4] at hc; cases hc
            | ok b γ3 =>
              rw [E4] at hc
              intro A4 H4 S4 le4 k4
              have k4' : Keep (Mz ((Z.waits l).wait D (.lst acc)) A') H' H4 := (Keep.of_same e2).trans (k4.mono fun b m => le3.mz b m) fun _ _ _ m => m
              have p4 := K.stp p2 S2 S4 (.of (le4.trans le3) (k4.mono fun b m => le3.mz b m))
              cases b with
              | false =>
                simp only at hc
                simp only [Bool.false_eq_true, if_false]
                obtain ⟨A5, le5, S5⟩ := S4.wipe vs
                rw [hw] at S5
                have l5 : Le A5 A' := le5.trans (le4.trans le3)
                exact ⟨hlt, A5, wipeG γ3 vs, acc, rs, rest, S5, fun j hj => wipeG_at hj, hrs.keep k4' fun b _ _ m => l5.mz b m, K.stp p4 S4 S5 (.of le5 .refl), hc, hall, l5.trans le', kk l5 k4', by omega⟩
              | true =>
                simp only at hc
                simp only [if_true]
                refine ⟨_, A4, γ3, S4, ?_⟩
                cases E5 : f γ3 with
                | no => rw [E5] at hc; cases hc
                | ex e γ5 => rw [E5] at hc; cases hc
                | ok c γ5 =>
                  rw [E5] at hc
                  intro yv A5 H5 hs5 le5 k5
                  have S5 := hs5.sim
                  have l5 : Le A5 A' := le5.trans (le4.trans le3)
                  have k5' : Keep (Mz ((Z.waits l).wait D (.lst acc)) A') H' H5 := k4'.trans (k5.mono fun b m => (le4.trans le3).mz b m) fun _ _ _ m => m
                  have hD5 := S5.waits
                  have hrs5 := hrs.keep k5' fun b _ _ m => l5.mz b m
                  simp only [Option.map_eq_some_iff] at hc
                  obtain ⟨⟨rest', γr⟩, hc, hr⟩ := hc
                  have hr1 : c.v :: rest' = rest := congrArg Prod.fst hr
                  have hr2 : γr = γf := congrArg Prod.snd hr
                  subst hr2
                  refine ⟨acc, hD5, by rw [hrs5.len]; omega, hlt, ?_⟩
                  have S6 := Sim.rew (o' := .lst (acc ++ [yv])) nt_lst nf S5
                  obtain ⟨A7, le7, S7⟩ := S6.wipe vs
                  rw [hw] at S7
                  have ku : Keep (Mz ((Z.waits l).wait D (.lst acc)) A5) H5 (upd H5 D (.lst (acc ++ [yv]))) := Keep.upd wait_in
                  have l7 : Le A7 A' := le7.trans l5
                  have k7 : Keep (Mz ((Z.waits l).wait D (.lst acc)) A') H' (upd H5 D (.lst (acc ++ [yv]))) := k5'.trans (ku.mono fun b m => l5.mz b m) fun _ _ _ m => m
                  refine ⟨A7, wipeG γ5 vs, acc ++ [yv], rs ++ [c.v], rest', S7, fun j hj => wipeG_at hj, ?_, ?_, hc, ?_, l7.trans le', kk l7 k7, by rw [List.length_append, List.length_singleton]; omega⟩
                  · refine Reps.app (hrs5.keep ku fun b _ _ m => le7.mz b (wait_same b m)) (Reps.one (hs5.rep.keep ku fun b _ _ m => le7.mz b (wait_same b m)))
                  · have p5 := K.stp p4 S4 S5 (.of le5 k5)
                    have p6 := K.rew (o' := .lst (acc ++ [yv])) nsrc p5
                    exact K.stp p6 S6 S7 (.of le7 .refl)
                  · rw [List.append_assoc, ← hall, ← hr1]
                    rfl
        · have e : i = ms.length := by omega
          subst e
          rw [List.drop_length] at hc
          simp only [compM] at hc
          cases hc
          rw [List.append_nil] at hall
          subst hall
          refine .inl ⟨K.stop p', ?_⟩
          have k0 : Keep (Mz Z A) H H' := Keep.waits k' T.nw T.kp T.le
          have nD0 : H D = none := T.kp.isnone nD
          have S'' := S'
          rw [← waits_wait] at S''
          have Sz : Sim (GX X) (Z.wait D (.lst acc)) A' γf (L2.wipe σ vs) H' := S''.drops
          refine h (.ref D) A' H' ⟨D, .lst acc, rfl, nD0, fun m => ?_, ?_, ?_⟩ (le'.trans T.le) k0
          · obtain ⟨o, ho⟩ := S.mf D m
            rw [nD0] at ho
            cases ho
          · simp only [Own]
            exact ⟨acc, S'.waits, hrs.keep .refl fun b _ _ m => by
              rw [mz_wait] at m ⊢
              exact m.imp_left fun m => (waits_mz l b).mpr (.inl m)⟩
          · exact Sim.backG S1 Sz hv k' fun b o hb m => by
              rcases (mz_wait b).mp m with m | rfl
              · exact (waits_mz l b).mpr (.inl (le'.mz b m))
              · rw [nD] at hb; cases hb
section
variable {X : Cx} {elt tg iter : Expr} {ifs : List Expr} {scope : Scope} {own : List (Str × Nat)} {pos : Pos} {t : Tg} {fi : FI} {tt : FT} {f : FE}
theorem re_lc (hc : X.calm = true) (hN : X.N.Nodup) (hi : RI X tg iter fi) (ok : BlkOk X.N X.env.scope scope own)
    (hg : ∀ (s : Shared) (H : Hp) (C : Addr) (cl : List (Str × Addr)) (fp : List Addr), RG (X.blk s H scope (compEnvC scope cl C X.env) fp) tg t)
    (ht : ∀ (s : Shared) (H : Hp) (C : Addr) (cl : List (Str × Addr)) (fp : List Addr), RTs (X.blk s H scope (compEnvC scope cl C X.env) fp) ifs tt)
    (he : ∀ (s : Shared) (H : Hp) (C : Addr) (cl : List (Str × Addr)) (fp : List Addr), RE (X.blk s H scope (compEnvC scope cl C X.env) fp) elt f)
    (hsub : ∀ i ∈ t.slots, i ∈ own.map (·.2) := by decide) (hs : ∀ x, foldedSetIterable iter X.env x = pure x := by intro _; rfl) :
    RE X (.ListComp elt [⟨tg, iter, ifs, 0⟩] scope pos) (eComp t fi tt f (own.map (·.2))) := fun W tk =>
  PE_imp (pe_lc (g := tMG (GX X) t) (tt := tMT (GX X) tt Bot) (te := tME (GX X) f Bot) hc hN (hi W tk) ok (fun s H C cl fp => hg s H C cl fp) (fun s H C cl fp => ht s H C cl fp Bot takes_bot) (fun s H C cl fp => he s H C cl fp Bot takes_bot) hs) fun σ H Q h => comp_end hsub h
/-- name = [..] on one line, the name a local -/
theorem qs_setLc {i : Nat} {y : Str} {py spos : Pos} (hc : X.calm = true) (hN : X.N.Nodup) (hy : X.N[i]? = some y) (hyl : X.env.scope.names.lookup y = some .local)
    (hsw : swapsWith (.ListComp elt [⟨tg, iter, ifs, 0⟩] scope pos) (some (.Name y py)) spos.line X.env = pure true) (hi : RI X tg iter fi) (ok : BlkOk X.N X.env.scope scope own)
    (hg : ∀ (s : Shared) (H : Hp) (C : Addr) (cl : List (Str × Addr)) (fp : List Addr), RG (X.blk s H scope (compEnvC scope cl C X.env) fp) tg t)
    (ht : ∀ (s : Shared) (H : Hp) (C : Addr) (cl : List (Str × Addr)) (fp : List Addr), RTs (X.blk s H scope (compEnvC scope cl C X.env) fp) ifs tt)
    (he : ∀ (s : Shared) (H : Hp) (C : Addr) (cl : List (Str × Addr)) (fp : List Addr), RE (X.blk s H scope (compEnvC scope cl C X.env) fp) elt f)
    (hsub : ∀ i ∈ t.slots, i ∈ own.map (·.2) := by decide) (hs : ∀ x, foldedSetIterable iter X.env x = pure x := by intro _; rfl) :
    QS X (.Assign [.Name y py] (.ListComp elt [⟨tg, iter, ifs, 0⟩] scope pos) spos) (sSet i (eComp t fi tt f (own.map (·.2)))) := fun _ W tk =>
  PS_imp (ps_setLc (g := tMG (GX X) t) (tt := tMT (GX X) tt Bot) (te := tME (GX X) f Bot) hc hN hy hyl hsw (hi W tk) ok (fun s H C cl fp => hg s H C cl fp) (fun s H C cl fp => ht s H C cl fp Bot takes_bot) (fun s H C cl fp => he s H C cl fp Bot takes_bot) hs) fun D σ H ⟨Z, A, γ, S, h⟩ => comp_end hsub ⟨Z, A, γ, S, set_end S h⟩
end
end Mi

set_option Elab.async false
set_option linter.all false
set_option maxRecDepth 100000
set_option maxHeartbeats 4000000
/-! dicts with keys that are tuples; keys; finding, putting -/
namespace Mi
open PySem PySem.Spec PyProof.Rows L2 My

mutual
/-- x lies in H as the key k -/
def KeyR (K : PySem.W.Frag) (H : Hp) : NestedKey → V → Prop
  | .none, x => x = .non
  | .num i, x => x = .int i ∨ ∃ b, x = .bl b ∧ i = if b = true then 1 else 0
  | .text z, x => x = .str z
  | .tup ks, x => ∃ a vs, x = .ref a ∧ SqT K H a vs ∧ KeyRs K H ks vs
def KeyRs (K : PySem.W.Frag) (H : Hp) : List NestedKey → List V → Prop
  | [], vs => vs = []
  | k :: ks, vs => ∃ v r, vs = v :: r ∧ KeyR K H k v ∧ KeyRs K H ks r
end
mutual
theorem keyR_of {G : GG} {M : Addr → Prop} {H : Hp} : ∀ (m : MV) (k : NestedKey) (x : V), nkM m = some k → Rep G M H m x → KeyR G.K H k x
  | .non, k, x, e, h => by simp only [nkM] at e; cases e; simp only [Rep] at h; simp only [KeyR]; exact h
  | .bl b, k, x, e, h => by simp only [nkM] at e; cases e; simp only [Rep] at h; simp only [KeyR]; exact .inr ⟨b, h, rfl⟩
  | .int i, k, x, e, h => by simp only [nkM] at e; cases e; simp only [Rep] at h; simp only [KeyR]; exact .inl h
  | .str i, k, x, e, h => by simp only [nkM] at e; cases e; simp only [Rep] at h; simp only [KeyR]; exact h
  | .tup ms, k, x, e, h => by
    simp only [nkM, Option.map_eq_some_iff] at e
    obtain ⟨ks, e, rfl⟩ := e
    simp only [Rep] at h
    obtain ⟨a, vs, rfl, h1, h2⟩ := h
    simp only [KeyR]
    exact ⟨a, vs, rfl, h1.sq, keyRs_of ms ks vs e h2⟩
  | .lst _, k, x, e, h => by simp only [nkM] at e; cases e
  | .dk _ _, k, x, e, h => by simp only [nkM] at e; cases e
  | .dn _ _, k, x, e, h => by simp only [nkM] at e; cases e
  | .ins _ _, k, x, e, h => by simp only [nkM] at e; cases e
theorem keyRs_of {G : GG} {M : Addr → Prop} {H : Hp} : ∀ (m : List MV) (k : List NestedKey) (x : List V), nksM m = some k → Reps G M H m x → KeyRs G.K H k x
  | [], k, x, e, h => by simp only [nksM] at e; cases e; simp only [Reps] at h; simp only [KeyRs]; exact h
  | m :: ms, k, x, e, h => by
    simp only [nksM, Option.bind_eq_some_iff, Option.map_eq_some_iff] at e
    obtain ⟨k1, e1, ks, e2, rfl⟩ := e
    simp only [Reps] at h
    obtain ⟨v, r, rfl, h1, h2⟩ := h
    simp only [KeyRs]
    exact ⟨v, r, rfl, keyR_of m k1 v e1 h1, keyRs_of ms ks r e2 h2⟩
end
mutual
theorem KeyR.is {X : Cx} {pins : List (Addr × Obj)} {σ : L2.St} {H : Hp} {s : Shared} (I : L2.Inv X pins σ H s) : ∀ (k : NestedKey) (x : V) (u : Value), KeyR X.K H k x → RelV x u → NestedIs s.heap k u
  | .none, x, u, h, r => by simp only [KeyR] at h; subst h; cases r; exact .none
  | .num i, x, u, h, r => by
    simp only [KeyR] at h
    rcases h with rfl | ⟨b, rfl, e⟩
    · obtain ⟨t, rfl⟩ := r
      exact .int i t
    · cases r
      exact .bool e
  | .text z, x, u, h, r => by
    simp only [KeyR] at h
    subst h
    obtain ⟨t, rfl⟩ := r
    exact .text z t
  | .tup ks, x, u, h, r => by
    simp only [KeyR] at h
    obtain ⟨a, vs, rfl, h1, h2⟩ := h
    cases r
    obtain ⟨its, rv, ⟨o, ho, hc, n, hd⟩, _⟩ := I.tuple h1
    exact .tup ho hc hd (KeyRs.is I ks vs its h2 rv)
theorem KeyRs.is {X : Cx} {pins : List (Addr × Obj)} {σ : L2.St} {H : Hp} {s : Shared} (I : L2.Inv X pins σ H s) : ∀ (k : List NestedKey) (x : List V) (u : List Value), KeyRs X.K H k x → Vals x u → NestedAll s.heap k u
  | [], x, u, h, r => by simp only [KeyRs] at h; subst h; cases r; exact .nil
  | k :: ks, x, u, h, r => by
    simp only [KeyRs] at h
    obtain ⟨v, w, rfl, h1, h2⟩ := h
    cases r with
    | cons r1 r2 => exact .cons (KeyR.is I k v _ h1 r1) (KeyRs.is I ks w _ h2 r2)
end
abbrev Ent3 := List (NestedKey × Addr × V)
def esGet (es : Ent3) (k : NestedKey) : Option V := (es.find? fun e => decide (e.1 = k)).map (·.2.2)
def esPut (es : Ent3) (k : NestedKey) (b : Addr) (v : V) : Ent3 := if (esGet es k).isSome then es.map (fun e => if e.1 = k then (e.1, e.2.1, v) else e) else es ++ [(k, b, v)]
/-- what stands at a: a dict with these entries -/
structure DnAt (G : GG) (H : Hp) (a : Addr) (es : Ent3) : Prop where
  at_ : H a = some (DnO G a es)
  keys : ∀ e ∈ es, KeyR G.K H e.1 (.ref e.2.1) ∧ e.1.depth ≤ 8
section
variable {X : Cx} {pins : List (Addr × Obj)} {σ : L2.St} {H : Hp} {s : Shared} {a b : Addr} {es : Ent3} {k : NestedKey} {v : V} {o : Option V} {A : Around} {E : Value → Shared → Prop} {u r : Value}
abbrev knd (X : Cx) := nestedKind X.prog X.w
abbrev Prd (es : Ent3) (xs : List (NestedKey × Addr × Value)) : Prop := Paired (fun (p : NestedKey × Addr × V) (q : NestedKey × Addr × Value) => p.1 = q.1 ∧ p.2.1 = q.2.1 ∧ RelV p.2.2 q.2.2) es xs
theorem DnAt.get (d : DnAt (GX X) H a es) (I : L2.Inv X pins σ H s) : (a == sysModules) = false ∧ es.length ≤ sizeLine ∧ ∃ xs, Prd es xs ∧ s.heap.DictOfH (knd X) a xs := by
  obtain ⟨⟨h1, h2, xs, hp, o, es', ep, h3, h4, h5, h6, h7⟩, _, _⟩ := I.hok a _ d.at_
  refine ⟨h1, h2, xs, hp, o, es', ep, h3, h4, h5, h6, fun x hx => ?_, h7⟩
  obtain ⟨i, hi, e⟩ := List.getElem_of_mem hx
  obtain ⟨y, hy, r⟩ := My.Paired.get' hp (show xs[i]? = some x by rw [List.getElem?_eq_getElem hi, e])
  obtain ⟨k1, k2⟩ := d.keys y (List.mem_of_getElem? hy)
  refine ⟨?_, by rw [← r.1]; exact k2⟩
  rw [← r.1, ← r.2.1]
  exact KeyR.is I _ _ _ k1 rfl
theorem Prd.find {es : Ent3} {xs : List (NestedKey × Addr × Value)} (h : Prd es xs) (k : NestedKey) : RelO (esGet es k) ((atKey xs k).map (·.2)) := by
  unfold esGet atKey
  induction h with
  | nil => exact trivial
  | cons r _ ih =>
    rw [List.find?_cons, List.find?_cons, ← r.1]
    split
    · exact r.2.2
    · exact ih
theorem Prd.put {es : Ent3} {xs : List (NestedKey × Addr × Value)} (h : Prd es xs) (k : NestedKey) (b : Addr) (rv : RelV v r) : Prd (esPut es k b v) (storedH xs k b r) := by
  have hf := h.find k
  unfold esPut storedH
  have e : (esGet es k).isSome = (atKey xs k).isSome := by
    have q := hf.isSome_eq
    rw [Option.isSome_map] at q
    exact q
  rw [e]
  split
  · have go : ∀ {es : Ent3} {xs : List (NestedKey × Addr × Value)}, Prd es xs → Prd (es.map fun e => if e.1 = k then (e.1, e.2.1, v) else e) (xs.map (putAt k r)) := by
      intro es xs h
      induction h with
      | nil => exact .nil
      | @cons p q es xs r1 _ ih =>
        refine .cons ?_ ih
        unfold putAt
        show (if p.1 = k then (p.1, p.2.1, v) else p).1 = (if q.1 = k then (q.1, q.2.1, r) else q).1 ∧ (if p.1 = k then (p.1, p.2.1, v) else p).2.1 = (if q.1 = k then (q.1, q.2.1, r) else q).2.1 ∧ RelV (if p.1 = k then (p.1, p.2.1, v) else p).2.2 (if q.1 = k then (q.1, q.2.1, r) else q).2.2
        by_cases e : p.1 = k
        · rw [if_pos e, if_pos (by rw [← r1.1]; exact e)]
          exact ⟨r1.1, r1.2.1, rv⟩
        · rw [if_neg e, if_neg (by rw [← r1.1]; exact e)]
          exact r1
    exact go h
  · exact My.Paired.snoc (R := fun (p : NestedKey × Addr × V) (q : NestedKey × Addr × Value) => p.1 = q.1 ∧ p.2.1 = q.2.1 ∧ RelV p.2.2 q.2.2) ⟨rfl, rfl, rv⟩ h
theorem key_is (I : L2.Inv X pins σ H s) (h : KeyR X.K H k (.ref b)) (hd : k.depth ≤ 8) : (knd X).is s.heap k b := ⟨KeyR.is I _ _ _ h rfl, hd⟩
theorem knd_room {A : Around} (hu : A.units + 64 < cLine) : (knd X).room A.in1 := by
  show A.units + 1 + 8 < cLine
  omega
/-- d[k] -/
theorem dn_getItem {Q : Value → Shared → Prop} (hu : A.units + 64 < cLine) (I : L2.Inv X pins σ H s) (d : DnAt (GX X) H a es) (hk : KeyR X.K H k (.ref b)) (hd : k.depth ≤ 8) (g : esGet es k = some v)
    (h : ∀ w' s', L2.Inv X pins σ H s' → RelV v w' → Q w' s') : wpAny (model X.prog X.w) A (getItem (.ref a) (.ref b)) Q E s := by
  obtain ⟨h1, h2, xs, hp, dd⟩ := d.get I
  obtain ⟨w', hw, rw'⟩ := RelO.some_of (v := v) (o := (atKey xs k).map (·.2)) (by rw [← g]; exact hp.find k)
  obtain ⟨p, hp', hp2⟩ := Option.map_eq_some_iff.mp hw
  refine wpAny_getItem_heap (knd_room hu) (key_is I hk hd) dd hp' ?_
  rw [hp2]
  exact h w' _ (I.tok _) rw'
theorem dn_in {Q : Value → Shared → Prop} (hu : A.units + 64 < cLine) (I : L2.Inv X pins σ H s) (d : DnAt (GX X) H a es) (hk : KeyR X.K H k (.ref b)) (hd : k.depth ≤ 8)
    (h : ∀ s', L2.Inv X pins σ H s' → Q (.bool (esGet es k).isSome) s') : wpAny (model X.prog X.w) A (compareOp .In (.ref b) (.ref a)) Q E s := by
  obtain ⟨h1, h2, xs, hp, dd⟩ := d.get I
  refine wpAny_in_heap (knd_room hu) (key_is I hk hd) h1 dd ?_
  have q := (hp.find k).isSome_eq
  rw [Option.isSome_map] at q
  rw [← q]
  exact h _ (I.tok _)
theorem dn_notIn {Q : Value → Shared → Prop} (hu : A.units + 64 < cLine) (I : L2.Inv X pins σ H s) (d : DnAt (GX X) H a es) (hk : KeyR X.K H k (.ref b)) (hd : k.depth ≤ 8)
    (h : ∀ s', L2.Inv X pins σ H s' → Q (.bool (!(esGet es k).isSome)) s') : wpAny (model X.prog X.w) A (compareOp .NotIn (.ref b) (.ref a)) Q E s := by
  obtain ⟨h1, h2, xs, hp, dd⟩ := d.get I
  refine wpAny_notIn_heap (knd_room hu) (key_is I hk hd) h1 dd ?_
  have q := (hp.find k).isSome_eq
  rw [Option.isSome_map] at q
  rw [← q]
  exact h _ (I.tok _)
theorem dn_setItem {Q : Unit → Shared → Prop} (hu : A.units + 64 < cLine) (I : L2.Inv X pins σ H s) (d : DnAt (GX X) H a es) (hk : KeyR X.K H k (.ref b)) (hd : k.depth ≤ 8) (hz : es.length < sizeLine) (rv : RelV v r)
    (h : ∀ s', L2.Inv X pins σ (upd H a (DnO (GX X) a (esPut es k b v))) s' → Q () s') : wpAny (model X.prog X.w) A (setItem (.ref a) (.ref b) r) Q E s := by
  obtain ⟨h1, h2, xs, hp, dd⟩ := d.get I
  have hl : (esPut es k b v).length ≤ sizeLine := by
    unfold esPut
    split
    · rw [List.length_map]; omega
    · rw [List.length_append, List.length_singleton]; omega
  refine wpAny_setItem_heap (hsz := by rw [← My.Paired.len hp]; exact h2) (knd_room hu) (key_is I hk hd) dd fun h' dd' hs => h _ ?_
  obtain ⟨q, es', ep, hq, h3, h4, h5, _, h6⟩ := dd'
  refine d_write I (by rw [d.at_]; exact trivial) hs ⟨q, hq⟩ ⟨⟨h1, hl, _, hp.put k b rv, q, es', ep, hq, h3, h4, h5, h6⟩, ⟨q, hq⟩, fun g1 g2 ⟨z1, z2, zs, zp, zo, ze, zep, z3, z4⟩ hk => ⟨z1, z2, zs, zp, zo, ze, zep, hk _ z3, z4⟩⟩
end
/-! ### finding and putting, in the small machine -/
section
variable {κ : Type} [DecidableEq κ]
def dFind : List κ → List MV → κ → Option MV
  | k' :: ks, v :: vs, k => if k' = k then some v else dFind ks vs k
  | _, _, _ => none
/-- the values with one of them changed -/
def dVals (ks : List κ) (vs : List MV) (k : κ) (v : MV) : List MV := List.zipWith (fun k' v' => if k' = k then v else v') ks vs
theorem dFind_some {ks : List κ} {vs : List MV} {k : κ} : ∀ {ks : List κ} {vs : List MV}, ks.length = vs.length → ((dFind ks vs k).isSome = true ↔ k ∈ ks) := by
  intro ks
  induction ks with
  | nil => intro vs h; simp [dFind]
  | cons a ks ih =>
    intro vs h
    cases vs with
    | nil => cases h
    | cons v vs =>
      simp only [dFind]
      by_cases e : a = k
      · simp [e]
      · rw [if_neg e, ih (by simpa using h)]
        simp [Ne.symm e]
end
def keyM : MV → Option Key
  | .int i => some (.inl i)
  | .str x => some (.inr x)
  | _ => none
theorem keyM_rep {G : GG} {M : Addr → Prop} {H : Hp} {m : MV} {k : Key} {x : V} (e : keyM m = some k) (h : Rep G M H m x) : x = kV k := by
  cases m <;> simp only [keyM] at e <;> cases e <;> simp only [Rep] at h <;> exact h
section
variable {κ : Type} [DecidableEq κ] {G : GG} {M : Addr → Prop} {H : Hp}
theorem find_rep {k : κ} : ∀ {ks : List κ} {ms : List MV} {vs : List V}, Reps G M H ms vs → ks.length = vs.length → (∀ m, dFind ks ms k = some m → ∃ v, valV (ks.zip vs) k = some v ∧ Rep G M H m v) ∧ (dFind ks ms k = none → valV (ks.zip vs) k = none)
  | [], ms, vs, h, hl => ⟨fun m e => by simp [dFind] at e, fun _ => rfl⟩
  | a :: ks, [], vs, h, hl => by simp only [Reps] at h; subst h; cases hl
  | a :: ks, m :: ms, vs, h, hl => by
    simp only [Reps] at h
    obtain ⟨v, r, rfl, h1, h2⟩ := h
    obtain ⟨i1, i2⟩ := find_rep (k := k) h2 (by simpa using hl)
    simp only [dFind, List.zip_cons_cons]
    by_cases e : a = k
    · rw [valV_pos e]
      simp only [if_pos e]
      exact ⟨fun m' e' => by cases e'; exact ⟨v, rfl, h1⟩, fun e' => by cases e'⟩
    · rw [valV_neg e]
      simp only [if_neg e]
      exact ⟨i1, i2⟩
theorem vals_rep {k : κ} {w : MV} {y : V} (hw : Rep G M H w y) : ∀ {ks : List κ} {ms : List MV} {vs : List V}, Reps G M H ms vs → ks.length = vs.length → Reps G M H (dVals ks ms k w) (List.zipWith (fun k' v' => if k' = k then y else v') ks vs)
  | [], ms, vs, h, hl => by cases vs with | nil => exact Reps.nil | cons _ _ => cases hl
  | a :: ks, [], vs, h, hl => by simp only [Reps] at h; subst h; cases hl
  | a :: ks, m :: ms, vs, h, hl => by
    simp only [Reps] at h
    obtain ⟨v, r, rfl, h1, h2⟩ := h
    unfold dVals
    rw [List.zipWith_cons_cons, List.zipWith_cons_cons]
    refine Reps.consI ?_ (vals_rep hw h2 (by simpa using hl))
    split
    · exact hw
    · exact h1
theorem putK_in {k : κ} {y : V} : ∀ {ks : List κ} {vs : List V}, ks.length = vs.length → k ∈ ks → putK (ks.zip vs) k y = ks.zip (List.zipWith (fun k' v' => if k' = k then y else v') ks vs) := by
  intro ks vs hl hk
  have hany : ((ks.zip vs).any fun kv => decide (kv.1 = k)) = true := by
    obtain ⟨i, hi, e⟩ := List.getElem_of_mem hk
    refine List.any_eq_true.mpr ⟨(ks[i], vs[i]'(by omega)), ?_, decide_eq_true e⟩
    exact List.mem_of_getElem? (i := i) (by simp [List.getElem?_zip_eq_some, hi, show i < vs.length by omega])
  unfold putK
  rw [if_pos hany]
  clear hany hk
  induction ks generalizing vs with
  | nil => rfl
  | cons a ks ih =>
    cases vs with
    | nil => cases hl
    | cons v vs =>
      simp only [List.zip_cons_cons, List.map_cons, List.zipWith_cons_cons]
      rw [ih (by simpa using hl)]
      congr 1
      split <;> rfl
theorem putK_out {k : κ} {y : V} {ks : List κ} {vs : List V} (hl : ks.length = vs.length) (hk : k ∉ ks) : putK (ks.zip vs) k y = (ks ++ [k]).zip (vs ++ [y]) := by
  have hany : ((ks.zip vs).any fun kv => decide (kv.1 = k)) = false := by
    rw [Bool.eq_false_iff]
    intro h
    obtain ⟨p, hp, e⟩ := List.any_eq_true.mp h
    exact hk (by rw [← of_decide_eq_true e]; exact (List.of_mem_zip hp).1)
  unfold putK
  rw [if_neg (by rw [hany]; decide), List.zip_append hl]
  rfl
end
section
variable {G : GG} {M : Addr → Prop} {H : Hp}
theorem zip3_find {k : NestedKey} : ∀ {ks : List NestedKey} {as : List Addr} {ms : List MV} {vs : List V}, Reps G M H ms vs → ks.length = vs.length → as.length = vs.length → (∀ m, dFind ks ms k = some m → ∃ v, esGet (zip3 ks as vs) k = some v ∧ Rep G M H m v) ∧ (dFind ks ms k = none → esGet (zip3 ks as vs) k = none)
  | [], as, ms, vs, h, hl, ha => ⟨fun m e => by simp [dFind] at e, fun _ => by simp [zip3, esGet]⟩
  | a :: ks, as, [], vs, h, hl, ha => by simp only [Reps] at h; subst h; cases hl
  | a :: ks, [], m :: ms, vs, h, hl, ha => by
    simp only [Reps] at h
    obtain ⟨v, r, rfl, h1, h2⟩ := h
    cases ha
  | a :: ks, b :: as, m :: ms, vs, h, hl, ha => by
    simp only [Reps] at h
    obtain ⟨v, r, rfl, h1, h2⟩ := h
    obtain ⟨i1, i2⟩ := zip3_find (k := k) (as := as) h2 (by simpa using hl) (by simpa using ha)
    simp only [dFind, zip3]
    unfold esGet at i1 i2 ⊢
    rw [List.find?_cons]
    by_cases e : a = k
    · simp only [if_pos e, decide_eq_true e, Option.map_some]
      exact ⟨fun m' e' => by cases e'; exact ⟨v, rfl, h1⟩, fun e' => by cases e'⟩
    · simp only [if_neg e, decide_eq_false e]
      exact ⟨i1, i2⟩
theorem zip3_len : ∀ {ks : List NestedKey} {as : List Addr} {vs : List V}, ks.length = vs.length → as.length = vs.length → (zip3 ks as vs).length = vs.length
  | [], as, vs, h, _ => by cases vs with | nil => rfl | cons _ _ => cases h
  | k :: ks, [], vs, h, h' => by cases vs with | nil => cases h | cons _ _ => cases h'
  | k :: ks, a :: as, [], h, _ => by cases h
  | k :: ks, a :: as, v :: vs, h, h' => by simp only [zip3, List.length_cons]; rw [zip3_len (by simpa using h) (by simpa using h')]
theorem zip3_app {k : NestedKey} {b : Addr} {y : V} : ∀ {ks : List NestedKey} {as : List Addr} {vs : List V}, ks.length = vs.length → as.length = vs.length → zip3 (ks ++ [k]) (as ++ [b]) (vs ++ [y]) = zip3 ks as vs ++ [(k, b, y)]
  | [], as, vs, h, h' => by
    cases vs with
    | nil => cases as with | nil => rfl | cons _ _ => cases h'
    | cons _ _ => cases h
  | k :: ks, [], vs, h, h' => by cases vs with | nil => cases h | cons _ _ => cases h'
  | k :: ks, a :: as, [], h, _ => by cases h
  | k :: ks, a :: as, v :: vs, h, h' => by simp only [zip3, List.cons_append]; rw [zip3_app (by simpa using h) (by simpa using h')]
theorem zip3_map {k : NestedKey} {y : V} : ∀ {ks : List NestedKey} {as : List Addr} {vs : List V}, ks.length = vs.length → as.length = vs.length → (zip3 ks as vs).map (fun e => if e.1 = k then (e.1, e.2.1, y) else e) = zip3 ks as (List.zipWith (fun k' v' => if k' = k then y else v') ks vs)
  | [], as, vs, h, h' => by simp [zip3]
  | k' :: ks, [], vs, h, h' => by cases vs with | nil => cases h | cons _ _ => cases h'
  | k' :: ks, a :: as, [], h, _ => by cases h
  | k' :: ks, a :: as, v :: vs, h, h' => by
    simp only [zip3, List.map_cons, List.zipWith_cons_cons]
    rw [zip3_map (by simpa using h) (by simpa using h')]
    congr 1
    split <;> rfl
theorem zip3_keys : ∀ {kms : List MV} {ks : List NestedKey} {as : List Addr} {vs : List V}, nksM kms = some ks → Reps G M H kms (as.map V.ref) → (∀ k ∈ ks, k.depth ≤ 8) → ∀ e ∈ zip3 ks as vs, KeyR G.K H e.1 (.ref e.2.1) ∧ e.1.depth ≤ 8
  | [], ks, as, vs, e, h, hd => by simp only [nksM] at e; cases e; simp [zip3]
  | m :: ms, ks, as, vs, e, h, hd => by
    simp only [nksM, Option.bind_eq_some_iff, Option.map_eq_some_iff] at e
    obtain ⟨k1, e1, ks', e2, rfl⟩ := e
    cases as with
    | nil => simp only [Reps, List.map_nil] at h; obtain ⟨v, r, h, _⟩ := h; cases h
    | cons a as =>
      simp only [Reps, List.map_cons] at h
      obtain ⟨v, r, h, h1, h2⟩ := h
      cases h
      cases vs with
      | nil => simp [zip3]
      | cons v vs =>
        simp only [zip3, List.mem_cons]
        rintro e (rfl | he)
        · exact ⟨keyR_of m k1 _ e1 h1, hd _ List.mem_cons_self⟩
        · exact zip3_keys e2 h2 (fun k hk => hd k (List.mem_cons_of_mem _ hk)) e he
end
end Mi

set_option Elab.async false
set_option linter.all false
set_option maxRecDepth 100000
set_option maxHeartbeats 4000000
/-! subscripts of dicts too; stores; methods that change -/
namespace Mi
open PySem PySem.Spec PyProof.Rows L2 My

/-! ### a thing of one's own has changed -/
section
variable {G : GG} {Z : Ent} {A A' A0 : AM} {γ γ' : Sg} {σ σ' : L2.St} {H H' H0 : Hp} {c d : Cell} {x y z : V} {v v' : MV} {l : List (Addr × HO)} {W : WX} {j : Nat} {a : Addr} {kd : Kd}
/-- the kinds that may be changed -/
def Kd.mine : Kd → Bool
  | .own => true
  | .io => true
  | _ => false
theorem Sim.mine (S : Sim G Z A γ σ H) (hj : γ[j]? = some (some ⟨kd, v⟩)) (hk : kd.mine = true) : ∃ a, σ[j]? = some (some (.ref a)) ∧ A j = some a ∧ Own G (Mz Z A) H v a ∧ ∀ o, ¬ Z.F a o := by
  obtain ⟨x, h1, h2⟩ := S.cell j _ hj
  cases kd with
  | own =>
    obtain ⟨a, e, rfl, h⟩ := h2
    obtain ⟨_, _, nf, _⟩ := S.adr j a e
    exact ⟨a, h1, e, h, nf⟩
  | io =>
    obtain ⟨a, e, rfl, h⟩ := h2
    obtain ⟨_, _, nf, _⟩ := S.adr j a e
    exact ⟨a, h1, e, h, nf⟩
  | val => cases hk
  | lown => cases hk
  | lio => cases hk
theorem Sim.mutT (S : Sim G Z A γ σ H) (hj : γ[j]? = some (some ⟨kd, v⟩)) (hk : kd.mine = true) (ha : A j = some a) (e : ∀ b o, b ≠ a → ¬ G.isT b → H b = some o → H' b = some o) (tb' : TabsOk G H') (h : Own G (Mz Z A) H' v' a) : Sim G Z A (γ.set j (some ⟨kd, v'⟩)) σ H' ∧ Keep (Mz Z A) H H' := by
  have hlt : j < γ.length := (List.getElem?_eq_some_iff.mp hj).1
  have ma : Mz Z A a := .inr ⟨j, ha⟩
  obtain ⟨oa, hoa⟩ := h.on
  obtain ⟨_, _, nf, _⟩ := S.adr j a ha
  have k : Keep (Mz Z A) H H' := ⟨fun b o n hb => e b o (fun z => n (z ▸ ma)) (S.mzT n) hb, fun b o hb => by
    by_cases hb' : b = a
    · exact ⟨oa, hb' ▸ hoa⟩
    · by_cases ht : G.isT b
      · obtain ⟨q, hq⟩ := ht
        obtain ⟨ps, h1, _⟩ := tb' _ hq
        exact ⟨_, h1⟩
      · exact ⟨o, e b o hb' ht hb⟩⟩
  obtain ⟨x, h1, h2⟩ := S.cell j _ hj
  refine ⟨⟨by rw [List.length_set]; exact S.len, fun i c hi => ?_, fun i b hi => ?_, S.inj, fun b m => let ⟨o, ho⟩ := S.mf b m; k.on b o ho, fun b o hb => e b o (fun z => nf o (z ▸ hb)) (S.fT hb) (S.fr b o hb), fun b o hb => let ⟨o', ho⟩ := S.new b o hb; k.on b o' ho, ⟨S.tb.tm, S.tb.nf, tb'⟩⟩, k⟩
  · by_cases hij : i = j
    · subst hij
      rw [List.getElem?_set_self hlt] at hi
      cases hi
      cases kd with
      | own => obtain ⟨b, e1, rfl, _⟩ := h2; rw [ha] at e1; cases e1; exact ⟨_, h1, a, ha, rfl, h⟩
      | io => obtain ⟨b, e1, rfl, _⟩ := h2; rw [ha] at e1; cases e1; exact ⟨_, h1, a, ha, rfl, h⟩
      | val => cases hk
      | lown => cases hk
      | lio => cases hk
    · rw [List.getElem?_set_ne (Ne.symm hij)] at hi
      obtain ⟨y, h3, h4⟩ := S.cell i c hi
      refine ⟨y, h3, CellOk.keep (Z := Z) (Z' := Z) rfl (fun p q => ⟨q, fun u hu => ?_⟩) k (fun _ _ _ m => m) (fun b hb u hu => ?_) h4⟩
      · exact e _ _ (fun z => nf p.2 (z ▸ Z.lnF i p q)) (S.fT (Z.lnF i p q)) hu
      · exact e _ _ (fun z => hij (S.inj i j a (z ▸ hb) ha)) (S.ownT hb) hu
  · by_cases hij : i = j
    · subst hij
      obtain ⟨c, h3, h4, h5⟩ := S.adr i b hi
      rw [hj] at h3
      cases h3
      exact ⟨_, List.getElem?_set_self hlt, h4, h5⟩
    · rw [List.getElem?_set_ne (Ne.symm hij)]
      exact S.adr i b hi
theorem Sim.mut (S : Sim G Z A γ σ H) (hj : γ[j]? = some (some ⟨kd, v⟩)) (hk : kd.mine = true) (ha : A j = some a) (e : ∀ b o, b ≠ a → H b = some o → H' b = some o) (h : Own G (Mz Z A) H' v' a) : Sim G Z A (γ.set j (some ⟨kd, v'⟩)) σ H' ∧ Keep (Mz Z A) H H' := by
  have ma : Mz Z A a := .inr ⟨j, ha⟩
  obtain ⟨ob, hob, nb⟩ : ∃ o, H a = some o ∧ NotTab a o := by
    obtain ⟨y, hy1, hy2⟩ := S.cell j _ hj
    cases kd with
    | own => obtain ⟨b, e1, rfl, w⟩ := hy2; rw [ha] at e1; cases e1; exact w.notTab
    | io => obtain ⟨b, e1, rfl, w⟩ := hy2; rw [ha] at e1; cases e1; exact w.notTab
    | val => cases hk
    | lown => cases hk
    | lio => cases hk
  exact S.mutT hj hk ha (fun b o n _ hb => e b o n hb) (S.tb.ok.but e hob nb) h
end

/-! ### d[k], as a subscript by values -/
def dGetM : MV → MV → Option MV
  | .dk ks ms, m => (keyM m).bind (dFind ks ms)
  | .dn kms ms, .tup ts => (nkM (.tup ts)).bind fun k => if k.depth ≤ 8 then (nksM kms).bind fun ks => dFind ks ms k else none
  | _, _ => none
def atM (v w : MV) : Option Cell := (ixM v w).or ((dGetM v w).map fun m => ⟨.val, m⟩)
/-- d[y] by values, for both kinds of dicts -/
def DGt (G : GG) (H : Hp) (a : Addr) (y : V) (r : Option V) : Prop :=
  (∃ kvs k, Rd H a (.dK kvs) ∧ y = kV k ∧ r = valV kvs k) ∨ ∃ es k b, DnAt G H a es ∧ y = .ref b ∧ KeyR G.K H k (.ref b) ∧ k.depth ≤ 8 ∧ r = esGet es k
def rIxDt (G : GG) : R2 := fun x y H Q => ∃ a v, x = .ref a ∧ DGt G H a y (some v) ∧ Q v H
section
variable {X : Cx}
theorem ix_dict (hu : X.A.units + 64 < cLine) : IxR X (rIxDt (GX X)) := by
  intro value slice pins s σ H x y v u Q I rx ry h hs
  obtain ⟨a, w, rfl, g, q⟩ := h
  cases rx
  rcases g with ⟨kvs, k, e, rfl, l⟩ | ⟨es, k, b, d, rfl, hk, hd, l⟩
  · have g : DGet H a (kV k) (some w) := .inl ⟨kvs, k, e, rfl, l⟩
    exact tail_any (dict_typeIs I g) slot_dict_getitem.lookup (d_getItem (by omega) I g ry fun w' s' I' rw' => ⟨w, H, I', rw', q⟩) hs
  · cases ry
    obtain ⟨_, _, xs, _, dd⟩ := d.get I
    exact tail_any dd.typeIs slot_dict_getitem.lookup (dn_getItem hu I d hk hd l.symm fun w' s' I' rw' => ⟨w, H, I', rw', q⟩) hs
theorem nk_rep {G : GG} {M : Addr → Prop} {H : Hp} {ts : List MV} {y : V} {k : NestedKey} (e : nkM (.tup ts) = some k) (h : RepB G M H (.tup ts) y) : ∃ b, y = .ref b ∧ KeyR G.K H k (.ref b) := by
  rcases h with h | ⟨_, _, h⟩
  · have hk := keyR_of _ _ _ e h
    simp only [Rep] at h
    obtain ⟨b, _, rfl, _⟩ := h
    exact ⟨b, rfl, hk⟩
  · simp only [Own] at h
theorem key_rep {G : GG} {M : Addr → Prop} {H : Hp} {m : MV} {y : V} {k : Key} (e : keyM m = some k) (h : RepB G M H m y) : y = kV k := by
  rcases h with h | ⟨_, _, h⟩
  · exact keyM_rep e h
  · cases m <;> first | (simp only [Own] at h; done) | cases e
theorem dk_repB {G : GG} {M : Addr → Prop} {H : Hp} {ks : List Key} {ms : List MV} {x : V} (h : RepB G M H (.dk ks ms) x) : ∃ a vs, x = .ref a ∧ Rd H a (.dK (ks.zip vs)) ∧ ks.length = vs.length ∧ Reps G M H ms vs := by
  rcases h with h | ⟨a, rfl, h⟩
  · simp only [Rep] at h
    obtain ⟨a, vs, rfl, h1, h2, _, h3⟩ := h
    exact ⟨a, vs, rfl, .inl h1, h2, h3⟩
  · simp only [Own] at h
    obtain ⟨vs, h1, h2, h3⟩ := h
    exact ⟨a, vs, rfl, .inl h1, h2, h3⟩
theorem dn_repB {G : GG} {M : Addr → Prop} {H : Hp} {kms ms : List MV} {x : V} (h : RepB G M H (.dn kms ms) x) : ∃ a ks as vs, x = .ref a ∧ DnAt G H a (zip3 ks as vs) ∧ nksM kms = some ks ∧ ks.length = vs.length ∧ as.length = vs.length ∧ Reps G M H ms vs := by
  rcases h with h | ⟨a, rfl, h⟩
  · simp only [Rep] at h
    obtain ⟨a, ks, as, vs, rfl, h1, h2, h3, h4, h5, _, h6, h7⟩ := h
    exact ⟨a, ks, as, vs, rfl, ⟨h1, zip3_keys h2 h6 h5⟩, h2, h3, h4, h7⟩
  · simp only [Own] at h
    obtain ⟨ks, as, vs, h1, h2, h3, h4, h5, h6, h7⟩ := h
    exact ⟨a, ks, as, vs, rfl, ⟨h1, zip3_keys h2 h6 h5⟩, h2, h3, h4, h7⟩
/-- what dGetM finds is there; what it does not find, is not -/
theorem dGetM_ok {G : GG} {M : Addr → Prop} {H : Hp} {v w m : MV} {x y : V} (e : dGetM v w = some m) (hv : RepB G M H v x) (hw : RepB G M H w y) : ∃ a u, x = .ref a ∧ DGt G H a y (some u) ∧ Rep G M H m u := by
  cases v with
  | dk ks ms =>
    simp only [dGetM, Option.bind_eq_some_iff] at e
    obtain ⟨k, e1, e2⟩ := e
    obtain ⟨a, vs, rfl, h1, h2, h3⟩ := dk_repB hv
    obtain ⟨u, f1, f2⟩ := (find_rep (k := k) h3 h2).1 m e2
    exact ⟨a, u, rfl, .inl ⟨_, k, h1, key_rep e1 hw, f1.symm⟩, f2⟩
  | dn kms ms =>
    cases w with
    | tup ts =>
      simp only [dGetM, Option.bind_eq_some_iff] at e
      obtain ⟨k, e1, e2⟩ := e
      split at e2
      · rename_i hd
        obtain ⟨ks, e3, e4⟩ := Option.bind_eq_some_iff.mp e2
        obtain ⟨a, ks', as, vs, rfl, h1, h2, h3, h4, h5⟩ := dn_repB hv
        rw [e3] at h2
        cases h2
        obtain ⟨u, f1, f2⟩ := (zip3_find (k := k) (as := as) h5 h3 h4).1 m e4
        obtain ⟨b, rfl, hk⟩ := nk_rep e1 hw
        exact ⟨a, u, rfl, .inr ⟨_, k, b, h1, rfl, hk, hd, f1.symm⟩, f2⟩
      · cases e2
    | _ => simp only [dGetM] at e; cases e
  | _ => simp only [dGetM] at e; cases e
theorem ixM_ok {G : GG} {M : Addr → Prop} {H : Hp} {v w : MV} {c : Cell} {x y : V} {Q : VK} (e : ixM v w = some c) (rv : RepB G M H v x) (rw : RepB G M H w y) (q : ∀ z, Rep G M H c.v z → c.k = .val → Q z H) : rIx G.K x y H Q := by
  cases v with
  | lst xs =>
    cases w with
    | int i =>
      rcases rw with rw | ⟨_, _, rw⟩ <;> simp only [Rep, Own] at rw
      subst rw
      unfold ixM at e
      simp only [Option.map_eq_some_iff] at e
      obtain ⟨m, e, rfl⟩ := e
      rcases rv with rv | ⟨p, rfl, rv⟩ <;> simp only [Rep, Own] at rv
      · obtain ⟨p, vs, rfl, h1, _, h2⟩ := rv
        obtain ⟨z, e1, r⟩ := h2.at_ e
        exact .inl ⟨p, vs, i, z, rfl, rfl, h1.sq, e1, q z r rfl⟩
      · obtain ⟨vs, h1, h2⟩ := rv
        obtain ⟨z, e1, r⟩ := h2.at_ e
        exact .inl ⟨p, vs, i, z, rfl, rfl, .of h1, e1, q z r rfl⟩
    | _ => cases e
  | tup xs =>
    cases w with
    | int i =>
      rcases rw with rw | ⟨_, _, rw⟩ <;> simp only [Rep, Own] at rw
      subst rw
      unfold ixM at e
      simp only [Option.map_eq_some_iff] at e
      obtain ⟨m, e, rfl⟩ := e
      rcases rv with rv | ⟨p, _, rv⟩ <;> simp only [Rep, Own] at rv
      obtain ⟨p, vs, rfl, h1, h2⟩ := rv
      obtain ⟨z, e1, r⟩ := h2.at_ e
      exact .inr (.inl ⟨p, vs, i, z, rfl, rfl, h1.sq, e1, q z r rfl⟩)
    | _ => cases e
  | str s =>
    cases w with
    | int i =>
      rcases rw with rw | ⟨_, _, rw⟩ <;> simp only [Rep, Own] at rw
      subst rw
      rcases rv with rv | ⟨p, _, rv⟩ <;> simp only [Rep, Own] at rv
      subst rv
      unfold ixM at e
      simp only at e
      split at e
      · rename_i hl
        simp only [Option.map_eq_some_iff] at e
        obtain ⟨m, e, rfl⟩ := e
        exact .inr (.inr ⟨s, i, m, rfl, rfl, hl, e, q _ (by simp only [Rep]) rfl⟩)
      · cases e
    | _ => cases e
  | _ => cases w <;> cases e
variable {a b e : Expr} {es : List Expr} {f : FE} {fa : FA} {o q : Opd} {pos : Pos} {x : Str}
theorem re_at (hu : X.A.units + 64 < cLine) (ha : RQ X a o) (hb : RQ X b q) (hs : PlainIx b := by intro _ _; rfl) : RE X (.Subscript a b pos) (e2 atM o q) := fun W tk => by
  refine PE_imp (pe_ix (ix_seq.or (ix_dict hu)) (ha W tk) (hb W tk) hs) fun σ H Q h => two (r := fun x y H Q => rIx X.K x y H Q ∨ rIxDt (GX X) x y H Q) (fun M v w c x y H Q tr e rv rw q => ?_) h
  unfold atM at e
  cases E : ixM v w with
  | some c' =>
    rw [E] at e
    cases e
    exact .inl (ixM_ok E rv rw fun z r hk => q z H (.refl _) (by obtain ⟨k, m⟩ := c; cases hk; exact r))
  | none =>
    rw [E] at e
    simp only [Option.or, Option.map_eq_some_iff] at e
    obtain ⟨m, e, rfl⟩ := e
    obtain ⟨p, u, rfl, g, r⟩ := dGetM_ok e rv rw
    exact .inr ⟨p, u, rfl, g, q u H (.refl _) r⟩

/-! ### xs[i] = e, d[k] = e -/
def dPutM : MV → MV → MV → Option MV
  | .dk ks ms, m, w => (keyM m).bind fun k => if (dFind ks ms k).isSome then some (.dk ks (dVals ks ms k w)) else if ks.length < sizeLine then some (.dk (ks ++ [k]) (ms ++ [w])) else none
  | .dn kms ms, .tup ts, w => (nkM (.tup ts)).bind fun k => if k.depth ≤ 8 then (nksM kms).bind fun ks => if (dFind ks ms k).isSome then some (.dn kms (dVals ks ms k w)) else if ks.length < sizeLine then some (.dn (kms ++ [.tup ts]) (ms ++ [w])) else none else none
  | _, _, _ => none
def stM : MV → MV → MV → Option MV
  | .lst xs, .int i, w => (ixN xs.length i).map fun j => .lst (xs.set j w)
  | v, m, w => dPutM v m w
def rSetDt (G : GG) : TSet := fun o i v H Q =>
  (∃ a kvs k, o = .ref a ∧ H a = some (.dK kvs) ∧ i = kV k ∧ ((putK kvs k v).length ≤ sizeLine ∨ (putK kvs k v).length = kvs.length) ∧ Q (upd H a (.dK (putK kvs k v)))) ∨
  ∃ a es k b, o = .ref a ∧ DnAt G H a es ∧ i = .ref b ∧ KeyR G.K H k (.ref b) ∧ k.depth ≤ 8 ∧ ((esPut es k b v).length ≤ sizeLine ∨ (esPut es k b v).length = es.length) ∧ Q (upd H a (DnO G a (esPut es k b v)))
theorem set_dict (hu : X.A.units + 64 < cLine) : PSet X (rSetDt (GX X)) := by
  intro pins s σ H o i v ov iv u Q I ro ri rv h
  rcases h with ⟨a, kvs, k, rfl, e, rfl, hl, q⟩ | ⟨a, es, k, b, rfl, d, rfl, hk, hd, hl, q⟩
  · cases ro
    obtain ⟨z, hsd, vs, rel, dd⟩ := dk_of I.hok e
    replace hl : (putK kvs k v).length ≤ sizeLine := hl.elim id fun h => by rw [h]; exact z
    refine wpAny_setItem_pairs (hsz := by rw [← rel.length]; exact z) (kV_is ri) dd fun h' dd' hs => ?_
    have he : ∃ q, h'.get? a = some q := let ⟨q, _, _, hq, _⟩ := dd'; ⟨q, hq⟩
    exact ⟨_, d_write I (by rw [e]; exact True.intro) hs he (dk_new hl hsd (rel.put k rv) dd'), q⟩
  · cases ro
    cases ri
    obtain ⟨h1, h2, xs, hp, dd⟩ := d.get I
    replace hl : (esPut es k b v).length ≤ sizeLine := hl.elim id fun h => by rw [h]; exact h2
    refine wpAny_setItem_heap (hsz := by rw [← My.Paired.len hp]; exact h2) (knd_room hu) (key_is I hk hd) dd fun h' dd' hs => ?_
    obtain ⟨q', es', ep, hq, h3, h4, h5, _, h6⟩ := dd'
    exact ⟨_, d_write (ob := DnO (GX X) a (esPut es k b v)) I (by rw [d.at_]; exact trivial) hs ⟨q', hq⟩ ⟨⟨h1, hl, _, hp.put k b rv, q', es', ep, hq, h3, h4, h5, h6⟩, ⟨q', hq⟩, fun g1 g2 ⟨z1, z2, zs, zp, zo, ze, zep, z3, z4⟩ hk => ⟨z1, z2, zs, zp, zo, ze, zep, hk _ z3, z4⟩⟩, q⟩
theorem PSet.or {t t' : TSet} (h : PSet X t) (h' : PSet X t') : PSet X (fun o i v H Q => t o i v H Q ∨ t' o i v H Q) := by
  intro pins s σ H o i v ov iv u Q I ro ri rv q
  rcases q with q | q
  · exact h pins s σ H o i v ov iv u Q I ro ri rv q
  · exact h' pins s σ H o i v ov iv u Q I ro ri rv q
theorem zipW_len {κ : Type} [DecidableEq κ] {k : κ} {y : V} {ks : List κ} {vs : List V} (h : ks.length = vs.length) : (List.zipWith (fun k' v' => if k' = k then y else v') ks vs).length = vs.length := by simp [h]
theorem nksM_snoc {m : MV} {k : NestedKey} (h2 : nkM m = some k) : ∀ {ms : List MV} {ks : List NestedKey}, nksM ms = some ks → nksM (ms ++ [m]) = some (ks ++ [k])
  | [], ks, h => by
    simp only [nksM] at h
    cases h
    simp only [List.nil_append, nksM, h2]
    rfl
  | a :: ms, ks, h => by
    simp only [nksM, Option.bind_eq_some_iff, Option.map_eq_some_iff] at h
    obtain ⟨k1, e1, ks', e2, rfl⟩ := h
    simp only [List.cons_append, nksM, e1, nksM_snoc h2 e2]
    rfl
/-- what stM says is what a store does -/
theorem stM_ok {G : GG} {M : Addr → Prop} {H : Hp} {v m w v' : MV} {y u : V} {a : Addr} {Q : Hp → Prop} (tr : Trk M H) (ma : M a) (oa : Own G M H v a) (hm : RepB G M H m y) (hw : Rep G M H w u) (e : stM v m w = some v')
    (q : ∀ H', (∀ b o, b ≠ a → H b = some o → H' b = some o) → Own G M H' v' a → Q H') : rSetL (.ref a) y u H Q ∨ rSetDt G (.ref a) y u H Q := by
  have out : ∀ o b (o' : HO), b ≠ a → H b = some o' → upd H a o b = some o' := fun o b o' n h => by rw [upd_ne n]; exact h
  have kp : ∀ o, Keep M H (upd H a o) := fun o => ⟨fun b o' n h => out o b o' (fun z => n (z ▸ ma)) h, fun b o' h => by
    by_cases hb : b = a
    · exact ⟨_, by rw [hb]; exact upd_same⟩
    · exact ⟨o', out o b o' hb h⟩⟩
  cases v with
  | lst xs =>
    cases m with
    | int i =>
      simp only [stM, Option.map_eq_some_iff] at e
      obtain ⟨j, hj, rfl⟩ := e
      rcases hm with hm | ⟨_, _, hm⟩ <;> simp only [Rep, Own] at hm
      subst hm
      simp only [Own] at oa
      obtain ⟨vs, h1, h2⟩ := oa
      refine .inl ⟨a, vs, i, j, rfl, rfl, h1, by rw [h2.len]; exact hj, q _ (fun b o => out _ b o) ?_⟩
      simp only [Own]
      exact ⟨_, upd_same, (Reps.set hw j h2).keep (kp _) fun _ _ _ m => m⟩
    | _ => simp only [stM, dPutM] at e; cases e
  | dk ks ms =>
    have e : dPutM (.dk ks ms) m w = some v' := e
    simp only [dPutM, Option.bind_eq_some_iff] at e
    obtain ⟨k, e1, e2⟩ := e
    simp only [Own] at oa
    obtain ⟨vs, h1, hl, h2⟩ := oa
    have hlm : ks.length = ms.length := by rw [hl, h2.len]
    right
    left
    split at e2
    · rename_i hin
      cases e2
      have hin' : k ∈ ks := (dFind_some (k := k) (vs := ms) (ks := ks) hlm).mp hin
      refine ⟨a, _, k, rfl, h1, key_rep e1 hm, ?_, ?_⟩
      · right
        rw [putK_in hl hin', List.length_zip, List.length_zip, zipW_len hl]
      · refine q _ (fun b o => out _ b o) ?_
        simp only [Own]
        rw [putK_in hl hin']
        exact ⟨_, upd_same, by rw [zipW_len hl]; exact hl, (vals_rep hw h2 hl).keep (kp _) fun _ _ _ m => m⟩
    · rename_i hin
      split at e2
      · rename_i hz
        cases e2
        have hin' : k ∉ ks := fun h => hin ((dFind_some (k := k) (vs := ms) (ks := ks) hlm).mpr h)
        refine ⟨a, _, k, rfl, h1, key_rep e1 hm, ?_, ?_⟩
        · left
          rw [putK_out hl hin', List.length_zip, List.length_append, List.length_append]
          simp only [List.length_singleton]
          omega
        · refine q _ (fun b o => out _ b o) ?_
          simp only [Own]
          rw [putK_out hl hin']
          exact ⟨_, upd_same, by simp [hl], (Reps.app h2 (Reps.one hw)).keep (kp _) fun _ _ _ m => m⟩
      · cases e2
  | dn kms ms =>
    cases m with
    | tup ts =>
      have e : dPutM (.dn kms ms) (.tup ts) w = some v' := e
      simp only [dPutM, Option.bind_eq_some_iff] at e
      obtain ⟨k, e1, e2⟩ := e
      split at e2
      · rename_i hd
        obtain ⟨ks, e3, e4⟩ := Option.bind_eq_some_iff.mp e2
        simp only [Own] at oa
        obtain ⟨ks', as, vs, h1, h2, h3, h4, h5, h6, h7⟩ := oa
        rw [e3] at h2
        cases h2
        have hlm : ks.length = ms.length := by rw [h3, h7.len]
        have hda : DnAt G H a (zip3 ks as vs) := ⟨h1, zip3_keys e3 h6 h5⟩
        obtain ⟨b, rfl, hk⟩ := nk_rep e1 hm
        right
        right
        split at e4
        · rename_i hin
          cases e4
          obtain ⟨m', hm'⟩ := Option.isSome_iff_exists.mp hin
          obtain ⟨u', f1, _⟩ := (zip3_find (k := k) (as := as) h7 h3 h4).1 m' hm'
          have ep : esPut (zip3 ks as vs) k b u = zip3 ks as (List.zipWith (fun k' v' => if k' = k then u else v') ks vs) := by
            unfold esPut
            rw [if_pos (by rw [f1]; rfl)]
            exact zip3_map h3 h4
          refine ⟨a, _, k, b, rfl, hda, rfl, hk, hd, ?_, ?_⟩
          · right
            rw [ep, zip3_len (by rw [zipW_len h3]; exact h3) (by rw [zipW_len h3]; exact h4), zip3_len h3 h4, zipW_len h3]
          · refine q _ (fun b o => out _ b o) ?_
            simp only [Own]
            rw [ep]
            exact ⟨ks, as, _, upd_same, e3, by rw [zipW_len h3]; exact h3, by rw [zipW_len h3]; exact h4, h5, h6.keep (kp _) fun _ _ _ m => m, (vals_rep hw h7 h3).keep (kp _) fun _ _ _ m => m⟩
        · rename_i hin
          split at e4
          · rename_i hz
            cases e4
            have hno : dFind ks ms k = none := by
              cases E : dFind ks ms k with
              | none => rfl
              | some _ => rw [E] at hin; exact absurd rfl hin
            have f1 := (zip3_find (k := k) (as := as) h7 h3 h4).2 hno
            have ep : esPut (zip3 ks as vs) k b u = zip3 (ks ++ [k]) (as ++ [b]) (vs ++ [u]) := by
              unfold esPut
              rw [if_neg (by rw [f1]; decide)]
              exact (zip3_app h3 h4).symm
            refine ⟨a, _, k, b, rfl, hda, rfl, hk, hd, ?_, ?_⟩
            · left
              rw [ep, zip3_len (by simp [h3]) (by simp [h4])]
              simp
              omega
            · refine q _ (fun b o => out _ b o) ?_
              simp only [Own]
              rw [ep]
              have hkm : Rep G M H (.tup ts) (.ref b) := by
                rcases hm with h | ⟨_, _, h⟩
                · exact h
                · simp only [Own] at h
              refine ⟨ks ++ [k], as ++ [b], vs ++ [u], upd_same, ?_, by simp [h3], by simp [h4], fun k' hk' => ?_, ?_, (Reps.app h7 (Reps.one hw)).keep (kp _) fun _ _ _ m => m⟩
              · exact nksM_snoc e1 e3
              · rcases List.mem_append.mp hk' with h | h
                · exact h5 k' h
                · rw [List.mem_singleton.mp h]; exact hd
              · rw [List.map_append]
                exact (Reps.app h6 (Reps.one hkm)).keep (kp _) fun _ _ _ m => m
          · cases e4
      · cases e2
    | _ => simp only [stM, dPutM] at e; cases e
  | _ => cases m <;> (simp only [stM, dPutM] at e; cases e)
end
end Mi

set_option Elab.async false
set_option linter.all false
set_option maxRecDepth 100000
set_option maxHeartbeats 4000000
/-! stores as statements; methods that change; methods that look -/
namespace Mi
open PySem PySem.Spec PyProof.Rows L2 My

def hasC (γ : Sg) (j : Nat) : Bool := match γ[j]? with
  | some (some _) => true
  | _ => false
/-- slot j[q] = f -/
def sSt (j : Nat) (q : Opd) (f : FE) : FS := fun γ => match f γ with
  | .ok c γ1 => if hasC γ1 j then (match oEv q γ1 with
    | .ok d γ2 => (match oGet q d γ2, γ2[j]? with
      | some m, some (some ⟨kd, v⟩) => if kd.mine then (match stM v m c.v with
        | some v' => .nx (γ2.set j (some ⟨kd, v'⟩))
        | none => .no) else .no
      | _, _ => .no)
    | .ex e γ2 => .ex e γ2
    | .no => .no) else .no
  | .ex e γ1 => .ex e γ1
  | .no => .no
theorem Sim.slot {G : GG} {Z : Ent} {A : AM} {γ : Sg} {σ : L2.St} {H : Hp} {j : Nat} (S : Sim G Z A γ σ H) (h : hasC γ j = true) : ∃ x, σ[j]? = some (some x) := by
  unfold hasC at h
  split at h
  · rename_i c hc
    obtain ⟨x, h1, _⟩ := S.cell j c hc
    exact ⟨x, h1⟩
  · cases h
section
variable {X : Cx} {a b e : Expr} {es : List Expr} {f : FE} {fa : FA} {o q : Opd} {pos tpos : Pos} {x : Str} {j : Nat}
theorem qs_st (hu : X.A.units + 64 < cLine) (ho : PE X a (tVar j)) (hi : RQ X b q) (he : RE X e f)
    (hs : swapsWithSole [.Subscript a b tpos] e pos.line X.env = pure false := by rfl) (hw : swappedStores [.Subscript a b tpos] e X.env = pure none := by rfl)
    (h1 : (assignEach [.Subscript a b tpos] X.env).map (·.2) = [assign (.Subscript a b tpos) X.env] := by rfl)
    (ha : ∀ v, assign (.Subscript a b tpos) X.env v = (do
      let ov ← holding [v] (eval a X.env)
      let iv ← holding [v, ov] (eval b X.env)
      standAt tpos
      holding [v, ov, iv] (setItem ov iv v)
      release [v, ov, iv] []) := by intro _; rfl) : QS X (.Assign [.Subscript a b tpos] e pos) (sSt j q f) := fun _ W tk =>
  PS_imp (ps_asg (he W tk) (pg_sub ho (hi W tk) (PSet.or set_list (set_dict hu)) ha) hs hw h1) fun D σ H ⟨Z, A, γ, S, h⟩ => by
    refine ⟨Z, A, γ, S, ?_⟩
    unfold sSt at h
    cases E1 : f γ with
    | no => rw [E1] at h; exact h
    | ex e γ1 => rw [E1] at h; exact fun A' H' cls d S' le k xr => h σ A' H' cls d S' (.of le k) xr
    | ok c γ1 =>
      rw [E1] at h
      simp only at h
      intro u A1 H1 hs1 le1 k1
      have S1 := hs1.sim
      have r1 := hs1.rep
      split at h
      rotate_left
      · exact h.elim
      rename_i hh
      obtain ⟨x, hx⟩ := S1.slot hh
      refine ⟨x, hx, ?_⟩
      refine (Stg.start S1).run (Q := fun y H2 => rSetL x y u H2 (fun H3 => D.nx σ H3) ∨ rSetDt (GX X) x y u H2 (fun H3 => D.nx σ H3)) ?_
      cases E2 : oEv q γ1 with
      | no => rw [E2] at h; exact h
      | ex e γ2 =>
        rw [E2] at h
        exact fun A' H' cls d S' le k xr => h σ A' H' cls d S' ((Stp.of le1 k1).trans (.of le k)) xr
      | ok d γ2 =>
        rw [E2] at h
        simp only at h ⊢
        intro y l2 A2 H2 T2 up L2
        have k02 : Keep (Mz Z A) H H2 := k1.trans T2.kp fun b o hb m => le1.mz b m
        cases E3 : oGet q d γ2 with
        | none => rw [E3] at h; exact h.elim
        | some m =>
          rw [E3] at h
          cases E4 : γ2[j]? with
          | none => rw [E4] at h; exact h.elim
          | some oc =>
            cases oc with
            | none => rw [E4] at h; exact h.elim
            | some cj =>
              obtain ⟨kd, v⟩ := cj
              rw [E4] at h
              simp only at h
              split at h
              · rename_i hk
                cases E5 : stM v m c.v with
                | none => rw [E5] at h; exact h.elim
                | some v' =>
                  rw [E5] at h
                  obtain ⟨p, hp1, hp2, hp3, hp4⟩ := T2.sim.mine E4 hk
                  rw [hx] at hp1
                  cases hp1
                  have ru : Rep (GX X) (Mz (Z.waits l2) A2) H2 c.v u := r1.keep T2.kp fun b o hb m => by
                    rcases (waits_mz l2 b).mp m with m | ⟨p, hp, rfl⟩
                    · exact T2.le.mz b m
                    · rw [T2.nw p hp] at hb; cases hb
                  refine stM_ok T2.sim.trk (.inr ⟨j, hp2⟩) hp3 (L2.repB T2.sim E3) ru E5 fun H' out own' => ?_
                  obtain ⟨S3, k3⟩ := T2.sim.mut E4 hk hp2 out own'
                  have k3' : Keep (Mz Z A1) H1 H' := Keep.waits k3 T2.nw T2.kp T2.le
                  exact h σ A2 H' S3.drops ((Stp.of le1 k1).trans (.of T2.le k3'))
              · exact h.elim
/-! ### o.m(..), where o is a slot, and is changed -/
abbrev MutF := MV → List MV → Option (MV × MV)
def MutR (X : Cx) (id : String) (g : MutF) : Prop :=
  ∃ r, MtR X id r ∧ ∀ M v ms v' w a vs H Q, Trk M H → M a → g v ms = some (v', w) → Own (GX X) M H v a → Reps (GX X) M H ms vs →
    (∀ z H', (∀ b o, b ≠ a → H b = some o → H' b = some o) → Own (GX X) M H' v' a → Rep (GX X) M H' w z → Q z H') → r (.ref a) vs H Q
/-- the kind of thing a method is of -/
def isTy (T : String) : MV → Bool
  | .lst _ => T == "list"
  | .dk _ _ => T == "dict"
  | _ => false
def eMut (T : String) (g : MutF) (j : Nat) (fa : FA) : FE := fun γ => match γ[j]? with
  | some (some ⟨kd, v⟩) => if isTy T v then (match fa γ with
    | .ok ms γ1 => (match γ1[j]? with
      | some (some ⟨kd, v⟩) => if kd.mine then (match g v ms with
        | some (v', w) => .ok ⟨.val, w⟩ (γ1.set j (some ⟨kd, v'⟩))
        | none => .no) else .no
      | _ => .no)
    | .ex e γ1 => .ex e γ1
    | .no => .no) else .no
  | _ => .no
theorem isTy_ok {G : GG} {M : Addr → Prop} {H : Hp} {T : String} {v : MV} {y : V} (h : isTy T v = true) (r : RepB G M H v y) : tyV G.K T y H := by
  cases v with
  | lst ms =>
    have h : (T == "list") = true := h
    have e := eq_of_beq h
    rcases r with r | ⟨a, rfl, r⟩ <;> simp only [Rep, Own] at r
    · obtain ⟨a, vs, rfl, h1, _⟩ := r
      exact .inl ⟨e, vs, h1.sq⟩
    · obtain ⟨vs, h1, _⟩ := r
      exact .inl ⟨e, vs, .of h1⟩
  | dk ks ms =>
    have h : (T == "dict") = true := h
    have e := eq_of_beq h
    rcases r with r | ⟨a, rfl, r⟩ <;> simp only [Rep, Own] at r
    · obtain ⟨a, vs, rfl, h1, _⟩ := r
      exact .inr (.inr (.inl ⟨e, .inl ⟨_, h1⟩⟩))
    · obtain ⟨vs, h1, _⟩ := r
      exact .inr (.inr (.inl ⟨e, .inl ⟨_, h1⟩⟩))
  | _ => cases h
section
variable {X : Cx} {a b e e1 : Expr} {es : List Expr} {f : FE} {fa : FA} {o q : Opd} {pos apos cpos : Pos} {x name : Str} {j : Nat} {T id : String} {g : MutF}
/-- behind the arguments: the change -/
theorem mut_end {Z : Ent} {A A1 : AM} {γ1 : Sg} {σ : L2.St} {H H1 : Hp} {W : WX} {Q : VK} {r : V → List V → Hp → VK → Prop} {p : Addr} {ms : List MV} {vs : List V} (hx : σ[j]? = some (some (.ref p)))
    (hr : ∀ M v ms v' w a vs H Q, Trk M H → M a → g v ms = some (v', w) → Own (GX X) M H v a → Reps (GX X) M H ms vs →
      (∀ z H', (∀ b o, b ≠ a → H b = some o → H' b = some o) → Own (GX X) M H' v' a → Rep (GX X) M H' w z → Q z H') → r (.ref a) vs H Q)
    (S1 : Sim (GX X) Z A1 γ1 σ H1) (le : Le A1 A) (k : Keep (Mz Z A) H H1) (rs : Reps (GX X) (Mz Z A1) H1 ms vs)
    (h : EndE (GX X) Z W A σ H Q (match γ1[j]? with
      | some (some ⟨kd, v⟩) => if kd.mine then (match g v ms with
        | some (v', w) => .ok ⟨.val, w⟩ (γ1.set j (some ⟨kd, v'⟩))
        | none => .no) else .no
      | _ => .no)) : r (.ref p) vs H1 Q := by
  cases E4 : γ1[j]? with
  | none => rw [E4] at h; exact h.elim
  | some oc =>
    cases oc with
    | none => rw [E4] at h; exact h.elim
    | some cj =>
      obtain ⟨kd, v⟩ := cj
      rw [E4] at h
      simp only at h
      split at h
      · rename_i hk
        cases E5 : g v ms with
        | none => rw [E5] at h; exact h.elim
        | some vw =>
          obtain ⟨v', w⟩ := vw
          rw [E5] at h
          obtain ⟨p', hp1, hp2, hp3, hp4⟩ := S1.mine E4 hk
          rw [hx] at hp1
          cases hp1
          refine hr _ v ms v' w p vs H1 Q S1.trk (.inr ⟨j, hp2⟩) E5 hp3 rs fun z H' out own' rw' => ?_
          obtain ⟨S3, k3⟩ := S1.mut E4 hk hp2 out own'
          exact h z A1 H' ⟨S3, rw'⟩ le (k.trans k3 fun b _ _ m => le.mz b m)
      · exact h.elim
theorem re_mut (pa : PlainAttrs T) (slot : Slot T name id) (hty : typeOf (.builtin id) = pure (.type "method_descriptor")) (hm : MutR X id g) (ho : PE X a (tVar j)) (ha : RA X (e1 :: es) fa)
    (hbase : attributeBase a name X.env (eval a X.env) = eval a X.env := by rfl)
    (hfew : ((backTo cpos (starEach (e1 :: es) X.env)).all (fun x => !x.1) && (backToKw cpos (keywordEach [] X.env)).all (fun x => x.1.isSome)
      && decide ((e1 :: es).length + ([] : List Keyword).length + (if ([] : List Keyword).isEmpty then 0 else 1) < 30)) = true := by rfl)
    (hline : (apos.endLine == cpos.line) = true := by rfl) (hs : starEach (e1 :: es) X.env = (false, eval e1 X.env) :: starEach es X.env := by rfl) (hplain : (backTo cpos (starEach es X.env)).any (·.1) = false := by rfl) :
    RE X (.Call (.Attribute a name apos) (e1 :: es) [] cpos) (eMut T g j fa) := fun W tk => by
  obtain ⟨r, hm, hr⟩ := hm
  refine PE_imp (pe_bm pa slot hty hm ho (ha W tk) hbase hfew hline hs hplain) fun σ H Q ⟨Z, A, γ, S, h⟩ => ?_
  unfold eMut at h
  cases E0 : γ[j]? with
  | none => rw [E0] at h; exact h.elim
  | some oc =>
    cases oc with
    | none => rw [E0] at h; exact h.elim
    | some c0 =>
      obtain ⟨k0, v0⟩ := c0
      rw [E0] at h
      simp only at h
      split at h
      · rename_i ht
        obtain ⟨x, h1, h2⟩ := S.cell j _ E0
        refine ⟨x, h1, isTy_ok (G := GX X) ht h2.repB, Z, A, γ, S, ?_⟩
        cases E1 : fa γ with
        | no => rw [E1] at h; exact h
        | ex e γ1 => rw [E1] at h; exact h
        | ok ms γ1 =>
          rw [E1] at h
          intro vs A1 H1 S1 le k rs
          have hx : ∃ p, x = .ref p := by
            rcases h2.repB with r | ⟨p, rfl, _⟩
            · cases v0 <;> first | cases ht | (simp only [Rep] at r; obtain ⟨p, _, rfl, _⟩ := r; exact ⟨p, rfl⟩)
            · exact ⟨p, rfl⟩
          obtain ⟨p, rfl⟩ := hx
          exact mut_end h1 hr S1 le k rs h
      · exact h.elim
theorem re_mut0 (pa : PlainAttrs T) (slot : Slot T name id) (hty : typeOf (.builtin id) = pure (.type "method_descriptor")) (hm : MutR X id g) (ho : PE X a (tVar j))
    (hbase : attributeBase a name X.env (eval a X.env) = eval a X.env := by rfl) (hline : (apos.endLine == cpos.line) = true := by rfl) :
    RE X (.Call (.Attribute a name apos) [] [] cpos) (eMut T g j aNil) := fun W tk => by
  obtain ⟨r, hm, hr⟩ := hm
  refine PE_imp (pe_bm0 pa slot hty hm ho hbase hline) fun σ H Q ⟨Z, A, γ, S, h⟩ => ?_
  unfold eMut at h
  cases E0 : γ[j]? with
  | none => rw [E0] at h; exact h.elim
  | some oc =>
    cases oc with
    | none => rw [E0] at h; exact h.elim
    | some c0 =>
      obtain ⟨k0, v0⟩ := c0
      rw [E0] at h
      simp only at h
      split at h
      · rename_i ht
        obtain ⟨x, h1, h2⟩ := S.cell j _ E0
        have hx : ∃ p, x = .ref p := by
          rcases h2.repB with r | ⟨p, rfl, _⟩
          · cases v0 <;> first | cases ht | (simp only [Rep] at r; obtain ⟨p, _, rfl, _⟩ := r; exact ⟨p, rfl⟩)
          · exact ⟨p, rfl⟩
        obtain ⟨p, rfl⟩ := hx
        refine ⟨_, h1, isTy_ok (G := GX X) ht h2.repB, ?_⟩
        have E1 : aNil γ = .ok [] γ := rfl
        rw [E1] at h
        exact mut_end h1 hr S .refl .refl Reps.nil h
      · exact h.elim
/-! the methods -/
def appM : MutF
  | .lst xs, [m] => if xs.length < sizeLine then some (.lst (xs ++ [m]), .non) else none
  | _, _ => none
theorem out_upd {H : Hp} {a : Addr} {o : HO} : ∀ b o', b ≠ a → H b = some o' → upd H a o b = some o' := fun b o' n h => by rw [upd_ne n]; exact h
theorem kp_upd {H : Hp} {a : Addr} {o : HO} {M : Addr → Prop} (ma : M a) : Keep M H (upd H a o) := Keep.upd ma
theorem mut_append : MutR X "list.append" appM := by
  refine ⟨_, mt_append, fun M v ms v' w a vs H Q tr ma e oa rs q => ?_⟩
  unfold appM at e
  split at e
  · rename_i xs m
    split at e
    · rename_i hz
      cases e
      simp only [Own] at oa
      obtain ⟨ys, h1, h2⟩ := oa
      simp only [Reps] at rs
      obtain ⟨y, r, rfl, r1, rfl⟩ := rs
      refine ⟨a, ys, y, rfl, rfl, h1, by rw [h2.len]; exact hz, q .non _ out_upd ?_ (by simp only [Rep])⟩
      simp only [Own]
      exact ⟨_, upd_same, (Reps.app h2 (Reps.one r1)).keep (kp_upd ma) fun _ _ _ m => m⟩
    · cases e
  · cases e
def popM : MutF
  | .lst xs, [] => (xs[xs.length - 1]?).map fun m => (.lst xs.dropLast, m)
  | _, _ => none
theorem mut_pop : MutR X "list.pop" popM := by
  refine ⟨_, mt_pop, fun M v ms v' w a vs H Q tr ma e oa rs q => ?_⟩
  unfold popM at e
  split at e
  · rename_i xs
    simp only [Option.map_eq_some_iff] at e
    obtain ⟨m, hm, e⟩ := e
    cases e
    simp only [Own] at oa
    obtain ⟨ys, h1, h2⟩ := oa
    simp only [Reps] at rs
    subst rs
    obtain ⟨y, hy, ry⟩ := h2.get hm
    refine ⟨a, ys, y, rfl, rfl, h1, by rw [h2.len]; exact hy, q y _ out_upd ?_ (ry.keep (kp_upd ma) fun _ _ _ m => m)⟩
    simp only [Own]
    refine ⟨_, upd_same, ?_⟩
    rw [List.dropLast_eq_take, List.dropLast_eq_take, h2.len]
    exact (Reps.take _ h2).keep (kp_upd ma) fun _ _ _ m => m
  · cases e
end
end
end Mi

set_option Elab.async false
set_option linter.all false
set_option maxRecDepth 100000
set_option maxHeartbeats 4000000
/-! defs: what they promise, where nothing guards (no repr is under way); calls -/
namespace Mi
open PySem PySem.Spec PyProof.Rows L2 My

/-- a def that keeps a promise, where nothing guards -/
structure FnG (P : Program) (w : World) (K : PySem.W.Frag) (mg : Str → Option Value) (base : Heap) (k : Nat) (f : Addr) (fd : FuncData) (ps : List Str) (sp : Sp) : Prop where
  len : ∀ vs H Q E, sp vs H Q E → vs.length = ps.length
  run : ∀ (A : Around) (outer : List Env) (s : Shared) (H : Hp) (args : Args) (us : List Value) (vs : List V) (Q : VK) (E : XK),
    Room k A → A.guards = some [] → Env0 P w K mg base A outer s H → BindsTo s fd args (ps.zip us) → Vals vs us → sp vs H Q E → codeAny (model P w) A (.call (.ref f) args) (CR (CX P w) outer P w H s Q E) s
theorem FnG.mono {P : Program} {w : World} {K : PySem.W.Frag} {mg : Str → Option Value} {base : Heap} {j k : Nat} {f : Addr} {fd : FuncData} {ps : List Str} {sp : Sp} (F : FnG P w K mg base j f fd ps sp) (h : j ≤ k) : FnG P w K mg base k f fd ps sp :=
  ⟨F.len, fun A outer s H args us vs Q E hr => F.run A outer s H args us vs Q E (hr.mono h)⟩
/-- a def by its body -/
theorem fnG_of {P : Program} {w : World} {K : PySem.W.Frag} {mg : Str → Option Value} {base : Heap} {k : Nat} {f : Addr} {name qual : Str} {params : Arguments} {body : List Stmt} {scope : Scope} {dV kV doc pm cdv ct oc : Value} {an od : Option Addr} {osl : Array (Option Value)}
    {N ps : List Str} {sp : Sp} (lk : K.lookup f = some ⟨oc, od, .func (PySem.W.fnOf name qual params body scope dV kV doc pm an cdv ct), osl⟩) (hcd : PySem.W.codeIn K cdv qual = true) (S : FnScope N ps scope)
    (hlen : ∀ vs H Q E, sp vs H Q E → vs.length = ps.length)
    (hbody : ∀ (A : Around) (outer : List Env) (s : Shared) (H : Hp) (vs : List V) (Q : VK) (E : XK), Room k (A.deeper (envOfC qual scope s.heap.objs.size f cdv)) → A.guards = some [] → sp vs H Q E →
      ∃ t, PSs (cxOf (CX P w) P w K mg base N qual scope f cdv A outer s H E) body t ∧ t { nx := fun _ H' => Q .non H', rt := Q } (start N vs) H) :
    FnG P w K mg base (k + 1) f (PySem.W.fnOf name qual params body scope dV kV doc pm an cdv ct) ps sp := by
  refine ⟨hlen, fun A outer s H args us vs Q E hr hgd e0 hb r hsp => ?_⟩
  have hl := hlen vs H Q E hsp
  have kIn : K.In s.heap := e0.mod.kin.keeps fun b o e => (e0.bs b o e).1
  have noLim : s.heap.NoLimit := e0.mod.nolimit.keeps fun b o e => (e0.bs b o e).1
  have kinds : ∀ y ∈ ps.zip us, scope.names.lookup y.1 = some .local ∨ (scope.names.lookup y.1 = some .cell ∧ ((cellsFrom (s.heap.objs.size + 1) scope.names []).lookup y.1).isSome = true) := by
    rintro ⟨n, v⟩ hy
    exact (S.par n (List.of_mem_zip hy).1).imp_right fun q => ⟨q, PySem.W.cellsFrom_some _ _ _ (.inl q)⟩
  refine codeAny_call_function hr.depth (kIn _ _ lk) rfl S.co S.gen rfl (PySem.W.codeRec_of kIn hcd) (hb _ _ _ _ ?_)
  refine wpAny_newFunctionEnv_cells S.kind kinds fun env he s1 x => ?_
  subst he
  refine ⟨noLim.keeps x.toInCall.keep, codeAny_func ?_⟩
  obtain ⟨t, ht, hq⟩ := hbody A outer s H vs Q E (hr.deeper _) hgd hsp
  have I := inv_start (CX := CX P w) (E := E) S hr.hd e0 hl r x
  refine wpAny_mono (ht.run [] s1 (start N vs) H _ I hq) (fun fl s' hs => ?_) fun e s' hs => hs
  cases fl with
  | ret u =>
    obtain ⟨v, σ', H', J, rv, q⟩ := hs
    exact ⟨v, H', J.os, J.bare, J.base, J.hok, rv, q⟩
  | next =>
    obtain ⟨σ', H', J, q⟩ := hs
    exact ⟨.non, H', J.os, J.bare, J.base, J.hok, rfl, q⟩
  | brk => exact (hs.elim fun _ h => h.elim fun _ h => h.2).elim
  | cont => exact (hs.elim fun _ h => h.elim fun _ h => h.2).elim
section
variable {X : Cx} {k : Nat} {f : Addr} {fd : FuncData} {ps : List Str} {sp : Sp} {x : Str} {p pos : Pos} {e : Expr} {es : List Expr} {t : TA} {dvs : List V} {ds : List Value}
/-- the callee runs; E may lean on the caller's slots -/
theorem run_fnG {E : L2.St → XK} {pins : List (Addr × Obj)} {σ : L2.St} {H : Hp} {s : Shared} {Q : VK} {us : List Value} {vs : List V} (F : FnG X.prog X.w X.K X.mg X.base k f fd ps sp) (hr : Room k X.A) (hgd : X.A.guards = some []) (hb : Binds X.K fd ps ds) (hd : Vals dvs ds)
    (hx : ∀ (pins : List (Addr × Obj)) (H : Hp) (s : Shared) (e : Value) (s' : Shared), L2.Inv X pins σ H s → CX X.prog X.w X.stack H s (E σ) e s' → X.xe e s') (I : L2.Inv X pins σ H s) (r : Vals vs us) (h : sp (vs ++ dvs) H Q (E σ)) :
    wpAny (model X.prog X.w) X.A (call (.ref f) us) (EP X pins σ Q) X.xe s := by
  have r2 : Vals (vs ++ dvs) (us ++ ds) := r.append hd
  have hl : (us ++ ds).length = ps.length := by rw [← r2.length]; exact F.len _ _ _ _ h
  have run := F.run X.A X.stack s H ⟨us, []⟩ (us ++ ds) (vs ++ dvs) Q (E σ) hr hgd I.env0 (hb s us I.kIn hl) r2 h
  refine wpAny_call (codeAny_mono run fun r s' hq => ?_)
  cases r with
  | error e => exact hx pins H s e s' I hq
  | ok fl => cases fl <;> first | exact I.after hq | exact hq.elim
def tCallG (sp : Sp) (dvs : List V) (E : L2.St → XK) (t : TA) : TE := fun σ H Q => t σ H fun vs H1 => sp (vs ++ dvs) H1 Q (E σ)
theorem pe_callG {E : L2.St → XK} (F : FnG X.prog X.w X.K X.mg X.base k f fd ps sp) (hr : Room k X.A) (hgd : X.A.guards = some []) (hg : Gl X x) (hm : X.mg x = some (.ref f)) (hk : PySem.W.keepIn X.K (.ref f) = true) (hb : Binds X.K fd ps ds) (hd : Vals dvs ds)
    (hx : ∀ σ (pins : List (Addr × Obj)) (H : Hp) (s : Shared) (e : Value) (s' : Shared), L2.Inv X pins σ H s → CX X.prog X.w X.stack H s (E σ) e s' → X.xe e s') (ha : PA X (e :: es) t) (hdb : (x == ("__debug__" : Str)) = false)
    (he : starEach (e :: es) X.env = (false, eval e X.env) :: starEach es X.env) (hpl : (backTo pos (starEach es X.env)).any (·.1) = false) : PE X (.Call (.Name x p) (e :: es) [] pos) (tCallG sp dvs E t) := by
  refine ⟨fun pins s σ H Q I h => wpAny_Call_Name_kw (ld_glob I hg hm ?_ hdb)⟩
  exact PySem.W.callWith_K (h₀ := X.base) I.ok.mod.kin hk (thn (ha.run pos pins s σ H _ I h) fun us s1 ⟨vs, H1, I1, r, q⟩ => ⟨I1.kIn, run_fnG F hr hgd hb hd (hx σ) I1 r q⟩) he hpl
theorem pe_callG0 {E : L2.St → XK} (F : FnG X.prog X.w X.K X.mg X.base k f fd ps sp) (hr : Room k X.A) (hgd : X.A.guards = some []) (hg : Gl X x) (hm : X.mg x = some (.ref f)) (hk : PySem.W.keepIn X.K (.ref f) = true) (hb : Binds X.K fd ps ds) (hd : Vals dvs ds)
    (hx : ∀ σ (pins : List (Addr × Obj)) (H : Hp) (s : Shared) (e : Value) (s' : Shared), L2.Inv X pins σ H s → CX X.prog X.w X.stack H s (E σ) e s' → X.xe e s') (hdb : (x == ("__debug__" : Str)) = false) : PE X (.Call (.Name x p) [] [] pos) (tCallG sp dvs E tNil) :=
  ⟨fun pins s σ H Q I h => wpAny_Call_Name_kw (ld_glob I hg hm (PySem.W.callWith_K0 I.kIn hk (run_fnG (us := []) F hr hgd hb hd (hx σ) I .nil h)) hdb)⟩
end

/-! ### what a def of the small machine promises -/
/-- out: what the list that may be changed (io) holds behind the call -/
inductive RF where
  | rt (c : Cell) (out : Option MV) | ex (e : Ex) (out : Option MV) | no
/-- the arguments lie in H; the one at io may be changed -/
structure ArgsM (G : GG) (M : Addr → Prop) (H : Hp) (io : Option Nat) (ms : List MV) (vs : List V) : Prop where
  len : vs.length = ms.length
  at_ : ∀ i m x, ms[i]? = some m → vs[i]? = some x → io ≠ some i → Rep G M H m x
  io_ : ∀ i, io = some i → ∃ m a, ms[i]? = some m ∧ vs[i]? = some (.ref a) ∧ M a ∧ Own G M H m a
/-- behind the call -/
structure After (G : GG) (M : Addr → Prop) (io : Option Nat) (vs : List V) (out : Option MV) (H H' : Hp) : Prop where
  keep : ∀ b o, ¬ G.isT b → (∀ i, io = some i → vs[i]? ≠ some (.ref b)) → H b = some o → H' b = some o
  out : ∀ i, io = some i → ∃ a m, vs[i]? = some (.ref a) ∧ out = some m ∧ Own G M H' m a
  on : ∀ b o, H b = some o → ∃ o', H' b = some o'
  tb : TabsOk G H'
/-- the end of a call: a value, or a thing made since, of which no one else knows -/
def Done (G : GG) (M : Addr → Prop) (io : Option Nat) (vs : List V) (H H' : Hp) (c : Cell) (x : V) (out : Option MV) : Prop := match c.k with
  | .val => After G M io vs out H H' ∧ Rep G M H' c.v x
  | .own => ∃ a, x = .ref a ∧ H a = none ∧ After G (fun b => M b ∨ b = a) io vs out H H' ∧ Own G (fun b => M b ∨ b = a) H' c.v a
  | _ => False
def spM (P : Program) (w : World) (K : PySem.W.Frag) (n : Nat) (io : Option Nat) (F : List MV → RF) : Sp := fun vs H Q E => vs.length = n ∧ ∃ (M : Addr → Prop) (ms : List MV),
  Trk M H ∧ ((∀ p ∈ (GG.mk P w K).T, M p.1) ∧ TabsOk ⟨P, w, K⟩ H) ∧ ArgsM ⟨P, w, K⟩ M H io ms vs ∧ match F ms with
    | .rt c out => ∀ x H', Done ⟨P, w, K⟩ M io vs H H' c x out → Q x H'
    | .ex e out => ∀ cls d H', After ⟨P, w, K⟩ M io vs out H H' → ExRep ⟨P, w, K⟩ M H' e cls d → E cls d H'
    | .no => False
/-- the slots at the entry -/
def initG (io : Option Nat) (n : Nat) (ms : List MV) : Sg := (ms.mapIdx fun i m => some ⟨if io = some i then .io else .val, m⟩) ++ List.replicate (n - ms.length) none
def outG (io : Option Nat) (γ : Sg) : Option (Option MV) := match io with
  | none => some none
  | some i => match γ[i]? with
    | some (some ⟨.io, m⟩) => some (some m)
    | _ => none
def finM (io : Option Nat) : RO → RF
  | .nx γ => match outG io γ with
    | some o => .rt ⟨.val, .non⟩ o
    | none => .no
  | .rt c γ => match outG io γ with
    | some o => .rt c o
    | none => .no
  | .ex e γ => match outG io γ with
    | some o => .ex e o
    | none => .no
  | _ => .no
/-- a def: its slots, its body -/
def runM (io : Option Nat) (n : Nat) (body : FS) (ms : List MV) : RF := finM io (body (initG io n ms))
section
variable {G : GG} {M : Addr → Prop} {H H' : Hp} {io : Option Nat} {ms : List MV} {vs : List V} {n : Nat} {N ps : List Str}
theorem initG_at {i : Nat} {m : MV} (h : ms[i]? = some m) : (initG io n ms)[i]? = some (some ⟨if io = some i then .io else .val, m⟩) := by
  have hl : i < ms.length := (List.getElem?_eq_some_iff.mp h).1
  unfold initG
  rw [List.getElem?_append_left (by simpa using hl), List.getElem?_mapIdx, h]
  rfl
theorem initG_out {i : Nat} (h : ms.length ≤ i) (c : Cell) : (initG io n ms)[i]? ≠ some (some c) := by
  unfold initG
  rw [List.getElem?_append_right (by simpa using h), List.getElem?_replicate]
  split <;> simp
/-- the entry of a def -/
def entE (G : GG) (H : Hp) (M : Addr → Prop) (io : Option Nat) (vs : List V) : Ent := ⟨H, M, fun b o => H b = some o ∧ ¬ G.isT b ∧ ∀ i, io = some i → vs[i]? ≠ some (.ref b), fun i => if io = some i then (match vs[i]? with
  | some (.ref a) => some a
  | _ => none) else none, fun _ => none, fun _ _ h => (by cases h), fun a => G.isT a ∧ M a, fun a h => h.2⟩
theorem Sim.entry (tr : Trk M H) (tb : (∀ p ∈ G.T, M p.1) ∧ TabsOk G H) (ar : ArgsM G M H io ms vs) (hn : vs.length ≤ N.length) : Sim G (entE G H M io vs) (entE G H M io vs).io (initG io N.length ms) (start N vs) H := by
  have ioA : ∀ i a, (entE G H M io vs).io i = some a → io = some i ∧ vs[i]? = some (.ref a) := fun i a h => by
    have h : (if io = some i then (match vs[i]? with | some (.ref a) => some a | _ => none) else none) = some a := h
    split at h
    · rename_i hi
      split at h
      · rename_i e; cases h; exact ⟨hi, e⟩
      · cases h
    · cases h
  have Aio : ∀ i a, io = some i → vs[i]? = some (.ref a) → (entE G H M io vs).io i = some a := fun i a h e => by
    show (if io = some i then (match vs[i]? with | some (.ref a) => some a | _ => none) else none) = some a
    rw [if_pos h, e]
  have less : ∀ b, Mz (entE G H M io vs) (entE G H M io vs).io b → M b := fun b m => m.elim id fun ⟨i, e⟩ => by
    obtain ⟨h1, h2⟩ := ioA i b e
    obtain ⟨m, a, _, e3, ma, _⟩ := ar.io_ i h1
    rw [h2] at e3
    cases e3
    exact ma
  have stv : ∀ i x, vs[i]? = some x → (start N vs)[i]? = some (some x) := fun i x e => by
    have hl : i < vs.length := (List.getElem?_eq_some_iff.mp e).1
    unfold L2.start
    rw [List.getElem?_append_left (by simpa using hl), List.getElem?_map, e]
    rfl
  refine ⟨?_, fun i c hi => ?_, fun i a hi => ?_, fun i j a hi hj => ?_, fun a m => tr a m, fun b o h => h.1, fun b o h => ⟨o, h⟩, ⟨fun p hp => ⟨⟨_, hp⟩, tb.1 p hp⟩, fun p hp o h => h.2.1 ⟨_, hp⟩, tb.2⟩⟩
  · unfold initG L2.start
    simp [ar.len]
  · rcases Nat.lt_or_ge i ms.length with hl | hl
    · obtain ⟨m, hm⟩ : ∃ m, ms[i]? = some m := ⟨_, List.getElem?_eq_getElem hl⟩
      obtain ⟨x, hx⟩ : ∃ x, vs[i]? = some x := ⟨_, List.getElem?_eq_getElem (by rw [ar.len]; exact hl)⟩
      rw [initG_at hm] at hi
      cases hi
      refine ⟨x, stv i x hx, ?_⟩
      by_cases hio : io = some i
      · obtain ⟨m', a, e1, e2, ma, ow⟩ := ar.io_ i hio
        rw [hm] at e1
        cases e1
        rw [hx] at e2
        cases e2
        rw [if_pos hio]
        exact ⟨a, Aio i a hio hx, rfl, ow.keep .refl (fun b _ _ m => less b m) fun _ z => z⟩
      · rw [if_neg hio]
        refine ⟨?_, (ar.at_ i m x hm hx hio).less less⟩
        show (if io = some i then _ else none) = none
        rw [if_neg hio]
    · exact absurd hi (initG_out hl c)
  · obtain ⟨h1, h2⟩ := ioA i a hi
    obtain ⟨m, a', e1, e2, ma, ow⟩ := ar.io_ i h1
    rw [h2] at e2
    cases e2
    refine ⟨_, initG_at e1, fun o h => h.2.2 i h1 h2, ?_⟩
    rw [if_pos h1]
    exact ⟨hi, ma⟩
  · obtain ⟨h1, _⟩ := ioA i a hi
    obtain ⟨h2, _⟩ := ioA j a hj
    rw [h1] at h2
    exact Option.some.inj h2
theorem Sim.exit {A : AM} {γ : Sg} {σ : L2.St} {out : Option MV} (S : Sim G (entE G H M io vs) A γ σ H') (e : outG io γ = some out) : After G M io vs out H H' := by
  refine ⟨fun b o nt n h => S.fr b o ⟨h, nt, n⟩, fun i hi => ?_, S.new, S.tb.ok⟩
  subst hi
  unfold outG at e
  simp only at e
  split at e
  · rename_i m hm
    cases e
    obtain ⟨x, h1, a, h2, rfl, ow⟩ := S.cell i _ hm
    obtain ⟨c, h3, _, h4⟩ := S.adr i a h2
    rw [hm] at h3
    cases h3
    have h5 : (if (some i : Option Nat) = some i then (match vs[i]? with | some (.ref a) => some a | _ => none) else none) = some a := h4.1
    rw [if_pos rfl] at h5
    split at h5
    · rename_i a' e'
      cases h5
      exact ⟨a, m, e', rfl, ow.keep .refl (fun b _ _ m => .inl m) fun _ z => z⟩
    · cases h5
  · cases e
theorem Sim.exitW {A : AM} {γ : Sg} {σ : L2.St} {out : Option MV} {p : Addr} {o : HO} (S : Sim G ((entE G H M io vs).wait p o) A γ σ H') (e : outG io γ = some out) : After G (fun b => M b ∨ b = p) io vs out H H' := by
  have af := S.drop.exit e
  refine ⟨af.keep, fun i hi => ?_, af.on, af.tb⟩
  obtain ⟨a, m, e1, e2, _⟩ := af.out i hi
  refine ⟨a, m, e1, e2, ?_⟩
  subst hi
  unfold outG at e
  simp only at e
  split at e
  · rename_i m' hm
    cases e
    cases e2
    obtain ⟨x, h1, a', h2, rfl, ow⟩ := S.cell i _ hm
    obtain ⟨c, h3, _, h4⟩ := S.adr i a' h2
    rw [hm] at h3
    cases h3
    have h5 : (if (some i : Option Nat) = some i then (match vs[i]? with | some (.ref a) => some a | _ => none) else none) = some a' := h4.1
    rw [if_pos rfl, e1] at h5
    cases h5
    exact ow.keep .refl (fun b _ _ m => .inl m) fun _ z => z
  · cases e
theorem HeldS.ret {A : AM} {γ : Sg} {σ : L2.St} {c : Cell} {x : V} {out : Option MV} (h : HeldS G (entE G H M io vs) A γ σ H H' c x) (e : outG io γ = some out) : Done G M io vs H H' c x out := by
  obtain ⟨k, v⟩ := c
  cases k with
  | val => exact ⟨h.1.exit e, h.2.less fun b m => .inl m⟩
  | own =>
    obtain ⟨a, o, rfl, n, nm, ow, S⟩ := h
    exact ⟨a, rfl, n, S.exitW e, ow.keep .refl (fun b _ _ m => (mz_wait b).mpr (m.imp_left .inl)) fun _ z => z⟩
  | io => exact h.elim
  | lown => exact h.elim
  | lio => exact h.elim
theorem Done.keep {c : Cell} {x : V} {out : Option MV} (h : Done G M io vs H H' c x out) : ∀ b o, ¬ G.isT b → (∀ i, io = some i → vs[i]? ≠ some (.ref b)) → H b = some o → H' b = some o := by
  obtain ⟨k, v⟩ := c
  cases k with
  | val => exact h.1.keep
  | own => obtain ⟨a, _, _, af, _⟩ := h; exact af.keep
  | io => exact h.elim
  | lown => exact h.elim
  | lio => exact h.elim
theorem Done.sameT {c : Cell} {x : V} {out : Option MV} (h : Done G M none vs H H' c x out) : SameT G H H' := by
  obtain ⟨k, v⟩ := c
  cases k with
  | val => exact ⟨fun b o n => h.1.keep b o n (fun i hi => by cases hi), h.1.on, h.1.tb⟩
  | own => obtain ⟨a, _, _, af, _⟩ := h; exact ⟨fun b o n => af.keep b o n (fun i hi => by cases hi), af.on, af.tb⟩
  | io => exact h.elim
  | lown => exact h.elim
  | lio => exact h.elim
theorem After.sameT {out : Option MV} (h : After G M none vs out H H') : SameT G H H' := ⟨fun b o n => h.keep b o n (fun i hi => by cases hi), h.on, h.tb⟩
theorem Done.res {c : Cell} {x : V} {out : Option MV} (h : Done G M io vs H H' c x out) : Res G M H H' c x := by
  obtain ⟨k, v⟩ := c
  cases k with
  | val => exact h.2
  | own => obtain ⟨a, e, n, af, r⟩ := h; exact ⟨a, e, n, r⟩
  | io => exact h.elim
  | lown => exact h.elim
  | lio => exact h.elim
theorem ExRep.less {M' : Addr → Prop} {e : Ex} {cls : Value} {d : Option Addr} (m : ∀ b, M' b → M b) (h : ExRep G M H e cls d) : ExRep G M' H e cls d := by
  refine ⟨h.1, ?_⟩
  have q := h.2
  revert q
  cases e.fs with
  | nil => exact fun q => q
  | cons p ps =>
    rintro ⟨a, vs, q1, q2, q3, q4⟩
    exact ⟨a, vs, q1, q2, fun z => q3 (m a z), q4.keep .refl fun b _ _ z => m b z⟩
end
/-- a def of the module, by its name, as the small machine has it -/
def FnM (P : Program) (w : World) (K : PySem.W.Frag) (mg : Str → Option Value) (base : Heap) (k : Nat) (x : Str) (ps : List Str) (io : Option Nat) (F : List MV → RF) : Prop :=
  ∃ fd, FnG P w K mg base k (He.ga K x) fd ps (spM P w K ps.length io F) ∧ Binds K fd ps [] ∧ PySem.W.keepIn K (.ref (He.ga K x)) = true ∧ mg x = some (.ref (He.ga K x))
section
variable {P : Program} {w : World} {K : PySem.W.Frag} {mg : Str → Option Value} {base : Heap} {k : Nat} {x : Str} {st : Stmt} {N ps : List Str} {io : Option Nat} {body : FS}
theorem entry_ok {f : Addr} {qual : Str} {cdv : Value} {A : Around} {outer : List Env} {s : Shared} {H : Hp} {vs : List V} {Q : VK} {E : XK} {sts : List Stmt} {sc : Scope} (S : FnScope N ps sc)
    (hb : QSs (cxOf (CX P w) P w K mg base N qual sc f cdv A outer s H E) sts body) (h : spM P w K ps.length io (runM io N.length body) vs H Q E) :
    ∃ t, PSs (cxOf (CX P w) P w K mg base N qual sc f cdv A outer s H E) sts t ∧ t { nx := fun _ H' => Q .non H', rt := Q } (start N vs) H := by
  have hpl : ps.length ≤ N.length := by have := congrArg List.length S.pre; rw [List.length_take] at this; omega
  obtain ⟨hl, M, ms, tr, tb, ar, h⟩ := h
  refine ⟨_, hb (passes_of rfl) (fun cls d _ H => E cls d H) (takes_of rfl rfl rfl rfl), entE ⟨P, w, K⟩ H M io vs, _, _, Sim.entry tr tb ar (by omega), ?_⟩
  unfold runM at h
  cases e : body (initG io N.length ms) with
  | nx γ' =>
    rw [e] at h
    simp only [finM] at h
    cases e2 : outG io γ' with
    | none => rw [e2] at h; exact h.elim
    | some out =>
      rw [e2] at h
      exact fun σ' A' H' S' _ => h .non H' ⟨S'.exit e2, by simp only [Rep]⟩
  | rt c γ' =>
    rw [e] at h
    simp only [finM] at h
    cases e2 : outG io γ' with
    | none => rw [e2] at h; exact h.elim
    | some out =>
      rw [e2] at h
      exact fun x σ' A' H' hs => h x H' (hs.ret e2)
  | ex e' γ' =>
    rw [e] at h
    simp only [finM] at h
    cases e2 : outG io γ' with
    | none => rw [e2] at h; exact h.elim
    | some out =>
      rw [e2] at h
      exact fun σ' A' H' cls d S' _ xr => h cls d H' (S'.exit e2) (xr.less fun b m => .inl m)
  | bk γ' => rw [e] at h; exact h.elim
  | ct γ' => rw [e] at h; exact h.elim
  | no => rw [e] at h; exact h.elim
theorem DefIn.fnM (D : DefIn K mg x st) (S : FnScope N ps (defScope st))
    (hb : ∀ (kV doc pm : Value) (an : Option Addr) (cdv ct : Value) (us : List Value), us.length = ps.length → bindArgs (PySem.W.fnOf x x (defArgs st) (defBody st) (defScope st) .none kV doc pm an cdv ct) ⟨us, []⟩ = pure (ps.zip us))
    (hbody : ∀ (cdv : Value) (A : Around) (outer : List Env) (s : Shared) (H : Hp) (E : XK), Room k (cxOf (CX P w) P w K mg base N x (defScope st) (He.ga K x) cdv A outer s H E).A → (cxOf (CX P w) P w K mg base N x (defScope st) (He.ga K x) cdv A outer s H E).A.guards = some [] →
      QSs (cxOf (CX P w) P w K mg base N x (defScope st) (He.ga K x) cdv A outer s H E) (defBody st) body) : FnM P w K mg base (k + 1) x ps io (runM io N.length body) := by
  obtain ⟨fd, F⟩ := D.fd
  have Fb := F.bindsN hb
  obtain ⟨oc, od, dV, kV, doc, pm, an, cdv, ct, osl, rfl, lk, hcd, _, _⟩ := F.ex
  exact ⟨_, fnG_of lk hcd S (fun vs H Q E h => h.1) fun A outer s H vs Q E hr hgd h => entry_ok S (hbody cdv A outer s H E hr hgd) h, Fb, F.kp, D.gl⟩
end
/-! ### calls -/
def eCall (F : List MV → RF) (fa : FA) : FE := fun γ => match fa γ with
  | .ok ms γ1 => (match F ms with
    | .rt c _ => .ok c γ1
    | .ex e _ => .ex e γ1
    | .no => .no)
  | .ex e γ1 => .ex e γ1
  | .no => .no
section
variable {X : Cx} {k j n : Nat} {ps : List Str} {x : Str} {p pos : Pos} {e : Expr} {es : List Expr} {F : List MV → RF} {fa : FA} {W : WX}
theorem xpass (tk : Takes X W) (σ : L2.St) (pins : List (Addr × Obj)) (H : Hp) (s : Shared) (e : Value) (s' : Shared) (I : L2.Inv X pins σ H s) (c : CX X.prog X.w X.stack H s (fun cls d H => W cls d σ H) e s') : X.xe e s' :=
  tk e s' (XE.of_call I (fun _ _ _ h => h) c)
/-- behind the arguments: the call -/
theorem call_end {Z : Ent} {A A1 : AM} {γ1 : Sg} {σ : L2.St} {H H1 : Hp} {Q : VK} {ms : List MV} {xs : List V} (S1 : Sim (GX X) Z A1 γ1 σ H1) (le : Le A1 A) (k : Keep (Mz Z A) H H1) (rs : Reps (GX X) (Mz Z A1) H1 ms xs) (hn : ms.length = n)
    (h : EndE (GX X) Z W A σ H Q (match F ms with
      | .rt c _ => .ok c γ1
      | .ex e _ => .ex e γ1
      | .no => .no)) : spM X.prog X.w X.K n none F (xs ++ []) H1 Q fun cls d H => W cls d σ H := by
  rw [List.append_nil]
  refine ⟨by rw [rs.len]; exact hn, Mz Z A1, ms, S1.trk, ⟨fun p hp => .inl (Z.TmM _ (S1.tb.tm p hp)), S1.tb.ok⟩, ⟨rs.len, fun i m x hm hx _ => ?_, fun i hi => by cases hi⟩, ?_⟩
  · obtain ⟨y, hy, r⟩ := rs.get hm
    rw [hx] at hy
    cases hy
    exact r
  · cases E : F ms with
    | no => rw [E] at h; exact h
    | rt c out =>
      rw [E] at h
      intro x H' dn
      have e := dn.sameT
      exact h x A1 H' ((Res.heldT S1 e dn.res).old fun a n => k.isnone n) le (k.trans (S1.keepT e) fun b _ _ m => le.mz b m)
    | ex e out =>
      rw [E] at h
      intro cls d H' af r
      have e := af.sameT
      exact h A1 H' cls d (S1.sameT e) le (k.trans (S1.keepT e) fun b _ _ m => le.mz b m) r
theorem re_call (D : FnM X.prog X.w X.K X.mg X.base k x ps none F) (hr : Room j X.A) (hgd : X.A.guards = some []) (hg : Gl X x) (ha : RA X (e :: es) fa) (hl : Lim ps.length fa) (hk : k ≤ j := by decide) (hdb : (x == ("__debug__" : Str)) = false := by decide)
    (he : starEach (e :: es) X.env = (false, eval e X.env) :: starEach es X.env := by rfl) (hpl : (backTo pos (starEach es X.env)).any (·.1) = false := by rfl) : RE X (.Call (.Name x p) (e :: es) [] pos) (eCall F fa) := fun W tk => by
  obtain ⟨fd, G, b, kp, m⟩ := D
  refine PE_imp (pe_callG (E := fun σ cls d H => W cls d σ H) G (hr.mono hk) hgd hg m kp b .nil (xpass tk) (ha W tk) hdb he hpl) fun σ H Q ⟨Z, A, γ, S, h⟩ => ⟨Z, A, γ, S, ?_⟩
  unfold eCall at h
  cases E : fa γ with
  | no => rw [E] at h; exact h
  | ex e γ1 => rw [E] at h; exact h
  | ok ms γ1 =>
    rw [E] at h
    exact fun xs A1 H1 S1 le k rs => call_end S1 le k rs (hl _ _ _ E) h
theorem re_call0 (D : FnM X.prog X.w X.K X.mg X.base k x ps none F) (hr : Room j X.A) (hgd : X.A.guards = some []) (hg : Gl X x) (hl : ps.length = 0) (hk : k ≤ j := by decide) (hdb : (x == ("__debug__" : Str)) = false := by decide) : RE X (.Call (.Name x p) [] [] pos) (eCall F aNil) := fun W tk => by
  obtain ⟨fd, G, b, kp, m⟩ := D
  refine PE_imp (pe_callG0 (E := fun σ cls d H => W cls d σ H) G (hr.mono hk) hgd hg m kp b .nil (xpass tk) hdb) fun σ H Q ⟨Z, A, γ, S, h⟩ => ?_
  have E : aNil γ = .ok [] γ := rfl
  unfold eCall at h
  rw [E] at h
  exact call_end (xs := []) S .refl .refl Reps.nil hl.symm h
end
/-! calls with a list that may be changed: slot j, at the hole -/
abbrev FH := Sg → R (List (Option MV))
def hNil : FH := fun γ => .ok [] γ
def hCons (f : FE) (r : FH) : FH := fun γ => match f γ with
  | .ok c γ1 => (match r γ1 with
    | .ok ms γ2 => .ok (some c.v :: ms) γ2
    | .ex e γ2 => .ex e γ2
    | .no => .no)
  | .ex e γ1 => .ex e γ1
  | .no => .no
def hHole (j : Nat) (r : FH) : FH := fun γ => if hasC γ j then (match r γ with
  | .ok ms γ2 => .ok (none :: ms) γ2
  | .ex e γ2 => .ex e γ2
  | .no => .no) else .no
/-- the values; x at the hole -/
def HRs (G : GG) (M : Addr → Prop) (H : Hp) (x : V) : List (Option MV) → List V → Prop
  | [], vs => vs = []
  | some m :: ms, vs => ∃ v r, vs = v :: r ∧ Rep G M H m v ∧ HRs G M H x ms r
  | none :: ms, vs => ∃ r, vs = x :: r ∧ HRs G M H x ms r
def EndH (G : GG) (Z : Ent) (W : WX) (A : AM) (σ : L2.St) (H : Hp) (j : Nat) (Q : List V → Hp → Prop) : R (List (Option MV)) → Prop
  | .ok ms γ' => ∀ xs A' H', Sim G Z A' γ' σ H' → Le A' A → Keep (Mz Z A) H H' → (∀ x, σ[j]? = some (some x) → HRs G (Mz Z A') H' x ms xs) → Q xs H'
  | .ex e γ' => EndX G Z W A σ H e γ'
  | .no => False
def tMH (G : GG) (f : FH) (j : Nat) (W : WX) : TA := fun σ H Q => ∃ Z A γ, Sim G Z A γ σ H ∧ EndH G Z W A σ H j Q (f γ)
def RH (X : Cx) (es : List Expr) (f : FH) (j : Nat) : Prop := ∀ W : WX, Takes X W → PA X es (tMH (GX X) f j W)
/-- so many, the hole there -/
def HLim (n i : Nat) (f : FH) : Prop := ∀ γ ms γ', f γ = .ok ms γ' → ms.length = n ∧ (∀ l : Nat, ms[l]? = some none ↔ l = i)
def NoHole (n : Nat) (f : FH) : Prop := ∀ γ ms γ', f γ = .ok ms γ' → ms.length = n ∧ ∀ l : Nat, ms[l]? ≠ some none
theorem nohole_nil : NoHole 0 hNil := fun γ ms γ' h => by unfold hNil at h; cases h; exact ⟨rfl, fun l => by simp⟩
theorem nohole_cons {n : Nat} {f : FE} {r : FH} (h : NoHole n r) : NoHole (n + 1) (hCons f r) := fun γ ms γ' e => by
  unfold hCons at e
  split at e
  · split at e
    · rename_i E
      cases e
      obtain ⟨h1, h2⟩ := h _ _ _ E
      exact ⟨by rw [List.length_cons, h1], fun l => by cases l with | zero => simp | succ l => simpa using h2 l⟩
    · cases e
    · cases e
  · cases e
  · cases e
theorem hlim_hole {n j : Nat} {r : FH} (h : NoHole n r) : HLim (n + 1) 0 (hHole j r) := fun γ ms γ' e => by
  unfold hHole at e
  split at e
  · split at e
    · rename_i E
      cases e
      obtain ⟨h1, h2⟩ := h _ _ _ E
      exact ⟨by rw [List.length_cons, h1], fun l => by cases l with | zero => simp | succ l => simpa using h2 l⟩
    · cases e
    · cases e
  · cases e
theorem hlim_cons {n i : Nat} {f : FE} {r : FH} (h : HLim n i r) : HLim (n + 1) (i + 1) (hCons f r) := fun γ ms γ' e => by
  unfold hCons at e
  split at e
  · split at e
    · rename_i E
      cases e
      obtain ⟨h1, h2⟩ := h _ _ _ E
      exact ⟨by rw [List.length_cons, h1], fun l => by cases l with | zero => simp | succ l => simpa using h2 l⟩
    · cases e
    · cases e
  · cases e
  · cases e
def eCallIo (F : List MV → RF) (j : Nat) (fa : FH) : FE := fun γ => match fa γ with
  | .ok ms γ1 => (match γ1[j]? with
    | some (some ⟨kd, v⟩) => if kd.mine then (match F (ms.map fun o => o.getD v) with
      | .rt c (some m) => .ok c (γ1.set j (some ⟨kd, m⟩))
      | .ex e (some m) => .ex e (γ1.set j (some ⟨kd, m⟩))
      | _ => .no) else .no
    | _ => .no)
  | .ex e γ1 => .ex e γ1
  | .no => .no
theorem HRs.keep {G : GG} {M M' : Addr → Prop} {H H' : Hp} {x : V} (k : Keep M H H') (m : ∀ b o, H b = some o → M' b → M b) : ∀ {ms : List (Option MV)} {vs : List V}, HRs G M H x ms vs → HRs G M' H' x ms vs
  | [], _, h => h
  | some v :: ms, _, h => let ⟨y, r, e, h1, h2⟩ := h; ⟨y, r, e, h1.keep k m, h2.keep k m⟩
  | none :: ms, _, h => let ⟨r, e, h2⟩ := h; ⟨r, e, h2.keep k m⟩
theorem HRs.len {G : GG} {M : Addr → Prop} {H : Hp} {x : V} : ∀ {ms : List (Option MV)} {vs : List V}, HRs G M H x ms vs → vs.length = ms.length
  | [], vs, h => by have h : vs = [] := h; rw [h]; rfl
  | some m :: ms, vs, h => by obtain ⟨v, r, rfl, _, h2⟩ := h; simp [h2.len]
  | none :: ms, vs, h => by obtain ⟨r, rfl, h2⟩ := h; simp [h2.len]
theorem HRs.at_ {G : GG} {M : Addr → Prop} {H : Hp} {x : V} : ∀ {ms : List (Option MV)} {vs : List V} {i : Nat}, HRs G M H x ms vs → (∀ m, ms[i]? = some (some m) → ∃ v, vs[i]? = some v ∧ Rep G M H m v) ∧ (ms[i]? = some none → vs[i]? = some x)
  | [], vs, i, h => ⟨fun m e => by simp at e, fun e => by simp at e⟩
  | some m :: ms, vs, 0, h => by
    obtain ⟨v, r, rfl, h1, h2⟩ := h
    exact ⟨fun m' e => by simp at e; subst e; exact ⟨v, rfl, h1⟩, fun e => by simp at e⟩
  | some m :: ms, vs, i + 1, h => by
    obtain ⟨v, r, rfl, h1, h2⟩ := h
    simpa using h2.at_ (i := i)
  | none :: ms, vs, 0, h => by
    obtain ⟨r, rfl, h2⟩ := h
    exact ⟨fun m' e => by simp at e, fun e => rfl⟩
  | none :: ms, vs, i + 1, h => by
    obtain ⟨r, rfl, h2⟩ := h
    simpa using h2.at_ (i := i)
section
variable {X : Cx} {k j n i : Nat} {ps : List Str} {x : Str} {p pos : Pos} {e : Expr} {es : List Expr} {F : List MV → RF} {f : FE} {fa : FH} {W : WX}
theorem rh_nil : RH X [] hNil j := fun W tk => PA_imp pa_nil fun σ H Q ⟨Z, A, γ, S, h⟩ => h [] A H S .refl .refl fun _ _ => rfl
theorem rh_cons (ha : RE X e f) (hr : RH X es fa j) (hs : starEach (e :: es) X.env = (false, eval e X.env) :: starEach es X.env := by rfl) : RH X (e :: es) (hCons f fa) j := fun W tk =>
  PA_imp (pa_cons (ha W tk) (hr W tk) hs) fun σ H Q ⟨Z, A, γ, S, h⟩ => by
    refine ⟨Z, A, γ, S, ?_⟩
    unfold hCons at h
    cases E1 : f γ with
    | no => rw [E1] at h; exact h
    | ex e γ1 => rw [E1] at h; exact h
    | ok c γ1 =>
      rw [E1] at h
      simp only at h
      intro x A1 H1 hs le k
      refine ⟨Z, A1, γ1, hs.sim, ?_⟩
      cases E2 : fa γ1 with
      | no => rw [E2] at h; exact h
      | ex e γ2 =>
        rw [E2] at h
        exact fun A2 H2 cls d S le2 kk => h A2 H2 cls d S (le2.trans le) (k.trans kk fun b _ _ m => le.mz b m)
      | ok ms γ2 =>
        rw [E2] at h
        exact fun xs A2 H2 S2 le2 kk r2 => h (x :: xs) A2 H2 S2 (le2.trans le) (k.trans kk fun b _ _ m => le.mz b m) fun y hy => ⟨x, xs, rfl, hs.rep.keep kk fun b _ _ m => le2.mz b m, r2 y hy⟩
theorem rh_hole (ha : PE X e (tVar j)) (hr : RH X es fa j) (hs : starEach (e :: es) X.env = (false, eval e X.env) :: starEach es X.env := by rfl) : RH X (e :: es) (hHole j fa) j := fun W tk =>
  PA_imp (pa_cons ha (hr W tk) hs) fun σ H Q ⟨Z, A, γ, S, h⟩ => by
    unfold hHole at h
    split at h
    rotate_left
    · exact h.elim
    rename_i hh
    obtain ⟨y, hy⟩ := S.slot hh
    refine ⟨y, hy, Z, A, γ, S, ?_⟩
    cases E2 : fa γ with
    | no => rw [E2] at h; exact h
    | ex e γ2 => rw [E2] at h; exact h
    | ok ms γ2 =>
      rw [E2] at h
      exact fun xs A2 H2 S2 le2 kk r2 => h (y :: xs) A2 H2 S2 le2 kk fun z hz => by
        rw [hy] at hz
        cases hz
        exact ⟨xs, rfl, r2 y hy⟩
theorem re_callIo (D : FnM X.prog X.w X.K X.mg X.base k x ps (some i) F) (hr : Room n X.A) (hgd : X.A.guards = some []) (hg : Gl X x) (ha : RH X (e :: es) fa j) (hl : HLim ps.length i fa) (hk : k ≤ n := by decide) (hdb : (x == ("__debug__" : Str)) = false := by decide)
    (he : starEach (e :: es) X.env = (false, eval e X.env) :: starEach es X.env := by rfl) (hpl : (backTo pos (starEach es X.env)).any (·.1) = false := by rfl) : RE X (.Call (.Name x p) (e :: es) [] pos) (eCallIo F j fa) := fun W tk => by
  obtain ⟨fd, G, b, kp, m⟩ := D
  refine PE_imp (pe_callG (E := fun σ cls d H => W cls d σ H) G (hr.mono hk) hgd hg m kp b .nil (xpass tk) (ha W tk) hdb he hpl) fun σ H Q ⟨Z, A, γ, S, h⟩ => ⟨Z, A, γ, S, ?_⟩
  unfold eCallIo at h
  cases E : fa γ with
  | no => rw [E] at h; exact h
  | ex e γ1 => rw [E] at h; exact h
  | ok ms γ1 =>
    rw [E] at h
    simp only at h
    intro xs A1 H1 S1 le k rs
    obtain ⟨hlen, hhole⟩ := hl _ _ _ E
    cases E4 : γ1[j]? with
    | none => rw [E4] at h; exact h.elim
    | some oc =>
      cases oc with
      | none => rw [E4] at h; exact h.elim
      | some cj =>
        obtain ⟨kd, v⟩ := cj
        rw [E4] at h
        simp only at h
        split at h
        rotate_left
        · exact h.elim
        rename_i hkm
        obtain ⟨a, hp1, hp2, hp3, hp4⟩ := S1.mine E4 hkm
        have rs := rs _ hp1
        have hxi : xs[i]? = some (.ref a) := (rs.at_ (i := i)).2 ((hhole i).mpr rfl)
        rw [List.append_nil]
        refine ⟨by rw [rs.len]; exact hlen, Mz Z A1, ms.map (fun o => o.getD v), S1.trk, ⟨fun p hp => .inl (Z.TmM _ (S1.tb.tm p hp)), S1.tb.ok⟩, ⟨by rw [rs.len, List.length_map], fun l m y hm hy hne => ?_, fun l hl' => ?_⟩, ?_⟩
        · rw [List.getElem?_map, Option.map_eq_some_iff] at hm
          obtain ⟨o, ho, e⟩ := hm
          cases o with
          | none => exact absurd (congrArg some ((hhole l).mp ho).symm) hne
          | some m' =>
            have e : m' = m := e
            subst e
            obtain ⟨z, hz, r⟩ := (rs.at_ (i := l)).1 _ ho
            rw [hy] at hz
            cases hz
            exact r
        · cases hl'
          refine ⟨v, a, ?_, hxi, .inr ⟨j, hp2⟩, hp3⟩
          rw [List.getElem?_map, (hhole i).mpr rfl]
          rfl
        · have out_of : ∀ {M' : Addr → Prop} {H' out}, After (GX X) M' (some i) xs out H1 H' → ∃ m, out = some m ∧ Own (GX X) M' H' m a ∧ (∀ b o, b ≠ a → ¬ (GX X).isT b → H1 b = some o → H' b = some o) ∧ TabsOk (GX X) H' := fun {M' H' out} af => by
            obtain ⟨a', m, e1, e2, ow⟩ := af.out i rfl
            rw [hxi] at e1
            cases e1
            exact ⟨m, e2, ow, fun b o nb nt hb => af.keep b o nt (fun l hl' => by
              cases hl'
              rw [hxi]
              exact fun z => nb (by cases z; rfl)) hb, af.tb⟩
          cases E5 : F (ms.map fun o => o.getD v) with
          | no => rw [E5] at h; exact h.elim
          | rt c out =>
            rw [E5] at h
            intro y H' dn
            obtain ⟨kc, vc⟩ := c
            cases kc with
            | val =>
              obtain ⟨af, r⟩ := dn
              obtain ⟨m, rfl, ow, hout, htb⟩ := out_of af
              obtain ⟨S3, k3⟩ := S1.mutT E4 hkm hp2 hout htb ow
              exact h y A1 H' ⟨S3, r⟩ le (k.trans k3 fun b _ _ m => le.mz b m)
            | own =>
              obtain ⟨d, rfl, nd, af, r⟩ := dn
              obtain ⟨m, rfl, ow, hout, htb⟩ := out_of af
              obtain ⟨S3, k3⟩ := S1.mutT E4 hkm hp2 hout htb (ow.keep .refl (fun _ _ _ m => .inl m) fun _ z => z)
              obtain ⟨od, hod⟩ := r.on
              have Sw := S1.wait (same_new nd) nd (o := od) upd_same
              obtain ⟨S4, k4⟩ := Sw.mutT (H' := H') E4 hkm hp2 (fun b o nb nt hb => by
                by_cases hbd : b = d
                · subst hbd
                  rw [upd_same] at hb
                  cases hb
                  exact hod
                · rw [upd_ne hbd] at hb
                  exact hout b o nb nt hb) htb (ow.keep .refl (fun b _ _ m => (mz_wait b).mp m) fun _ z => z)
              refine h _ A1 H' ⟨d, od, rfl, k.isnone nd, fun m => ?_, r.keep .refl (fun b _ _ m => (mz_wait b).mp m) fun _ z => z, S4⟩ le (k.trans k3 fun b _ _ m => le.mz b m)
              obtain ⟨u, hu⟩ := S1.mf d m
              rw [nd] at hu
              cases hu
            | io => exact dn.elim
            | lown => exact dn.elim
            | lio => exact dn.elim
          | ex e out =>
            rw [E5] at h
            intro cls d H' af r
            obtain ⟨m, rfl, ow, hout, htb⟩ := out_of af
            obtain ⟨S3, k3⟩ := S1.mutT E4 hkm hp2 hout htb ow
            exact h A1 H' cls d S3 le (k.trans k3 fun b _ _ m => le.mz b m) r
end
end Mi

set_option Elab.async false
set_option linter.all false
set_option maxRecDepth 100000
set_option maxHeartbeats 4000000
/-! the operators, the built-ins -/
namespace Mi
open PySem PySem.Spec PyProof.Rows L2 My

abbrev vI (i : Int) : Cell := ⟨.val, .int i⟩
abbrev vB (b : Bool) : Cell := ⟨.val, .bl b⟩
abbrev vV (m : MV) : Cell := ⟨.val, m⟩
section
variable {G : GG} {M : Addr → Prop} {H : Hp} {x : V}
theorem rb_int {i : Int} (h : RepB G M H (.int i) x) : x = .int i := by
  rcases h with h | ⟨_, _, h⟩ <;> simp only [Rep, Own] at h
  exact h
theorem rb_bl {i : Bool} (h : RepB G M H (.bl i) x) : x = .bl i := by
  rcases h with h | ⟨_, _, h⟩ <;> simp only [Rep, Own] at h
  exact h
theorem rb_non (h : RepB G M H .non x) : x = .non := by
  rcases h with h | ⟨_, _, h⟩ <;> simp only [Rep, Own] at h
  exact h
theorem rb_str {i : Str} (h : RepB G M H (.str i) x) : x = .str i := by
  rcases h with h | ⟨_, _, h⟩ <;> simp only [Rep, Own] at h
  exact h
theorem rb_tup {ms : List MV} (h : RepB G M H (.tup ms) x) : ∃ a vs, x = .ref a ∧ SqT G.K H a vs ∧ Reps G M H ms vs ∧ Rep G M H (.tup ms) (.ref a) := by
  rcases h with h | ⟨_, _, h⟩
  · have h0 := h
    simp only [Rep] at h
    obtain ⟨a, vs, rfl, h1, h2⟩ := h
    exact ⟨a, vs, rfl, h1.sq, h2, h0⟩
  · simp only [Own] at h
theorem rb_lst {ms : List MV} (h : RepB G M H (.lst ms) x) : ∃ a vs, x = .ref a ∧ SqL G.K H a vs ∧ Reps G M H ms vs := by
  rcases h with h | ⟨a, rfl, h⟩ <;> simp only [Rep, Own] at h
  · obtain ⟨a, vs, rfl, h1, _, h2⟩ := h
    exact ⟨a, vs, rfl, h1.sq, h2⟩
  · obtain ⟨vs, h1, h2⟩ := h
    exact ⟨a, vs, rfl, .of h1, h2⟩
theorem res_val {H' : Hp} {m : MV} {z : V} (h : Rep G M H' m z) : Res G M H H' ⟨.val, m⟩ z := h
theorem res_int {H' : Hp} {i : Int} : Res G M H H' (vI i) (.int i) := by show Rep _ _ _ _ _; simp only [Rep]
theorem res_bl {H' : Hp} {i : Bool} : Res G M H H' (vB i) (.bl i) := by show Rep _ _ _ _ _; simp only [Rep]
theorem res_str {H' : Hp} {i : Str} : Res G M H H' ⟨.val, .str i⟩ (.str i) := by show Rep _ _ _ _ _; simp only [Rep]
theorem res_non {H' : Hp} : Res G M H H' ⟨.val, .non⟩ .non := by show Rep _ _ _ _ _; simp only [Rep]
/-- a new tuple -/
theorem res_tup {H' : Hp} {p : Addr} {ms : List MV} {vs : List V} (tr : Trk M H) (e : Same H H') (n : H p = none) (hp : H' p = some (.tup vs)) (r : Reps G M H ms vs) : Res G M H H' ⟨.val, .tup ms⟩ (.ref p) := by
  show Rep _ _ _ _ _
  simp only [Rep]
  exact ⟨p, vs, rfl, .inl ⟨.inl hp, tr.new n⟩, r.same e⟩
theorem res_lst {p : Addr} {ms : List MV} {vs : List V} (n : H p = none) (r : Reps G M H ms vs) : Res G M H (upd H p (.lst vs)) ⟨.own, .lst ms⟩ (.ref p) := by
  refine ⟨p, rfl, n, ?_⟩
  simp only [Own]
  refine ⟨vs, upd_same, r.keep (.of_same (same_new n)) fun b o hb m => ?_⟩
  rcases m with m | rfl
  · exact m
  · rw [n] at hb; cases hb
end
section
variable {X : Cx}
theorem OpR.or {f : Value → Value → Sem Value} {r r' : R2} (h : OpR X f r) (h' : OpR X f r') : OpR X f (fun x y H Q => r x y H Q ∨ r' x y H Q) := by
  intro pins s σ H x y v u Q I rx ry q
  rcases q with q | q
  · exact h pins s σ H x y v u Q I rx ry q
  · exact h' pins s σ H x y v u Q I rx ry q
theorem CallR.or {f : Value} {r r' : List V → Hp → VK → Prop} (h : CallR X f r) (h' : CallR X f r') : CallR X f (fun x H Q => r x H Q ∨ r' x H Q) := by
  intro pins s σ H xs us Q I r q
  rcases q with q | q
  · exact h pins s σ H xs us Q I r q
  · exact h' pins s σ H xs us Q I r q
theorem Op2.or {f : Value → Value → Sem Value} {g g' : MV → MV → Option Cell} (h : Op2 X f g) (h' : Op2 X f g') : Op2 X f (fun v w => (g v w).or (g' v w)) := by
  obtain ⟨r, h1, h2⟩ := h
  obtain ⟨r', h3, h4⟩ := h'
  refine ⟨_, OpR.or h1 h3, fun M v w c x y H Q tr e rv rw q => ?_⟩
  replace e : (g v w).or (g' v w) = some c := e
  cases E : g v w with
  | some c' =>
    rw [E] at e
    cases e
    exact .inl (h2 M v w c x y H Q tr E rv rw q)
  | none =>
    rw [E] at e
    exact .inr (h4 M v w c x y H Q tr e rv rw q)
/-! ints -/
/-- of two ints -/
def iiM (C : Int → Int → Prop) [∀ i j, Decidable (C i j)] (g : Int → Int → MV) : MV → MV → Option Cell
  | .int a, .int b => if C a b then some (vV (g a b)) else none
  | _, _ => none
theorem op2_ii {f : Value → Value → Sem Value} {C : Int → Int → Prop} [∀ i j, Decidable (C i j)] {g : Int → Int → V} {g' : Int → Int → MV} (h : OpR X f (rI C g)) (hg : ∀ i j M H, Rep (GX X) M H (g' i j) (g i j)) : Op2 X f (iiM C g') := ⟨_, h, fun M v w c x y H Q tr e rv rw q => by
  unfold iiM at e
  split at e
  · split at e
    · rename_i hc
      cases e
      exact ⟨_, _, rb_int rv, rb_int rw, hc, q _ H (.refl _) (hg _ _ _ _)⟩
    · cases e
  · cases e⟩
theorem rI_0 {f : Value → Value → Sem Value} {g : Int → Int → V} (h : OpR X f (rI0 g)) : OpR X f (rI (fun _ _ => True) g) := by
  intro pins s σ H x y v u Q I rx ry ⟨i, j, e1, e2, _, q⟩
  exact h pins s σ H x y v u Q I rx ry ⟨i, j, e1, e2, q⟩
theorem rp_int {i : Int} {M : Addr → Prop} {H : Hp} : Rep (GX X) M H (.int i) (.int i) := by simp only [Rep]
theorem rp_bl {i : Bool} {M : Addr → Prop} {H : Hp} : Rep (GX X) M H (.bl i) (.bl i) := by simp only [Rep]
abbrev cT : Int → Int → Prop := fun _ _ => True
abbrev addI := iiM cT fun i j => .int (i + j)
abbrev subI := iiM cT fun i j => .int (i - j)
instance : ∀ i j, Decidable (CMulW i j) := fun i j => inferInstanceAs (Decidable (_ < _))
instance : ∀ i j, Decidable (CDivW i j) := fun i j => inferInstanceAs (Decidable (_ ∧ _))
abbrev mulI := iiM CMulW fun i j => .int (i * j)
abbrev divI := iiM CDivW fun i j => .int (i / j)
abbrev modI := iiM (fun _ j => 0 < j) fun i j => .int (i % j)
abbrev powI := iiM CPowW fun i j => .int (i ^ j.toNat)
abbrev ltI := iiM cT fun i j => .bl (decide (i < j))
abbrev leI := iiM cT fun i j => .bl (decide (i ≤ j))
abbrev gtI := iiM cT fun i j => .bl (decide (j < i))
abbrev geI := iiM cT fun i j => .bl (decide (j ≤ i))
theorem op2_addI : Op2 X (binaryOp .Add) addI := op2_ii (rI_0 op_add) fun _ _ _ _ => rp_int
theorem op2_subI : Op2 X (binaryOp .Sub) subI := op2_ii (rI_0 op_sub) fun _ _ _ _ => rp_int
theorem op2_mulI : Op2 X (binaryOp .Mult) mulI := op2_ii op_mulW fun _ _ _ _ => rp_int
theorem op2_divI : Op2 X (binaryOp .FloorDiv) divI := op2_ii op_fdivW fun _ _ _ _ => rp_int
theorem op2_modI : Op2 X (binaryOp .Mod) modI := op2_ii op_mod fun _ _ _ _ => rp_int
theorem op2_powI : Op2 X (binaryOp .Pow) powI := op2_ii op_powW fun _ _ _ _ => rp_int
theorem op2_ltI : Op2 X (compareOp .Lt) ltI := op2_ii (rI_0 op_lt) fun _ _ _ _ => rp_bl
theorem op2_leI : Op2 X (compareOp .LtE) leI := op2_ii (rI_0 op_le) fun _ _ _ _ => rp_bl
theorem op2_gtI : Op2 X (compareOp .Gt) gtI := op2_ii (rI_0 op_gt) fun _ _ _ _ => rp_bl
theorem op2_geI : Op2 X (compareOp .GtE) geI := op2_ii (rI_0 op_ge) fun _ _ _ _ => rp_bl
def negI : MV → Option Cell
  | .int a => some (vI (-a))
  | _ => none
theorem op1_negI : Op1 X (unaryOp .USub) negI := ⟨_, un_neg, fun M v c x H Q tr e rv q => by
  unfold negI at e
  split at e
  · cases e
    exact ⟨_, rb_int rv, q _ H (.refl _) res_int⟩
  · cases e⟩
/-! texts, tuples, lists -/
def addS : MV → MV → Option Cell
  | .str a, .str b => if a.length + b.length ≤ sizeLine then some ⟨.val, .str (a ++ b)⟩ else none
  | _, _ => none
theorem op2_addS : Op2 X (binaryOp .Add) addS := ⟨_, op_add_str, fun M v w c x y H Q tr e rv rw q => by
  unfold addS at e
  split at e
  · split at e
    · rename_i hl
      cases e
      exact ⟨_, _, rb_str rv, rb_str rw, hl, q _ H (.refl _) res_str⟩
    · cases e
  · cases e⟩
def addT : MV → MV → Option Cell
  | .tup a, .tup b => if a.length + b.length ≤ sizeLine then some (vV (.tup (a ++ b))) else none
  | _, _ => none
theorem Reps.nil_iff {G : GG} {M : Addr → Prop} {H : Hp} {ms : List MV} {vs : List V} (h : Reps G M H ms vs) : vs = [] ↔ ms = [] := by
  rw [← List.length_eq_zero_iff, ← List.length_eq_zero_iff, h.len]
theorem op2_addT : Op2 X (binaryOp .Add) addT := ⟨_, op_catA, fun M v w c x y H Q tr e rv rw q => by
  unfold addT at e
  split at e
  · split at e
    · rename_i hl
      cases e
      obtain ⟨a, vs, rfl, h1, h2, h3⟩ := rb_tup rv
      obtain ⟨b, ws, rfl, h4, h5, h6⟩ := rb_tup rw
      refine ⟨a, b, vs, ws, rfl, rfl, h1, h4, by rw [h2.len, h5.len]; exact hl, fun z => ?_, fun _ z => ?_, fun _ _ p np => ?_⟩
      · rw [h2.nil_iff] at z
        subst z
        exact q _ H (.refl _) (res_val h6)
      · rw [h5.nil_iff] at z
        subst z
        rw [List.append_nil] at q
        exact q _ H (.refl _) (res_val h3)
      · exact q _ _ (same_new np) (res_tup tr (same_new np) np upd_same (Reps.app h2 h5))
    · cases e
  · cases e⟩
theorem Reps.repl {G : GG} {M : Addr → Prop} {H : Hp} {ms : List MV} {vs : List V} (h : Reps G M H ms vs) : ∀ n, Reps G M H (List.replicate n ms).flatten (List.replicate n vs).flatten
  | 0 => Reps.nil
  | n + 1 => by
    rw [List.replicate_succ, List.replicate_succ, List.flatten_cons, List.flatten_cons]
    exact Reps.app h (Reps.repl h n)
def repT : MV → MV → Option Cell
  | .tup a, .int k => if -1000000 ≤ k ∧ k ≤ 1000 ∧ a.length ≤ 1000 then some (vV (.tup (List.replicate k.toNat a).flatten)) else none
  | _, _ => none
theorem op2_repT : Op2 X (binaryOp .Mult) repT := ⟨_, op_repB, fun M v w c x y H Q tr e rv rw q => by
  unfold repT at e
  split at e
  · split at e
    · rename_i hl
      cases e
      obtain ⟨a, vs, rfl, h1, h2, h3⟩ := rb_tup rv
      refine ⟨a, _, vs, rfl, rb_int rw, h1, hl.1, hl.2.1, by rw [h2.len]; exact hl.2.2, fun z => ?_, fun p np => ?_⟩
      · refine q _ H (.refl _) (res_val ?_)
        rcases z with z | z
        · rw [h2.nil_iff] at z
          subst z
          simpa using h3
        · subst z
          simpa using h3
      · exact q _ _ (same_new np) (res_tup tr (same_new np) np upd_same (h2.repl _))
    · cases e
  · cases e⟩
end
end Mi

set_option Elab.async false
set_option linter.all false
set_option maxRecDepth 100000
set_option maxHeartbeats 4000000
/-! the built-ins -/
namespace Mi
open PySem PySem.Spec PyProof.Rows L2 My

def Cal1 (X : Cx) (f : Value) (g : MV → Option Cell) : Prop :=
  ∃ r : List V → Hp → VK → Prop, CallR X f r ∧ ∀ M v c x H Q, Trk M H → g v = some c → RepB (GX X) M H v x → (∀ z H', Same H H' → Res (GX X) M H H' c z → Q z H') → r [x] H Q
def Cal2 (X : Cx) (f : Value) (g : MV → MV → Option Cell) : Prop :=
  ∃ r : List V → Hp → VK → Prop, CallR X f r ∧ ∀ M v w c x y H Q, Trk M H → g v w = some c → RepB (GX X) M H v x → RepB (GX X) M H w y → (∀ z H', Same H H' → Res (GX X) M H H' c z → Q z H') → r [x, y] H Q
def Cal1T (X : Cx) (f : Value) (g : MV → Option Cell) : Prop :=
  ∃ r : List V → Hp → VK → Prop, CallR X f r ∧ ∀ M v c x H Q, TrG (GX X) M H → g v = some c → RepB (GX X) M H v x → (∀ z H', SameT (GX X) H H' → Res (GX X) M H H' c z → Q z H') → r [x] H Q
theorem Cal1.toT {X : Cx} {f : Value} {g : MV → Option Cell} (h : Cal1 X f g) : Cal1T X f g := by
  obtain ⟨r, h1, h2⟩ := h
  exact ⟨r, h1, fun M v c x H Q tr e rv q => h2 M v c x H Q tr.1 e rv fun z H' s => q z H' (.of tr.2.2 s)⟩
theorem Cal1T.or {X : Cx} {f : Value} {g g' : MV → Option Cell} (h : Cal1T X f g) (h' : Cal1T X f g') : Cal1T X f (fun v => (g v).or (g' v)) := by
  obtain ⟨r, h1, h2⟩ := h
  obtain ⟨r', h3, h4⟩ := h'
  refine ⟨_, Mi.CallR.or h1 h3, fun M v c x H Q tr e rv q => ?_⟩
  replace e : (g v).or (g' v) = some c := e
  cases E : g v with
  | some c' =>
    rw [E] at e
    cases e
    exact .inl (h2 M v c x H Q tr E rv q)
  | none =>
    rw [E] at e
    exact .inr (h4 M v c x H Q tr e rv q)
section
variable {X : Cx} {a b e : Expr} {g g' : MV → Option Cell} {g2 g2' : MV → MV → Option Cell} {o q : Opd} {pos p : Pos} {x : Str} {f : Value}
theorem re_cb1T {id : String} (P : Cal1T X (.builtin id) g) (hg : Gl X x) (hm : X.mg x = none) (ha : RQ X a o) (hv : bootBuiltins x = some (.builtin id) := by rfl) (hn : x ≠ "__name__" := by decide) (hdb : (x == ("__debug__" : Str)) = false := by decide)
    (hs : starEach [a] X.env = (false, eval a X.env) :: starEach [] X.env := by rfl) (hpl : (backTo pos (starEach [] X.env)).any (·.1) = false := by rfl) : RE X (.Call (.Name x p) [a] [] pos) (e1 g o) := fun W tk => by
  obtain ⟨r, hr, hm'⟩ := P
  exact PE_imp (pe_callB hr hg hm hv (pa_cons (ha W tk) pa_nil hs) hn hdb hs hpl) fun σ H Q h => oneT (r := fun x H Q => r [x] H Q) hm' h
theorem Cal1.or (h : Cal1 X f g) (h' : Cal1 X f g') : Cal1 X f (fun v => (g v).or (g' v)) := by
  obtain ⟨r, h1, h2⟩ := h
  obtain ⟨r', h3, h4⟩ := h'
  refine ⟨_, Mi.CallR.or h1 h3, fun M v c x H Q tr e rv q => ?_⟩
  replace e : (g v).or (g' v) = some c := e
  cases E : g v with
  | some c' =>
    rw [E] at e
    cases e
    exact .inl (h2 M v c x H Q tr E rv q)
  | none =>
    rw [E] at e
    exact .inr (h4 M v c x H Q tr e rv q)
theorem re_cb1 {id : String} (P : Cal1 X (.builtin id) g) (hg : Gl X x) (hm : X.mg x = none) (ha : RQ X a o) (hv : bootBuiltins x = some (.builtin id) := by rfl) (hn : x ≠ "__name__" := by decide) (hdb : (x == ("__debug__" : Str)) = false := by decide)
    (hs : starEach [a] X.env = (false, eval a X.env) :: starEach [] X.env := by rfl) (hpl : (backTo pos (starEach [] X.env)).any (·.1) = false := by rfl) : RE X (.Call (.Name x p) [a] [] pos) (e1 g o) := fun W tk => by
  obtain ⟨r, hr, hm'⟩ := P
  exact PE_imp (pe_callB hr hg hm hv (pa_cons (ha W tk) pa_nil hs) hn hdb hs hpl) fun σ H Q h => one (r := fun x H Q => r [x] H Q) hm' h
theorem re_ct1 {T : String} (P : Cal1 X (.type T) g) (hg : Gl X x) (hm : X.mg x = none) (ha : RQ X a o) (hv : bootBuiltins x = some (.type T) := by rfl) (hn : x ≠ "__name__" := by decide) (hdb : (x == ("__debug__" : Str)) = false := by decide)
    (hs : starEach [a] X.env = (false, eval a X.env) :: starEach [] X.env := by rfl) (hpl : (backTo pos (starEach [] X.env)).any (·.1) = false := by rfl) : RE X (.Call (.Name x p) [a] [] pos) (e1 g o) := fun W tk => by
  obtain ⟨r, hr, hm'⟩ := P
  exact PE_imp (pe_callTy hr hg hm hv (pa_cons (ha W tk) pa_nil hs) hn hdb hs hpl) fun σ H Q h => one (r := fun x H Q => r [x] H Q) hm' h
theorem re_cb2 {id : String} (P : Cal2 X (.builtin id) g2) (hg : Gl X x) (hm : X.mg x = none) (ha : RQ X a o) (hb : RQ X b q) (hv : bootBuiltins x = some (.builtin id) := by rfl) (hn : x ≠ "__name__" := by decide) (hdb : (x == ("__debug__" : Str)) = false := by decide)
    (hs : starEach [a, b] X.env = (false, eval a X.env) :: starEach [b] X.env := by rfl) (hs' : starEach [b] X.env = (false, eval b X.env) :: starEach [] X.env := by rfl) (hpl : (backTo pos (starEach [b] X.env)).any (·.1) = false := by rfl) : RE X (.Call (.Name x p) [a, b] [] pos) (e2 g2 o q) := fun W tk => by
  obtain ⟨r, hr, hm'⟩ := P
  exact PE_imp (pe_callB hr hg hm hv (pa_cons (ha W tk) (pa_cons (hb W tk) pa_nil hs') hs) hn hdb hs hpl) fun σ H Q h => two (r := fun x y H Q => r [x, y] H Q) hm' h
/-! len -/
def lenS : MV → Option Cell
  | .tup xs => some (vI xs.length)
  | .lst xs => some (vI xs.length)
  | _ => none
theorem cal_lenS : Cal1 X (.builtin "len") lenS := ⟨_, call_len_seq, fun M v c x H Q tr e rv q => by
  unfold lenS at e
  split at e
  · cases e
    obtain ⟨a, vs, rfl, h1, h2, h3⟩ := rb_tup rv
    rw [← h2.len] at q
    exact ⟨a, vs, rfl, .inr h1, q _ H (.refl _) res_int⟩
  · cases e
    obtain ⟨a, vs, rfl, h1, h2⟩ := rb_lst rv
    rw [← h2.len] at q
    exact ⟨a, vs, rfl, .inl h1, q _ H (.refl _) res_int⟩
  · cases e⟩
def lenT : MV → Option Cell
  | .str x => if x.length ≤ sizeLine then some (vI x.length) else none
  | _ => none
theorem cal_lenT : Cal1 X (.builtin "len") lenT := ⟨_, call_len_str, fun M v c x H Q tr e rv q => by
  unfold lenT at e
  split at e
  · split at e
    · rename_i hl
      cases e
      exact ⟨_, congrArg (fun z => [z]) (rb_str rv), hl, q _ H (.refl _) res_int⟩
    · cases e
  · cases e⟩
def lenD : MV → Option Cell
  | .dk ks _ => some (vI ks.length)
  | .dn ks _ => some (vI ks.length)
  | _ => none
theorem nksM_len : ∀ {ms : List MV} {ks : List NestedKey}, nksM ms = some ks → ks.length = ms.length
  | [], ks, h => by simp only [nksM] at h; cases h; rfl
  | m :: ms, ks, h => by
    simp only [nksM, Option.bind_eq_some_iff, Option.map_eq_some_iff] at h
    obtain ⟨k, _, ks', h2, rfl⟩ := h
    rw [List.length_cons, List.length_cons, nksM_len h2]
theorem call_lenDt : CallR X (.builtin "len") (fun xs H Q => ∃ a n, xs = [.ref a] ∧ ((∃ kvs, Rd H a (.dK kvs) ∧ n = kvs.length) ∨ ∃ es, DnAt (GX X) H a es ∧ n = es.length) ∧ Q (.int ((n : Nat) : Int)) H) := by
  intro pins s σ H xs us Q I r h
  obtain ⟨a, n, rfl, g, q⟩ := h
  obtain ⟨u, rfl, rx⟩ := vals1 r
  obtain rfl : u = .ref a := rx
  rcases g with ⟨kvs, e, rfl⟩ | ⟨es, d, rfl⟩
  · exact d_len I e fun t s' I' => ⟨.int kvs.length, H, I', ⟨t, rfl⟩, q⟩
  · obtain ⟨h1, h2, xs, hp, dd⟩ := d.get I
    have hl := My.Paired.len hp
    refine call_len_dictH h1 dd (by rw [← hl]; rw [sizeLine_eq] at h2; omega) ?_
    rw [← hl]
    exact ⟨.int es.length, H, I.tok _, ⟨_, rfl⟩, q⟩
theorem cal_lenD : Cal1 X (.builtin "len") lenD := ⟨_, call_lenDt, fun M v c x H Q tr e rv q => by
  unfold lenD at e
  split at e
  · cases e
    obtain ⟨a, vs, rfl, h1, h2, h3⟩ := dk_repB rv
    exact ⟨a, _, rfl, .inl ⟨_, h1, rfl⟩, q _ H (.refl _) (by rw [List.length_zip, h2, Nat.min_self, ← h2]; exact res_int)⟩
  · cases e
    obtain ⟨a, ks, as, vs, rfl, h1, h2, h3, h4, h5⟩ := dn_repB rv
    exact ⟨a, _, rfl, .inr ⟨_, h1, rfl⟩, q _ H (.refl _) (by rw [zip3_len h3 h4, ← h3, nksM_len h2]; exact res_int)⟩
  · cases e⟩
abbrev lenM : MV → Option Cell := fun v => ((lenS v).or (lenT v)).or (lenD v)
theorem cal_len : Cal1 X (.builtin "len") lenM := (cal_lenS.or cal_lenT).or cal_lenD
/-! ints -/
def absM : MV → Option Cell
  | .int i => some (vI (if i < 0 then -i else i))
  | _ => none
theorem cal_abs : Cal1 X (.builtin "abs") absM := ⟨_, call_abs, fun M v c x H Q tr e rv q => by
  unfold absM at e
  split at e
  · cases e
    exact ⟨_, congrArg (fun z => [z]) (rb_int rv), q _ H (.refl _) res_int⟩
  · cases e⟩
def maxII : MV → MV → Option Cell
  | .int i, .int j => some (vI (if j > i then j else i))
  | _, _ => none
theorem cal_max2 (hc : X.calm = true) : Cal2 X (.builtin "max") maxII := ⟨_, call_max2 hc, fun M v w c x y H Q tr e rv rw q => by
  unfold maxII at e
  split at e
  · cases e
    cases rb_int rv
    cases rb_int rw
    exact ⟨_, _, rfl, q _ H (.refl _) res_int⟩
  · cases e⟩
def minII : MV → MV → Option Cell
  | .int i, .int j => some (vI (if j < i then j else i))
  | _, _ => none
theorem cal_min2 (hc : X.calm = true) : Cal2 X (.builtin "min") minII := ⟨_, call_min2 hc, fun M v w c x y H Q tr e rv rw q => by
  unfold minII at e
  split at e
  · cases e
    cases rb_int rv
    cases rb_int rw
    exact ⟨_, _, rfl, q _ H (.refl _) res_int⟩
  · cases e⟩
def intM : MV → Option Cell
  | .int i => some (vI i)
  | .bl k => some (vI (if k then 1 else 0))
  | _ => none
theorem cal_int : Cal1 X (.type "int") intM := ⟨_, call_int1, fun M v c x H Q tr e rv q => by
  unfold intM at e
  split at e
  · cases e
    cases rb_int rv
    exact .inl ⟨_, rfl, q _ H (.refl _) res_int⟩
  · cases e
    cases rb_bl rv
    exact .inr ⟨_, rfl, q _ H (.refl _) res_int⟩
  · cases e⟩
def boolM : MV → Option Cell
  | .int i => some (vB (i != 0))
  | .bl k => some (vB k)
  | _ => none
theorem cal_bool : Cal1 X (.type "bool") boolM := ⟨_, call_bool1, fun M v c x H Q tr e rv q => by
  unfold boolM at e
  split at e
  · cases e
    cases rb_int rv
    exact .inl ⟨_, rfl, q _ H (.refl _) res_bl⟩
  · cases e
    cases rb_bl rv
    exact .inr ⟨_, rfl, q _ H (.refl _) res_bl⟩
  · cases e⟩
/-! rows of ints, of bools -/
def intsM : List MV → Option (List Int)
  | [] => some []
  | .int i :: ms => (intsM ms).map (i :: ·)
  | _ => none
theorem intsM_rep {G : GG} {M : Addr → Prop} {H : Hp} : ∀ {ms : List MV} {ns : List Int} {vs : List V}, intsM ms = some ns → Reps G M H ms vs → vs = ns.map V.int
  | [], ns, vs, h, r => by simp only [intsM] at h; cases h; simp only [Reps] at r; exact r
  | .int i :: ms, ns, vs, h, r => by
    simp only [intsM, Option.map_eq_some_iff] at h
    obtain ⟨ns', h, rfl⟩ := h
    simp only [Reps, Rep] at r
    obtain ⟨v, r', rfl, rfl, r2⟩ := r
    rw [intsM_rep h r2]
    rfl
  | .non :: _, _, _, h, _ | .bl _ :: _, _, _, h, _ | .str _ :: _, _, _, h, _ | .tup _ :: _, _, _, h, _ | .lst _ :: _, _, _, h, _ | .dk _ _ :: _, _, _, h, _ | .dn _ _ :: _, _, _, h, _ | .ins _ _ :: _, _, _, h, _ => by simp only [intsM] at h; cases h
@[simp] theorem intsM_map (ns : List Int) : intsM (ns.map MV.int) = some ns := by
  induction ns with
  | nil => rfl
  | cons n ns ih => rw [List.map_cons, intsM, ih]; rfl
theorem reps_ints {G : GG} {M : Addr → Prop} {H : Hp} : ∀ ns : List Int, Reps G M H (ns.map MV.int) (ns.map V.int)
  | [] => Reps.nil
  | n :: ns => Reps.consI (by simp only [Rep]) (reps_ints ns)
def blsM : List MV → Option (List Bool)
  | [] => some []
  | .bl i :: ms => (blsM ms).map (i :: ·)
  | _ => none
theorem blsM_rep {G : GG} {M : Addr → Prop} {H : Hp} : ∀ {ms : List MV} {ns : List Bool} {vs : List V}, blsM ms = some ns → Reps G M H ms vs → vs = ns.map V.bl
  | [], ns, vs, h, r => by simp only [blsM] at h; cases h; simp only [Reps] at r; exact r
  | .bl i :: ms, ns, vs, h, r => by
    simp only [blsM, Option.map_eq_some_iff] at h
    obtain ⟨ns', h, rfl⟩ := h
    simp only [Reps, Rep] at r
    obtain ⟨v, r', rfl, rfl, r2⟩ := r
    rw [blsM_rep h r2]
    rfl
  | .non :: _, _, _, h, _ | .int _ :: _, _, _, h, _ | .str _ :: _, _, _, h, _ | .tup _ :: _, _, _, h, _ | .lst _ :: _, _, _, h, _ | .dk _ _ :: _, _, _, h, _ | .dn _ _ :: _, _, _, h, _ | .ins _ _ :: _, _, _, h, _ => by simp only [blsM] at h; cases h
@[simp] theorem blsM_map (ns : List Bool) : blsM (ns.map MV.bl) = some ns := by
  induction ns with
  | nil => rfl
  | cons n ns ih => rw [List.map_cons, blsM, ih]; rfl
def sumM : MV → Option Cell
  | .lst ms => (intsM ms).map fun ns => vI ns.sum
  | .tup ms => (intsM ms).map fun ns => vI ns.sum
  | _ => none
theorem cal_sum (hc : X.calm = true) : Cal1 X (.builtin "sum") sumM := ⟨_, Mi.CallR.or (cr_sum hc) (cr_sumT hc), fun M v c x H Q tr e rv q => by
  unfold sumM at e
  split at e
  · obtain ⟨ns, h, rfl⟩ := Option.map_eq_some_iff.mp e
    obtain ⟨a, vs, rfl, h1, h2⟩ := rb_lst rv
    rw [intsM_rep h h2] at h1
    exact .inl ⟨a, ns, rfl, h1, q _ H (.refl _) res_int⟩
  · obtain ⟨ns, h, rfl⟩ := Option.map_eq_some_iff.mp e
    obtain ⟨a, vs, rfl, h1, h2, _⟩ := rb_tup rv
    rw [intsM_rep h h2] at h1
    exact .inr ⟨a, ns, rfl, h1, q _ H (.refl _) res_int⟩
  · cases e⟩
def allM : MV → Option Cell
  | .lst ms => (blsM ms).map fun ns => vB (ns.all id)
  | _ => none
theorem cal_all (hc : X.calm = true) : Cal1 X (.builtin "all") allM := ⟨_, cr_all hc, fun M v c x H Q tr e rv q => by
  unfold allM at e
  split at e
  · obtain ⟨ns, h, rfl⟩ := Option.map_eq_some_iff.mp e
    obtain ⟨a, vs, rfl, h1, h2⟩ := rb_lst rv
    rw [blsM_rep h h2] at h1
    exact ⟨a, ns, rfl, h1, q _ H (.refl _) res_bl⟩
  · cases e⟩
def anyM : MV → Option Cell
  | .lst ms => (blsM ms).map fun ns => vB (ns.any id)
  | _ => none
theorem cal_any (hc : X.calm = true) : Cal1 X (.builtin "any") anyM := ⟨_, cr_any hc, fun M v c x H Q tr e rv q => by
  unfold anyM at e
  split at e
  · obtain ⟨ns, h, rfl⟩ := Option.map_eq_some_iff.mp e
    obtain ⟨a, vs, rfl, h1, h2⟩ := rb_lst rv
    rw [blsM_rep h h2] at h1
    exact ⟨a, ns, rfl, h1, q _ H (.refl _) res_bl⟩
  · cases e⟩
def maxL : List Int → Int
  | [] => 0
  | [n] => n
  | n :: ns => max n (maxL ns)
def minL : List Int → Int
  | [] => 0
  | [n] => n
  | n :: ns => min n (minL ns)
theorem maxL_ok : ∀ ns : List Int, ns ≠ [] → maxL ns ∈ ns ∧ ∀ y ∈ ns, y ≤ maxL ns
  | [], h => absurd rfl h
  | [n], _ => by simp [maxL]
  | n :: m :: ns, _ => by
    have ⟨h1, h2⟩ := maxL_ok (m :: ns) (by simp)
    have e : maxL (n :: m :: ns) = max n (maxL (m :: ns)) := rfl
    rw [e]
    constructor
    · rcases Int.le_total n (maxL (m :: ns)) with h | h
      · rw [Int.max_eq_right h]; exact List.mem_cons_of_mem _ h1
      · rw [Int.max_eq_left h]; exact List.mem_cons_self
    · intro y hy
      rcases List.mem_cons.mp hy with rfl | hy
      · omega
      · have := h2 y hy; omega
theorem minL_ok : ∀ ns : List Int, ns ≠ [] → minL ns ∈ ns ∧ ∀ y ∈ ns, minL ns ≤ y
  | [], h => absurd rfl h
  | [n], _ => by simp [minL]
  | n :: m :: ns, _ => by
    have ⟨h1, h2⟩ := minL_ok (m :: ns) (by simp)
    have e : minL (n :: m :: ns) = min n (minL (m :: ns)) := rfl
    rw [e]
    constructor
    · rcases Int.le_total n (minL (m :: ns)) with h | h
      · rw [Int.min_eq_left h]; exact List.mem_cons_self
      · rw [Int.min_eq_right h]; exact List.mem_cons_of_mem _ h1
    · intro y hy
      rcases List.mem_cons.mp hy with rfl | hy
      · omega
      · have := h2 y hy; omega
def maxM : MV → Option Cell
  | .lst ms => (intsM ms).bind fun ns => if ns = [] then none else some (vI (maxL ns))
  | _ => none
def minM : MV → Option Cell
  | .lst ms => (intsM ms).bind fun ns => if ns = [] then none else some (vI (minL ns))
  | _ => none
theorem cal_max (hc : X.calm = true) : Cal1 X (.builtin "max") maxM := ⟨_, cr_max hc, fun M v c x H Q tr e rv q => by
  unfold maxM at e
  split at e
  · obtain ⟨ns, h, e⟩ := Option.bind_eq_some_iff.mp e
    split at e
    · cases e
    · rename_i hn
      cases e
      obtain ⟨a, vs, rfl, h1, h2⟩ := rb_lst rv
      rw [intsM_rep h h2] at h1
      refine ⟨a, ns, rfl, h1, List.length_pos_iff.mpr hn, fun m hm hy => ?_⟩
      have ⟨k1, k2⟩ := maxL_ok ns hn
      have := hy _ k1
      have := k2 _ hm
      obtain rfl : m = maxL ns := by omega
      exact q _ H (.refl _) res_int
  · cases e⟩
theorem cal_min (hc : X.calm = true) : Cal1 X (.builtin "min") minM := ⟨_, cr_min hc, fun M v c x H Q tr e rv q => by
  unfold minM at e
  split at e
  · obtain ⟨ns, h, e⟩ := Option.bind_eq_some_iff.mp e
    split at e
    · cases e
    · rename_i hn
      cases e
      obtain ⟨a, vs, rfl, h1, h2⟩ := rb_lst rv
      rw [intsM_rep h h2] at h1
      refine ⟨a, ns, rfl, h1, List.length_pos_iff.mpr hn, fun m hm hy => ?_⟩
      have ⟨k1, k2⟩ := minL_ok ns hn
      have := hy _ k1
      have := k2 _ hm
      obtain rfl : m = minL ns := by omega
      exact q _ H (.refl _) res_int
  · cases e⟩
/-! sorted -/
def insI (n : Int) : List Int → List Int
  | [] => [n]
  | m :: ms => if n ≤ m then n :: m :: ms else m :: insI n ms
def sortI : List Int → List Int
  | [] => []
  | n :: ns => insI n (sortI ns)
theorem insI_perm (n : Int) : ∀ ms, (insI n ms).Perm (n :: ms)
  | [] => .refl _
  | m :: ms => by
    unfold insI
    split
    · exact .refl _
    · exact ((insI_perm n ms).cons m).trans (.swap _ _ _)
theorem sortI_perm : ∀ ns, (sortI ns).Perm ns
  | [] => .refl _
  | n :: ns => (insI_perm n _).trans ((sortI_perm ns).cons n)
theorem insI_sorted {n : Int} : ∀ {ms : List Int}, ms.Pairwise (· ≤ ·) → (insI n ms).Pairwise (· ≤ ·)
  | [], _ => by simp [insI]
  | m :: ms, h => by
    have ⟨h1, h2⟩ := List.pairwise_cons.mp h
    unfold insI
    split
    · rename_i hl
      refine List.pairwise_cons.mpr ⟨fun y hy => ?_, h⟩
      rcases List.mem_cons.mp hy with rfl | hy
      · exact hl
      · exact Int.le_trans hl (h1 y hy)
    · rename_i hl
      refine List.pairwise_cons.mpr ⟨fun y hy => ?_, insI_sorted h2⟩
      rcases List.mem_cons.mp ((insI_perm n ms).mem_iff.mp hy) with rfl | hy
      · omega
      · exact h1 y hy
theorem sortI_sorted : ∀ ns, (sortI ns).Pairwise (· ≤ ·)
  | [] => .nil
  | n :: ns => insI_sorted (sortI_sorted ns)
theorem sorted_uniq : ∀ {xs ys : List Int}, xs.Perm ys → xs.Pairwise (· ≤ ·) → ys.Pairwise (· ≤ ·) → xs = ys
  | [], ys, p, _, _ => p.nil_eq
  | x :: xs, [], p, _, _ => absurd p.length_eq (by simp)
  | x :: xs, y :: ys, p, h, h' => by
    have ⟨h1, h2⟩ := List.pairwise_cons.mp h
    have ⟨h3, h4⟩ := List.pairwise_cons.mp h'
    have e : x = y := by
      have a : y ≤ x := by
        rcases List.mem_cons.mp (p.mem_iff.mp List.mem_cons_self) with e | m
        · omega
        · exact h3 _ m
      have b : x ≤ y := by
        rcases List.mem_cons.mp (p.mem_iff.mpr List.mem_cons_self) with e | m
        · omega
        · exact h1 _ m
      omega
    subst e
    rw [sorted_uniq p.cons_inv h2 h4]
def sortM : MV → Option Cell
  | .lst ms => (intsM ms).map fun ns => ⟨.own, .lst ((sortI ns).map .int)⟩
  | _ => none
theorem cal_sort : Cal1 X (.builtin "sorted") sortM := ⟨_, cr_sortedI, fun M v c x H Q tr e rv q => by
  unfold sortM at e
  split at e
  · obtain ⟨ns, h, rfl⟩ := Option.map_eq_some_iff.mp e
    obtain ⟨a, vs, rfl, h1, h2⟩ := rb_lst rv
    rw [intsM_rep h h2] at h1
    refine ⟨a, ns, rfl, h1, fun ns' p hp hs np => ?_⟩
    obtain rfl := sorted_uniq (hp.trans (sortI_perm ns).symm) hs (sortI_sorted ns)
    exact q _ _ (same_new np) (res_lst np (reps_ints _))
  · cases e⟩
/-! tuple(x), list(x) -/
def tupM : MV → Option Cell
  | .lst ms => some (vV (.tup ms))
  | .tup ms => some (vV (.tup ms))
  | _ => none
theorem cal_tup : Cal1 X (.type "tuple") tupM := ⟨_, call_tuple_of, fun M v c x H Q tr e rv q => by
  unfold tupM at e
  split at e
  · cases e
    obtain ⟨a, vs, rfl, h1, h2⟩ := rb_lst rv
    exact ⟨a, vs, rfl, .inl ⟨h1, fun l nl => q _ _ (same_new nl) (res_tup tr (same_new nl) nl upd_same h2)⟩⟩
  · cases e
    obtain ⟨a, vs, rfl, h1, h2, h3⟩ := rb_tup rv
    exact ⟨a, vs, rfl, .inr ⟨h1, q _ H (.refl _) (res_val h3)⟩⟩
  · cases e⟩
def lstM : MV → Option Cell
  | .lst ms => some ⟨.own, .lst ms⟩
  | .tup ms => some ⟨.own, .lst ms⟩
  | _ => none
theorem cal_lst : Cal1 X (.type "list") lstM := ⟨_, L2.call_list_of, fun M v c x H Q tr e rv q => by
  unfold lstM at e
  split at e
  · cases e
    obtain ⟨a, vs, rfl, h1, h2⟩ := rb_lst rv
    exact ⟨a, vs, rfl, .inl h1, fun l nl => q _ _ (same_new nl) (res_lst nl h2)⟩
  · cases e
    obtain ⟨a, vs, rfl, h1, h2, h3⟩ := rb_tup rv
    exact ⟨a, vs, rfl, .inr h1, fun l nl => q _ _ (same_new nl) (res_lst nl h2)⟩
  · cases e⟩
end
end Mi

set_option Elab.async false
set_option linter.all false
set_option maxRecDepth 100000
set_option maxHeartbeats 4000000
/-! ==, in, is, slices -/
namespace Mi
open PySem PySem.Spec PyProof.Rows L2 My

mutual
def datM : MV → Option PyData
  | .non => some .none
  | .bl b => some (.bool b)
  | .int i => some (.int i)
  | .str x => some (.str x)
  | .tup ms => (datsM ms).map .tuple
  | .lst ms => (datsM ms).map .list
  | _ => none
def datsM : List MV → Option (List PyData)
  | [] => some []
  | m :: ms => (datM m).bind fun d => (datsM ms).map (d :: ·)
end
theorem dpAll_mono {K : PySem.W.Frag} {H : Hp} {v : V} {vs : List V} {d : PyData} {ds : List PyData} (h : Dp K H v d) (r : DpAll K H vs ds) : DpAll K H (v :: vs) (d :: ds) := .cons h r
mutual
theorem dp_rep {G : GG} {M : Addr → Prop} {H : Hp} : ∀ (m : MV) (d : PyData) (x : V), datM m = some d → Rep G M H m x → Dp G.K H x d
  | .non, d, x, e, h => by simp only [datM] at e; cases e; simp only [Rep] at h; subst h; exact .non
  | .bl b, d, x, e, h => by simp only [datM] at e; cases e; simp only [Rep] at h; subst h; exact .bl b
  | .int i, d, x, e, h => by simp only [datM] at e; cases e; simp only [Rep] at h; subst h; exact .int i
  | .str i, d, x, e, h => by simp only [datM] at e; cases e; simp only [Rep] at h; subst h; exact .str i
  | .tup ms, d, x, e, h => by
    simp only [datM, Option.map_eq_some_iff] at e
    obtain ⟨ds, e, rfl⟩ := e
    simp only [Rep] at h
    obtain ⟨a, vs, rfl, h1, h2⟩ := h
    exact .tup h1.sq (dps_rep ms ds vs e h2)
  | .lst ms, d, x, e, h => by
    simp only [datM, Option.map_eq_some_iff] at e
    obtain ⟨ds, e, rfl⟩ := e
    simp only [Rep] at h
    obtain ⟨a, vs, rfl, h1, _, h2⟩ := h
    exact .lst h1.sq (dps_rep ms ds vs e h2)
  | .dk _ _, d, x, e, h => by simp only [datM] at e; cases e
  | .dn _ _, d, x, e, h => by simp only [datM] at e; cases e
  | .ins _ _, d, x, e, h => by simp only [datM] at e; cases e
theorem dps_rep {G : GG} {M : Addr → Prop} {H : Hp} : ∀ (m : List MV) (d : List PyData) (x : List V), datsM m = some d → Reps G M H m x → DpAll G.K H x d
  | [], d, x, e, h => by simp only [datsM] at e; cases e; simp only [Reps] at h; subst h; exact .nil
  | m :: ms, d, x, e, h => by
    simp only [datsM, Option.bind_eq_some_iff, Option.map_eq_some_iff] at e
    obtain ⟨d1, e1, ds, e2, rfl⟩ := e
    simp only [Reps] at h
    obtain ⟨v, r, rfl, h1, h2⟩ := h
    exact .cons (dp_rep m d1 v e1 h1) (dps_rep ms ds r e2 h2)
end
theorem dp_repB {G : GG} {M : Addr → Prop} {H : Hp} {m : MV} {d : PyData} {x : V} (e : datM m = some d) (h : RepB G M H m x) : Dp G.K H x d := by
  rcases h with h | ⟨a, rfl, h⟩
  · exact dp_rep m d x e h
  · cases m with
    | lst ms =>
      simp only [datM, Option.map_eq_some_iff] at e
      obtain ⟨ds, e, rfl⟩ := e
      simp only [Own] at h
      obtain ⟨vs, h1, h2⟩ := h
      exact .lst (.of h1) (dps_rep ms ds vs e h2)
    | dk _ _ => simp only [datM] at e; cases e
    | dn _ _ => simp only [datM] at e; cases e
    | ins _ _ => simp only [datM] at e; cases e
    | _ => simp only [Own] at h
/-- what == asks of a value -/
def shM (m : MV) : Option PyData := (datM m).bind fun d => if SeqAt.shaped d = true then some d else none
theorem shM_ok {m : MV} {d : PyData} (h : shM m = some d) : datM m = some d ∧ SeqAt.shaped d = true := by
  unfold shM at h
  obtain ⟨d', h1, h2⟩ := Option.bind_eq_some_iff.mp h
  split at h2
  · rename_i hs
    cases h2
    exact ⟨h1, hs⟩
  · cases h2
def eqM (v w : MV) : Option Cell := (shM v).bind fun d => (shM w).map fun e => vB (PyData.eqv d e)
def neM (v w : MV) : Option Cell := (shM v).bind fun d => (shM w).map fun e => vB (!PyData.eqv d e)
section
variable {X : Cx}
theorem op2_eq (hu : X.A.units + 64 < cLine) : Op2 X (compareOp .Eq) eqM := ⟨_, op_eqD hu, fun M v w c x y H Q tr e rv rw q => by
  unfold eqM at e
  obtain ⟨d, h1, e⟩ := Option.bind_eq_some_iff.mp e
  obtain ⟨d', h2, rfl⟩ := Option.map_eq_some_iff.mp e
  exact ⟨d, d', dp_repB (shM_ok h1).1 rv, dp_repB (shM_ok h2).1 rw, (shM_ok h1).2, (shM_ok h2).2, q _ H (.refl _) res_bl⟩⟩
theorem op2_ne (hu : X.A.units + 64 < cLine) : Op2 X (compareOp .NotEq) neM := ⟨_, op_neD hu, fun M v w c x y H Q tr e rv rw q => by
  unfold neM at e
  obtain ⟨d, h1, e⟩ := Option.bind_eq_some_iff.mp e
  obtain ⟨d', h2, rfl⟩ := Option.map_eq_some_iff.mp e
  exact ⟨d, d', dp_repB (shM_ok h1).1 rv, dp_repB (shM_ok h2).1 rw, (shM_ok h1).2, (shM_ok h2).2, q _ H (.refl _) res_bl⟩⟩
/-! is None -/
def nonB : MV → Bool
  | .non => true
  | _ => false
def isN (v w : MV) : Option Cell := if nonB w then some (vB (nonB v)) else none
def notN (v w : MV) : Option Cell := if nonB w then some (vB (!nonB v)) else none
theorem nonB_rep {G : GG} {M : Addr → Prop} {H : Hp} {v : MV} {x : V} (h : RepB G M H v x) : decide (x = .non) = nonB v := by
  cases v with
  | non => rw [rb_non h]; rfl
  | bl b => rw [rb_bl h]; rfl
  | int b => rw [rb_int h]; rfl
  | str b => rw [rb_str h]; rfl
  | tup b => obtain ⟨_, _, rfl, _⟩ := rb_tup h; rfl
  | lst b => obtain ⟨_, _, rfl, _⟩ := rb_lst h; rfl
  | dk ks ms => obtain ⟨_, _, rfl, _⟩ := dk_repB h; rfl
  | dn ks ms => obtain ⟨_, _, _, _, rfl, _⟩ := dn_repB h; rfl
  | ins C ms =>
    rcases h with h | ⟨_, _, h⟩
    · simp only [Rep] at h
      rcases h with ⟨_, _, _, rfl, _⟩ | ⟨_, _, _, rfl, _⟩ <;> rfl
    · subst_vars
      rfl
theorem op2_isN : Op2 X (compareOp .Is) isN := ⟨_, op_isN, fun M v w c x y H Q tr e rv rw q => by
  unfold isN at e
  split at e
  · rename_i hn
    cases e
    cases w with
    | non =>
      refine ⟨rb_non rw, ?_⟩
      have k := nonB_rep rv
      rw [k]
      exact q _ H (.refl _) res_bl
    | _ => cases hn
  · cases e⟩
theorem op2_notN : Op2 X (compareOp .IsNot) notN := ⟨_, op_notN, fun M v w c x y H Q tr e rv rw q => by
  unfold notN at e
  split at e
  · rename_i hn
    cases e
    cases w with
    | non =>
      refine ⟨rb_non rw, ?_⟩
      have k := nonB_rep rv
      rw [k]
      exact q _ H (.refl _) res_bl
    | _ => cases hn
  · cases e⟩
/-! in -/
def flM : MV → Option V
  | .non => some .non
  | .bl b => some (.bl b)
  | .int i => some (.int i)
  | .str x => some (.str x)
  | _ => none
def flsM : List MV → Option (List V)
  | [] => some []
  | m :: ms => (flM m).bind fun d => (flsM ms).map (d :: ·)
theorem flM_rep {G : GG} {M : Addr → Prop} {H : Hp} {m : MV} {v x : V} (e : flM m = some v) (h : RepB G M H m x) : x = v ∧ flatV v = true := by
  cases m <;> simp only [flM] at e <;> cases e
  · exact ⟨rb_non h, rfl⟩
  · exact ⟨rb_bl h, rfl⟩
  · exact ⟨rb_int h, rfl⟩
  · exact ⟨rb_str h, rfl⟩
theorem flsM_rep {G : GG} {M : Addr → Prop} {H : Hp} : ∀ {ms : List MV} {vs xs : List V}, flsM ms = some vs → Reps G M H ms xs → xs = vs ∧ vs.all flatV = true
  | [], vs, xs, e, h => by simp only [flsM] at e; cases e; simp only [Reps] at h; exact ⟨h, rfl⟩
  | m :: ms, vs, xs, e, h => by
    simp only [flsM, Option.bind_eq_some_iff, Option.map_eq_some_iff] at e
    obtain ⟨v, e1, vs', e2, rfl⟩ := e
    simp only [Reps] at h
    obtain ⟨y, r, rfl, h1, h2⟩ := h
    obtain ⟨rfl, f1⟩ := flM_rep e1 (.inl h1)
    obtain ⟨rfl, f2⟩ := flsM_rep e2 h2
    exact ⟨rfl, by rw [List.all_cons, f1, f2]; rfl⟩
/-- x in a row of flat values -/
def inS (neg : Bool) : MV → MV → Option Cell
  | v, .lst ms => (flM v).bind fun x => (flsM ms).map fun xs => vB (if neg then !inV x xs else inV x xs)
  | v, .tup ms => (flM v).bind fun x => (flsM ms).map fun xs => vB (if neg then !inV x xs else inV x xs)
  | _, _ => none
theorem inS_ok {neg : Bool} {M : Addr → Prop} {v w : MV} {c : Cell} {x y : V} {H : Hp} {Q : VK} (e : inS neg v w = some c) (rv : RepB (GX X) M H v x) (rw : RepB (GX X) M H w y) (q : ∀ z H', Same H H' → Res (GX X) M H H' c z → Q z H') : rIn X.K neg x y H Q := by
  unfold inS at e
  split at e
  · obtain ⟨z, h1, e⟩ := Option.bind_eq_some_iff.mp e
    obtain ⟨zs, h2, rfl⟩ := Option.map_eq_some_iff.mp e
    obtain ⟨a, vs, rfl, h3, h4⟩ := rb_lst rw
    obtain ⟨rfl, f1⟩ := flM_rep h1 rv
    obtain ⟨rfl, f2⟩ := flsM_rep h2 h4
    exact ⟨a, vs, rfl, .inl h3, f1, f2, q _ H (.refl _) res_bl⟩
  · obtain ⟨z, h1, e⟩ := Option.bind_eq_some_iff.mp e
    obtain ⟨zs, h2, rfl⟩ := Option.map_eq_some_iff.mp e
    obtain ⟨a, vs, rfl, h3, h4, _⟩ := rb_tup rw
    obtain ⟨rfl, f1⟩ := flM_rep h1 rv
    obtain ⟨rfl, f2⟩ := flsM_rep h2 h4
    exact ⟨a, vs, rfl, .inr h3, f1, f2, q _ H (.refl _) res_bl⟩
  · cases e
theorem op2_inS : Op2 X (compareOp .In) (inS false) := ⟨_, op_in_seq, fun M v w c x y H Q tr e rv rw q => inS_ok e rv rw q⟩
theorem op2_notInS : Op2 X (compareOp .NotIn) (inS true) := ⟨_, op_notIn_seq, fun M v w c x y H Q tr e rv rw q => inS_ok e rv rw q⟩
/-- .. in a list of values of any kind -/
def inL (neg : Bool) : MV → MV → Option Cell
  | v, .lst ms => (shM v).bind fun d => (shM (.lst ms)).bind fun e => match e with
    | .list es => some (vB (if neg then !(es.any fun z => PyData.eqv z d) else es.any fun z => PyData.eqv z d))
    | _ => none
  | _, _ => none
theorem op2_inL (hu : X.A.units + 65 < cLine) : Op2 X (compareOp .In) (inL false) := ⟨_, op_inD hu, fun M v w c x y H Q tr e rv rw q => by
  unfold inL at e
  split at e
  · obtain ⟨d, h1, e⟩ := Option.bind_eq_some_iff.mp e
    obtain ⟨es, h2, e⟩ := Option.bind_eq_some_iff.mp e
    split at e
    · cases e
      exact ⟨d, _, dp_repB (shM_ok h1).1 rv, dp_repB (shM_ok h2).1 rw, (shM_ok h1).2, (shM_ok h2).2, q _ H (.refl _) res_bl⟩
    · cases e
  · cases e⟩
theorem op2_notInL (hu : X.A.units + 65 < cLine) : Op2 X (compareOp .NotIn) (inL true) := ⟨_, op_notInD hu, fun M v w c x y H Q tr e rv rw q => by
  unfold inL at e
  split at e
  · obtain ⟨d, h1, e⟩ := Option.bind_eq_some_iff.mp e
    obtain ⟨es, h2, e⟩ := Option.bind_eq_some_iff.mp e
    split at e
    · cases e
      exact ⟨d, _, dp_repB (shM_ok h1).1 rv, dp_repB (shM_ok h2).1 rw, (shM_ok h1).2, (shM_ok h2).2, q _ H (.refl _) res_bl⟩
    · cases e
  · cases e⟩
/-- .. in a dict -/
def hasM : MV → MV → Option Bool
  | .dk ks ms, m => (keyM m).map fun k => (dFind ks ms k).isSome
  | .dn kms ms, .tup ts => (nkM (.tup ts)).bind fun k => if k.depth ≤ 8 then (nksM kms).map fun ks => (dFind ks ms k).isSome else none
  | _, _ => none
def rInDt (G : GG) (neg : Bool) : R2 := fun y x H Q => ∃ a r, x = .ref a ∧ DGt G H a y r ∧ Q (.bl (if neg then !r.isSome else r.isSome)) H
theorem op_inDt (hu : X.A.units + 64 < cLine) : OpR X (compareOp .In) (rInDt (GX X) false) := by
  intro pins s σ H y x u v Q I ry rx h
  obtain ⟨a, r, rfl, g, q⟩ := h
  cases rx
  rcases g with ⟨kvs, k, e, rfl, l⟩ | ⟨es, k, b, d, rfl, hk, hd, l⟩
  · exact d_in (by omega) I (.inl ⟨kvs, k, e, rfl, l⟩ : DGet H a (kV k) r) ry fun s' I' => ⟨.bl _, H, I', rfl, q⟩
  · cases ry
    subst l
    exact dn_in hu I d hk hd fun s' I' => ⟨.bl _, H, I', rfl, q⟩
theorem op_notInDt (hu : X.A.units + 64 < cLine) : OpR X (compareOp .NotIn) (rInDt (GX X) true) := by
  intro pins s σ H y x u v Q I ry rx h
  obtain ⟨a, r, rfl, g, q⟩ := h
  cases rx
  rcases g with ⟨kvs, k, e, rfl, l⟩ | ⟨es, k, b, d, rfl, hk, hd, l⟩
  · exact d_notIn (by omega) I (.inl ⟨kvs, k, e, rfl, l⟩ : DGet H a (kV k) r) ry fun s' I' => ⟨.bl _, H, I', rfl, q⟩
  · cases ry
    subst l
    exact dn_notIn hu I d hk hd fun s' I' => ⟨.bl _, H, I', rfl, q⟩
theorem hasM_ok {G : GG} {M : Addr → Prop} {H : Hp} {v w : MV} {b : Bool} {x y : V} (e : hasM v w = some b) (hv : RepB G M H v x) (hw : RepB G M H w y) : ∃ a r, x = .ref a ∧ DGt G H a y r ∧ b = r.isSome := by
  cases v with
  | dk ks ms =>
    simp only [hasM, Option.map_eq_some_iff] at e
    obtain ⟨k, e1, rfl⟩ := e
    obtain ⟨a, vs, rfl, h1, h2, h3⟩ := dk_repB hv
    cases E : dFind ks ms k with
    | some m =>
      obtain ⟨u, f1, f2⟩ := (find_rep (k := k) h3 h2).1 m E
      exact ⟨a, some u, rfl, .inl ⟨_, k, h1, key_rep e1 hw, f1.symm⟩, rfl⟩
    | none => exact ⟨a, none, rfl, .inl ⟨_, k, h1, key_rep e1 hw, ((find_rep (k := k) h3 h2).2 E).symm⟩, rfl⟩
  | dn kms ms =>
    cases w with
    | tup ts =>
      simp only [hasM, Option.bind_eq_some_iff] at e
      obtain ⟨k, e1, e2⟩ := e
      split at e2
      · rename_i hd
        obtain ⟨ks, e3, rfl⟩ := Option.map_eq_some_iff.mp e2
        obtain ⟨a, ks', as, vs, rfl, h1, h2, h3, h4, h5⟩ := dn_repB hv
        rw [e3] at h2
        cases h2
        obtain ⟨b, rfl, hk⟩ := nk_rep e1 hw
        cases E : dFind ks ms k with
        | some m =>
          obtain ⟨u, f1, f2⟩ := (zip3_find (k := k) (as := as) h5 h3 h4).1 m E
          exact ⟨a, some u, rfl, .inr ⟨_, k, b, h1, rfl, hk, hd, f1.symm⟩, rfl⟩
        | none => exact ⟨a, none, rfl, .inr ⟨_, k, b, h1, rfl, hk, hd, ((zip3_find (k := k) (as := as) h5 h3 h4).2 E).symm⟩, rfl⟩
      · cases e2
    | _ => simp only [hasM] at e; cases e
  | _ => simp only [hasM] at e; cases e
def inDt (neg : Bool) (v w : MV) : Option Cell := (hasM w v).map fun b => vB (if neg then !b else b)
theorem op2_inDt (hu : X.A.units + 64 < cLine) : Op2 X (compareOp .In) (inDt false) := ⟨_, op_inDt hu, fun M v w c x y H Q tr e rv rw q => by
  obtain ⟨b, e', rfl⟩ := Option.map_eq_some_iff.mp e
  obtain ⟨a, r, rfl, g, rfl⟩ := hasM_ok e' rw rv
  exact ⟨a, r, rfl, g, q _ H (.refl _) res_bl⟩⟩
theorem op2_notInDt (hu : X.A.units + 64 < cLine) : Op2 X (compareOp .NotIn) (inDt true) := ⟨_, op_notInDt hu, fun M v w c x y H Q tr e rv rw q => by
  obtain ⟨b, e', rfl⟩ := Option.map_eq_some_iff.mp e
  obtain ⟨a, r, rfl, g, rfl⟩ := hasM_ok e' rw rv
  exact ⟨a, r, rfl, g, q _ H (.refl _) res_bl⟩⟩
abbrev inM (neg : Bool) (v w : MV) : Option Cell := ((inDt neg v w).or (inS neg v w)).or (inL neg v w)
theorem op2_in (hu : X.A.units + 65 < cLine) : Op2 X (compareOp .In) (inM false) := ((op2_inDt (by omega)).or op2_inS).or (op2_inL hu)
theorem op2_notIn (hu : X.A.units + 65 < cLine) : Op2 X (compareOp .NotIn) (inM true) := ((op2_notInDt (by omega)).or op2_notInS).or (op2_notInL hu)
/-! order of tuples of ints -/
def ltT : MV → MV → Option Cell
  | .tup a, .tup b => (intsM a).bind fun ns => (intsM b).map fun ms => vB (HT.lexLt ns ms)
  | _, _ => none
theorem op2_ltT (hu : X.A.units < cLine) : Op2 X (compareOp .Lt) ltT := ⟨_, op_ltT hu, fun M v w c x y H Q tr e rv rw q => by
  unfold ltT at e
  split at e
  · obtain ⟨ns, h1, e⟩ := Option.bind_eq_some_iff.mp e
    obtain ⟨ms, h2, rfl⟩ := Option.map_eq_some_iff.mp e
    obtain ⟨a, vs, rfl, h3, h4, _⟩ := rb_tup rv
    obtain ⟨b, ws, rfl, h5, h6, _⟩ := rb_tup rw
    obtain rfl := intsM_rep h1 h4
    obtain rfl := intsM_rep h2 h6
    exact ⟨a, b, ns, ms, rfl, rfl, h3, h5, q _ H (.refl _) res_bl⟩
  · cases e⟩
/-! xs + ys -/
def addL : MV → MV → Option Cell
  | .lst a, .lst b => if a.length + b.length ≤ sizeLine then some ⟨.own, .lst (a ++ b)⟩ else none
  | _, _ => none
theorem op_catL : OpR X (binaryOp .Add) (fun x y H Q => ∃ l b xs zs, x = .ref l ∧ y = .ref b ∧ SqL X.K H l xs ∧ SqL X.K H b zs ∧ xs.length + zs.length ≤ sizeLine ∧ ∀ p, H p = none → Q (.ref p) (upd H p (.lst (xs ++ zs)))) := by
  intro pins s σ H x y v u Q I rx ry h
  obtain ⟨l, b, xs, zs, rfl, rfl, hH, hB, hz, q⟩ := h
  cases rx
  cases ry
  obtain ⟨its, r, pl, hl⟩ := I.list hH
  obtain ⟨its2, r2, pl2, hl2⟩ := I.list hB
  obtain ⟨⟨cls, dd, data, sl⟩, ho, hc, n, hd⟩ := pl.isList
  obtain ⟨⟨cls2, dd2, data2, sl2⟩, ho2, hc2, n2, hd2⟩ := pl2.isList
  simp only at hc hd hc2 hd2
  subst hc hd hc2 hd2
  have e : its.toArray ++ its2.toArray = (its ++ its2).toArray := by simp
  refine concat_meets ⟨_, ho, rfl⟩ ⟨_, ho2, rfl⟩ noFill_list_add seq_list_add PySem.F.slot_list_add PySem.F.entry_list_add (PySem.F.args_list_add_2 _ _) (list_addW l b its.toArray its2.toArray n n2 dd dd2 sl sl2 (by simp only [List.size_toArray]; rw [← r.length, ← r2.length]; exact hz)) ⟨ho, ho2, ?_⟩
  rw [e]
  exact ⟨.ref _, _, I.lnew (t' := s.toks) (r.append r2) (by rw [List.length_append]; omega), rfl, q _ I.fresh⟩
theorem op2_addL : Op2 X (binaryOp .Add) addL := ⟨_, op_catL, fun M v w c x y H Q tr e rv rw q => by
  unfold addL at e
  split at e
  · split at e
    · rename_i hl
      cases e
      obtain ⟨a, vs, rfl, h1, h2⟩ := rb_lst rv
      obtain ⟨b, ws, rfl, h4, h5⟩ := rb_lst rw
      exact ⟨a, b, vs, ws, rfl, rfl, h1, h4, by rw [h2.len, h5.len]; exact hl, fun p np => q _ _ (same_new np) (res_lst np (Reps.app h2 h5))⟩
    · cases e
  · cases e⟩
abbrev addM (v w : MV) : Option Cell := (addI v w).or ((addT v w).or ((addL v w).or (addS v w)))
theorem op2_add : Op2 X (binaryOp .Add) addM := op2_addI.or (op2_addT.or (op2_addL.or op2_addS))
abbrev ltM (v w : MV) : Option Cell := (ltI v w).or (ltT v w)
theorem op2_lt (hu : X.A.units < cLine) : Op2 X (compareOp .Lt) ltM := op2_ltI.or (op2_ltT hu)
end
end Mi

set_option Elab.async false
set_option linter.all false
set_option maxRecDepth 100000
set_option maxHeartbeats 4000000
/-! a <= b <= c; slices; {}; dict comprehensions; (a, *b) -/
namespace Mi
open PySem PySem.Spec PyProof.Rows L2 My

/-! ### a <= b <= c -/
def eChain (g g' : MV → MV → Option Cell) (o q r : Opd) : FE := fun γ => match oEv o γ with
  | .ok c γ1 => (match oEv q γ1 with
    | .ok d γ2 => (match oGet o c γ2, oGet q d γ2 with
      | some v, some w => (match g v w with
        | some ⟨.val, .bl true⟩ => (match oEv r γ2 with
          | .ok e γ3 => (match oGet q d γ3, oGet r e γ3 with
            | some w, some z => (match g' w z with
              | some u => .ok u γ3
              | none => .no)
            | _, _ => .no)
          | .ex e γ3 => .ex e γ3
          | .no => .no)
        | some ⟨.val, .bl false⟩ => .ok (vB false) γ2
        | _ => .no)
      | _, _ => .no)
    | .ex e γ2 => .ex e γ2
    | .no => .no)
  | .ex e γ1 => .ex e γ1
  | .no => .no
section
variable {G : GG} {Z : Ent} {A A' A0 : AM} {γ γ' : Sg} {σ σ' : L2.St} {H H' H0 : Hp} {l : List (Addr × HO)}
theorem Stg.same (T : Stg G Z A0 H0 l A γ σ H) (e : Same H H') : Stg G Z A0 H0 l A γ σ H' := ⟨T.sim.same e, T.le, T.kp.trans (Keep.of_same (M := Mz Z A0) e) fun _ _ _ m => m, T.nw⟩
end
section
variable {X : Cx} {a b c : Expr} {o q u : Opd} {pos : Pos} {g g' : MV → MV → Option Cell}
theorem three {r r' : R2} {W : WX} {σ : L2.St} {H : Hp} {Q : VK}
    (hr : ∀ M v w c x y H Q, Trk M H → g v w = some c → RepB (GX X) M H v x → RepB (GX X) M H w y → (∀ z H', Same H H' → Res (GX X) M H H' c z → Q z H') → r x y H Q)
    (hr' : ∀ M v w c x y H Q, Trk M H → g' v w = some c → RepB (GX X) M H v x → RepB (GX X) M H w y → (∀ z H', Same H H' → Res (GX X) M H H' c z → Q z H') → r' x y H Q)
    (h : tME (GX X) (eChain g g' o q u) W σ H Q) : tChain r r' (tMQ (GX X) o W) (tMQ (GX X) q W) (tMQ (GX X) u W) σ H Q := by
  obtain ⟨Z, A, γ, S, h⟩ := h
  refine (Stg.start S).run ?_
  unfold eChain at h
  cases E1 : oEv o γ with
  | no => rw [E1] at h; exact h
  | ex e γ1 => rw [E1] at h; exact h
  | ok c γ1 =>
    rw [E1] at h
    simp only at h ⊢
    intro x l1 A1 H1 T1 _ L1
    refine T1.run ?_
    cases E2 : oEv q γ1 with
    | no => rw [E2] at h; exact h
    | ex e γ2 => rw [E2] at h; exact h
    | ok d γ2 =>
      rw [E2] at h
      simp only at h ⊢
      intro y l2 A2 H2 T2 up L2
      have L1' := up _ _ _ L1
      cases E3 : oGet o c γ2 with
      | none => rw [E3] at h; exact h.elim
      | some v =>
        cases E4 : oGet q d γ2 with
        | none => rw [E3, E4] at h; exact h.elim
        | some w =>
          rw [E3, E4] at h
          simp only at h
          cases E5 : g v w with
          | none => rw [E5] at h; exact h.elim
          | some k =>
            rw [E5] at h
            obtain ⟨kd, kv⟩ := k
            cases kd with
            | val =>
              cases kv with
              | bl k =>
                refine hr (Mz (Z.waits l2) A2) v w _ x y H2 _ T2.sim.trk E5 (L1'.repB T2.sim E3) (L2.repB T2.sim E4) fun z H3 e res => ?_
                have res : Rep (GX X) (Mz (Z.waits l2) A2) H3 (.bl k) z := res
                simp only [Rep] at res
                subst res
                have T3 := T2.same e
                have L3 := L2.step T2.sim T3.sim .refl (.of_same e)
                refine ⟨k, rfl, ?_⟩
                cases k with
                | false =>
                  simp only [Bool.false_eq_true, if_false]
                  exact T3.fin (.refl _) res_bl h
                | true =>
                  simp only [if_true]
                  simp only at h
                  refine T3.run ?_
                  cases E6 : oEv u γ2 with
                  | no => rw [E6] at h; exact h
                  | ex e γ3 => rw [E6] at h; exact h
                  | ok e γ3 =>
                    rw [E6] at h
                    simp only at h ⊢
                    intro y2 l4 A4 H4 T4 up4 L4
                    have L3' := up4 _ _ _ L3
                    cases E7 : oGet q d γ3 with
                    | none => rw [E7] at h; exact h.elim
                    | some w2 =>
                      cases E8 : oGet u e γ3 with
                      | none => rw [E7, E8] at h; exact h.elim
                      | some z2 =>
                        rw [E7, E8] at h
                        simp only at h
                        cases E9 : g' w2 z2 with
                        | none => rw [E9] at h; exact h.elim
                        | some r9 =>
                          rw [E9] at h
                          exact hr' _ w2 z2 r9 y y2 H4 _ T4.sim.trk E9 (L3'.repB T4.sim E7) (L4.repB T4.sim E8) fun z H' e r => T4.fin e r h
              | _ => exact h.elim
            | own => cases kv <;> exact h.elim
            | io => cases kv <;> exact h.elim
            | lown => cases kv <;> exact h.elim
            | lio => cases kv <;> exact h.elim
theorem re_chain {op op' : CmpOp} (P : Op2 X (compareOp op) g) (P' : Op2 X (compareOp op') g') (ha : RQ X a o) (hb : RQ X b q) (hc : RQ X c u) (hm : lastMarks [op, op'] [b, c] = false := by with_unfolding_all rfl) : RE X (.Compare a [op, op'] [b, c] pos) (eChain g g' o q u) := fun W tk => by
  obtain ⟨r, hr, h1⟩ := P
  obtain ⟨r', hr', h2⟩ := P'
  exact PE_imp (pe_chain hr hr' (ha W tk) (hb W tk) (hc W tk) hm) fun σ H Q h => three h1 h2 h
theorem rt_chain {op op' : CmpOp} (P : Op2 X (compareOp op) g) (P' : Op2 X (compareOp op') g') (ha : RQ X a o) (hb : RQ X b q) (hc : RQ X c u) (hm : lastMarks [op, op'] [b, c] = false := by with_unfolding_all rfl) : RT X (.Compare a [op, op'] [b, c] pos) (tB (eChain g g' o q u)) := fun W tk => by
  obtain ⟨r, hr, h1⟩ := P
  obtain ⟨r', hr', h2⟩ := P'
  exact PT_imp (pt_chain hr hr' (ha W tk) (hb W tk) (hc W tk) hm) fun σ H Q ⟨Z, A, γ, S, h⟩ => three h1 h2 ⟨Z, A, γ, S, tB_of (r := .no) _ S h⟩
end

/-! ### slices -/
def cutM (ms : List MV) (lo hi : Option Int) : List MV := (ms.drop (HT.sIx ms.length 0 lo)).take (HT.sIx ms.length ms.length hi - HT.sIx ms.length 0 lo)
/-- x[lo:hi] -/
def slM (lo hi : Option Int) : MV → Option Cell
  | .tup ms => some (vV (.tup (cutM ms lo hi)))
  | .lst ms => some ⟨.own, .lst (cutM ms lo hi)⟩
  | .str z => if z.length ≤ sizeLine then some (vV (.str (cutS z lo hi))) else none
  | _ => none
theorem Reps.drop' {G : GG} {M : Addr → Prop} {H : Hp} : ∀ (n : Nat) {ms : List MV} {vs : List V}, Reps G M H ms vs → Reps G M H (ms.drop n) (vs.drop n)
  | 0, _, _, h => h
  | n + 1, [], vs, h => by simp only [Reps] at h; subst h; exact Reps.nil
  | n + 1, m :: ms, vs, h => by
    simp only [Reps] at h
    obtain ⟨v, r, rfl, _, h⟩ := h
    exact Reps.drop' n h
theorem Reps.take' {G : GG} {M : Addr → Prop} {H : Hp} : ∀ (n : Nat) {ms : List MV} {vs : List V}, Reps G M H ms vs → Reps G M H (ms.take n) (vs.take n)
  | 0, _, _, h => Reps.nil
  | n + 1, [], vs, h => by simp only [Reps] at h; subst h; exact Reps.nil
  | n + 1, m :: ms, vs, h => by
    simp only [Reps] at h
    obtain ⟨v, r, rfl, h1, h⟩ := h
    exact Reps.consI h1 (Reps.take' n h)
theorem Reps.cut {G : GG} {M : Addr → Prop} {H : Hp} {ms : List MV} {vs : List V} {lo hi : Option Int} (h : Reps G M H ms vs) : Reps G M H (cutM ms lo hi) (cutV vs lo hi) := by
  unfold cutM cutV
  rw [h.len]
  exact (h.drop' _).take' _
theorem cutM_all {ms : List MV} {lo hi : Option Int} (h : HT.sIx ms.length 0 lo = 0 ∧ HT.sIx ms.length ms.length hi = ms.length) : cutM ms lo hi = ms := by
  unfold cutM
  rw [h.1, h.2]
  simp
abbrev rSlM (K : PySem.W.Frag) : V → Option Int → Option Int → Hp → VK → Prop := fun x lo hi H Q => rSlA K x lo hi H Q ∨ (rSlL K x lo hi H Q ∨ rSlS x lo hi H Q)
section
variable {X : Cx} {a e b c : Expr} {o q u : Opd} {pos p2 : Pos}
theorem sl_m : SlR X (rSlM X.K) := sl_tupA.or (sl_list.or sl_str)
theorem slM_ok {M : Addr → Prop} {lo hi : Option Int} {v : MV} {c : Cell} {x : V} {H : Hp} {Q : VK} (tr : Trk M H) (e : slM lo hi v = some c) (rv : RepB (GX X) M H v x) (q : ∀ z H', Same H H' → Res (GX X) M H H' c z → Q z H') : rSlM X.K x lo hi H Q := by
  unfold slM at e
  split at e
  · cases e
    obtain ⟨a, vs, rfl, h1, h2, h3⟩ := rb_tup rv
    refine .inl ⟨a, vs, rfl, h1, fun w => q _ H (.refl _) (res_val ?_), fun _ p np => q _ _ (same_new np) (res_tup tr (same_new np) np upd_same h2.cut)⟩
    rw [cutM_all (by rw [← h2.len]; exact w)]
    exact h3
  · cases e
    obtain ⟨a, vs, rfl, h1, h2⟩ := rb_lst rv
    exact .inr (.inl ⟨a, vs, rfl, h1, fun p np => q _ _ (same_new np) (res_lst np h2.cut)⟩)
  · split at e
    · rename_i hl
      cases e
      exact .inr (.inr ⟨_, rb_str rv, hl, q _ H (.refl _) res_str⟩)
    · cases e
  · cases e
def slLo (v w : MV) : Option Cell := match w with
  | .int i => slM (some i) none v
  | _ => none
def slHi (v w : MV) : Option Cell := match w with
  | .int i => slM none (some i) v
  | _ => none
theorem tPart_imp {te te' : TE} {σ : L2.St} {H : Hp} {Q : Option Int → Hp → Prop} (h : te σ H fun x H1 => ∃ i, x = .int i ∧ Q (some i) H1) : tPart te σ H Q := h
/-- x[lo:] -/
theorem re_slLo (ha : RQ X a o) (hb : RQ X b q) : RE X (.Subscript a (.Slice (some b) none none p2) pos) (e2 slLo o q) := fun W tk => by
  refine PE_imp (pe_slice sl_m (ha W tk) (po_some (hb W tk)) po_none) fun σ H Q h => ?_
  exact two (r := fun x y H Q => ∃ i, y = .int i ∧ rSlM X.K x (some i) none H Q) (fun M v w c x y H Q tr e rv rw q => by
    unfold slLo at e
    split at e
    · exact ⟨_, rb_int rw, slM_ok tr e rv q⟩
    · cases e) h
/-- x[:hi] -/
theorem re_slHi (ha : RQ X a o) (hb : RQ X b q) : RE X (.Subscript a (.Slice none (some b) none p2) pos) (e2 slHi o q) := fun W tk => by
  refine PE_imp (pe_slice sl_m (ha W tk) po_none (po_some (hb W tk))) fun σ H Q h => ?_
  exact two (r := fun x y H Q => ∃ i, y = .int i ∧ rSlM X.K x none (some i) H Q) (fun M v w c x y H Q tr e rv rw q => by
    unfold slHi at e
    split at e
    · exact ⟨_, rb_int rw, slM_ok tr e rv q⟩
    · cases e) h
/-- x[:] -/
theorem re_slAll (ha : RQ X a o) : RE X (.Subscript a (.Slice none none none p2) pos) (e1 (slM none none) o) := fun W tk => by
  refine PE_imp (pe_slice sl_m (ha W tk) po_none po_none) fun σ H Q h => ?_
  exact one (r := fun x H Q => rSlM X.K x none none H Q) (fun M v c x H Q tr e rv q => slM_ok tr e rv q) h
/-- x[lo:hi] -/
def eSl3 (o q r : Opd) : FE := fun γ => match oEv o γ with
  | .ok c γ1 => (match oEv q γ1 with
    | .ok d γ2 => (match oGet q d γ2 with
      | some (.int i) => (match oEv r γ2 with
        | .ok e γ3 => (match oGet o c γ3, oGet r e γ3 with
          | some v, some (.int j) => (match slM (some i) (some j) v with
            | some u => .ok u γ3
            | none => .no)
          | _, _ => .no)
        | .ex e γ3 => .ex e γ3
        | .no => .no)
      | _ => .no)
    | .ex e γ2 => .ex e γ2
    | .no => .no)
  | .ex e γ1 => .ex e γ1
  | .no => .no
theorem sl3 {W : WX} {σ : L2.St} {H : Hp} {Q : VK} (h : tME (GX X) (eSl3 o q u) W σ H Q) : L2.tSl (rSlM X.K) (tMQ (GX X) o W) (tPart (tMQ (GX X) q W)) (tPart (tMQ (GX X) u W)) σ H Q := by
  obtain ⟨Z, A, γ, S, h⟩ := h
  refine (Stg.start S).run ?_
  unfold eSl3 at h
  cases E1 : oEv o γ with
  | no => rw [E1] at h; exact h
  | ex e γ1 => rw [E1] at h; exact h
  | ok c γ1 =>
    rw [E1] at h
    simp only at h ⊢
    intro x l1 A1 H1 T1 _ L1
    refine T1.run ?_
    cases E2 : oEv q γ1 with
    | no => rw [E2] at h; exact h
    | ex e γ2 => rw [E2] at h; exact h
    | ok d γ2 =>
      rw [E2] at h
      simp only at h ⊢
      intro y l2 A2 H2 T2 up L2
      have L1' := up _ _ _ L1
      split at h
      rotate_left
      · exact h.elim
      rename_i i E4
      refine ⟨i, rb_int (L2.repB T2.sim E4), ?_⟩
      refine T2.run ?_
      cases E6 : oEv u γ2 with
      | no => rw [E6] at h; exact h
      | ex e γ2 => rw [E6] at h; exact h
      | ok e γ3 =>
        rw [E6] at h
        simp only at h ⊢
        intro z l3 A3 H3 T3 up3 L3
        have L1'' := up3 _ _ _ L1'
        split at h
        rotate_left
        · exact h.elim
        rename_i v j E3 E7
        refine ⟨j, rb_int (L3.repB T3.sim E7), ?_⟩
        cases E5 : slM (some i) (some j) v with
        | none => rw [E5] at h; exact h.elim
        | some r' =>
          rw [E5] at h
          exact slM_ok T3.sim.trk E5 (L1''.repB T3.sim E3) fun z H' e r => T3.fin e r h
theorem re_slLH (ha : RQ X a o) (hb : RQ X b q) (hc : RQ X c u) : RE X (.Subscript a (.Slice (some b) (some c) none p2) pos) (eSl3 o q u) := fun W tk =>
  PE_imp (pe_slice sl_m (ha W tk) (po_some (hb W tk)) (po_some (hc W tk))) fun σ H Q h => sl3 h
/-! x[::-1] -/
def revM : MV → Option Cell
  | .tup ms => some (vV (.tup ms.reverse))
  | .lst ms => some ⟨.own, .lst ms.reverse⟩
  | _ => none
def rRevB (K : PySem.W.Frag) : V → Hp → VK → Prop := fun x H1 Q => ∃ a xs, x = .ref a ∧ ((SqT K H1 a xs ∧ ∀ p, H1 p = none → Q (.ref p) (upd H1 p (.tup xs.reverse))) ∨ (SqL K H1 a xs ∧ ∀ p, H1 p = none → Q (.ref p) (upd H1 p (.lst xs.reverse))))
theorem pe_revB {k : Nat} {p1 p2 p3 pos : Pos} {te : TE} (he : PE X e te) : PE X (.Subscript e (.Slice none none (some (.UnaryOp .USub (.Constant (.int 1) k p1) p2)) p3) pos) (fun σ H Q => te σ H fun x H1 => rRevB X.K x H1 Q) := by
  refine ⟨fun pins s σ H Q I h => Subscript_ (thn (he.run pins s σ H _ I h) fun v s1 ⟨x, H1, I1, r1, q1⟩ => ?_)⟩
  obtain ⟨a, xs, ex, q⟩ := q1
  subst ex
  cases r1
  have hst : PO X (some (.UnaryOp .USub (.Constant (.int 1) k p1) p2)) (tPart (tUn (rU fun i => .int (-i)) (tC (.int 1)))) := po_some (pe_un un_neg pe_int)
  refine wpAny_Slice (thn (po_none.run pins s1 σ H1 (fun o H2 => o = none ∧ H2 = H1) I1 ⟨rfl, rfl⟩) fun vl s2 ⟨l, H2, I2, pl, el, e2⟩ => ?_)
  subst el e2
  refine thn (po_none.run pins s2 σ H2 (fun o H3 => o = none ∧ H3 = H2) I2 ⟨rfl, rfl⟩) fun vu s3 ⟨u, H3, I3, pu, eu, e3⟩ => ?_
  subst eu e3
  refine thn (hst.run pins s3 σ H3 (fun o H4 => o = some (-1) ∧ H4 = H3) I3 ⟨1, rfl, -1, rfl, rfl, rfl⟩) fun vs s4 ⟨o, H4, I4, ps, eo, e4⟩ => ?_
  subst eo e4
  have I5 : Inv X pins σ H4 { s4 with heap := s4.heap.push { cls := .type "slice", data := .fields #[vl, vu, vs] } } := I4.kept (t' := s4.toks) fun b ob q => Heap.get?_push_of_some _ q
  rcases q with ⟨hx, q⟩ | ⟨hx, q⟩
  · obtain ⟨its, r, ht, hz⟩ := I5.tuple hx
    have hlen := r.length
    cases pl
    cases pu
    cases ps with
    | int _ tk =>
    show wpAny (model X.prog X.w) X.A (subscriptTail e (.Slice none none (some (.UnaryOp .USub (.Constant (.int 1) k p1) p2)) p3) (.ref a) (.ref s4.heap.objs.size)) (EP X pins σ Q) X.xe _
    refine tail_any (ops := [.ref a, .ref s4.heap.objs.size]) ht.typeIs (PyProof.Rows.slot_tuple_getitem.lookup) ?_ (by with_unfolding_all rfl)
    refine getItem_back ht (Heap.IsSliceOf.new _ .none .none (.int (-1) tk)) ?_ (by rw [List.size_toArray]; omega)
    refine ⟨.ref _, _, I5.laid (t' := s4.toks) (o := .tup xs.reverse) (fun b ob q => Heap.get?_push_of_some _ q) (Nat.le_refl _) ?_, rfl, q _ (I5.hok.fresh (Nat.le_refl _))⟩
    exact ⟨by rw [List.length_reverse]; exact hz, its.reverse, r.reverse, ⟨_, Heap.get?_push_size _ rfl, rfl, _, rfl⟩⟩
  · obtain ⟨its, r, ht, hz⟩ := I5.list hx
    have hlen := r.length
    show wpAny (model X.prog X.w) X.A (subscriptTail e (.Slice none none (some (.UnaryOp .USub (.Constant (.int 1) k p1) p2)) p3) (.ref a) (.ref s4.heap.objs.size)) (EP X pins σ Q) X.xe _
    refine tail_any (ops := [.ref a, .ref s4.heap.objs.size]) ht.isList.typeIs (PySem.slot_list_getitem.lookup) ?_ (by with_unfolding_all rfl)
    refine wpAny_getItem_list_slice ht.isList (Heap.IsSliceOf.new _ vl vu vs) pl pu ps (by decide) ?_ (by rw [List.size_toArray]; omega)
    rw [PySem.W.krv_pick]
    refine ⟨.ref _, _, I5.laid (t' := s4.toks) (o := .lst xs.reverse) (fun b ob q => Heap.get?_push_of_some _ q) (Nat.le_refl _) ?_, rfl, q _ (I5.hok.fresh (Nat.le_refl _))⟩
    exact ⟨by rw [List.length_reverse]; exact hz, _, 0, r.reverse, Heap.get?_push_size _ rfl⟩
theorem re_rev {k : Nat} {p1 p2 p3 pos : Pos} (ha : RQ X a o) : RE X (.Subscript a (.Slice none none (some (.UnaryOp .USub (.Constant (.int 1) k p1) p2)) p3) pos) (e1 revM o) := fun W tk =>
  PE_imp (pe_revB (ha W tk)) fun σ H Q h => one (r := rRevB X.K) (fun M v c x H Q tr e rv q => by
    unfold revM at e
    split at e
    · cases e
      obtain ⟨a, vs, rfl, h1, h2, h3⟩ := rb_tup rv
      exact ⟨a, vs, rfl, .inl ⟨h1, fun p np => q _ _ (same_new np) (res_tup tr (same_new np) np upd_same h2.rev)⟩⟩
    · cases e
      obtain ⟨a, vs, rfl, h1, h2⟩ := rb_lst rv
      exact ⟨a, vs, rfl, .inr ⟨h1, fun p np => q _ _ (same_new np) (res_lst np h2.rev)⟩⟩
    · cases e) h
end
/-! ### {} -/
section
variable {X : Cx} {pos : Pos}
def eNew (v : MV) : FE := fun γ => .ok ⟨.own, v⟩ γ
theorem EndE.new {G : GG} {Z : Ent} {A : AM} {γ : Sg} {σ : L2.St} {H H' : Hp} {W : WX} {Q : VK} {v : MV} {p : Addr} (S : Sim G Z A γ σ H) (e : Same H H') (n : H p = none) (o : Own G (fun b => Mz Z A b ∨ b = p) H' v p) (h : EndE G Z W A σ H Q (.ok ⟨.own, v⟩ γ)) : Q (.ref p) H' :=
  (Stg.start S).fin e (c := ⟨.own, v⟩) ⟨p, rfl, n, o⟩ h
theorem re_newK : RE X (.Dict [] [] pos) (eNew (.dk [] [])) := fun W tk => PE_imp pe_dnewK fun σ H Q ⟨Z, A, γ, S, h⟩ p np => EndE.new S (same_new np) np (by simp only [Own]; exact ⟨[], upd_same, rfl, Reps.nil⟩) h
end
end Mi

set_option Elab.async false
set_option linter.all false
set_option maxRecDepth 100000
set_option maxHeartbeats 4000000
/-! dict comprehensions; {}; (a, *b); list of a dict -/
namespace Mi
open PySem PySem.Spec PyProof.Rows L2 My

def dcompM (t : Tg) (tt : FT) (fk f : FE) (vs : List Nat) : List Key → List MV → List MV → Sg → Option (List Key × List MV × Sg)
  | ks, rs, [], γ => some (ks, rs, γ)
  | ks, rs, m :: ms, γ => match asgM t m γ with
    | none => none
    | some γ1 => match tt γ1 with
      | .ok true γ2 => (match fk γ2 with
        | .ok ck γ3 => (match keyM ck.v with
          | some k => (match f γ3 with
            | .ok c γ4 => if rs.length < sizeLine then (if (dFind ks rs k).isSome then dcompM t tt fk f vs ks (dVals ks rs k c.v) ms (wipeG γ4 vs) else dcompM t tt fk f vs (ks ++ [k]) (rs ++ [c.v]) ms (wipeG γ4 vs)) else none
            | _ => none)
          | none => none)
        | _ => none)
      | .ok false γ2 => dcompM t tt fk f vs ks rs ms (wipeG γ2 vs)
      | _ => none
def eDcomp (t : Tg) (fi : FI) (tt : FT) (fk f : FE) (vs : List Nat) : FE := fun γ => match fi γ with
  | .ok ms γ1 => if ms.length ≤ sizeLine then (match dcompM t tt fk f vs [] [] ms (wipeG γ1 vs) with
    | some (ks, rs, γ2) => .ok ⟨.own, .dk ks rs⟩ (backG γ1 vs γ2)
    | none => .no) else .no
  | .ex e γ1 => .ex e γ1
  | .no => .no
theorem dcomp_end {X : Cx} {t : Tg} {fi : FI} {tt : FT} {fk f : FE} {vs : List Nat} {W : WX} (hsub : ∀ i ∈ t.slots, i ∈ vs) {σ : L2.St} {H : Hp} {Q : VK} (h : tME (GX X) (eDcomp t fi tt fk f vs) W σ H Q) :
    tDc (tMI (GX X) fi W) (tMG (GX X) t) (tMT (GX X) tt Bot) (tME (GX X) fk Bot) (tME (GX X) f Bot) vs σ H Q := by
  obtain ⟨Z, A, γ, S, h⟩ := h
  refine ⟨Z, A, γ, S, ?_⟩
  unfold eDcomp at h
  cases E1 : fi γ with
  | no => rw [E1] at h; exact h
  | ex e γ1 => rw [E1] at h; exact h
  | ok ms γ1 =>
    rw [E1] at h
    simp only at h
    intro J l A1 H1 P src T K p1 D nD
    split at h
    rotate_left
    · exact h.elim
    rename_i hz
    cases E2 : dcompM t tt fk f vs [] [] ms (wipeG γ1 vs) with
    | none => rw [E2] at h; exact h.elim
    | some r =>
      obtain ⟨kall, all, γf⟩ := r
      rw [E2] at h
      simp only at h
      have S1 := T.sim
      have nsrc : ¬ src D := fun hs => by
        obtain ⟨o, ho⟩ := K.at_ p1 hs
        rw [nD] at ho
        cases ho
      have eD : Same H1 (upd H1 D (.dK [])) := same_new nD
      have Sw := S1.wait eD nD (o := .dK []) upd_same
      obtain ⟨A2, le2, S2⟩ := Sw.wipe vs
      have nf : ∀ u, ¬ (Z.waits l).F D u := S1.nF nD
      have pw : P ((Z.waits l).wait D (.dK [])) A1 (upd H1 D (.dK [])) := K.wait p1 eD nD
      refine ⟨fun i m H' => m = ms.length - i ∧ i ≤ ms.length ∧ ∃ A' γ' ks acc rs, Sim (GX X) ((Z.waits l).wait D (.dK (ks.zip acc))) A' γ' (L2.wipe σ vs) H' ∧ (∀ j ∈ vs, γ'[j]? = none ∨ γ'[j]? = some none) ∧ Reps (GX X) (Mz ((Z.waits l).wait D (.dK (ks.zip acc))) A') H' rs acc ∧
          P ((Z.waits l).wait D (.dK (ks.zip acc))) A' H' ∧ dcompM t tt fk f vs ks rs (ms.drop i) γ' = some (kall, all, γf) ∧ ks.length = acc.length ∧ Le A' A1 ∧ Keep (Mz (Z.waits l) A1) H1 H' ∧ rs.length ≤ i,
        ⟨ms.length, by simp, Nat.zero_le _, A2, wipeG γ1 vs, [], [], [], S2, fun j hj => wipeG_at hj, Reps.nil, ?_, by rw [List.drop_zero]; exact E2, rfl, le2, .of_same eD, Nat.le_refl _⟩, ?_⟩
      · exact K.stp pw Sw S2 (.of le2 .refl)
      · rintro i m H' ⟨rfl, hi, A', γ', ks, acc, rs, S', hv, hrs, p', hc, hkl, le', k', hri⟩
        by_cases hlt : i < ms.length
        · refine .inr ⟨K.go hlt p', fun H3 => i + 1 ≤ ms.length ∧ ∃ A3 γ3 ks3 acc3 rs3, Sim (GX X) ((Z.waits l).wait D (.dK (ks3.zip acc3))) A3 γ3 (L2.wipe σ vs) H3 ∧ (∀ j ∈ vs, γ3[j]? = none ∨ γ3[j]? = some none) ∧ Reps (GX X) (Mz ((Z.waits l).wait D (.dK (ks3.zip acc3))) A3) H3 rs3 acc3 ∧
              P ((Z.waits l).wait D (.dK (ks3.zip acc3))) A3 H3 ∧ dcompM t tt fk f vs ks3 rs3 (ms.drop (i + 1)) γ3 = some (kall, all, γf) ∧ ks3.length = acc3.length ∧ Le A3 A1 ∧ Keep (Mz (Z.waits l) A1) H1 H3 ∧ rs3.length ≤ i + 1,
            fun H3 q => ⟨ms.length - (i + 1), by omega, rfl, q.1, q.2⟩, fun x H2 y => ?_⟩
          obtain ⟨e2, m, hm, r2⟩ := K.yld p' S' hlt y
          have em : ms.drop i = m :: ms.drop (i + 1) := by
            rw [List.drop_eq_getElem_cons hlt]
            rw [List.getElem?_eq_getElem hlt] at hm
            rw [Option.some.inj hm]
          rw [em] at hc
          simp only [dcompM] at hc
          have S2 := S'.same e2
          have st2 : Stp ((Z.waits l).wait D (.dK (ks.zip acc))) A' H' A' H2 := .of_same e2
          have p2 := K.stp p' S' S2 st2
          -- from the start to a later place
          have kk : ∀ {A3 H3}, Le A3 A' → Keep (Mz ((Z.waits l).wait D (.dK (ks.zip acc))) A') H' H3 → Keep (Mz (Z.waits l) A1) H1 H3 := fun {A3 H3} le3 k3 => k'.trans k3 fun b o hb m => by
            rcases (mz_wait b).mp m with m | rfl
            · exact le'.mz b m
            · rw [nD] at hb; cases hb
          cases E3 : asgM t m γ' with
          | none => rw [E3] at hc; cases hc
          | some γ2 =>
            rw [E3] at hc
            simp only at hc
            refine ⟨_, A', γ', m, S2, r2, γ2, E3, fun σ3 A3 S3 le3 out3 => ⟨?_, ?_⟩⟩
            · rw [← wipe_wipe (σ := σ)]
              exact wipe_eq (by rw [← S3.len, ← S2.len]; exact (asgM_len _ _ _ _ E3)) fun j hj => out3 j fun z => hj (hsub j z)
            have hw : L2.wipe σ3 vs = L2.wipe σ vs := by
              rw [← wipe_wipe (σ := σ)]
              exact wipe_eq (by rw [← S3.len, ← S2.len]; exact (asgM_len _ _ _ _ E3)) fun j hj => out3 j fun z => hj (hsub j z)
            refine ⟨_, A3, γ2, S3, ?_⟩
            cases E4 : tt γ2 with
            | no => rw [E4] at hc; cases hc
            | ex e γ3 => rw [E4] at hc; cases hc
            | ok b γ3 =>
              rw [E4] at hc
              intro A4 H4 S4 le4 k4
              have k4' : Keep (Mz ((Z.waits l).wait D (.dK (ks.zip acc))) A') H' H4 := (Keep.of_same e2).trans (k4.mono fun b m => le3.mz b m) fun _ _ _ m => m
              have p4 := K.stp p2 S2 S4 (.of (le4.trans le3) (k4.mono fun b m => le3.mz b m))
              cases b with
              | false =>
                simp only at hc
                simp only [Bool.false_eq_true, if_false]
                obtain ⟨A5, le5, S5⟩ := S4.wipe vs
                rw [hw] at S5
                have l5 : Le A5 A' := le5.trans (le4.trans le3)
                exact ⟨hlt, A5, wipeG γ3 vs, ks, acc, rs, S5, fun j hj => wipeG_at hj, hrs.keep k4' fun b _ _ m => l5.mz b m, K.stp p4 S4 S5 (.of le5 .refl), hc, hkl, l5.trans le', kk l5 k4', by omega⟩
              | true =>
                simp only at hc
                simp only [if_true]
                refine ⟨_, A4, γ3, S4, ?_⟩
                cases E5 : fk γ3 with
                | no => rw [E5] at hc; cases hc
                | ex e γ5 => rw [E5] at hc; cases hc
                | ok ck γ5 =>
                  rw [E5] at hc
                  simp only at hc
                  cases E6 : keyM ck.v with
                  | none => rw [E6] at hc; cases hc
                  | some k =>
                  rw [E6] at hc
                  simp only at hc
                  intro yk Ak Hk hsk lek kk5
                  have eyk : yk = kV k := by
                    have r := hsk.rep
                    exact keyM_rep E6 r
                  have Sk := hsk.sim
                  refine ⟨_, Ak, γ5, Sk, ?_⟩
                  cases E7 : f γ5 with
                  | no => rw [E7] at hc; cases hc
                  | ex e γ6 => rw [E7] at hc; cases hc
                  | ok c γ6 =>
                  rw [E7] at hc
                  simp only at hc
                  intro yv A5 H5 hs5 le5' k5a
                  have le5 : Le A5 A4 := le5'.trans lek
                  have k5 : Keep (Mz ((Z.waits l).wait D (.dK (ks.zip acc))) A4) H4 H5 := kk5.trans (k5a.mono fun b m => lek.mz b m) fun _ _ _ m => m
                  have S5 := hs5.sim
                  have l5 : Le A5 A' := le5.trans (le4.trans le3)
                  have k5' : Keep (Mz ((Z.waits l).wait D (.dK (ks.zip acc))) A') H' H5 := k4'.trans (k5.mono fun b m => (le4.trans le3).mz b m) fun _ _ _ m => m
                  have hD5 := S5.waits
                  have hrs5 := hrs.keep k5' fun b _ _ m => l5.mz b m
                  have hkl' : ks.length = rs.length := by rw [hkl, hrs5.len]
                  split at hc
                  rotate_left
                  · cases hc
                  rename_i hzk
                  refine ⟨ks.zip acc, k, eyk, hD5, by rw [List.length_zip, ← hkl, Nat.min_self]; omega, hlt, ?_⟩
                  have fin : ∀ (ks2 : List Key) (acc2 : List V) (rs2 : List MV), putK (ks.zip acc) k yv = ks2.zip acc2 → ks2.length = acc2.length → rs2.length ≤ i + 1 →
                      (∀ H6, Keep (Mz ((Z.waits l).wait D (.dK (ks.zip acc))) A5) H5 H6 → Reps (GX X) (Mz ((Z.waits l).wait D (.dK (ks.zip acc))) A5) H6 rs2 acc2) →
                      dcompM t tt fk f vs ks2 rs2 (ms.drop (i + 1)) (wipeG γ6 vs) = some (kall, all, γf) →
                      ∃ A3 γ3 ks3 acc3 rs3, Sim (GX X) ((Z.waits l).wait D (.dK (ks3.zip acc3))) A3 γ3 (L2.wipe σ vs) (upd H5 D (.dK (putK (ks.zip acc) k yv))) ∧ (∀ j ∈ vs, γ3[j]? = none ∨ γ3[j]? = some none) ∧ Reps (GX X) (Mz ((Z.waits l).wait D (.dK (ks3.zip acc3))) A3) (upd H5 D (.dK (putK (ks.zip acc) k yv))) rs3 acc3 ∧
                        P ((Z.waits l).wait D (.dK (ks3.zip acc3))) A3 (upd H5 D (.dK (putK (ks.zip acc) k yv))) ∧ dcompM t tt fk f vs ks3 rs3 (ms.drop (i + 1)) γ3 = some (kall, all, γf) ∧ ks3.length = acc3.length ∧ Le A3 A1 ∧ Keep (Mz (Z.waits l) A1) H1 (upd H5 D (.dK (putK (ks.zip acc) k yv))) ∧ rs3.length ≤ i + 1 := by
                    intro ks2 acc2 rs2 ep el er hr hc2
                    rw [ep]
                    have S6 := Sim.rew (o' := .dK (ks2.zip acc2)) nt_dK nf S5
                    obtain ⟨A7, le7, S7⟩ := S6.wipe vs
                    rw [hw] at S7
                    have ku : Keep (Mz ((Z.waits l).wait D (.dK (ks.zip acc))) A5) H5 (upd H5 D (.dK (ks2.zip acc2))) := Keep.upd wait_in
                    have l7 : Le A7 A' := le7.trans l5
                    have k7 : Keep (Mz ((Z.waits l).wait D (.dK (ks.zip acc))) A') H' (upd H5 D (.dK (ks2.zip acc2))) := k5'.trans (ku.mono fun b m => l5.mz b m) fun _ _ _ m => m
                    refine ⟨A7, wipeG γ6 vs, ks2, acc2, rs2, S7, fun j hj => wipeG_at hj, ?_, ?_, hc2, el, l7.trans le', kk l7 k7, er⟩
                    · exact (hr _ ku).keep .refl fun b _ _ m => le7.mz b (wait_same b m)
                    · have p5 := K.stp p4 S4 S5 (.of le5 k5)
                      have p6 := K.rew (o' := .dK (ks2.zip acc2)) nsrc p5
                      exact K.stp p6 S6 S7 (.of le7 .refl)
                  split at hc
                  · rename_i hin
                    have hin' : k ∈ ks := (dFind_some (k := k) (vs := rs) (ks := ks) hkl').mp hin
                    refine fin ks _ (dVals ks rs k c.v) (putK_in hkl hin') (by rw [zipW_len hkl]; exact hkl) ?_ (fun H6 k6 => ?_) hc
                    · unfold dVals
                      rw [List.length_zipWith, hkl', Nat.min_self]
                      omega
                    · exact (vals_rep hs5.rep hrs5 hkl).keep k6 fun _ _ _ m => m
                  · rename_i hin
                    have hin' : k ∉ ks := fun h => hin ((dFind_some (k := k) (vs := rs) (ks := ks) hkl').mpr h)
                    refine fin (ks ++ [k]) (acc ++ [yv]) (rs ++ [c.v]) (putK_out hkl hin') (by simp [hkl]) (by simp; omega) (fun H6 k6 => ?_) hc
                    exact (Reps.app hrs5 (Reps.one hs5.rep)).keep k6 fun _ _ _ m => m
        · have e : i = ms.length := by omega
          subst e
          rw [List.drop_length] at hc
          simp only [dcompM] at hc
          cases hc
          refine .inl ⟨K.stop p', ?_⟩
          have k0 : Keep (Mz Z A) H H' := Keep.waits k' T.nw T.kp T.le
          have nD0 : H D = none := T.kp.isnone nD
          have S'' := S'
          rw [← waits_wait] at S''
          have Sz : Sim (GX X) (Z.wait D (.dK (kall.zip acc))) A' γf (L2.wipe σ vs) H' := S''.drops
          refine h (.ref D) A' H' ⟨D, .dK (kall.zip acc), rfl, nD0, fun m => ?_, ?_, ?_⟩ (le'.trans T.le) k0
          · obtain ⟨o, ho⟩ := S.mf D m
            rw [nD0] at ho
            cases ho
          · simp only [Own]
            exact ⟨acc, S'.waits, hkl, hrs.keep .refl fun b _ _ m => by
              rw [mz_wait] at m ⊢
              exact m.imp_left fun m => (waits_mz l b).mpr (.inl m)⟩
          · exact Sim.backG S1 Sz hv k' fun b o hb m => by
              rcases (mz_wait b).mp m with m | rfl
              · exact (waits_mz l b).mpr (.inl (le'.mz b m))
              · rw [nD] at hb; cases hb
section
variable {X : Cx} {kx elt tg iter : Expr} {ifs : List Expr} {scope : Scope} {own : List (Str × Nat)} {pos : Pos} {t : Tg} {fi : FI} {tt : FT} {fk f : FE}
theorem re_dc (hc : X.calm = true) (hN : X.N.Nodup) (hi : RI X tg iter fi) (ok : BlkOk X.N X.env.scope scope own)
    (hg : ∀ (s : Shared) (H : Hp) (C : Addr) (cl : List (Str × Addr)) (fp : List Addr), RG (X.blk s H scope (compEnvC scope cl C X.env) fp) tg t)
    (ht : ∀ (s : Shared) (H : Hp) (C : Addr) (cl : List (Str × Addr)) (fp : List Addr), RTs (X.blk s H scope (compEnvC scope cl C X.env) fp) ifs tt)
    (hk : ∀ (s : Shared) (H : Hp) (C : Addr) (cl : List (Str × Addr)) (fp : List Addr), RE (X.blk s H scope (compEnvC scope cl C X.env) fp) kx fk)
    (he : ∀ (s : Shared) (H : Hp) (C : Addr) (cl : List (Str × Addr)) (fp : List Addr), RE (X.blk s H scope (compEnvC scope cl C X.env) fp) elt f)
    (hsub : ∀ i ∈ t.slots, i ∈ own.map (·.2) := by decide) (hs : ∀ x, foldedSetIterable iter X.env x = pure x := by intro _; rfl) :
    RE X (.DictComp kx elt [⟨tg, iter, ifs, 0⟩] scope pos) (eDcomp t fi tt fk f (own.map (·.2))) := fun W tk =>
  PE_imp (pe_dc (g := tMG (GX X) t) (tt := tMT (GX X) tt Bot) (tk := tME (GX X) fk Bot) (tv := tME (GX X) f Bot) hc hN (hi W tk) ok (fun s H C cl fp => hg s H C cl fp) (fun s H C cl fp => ht s H C cl fp Bot takes_bot) (fun s H C cl fp => hk s H C cl fp Bot takes_bot) (fun s H C cl fp => he s H C cl fp Bot takes_bot) hs) fun σ H Q h => dcomp_end hsub h
end
end Mi

set_option Elab.async false
set_option linter.all false
set_option maxRecDepth 100000
set_option maxHeartbeats 4000000
/-! classes with slots: attributes, methods, properties -/
namespace Mi
open PySem PySem.Spec PyProof.Rows L2 My

def tbF {α : Type} : List (Str × α) → Str → Option α
  | [], _ => none
  | p :: r, C => if p.1 = C then some p.2 else tbF r C
theorem tbF_mem {α : Type} {C : Str} {a : α} : ∀ {tb : List (Str × α)}, tbF tb C = some a → (C, a) ∈ tb
  | [], h => by cases h
  | p :: r, h => by
    unfold tbF at h
    split at h
    · rename_i e
      cases h
      subst e
      exact List.mem_cons_self
    · exact List.mem_cons_of_mem _ (tbF_mem h)
/-- class p.1 has its slot p.2 as attribute f -/
structure AtF (K : PySem.W.Frag) (f : Str) (p : Str × Nat) : Prop where
  ne : p.1 ≠ ("" : Str)
  c : SlX.SCls K (He.ga K p.1)
  s : SlX.Slot1 K (He.ga K p.1) f (He.ma K (He.ga K p.1) f) p.2
def atrM (tb : List (Str × Nat)) : MV → Option Cell
  | .ins C vs => (tbF tb C).bind fun i => (vs[i]?).map vV
  | _ => none
theorem rb_ins {G : GG} {M : Addr → Prop} {H : Hp} {C : Str} {ms : List MV} {x : V} (n : C ≠ ("" : Str)) (h : RepB G M H (.ins C ms) x) : ∃ a dx vs, x = .ref a ∧ SlX.Slt H a (He.ga G.K C) dx (vs.map some) ∧ Reps G M H ms vs ∧ Rep G M H (.ins C ms) (.ref a) := by
  rcases h with h | ⟨a, rfl, h⟩
  · have h0 := h
    simp only [Rep] at h
    rcases h with ⟨e, _⟩ | ⟨a, dx, vs, rfl, h1, h2, _, _, h3⟩
    · exact absurd e n
    · exact ⟨a, dx, vs, rfl, .inr ⟨h1, h2⟩, h3, h0⟩
  · simp only [Own] at h
    exact absurd h.1 n
section
variable {X : Cx} {a e o : Expr} {es : List Expr} {q : Opd} {pos apos p : Pos} {f m : Str} {ff : FE} {fa : FA} {k j n : Nat} {pl : Sem Bool}
theorem re_attr {tb : List (Str × Nat)} (ht : ∀ p ∈ tb, AtF X.K f p) (ha : RQ X a q) (hb : attributeBase a f X.env (eval a X.env) = eval a X.env := by rfl) : RE X (.Attribute a f pos) (e1 (atrM tb) q) := fun W tk =>
  PE_imp (SlX.pe_sl (ha W tk) hb) fun σ H Q h => one (r := fun x H1 Q => ∃ a C dx p vs i v, x = .ref a ∧ SlX.Slt H1 a C dx vs ∧ SlX.SCls X.K C ∧ SlX.Slot1 X.K C f p i ∧ vs[i]? = some (some v) ∧ Q v H1) (fun M v c x H Q tr e rv qq => by
    unfold atrM at e
    split at e
    · rename_i C ms
      obtain ⟨i, e1, e⟩ := Option.bind_eq_some_iff.mp e
      obtain ⟨m, e2, rfl⟩ := Option.map_eq_some_iff.mp e
      have A := ht _ (tbF_mem e1)
      obtain ⟨a, dx, vs, rfl, h1, h2, _⟩ := rb_ins A.ne rv
      obtain ⟨y, hy, ry⟩ := h2.get e2
      exact ⟨a, _, dx, _, _, i, y, rfl, h1, A.c, A.s, by rw [List.getElem?_map, hy]; rfl, qq y H (.refl _) (res_val ry)⟩
    · cases e) h
/-! ### methods -/
def MthM (P : Program) (w : World) (K : PySem.W.Frag) (mg : Str → Option Value) (base : Heap) (k : Nat) (C m : Str) (ps : List Str) (F : List MV → RF) : Prop :=
  C ≠ ("" : Str) ∧ ∃ fd, FnG P w K mg base k (He.ma K (He.ga K C) m) fd ps (spM P w K ps.length none F) ∧ Binds K fd ps [] ∧ SlX.SCls K (He.ga K C) ∧ Meth K (He.ga K C) m (He.ma K (He.ga K C) m)
def eMeth (tb : List (Str × (List MV → RF))) (f : FE) (fa : FA) : FE := fun γ => match f γ with
  | .ok c γ1 => (match c.v with
    | .ins C vs => (match tbF tb C with
      | some F => (match fa γ1 with
        | .ok ms γ2 => (match F (.ins C vs :: ms) with
          | .rt c _ => .ok c γ2
          | .ex e _ => .ex e γ2
          | .no => .no)
        | .ex e γ2 => .ex e γ2
        | .no => .no)
      | none => .no)
    | _ => .no)
  | .ex e γ1 => .ex e γ1
  | .no => .no
def tMethG (X : Cx) (m : Str) (k n : Nat) (E : L2.St → XK) (ta : TE) (t : TA) : TE := fun σ H Q => ta σ H fun x H1 => ∃ C F a dx vs ps, x = V.ref a ∧ ps.length = n + 1 ∧ SlX.Slt H1 a (He.ga X.K C) dx vs ∧ MthM X.prog X.w X.K X.mg X.base k C m ps F ∧ t σ H1 fun ws H2 => spM X.prog X.w X.K (n + 1) none F (V.ref a :: ws) H2 Q (E σ)
theorem pe_methG {E : L2.St → XK} {ta : TE} {t : TA} (hr : Room j X.A) (hgd : X.A.guards = some []) (hx : ∀ σ (pins : List (Addr × Obj)) (H : Hp) (s : Shared) (e : Value) (s' : Shared), L2.Inv X pins σ H s → CX X.prog X.w X.stack H s (E σ) e s' → X.xe e s') (he : PE X o ta) (ha : PA X (e :: es) t) (hk : k ≤ j)
    (hst : starEach (e :: es) X.env = (false, eval e X.env) :: starEach es X.env) (hpl : (backTo pos (starEach es X.env)).any (·.1) = false)
    (ht : eval (.Call (.Attribute o m apos) (e :: es) [] pos) X.env = (do
      let ov ← eval o X.env
      standAt apos.atName
      let (f, first) ← holding [ov] (getMethod ov m pl)
      callWith pos f first (backTo pos (starEach (e :: es) X.env)) (backToKw pos (keywordEach [] X.env)))) :
    PE X (.Call (.Attribute o m apos) (e :: es) [] pos) (tMethG X m k n E ta t) := by
  refine ⟨fun pins s σ H Q I h => ?_⟩
  refine PySem.W.methodCall_KW (pl := pl) (thn (he.run pins s σ H _ I h) fun u s1 ⟨x, H1, I1, rx, C, F, a, dx, vs, ps, ex, hps, hsl, ⟨_, fd, G, b, c, hm⟩, q⟩ => ?_) ht
  subst ex
  obtain rfl : u = Value.ref a := rx
  refine SlX.getmethsl_ok I1 hsl c hm ?_
  refine PySem.W.callWith_K (first := [.ref a]) (h₀ := X.base) I.ok.mod.kin hm.kp (thn (ha.run pos pins s1 σ H1 _ I1 q) fun us s2 ⟨ws, H2, I2, r, q2⟩ => ⟨I2.kIn, ?_⟩) hst hpl
  exact run_fnG (us := .ref a :: us) (vs := .ref a :: ws) G (hr.mono hk) hgd b .nil (hx σ) I2 (.cons rfl r) (by rw [List.append_nil, hps]; exact q2)
theorem pe_methG0 {E : L2.St → XK} {ta : TE} (hr : Room j X.A) (hgd : X.A.guards = some []) (hx : ∀ σ (pins : List (Addr × Obj)) (H : Hp) (s : Shared) (e : Value) (s' : Shared), L2.Inv X pins σ H s → CX X.prog X.w X.stack H s (E σ) e s' → X.xe e s') (he : PE X o ta) (hk : k ≤ j)
    (ht : eval (.Call (.Attribute o m apos) [] [] pos) X.env = (do
      let ov ← eval o X.env
      standAt apos.atName
      let (f, first) ← holding [ov] (getMethod ov m pl)
      callWith pos f first (backTo pos (starEach [] X.env)) (backToKw pos (keywordEach [] X.env)))) :
    PE X (.Call (.Attribute o m apos) [] [] pos) (tMethG X m k 0 E ta tNil) := by
  refine ⟨fun pins s σ H Q I h => ?_⟩
  refine PySem.W.methodCall_KW (pl := pl) (thn (he.run pins s σ H _ I h) fun u s1 ⟨x, H1, I1, rx, C, F, a, dx, vs, ps, ex, hps, hsl, ⟨_, fd, G, b, c, hm⟩, q⟩ => ?_) ht
  subst ex
  obtain rfl : u = Value.ref a := rx
  refine SlX.getmethsl_ok I1 hsl c hm ?_
  exact PySem.W.callWith_K0 I1.kIn hm.kp (run_fnG (us := [.ref a]) (vs := [.ref a]) G (hr.mono hk) hgd b .nil (hx σ) I1 (.cons rfl .nil) (by rw [List.append_nil, hps]; exact q))
/-- a table of methods of one name -/
def MTb (X : Cx) (k n : Nat) (m : Str) (tb : List (Str × (List MV → RF))) : Prop := ∀ p ∈ tb, ∃ ps : List Str, ps.length = n + 1 ∧ MthM X.prog X.w X.K X.mg X.base k p.1 m ps p.2
theorem re_meth {tb : List (Str × (List MV → RF))} (ht : MTb X k n m tb) (hr : Room j X.A) (hgd : X.A.guards = some []) (he : RE X o ff) (ha : RA X (e :: es) fa) (hl : Lim n fa) (hk : k ≤ j := by decide)
    (hst : starEach (e :: es) X.env = (false, eval e X.env) :: starEach es X.env := by rfl) (hpl : (backTo pos (starEach es X.env)).any (·.1) = false := by rfl)
    (hv : eval (.Call (.Attribute o m apos) (e :: es) [] pos) X.env = (do
      let ov ← eval o X.env
      standAt apos.atName
      let (f, first) ← holding [ov] (getMethod ov m pl)
      callWith pos f first (backTo pos (starEach (e :: es) X.env)) (backToKw pos (keywordEach [] X.env))) := by rfl) :
    RE X (.Call (.Attribute o m apos) (e :: es) [] pos) (eMeth tb ff fa) := fun W tk => by
  refine PE_imp (pe_methG (n := n) (k := k) (E := fun σ cls d H => W cls d σ H) hr hgd (xpass tk) (he W tk) (ha W tk) hk hst hpl hv) fun σ H Q ⟨Z, A, γ, S, h⟩ => ⟨Z, A, γ, S, ?_⟩
  unfold eMeth at h
  cases E1 : ff γ with
  | no => rw [E1] at h; exact h
  | ex e γ1 => rw [E1] at h; exact h
  | ok c γ1 =>
    rw [E1] at h
    simp only at h
    intro x A1 H1 hs le1 k1
    cases ec : c.v with
    | ins C vs =>
      have hrep := hs.rep
      rw [ec] at h hrep
      simp only at h
      cases E2 : tbF tb C with
      | none => rw [E2] at h; exact h.elim
      | some F =>
        rw [E2] at h
        simp only at h
        obtain ⟨ps, hps, M⟩ := ht _ (tbF_mem E2)
        obtain ⟨a, dx, ws, rfl, h1, _, hrp⟩ := rb_ins M.1 (.inl hrep)
        have S1 := hs.sim
        refine ⟨C, F, a, dx, _, ps, rfl, hps, h1, M, Z, A1, γ1, S1, ?_⟩
        cases E3 : fa γ1 with
        | no => rw [E3] at h; exact h
        | ex e γ2 => rw [E3] at h; exact fun A2 H2 cls d S le2 kk => h A2 H2 cls d S (le2.trans le1) (k1.trans kk fun b _ _ m => le1.mz b m)
        | ok ms γ2 =>
          rw [E3] at h
          intro xs A2 H2 S2 le2 kk r2
          have q := call_end (F := F) (ms := .ins C vs :: ms) (xs := .ref a :: xs) (n := n + 1) (Q := Q) S2 (le2.trans le1) (k1.trans kk fun b _ _ m => le1.mz b m) (Reps.consI (hrp.keep kk fun b _ _ m => le2.mz b m) r2) (by rw [List.length_cons, hl _ _ _ E3]) h
          rwa [List.append_nil] at q
    | _ => rw [ec] at h; exact h.elim
theorem re_meth0 {tb : List (Str × (List MV → RF))} (ht : MTb X k 0 m tb) (hr : Room j X.A) (hgd : X.A.guards = some []) (he : RE X o ff) (hk : k ≤ j := by decide)
    (hv : eval (.Call (.Attribute o m apos) [] [] pos) X.env = (do
      let ov ← eval o X.env
      standAt apos.atName
      let (f, first) ← holding [ov] (getMethod ov m pl)
      callWith pos f first (backTo pos (starEach [] X.env)) (backToKw pos (keywordEach [] X.env))) := by rfl) :
    RE X (.Call (.Attribute o m apos) [] [] pos) (eMeth tb ff aNil) := fun W tk => by
  refine PE_imp (pe_methG0 (k := k) (E := fun σ cls d H => W cls d σ H) hr hgd (xpass tk) (he W tk) hk hv) fun σ H Q ⟨Z, A, γ, S, h⟩ => ⟨Z, A, γ, S, ?_⟩
  unfold eMeth at h
  cases E1 : ff γ with
  | no => rw [E1] at h; exact h
  | ex e γ1 => rw [E1] at h; exact h
  | ok c γ1 =>
    rw [E1] at h
    simp only at h
    intro x A1 H1 hs le1 k1
    cases ec : c.v with
    | ins C vs =>
      have hrep := hs.rep
      rw [ec] at h hrep
      simp only at h
      cases E2 : tbF tb C with
      | none => rw [E2] at h; exact h.elim
      | some F =>
        rw [E2] at h
        simp only at h
        obtain ⟨ps, hps, M⟩ := ht _ (tbF_mem E2)
        obtain ⟨a, dx, ws, rfl, h1, _, hrp⟩ := rb_ins M.1 (.inl hrep)
        have S1 := hs.sim
        refine ⟨C, F, a, dx, _, ps, rfl, hps, h1, M, ?_⟩
        have E3 : aNil γ1 = .ok [] γ1 := rfl
        rw [E3] at h
        have q := call_end (F := F) (ms := [.ins C vs]) (xs := [.ref a]) (n := 0 + 1) (Q := Q) S1 le1 k1 (Reps.consI hrp Reps.nil) rfl h
        rwa [List.append_nil] at q
    | _ => rw [ec] at h; exact h.elim
/-! ### properties -/
def PrpM (P : Program) (w : World) (K : PySem.W.Frag) (mg : Str → Option Value) (base : Heap) (k : Nat) (C f : Str) (F : List MV → RF) : Prop :=
  C ≠ ("" : Str) ∧ SlX.SCls K (He.ga K C) ∧ ∃ p g fd ps, ps.length = 1 ∧ FnG P w K mg base k g fd ps (spM P w K 1 none F) ∧ Binds K fd ps [] ∧ PropOf K (He.ga K C) f p g
theorem getprop_G {a C dx p g : Addr} {vs : List (Option V)} {E : L2.St → XK} {sp : Sp} {fd : FuncData} {ps : List Str} {pins : List (Addr × Obj)} {s : Shared} {σ : L2.St} {H : Hp} {b : Bool} {Q : VK} (I : L2.Inv X pins σ H s) (h : SlX.Slt H a C dx vs) (c : SlX.SCls X.K C) (pr : PropOf X.K C f p g)
    (F : FnG X.prog X.w X.K X.mg X.base k g fd ps sp) (hb : Binds X.K fd ps []) (hr : Room (k + 1) X.A) (hgd : X.A.guards = some []) (hx : ∀ (pins : List (Addr × Obj)) (H : Hp) (s : Shared) (e : Value) (s' : Shared), L2.Inv X pins σ H s → CX X.prog X.w X.stack H s (E σ) e s' → False) (hl : ps.length = 1)
    (q : sp [.ref a] H Q (E σ)) : wpAny (model X.prog X.w) X.A (getAttr (.ref a) f b) (EP X pins σ Q) X.xe s := by
  obtain ⟨sl, od, _, J, _⟩ := SlX.slt_inst I h
  obtain ⟨at_, get, tk, rest, hrec⟩ := pr
  have I1 : L2.Inv X pins σ H { s with toks := s.toks + 1 } := I.tok (s.toks + 1)
  refine PySem.W.get_bind I.kIn J (PySem.W.plainGet_of (c.get f)).1 (PySem.W.findObj_data c.ic at_ get tk) (PySem.W.plainGet_of (c.get f)).2 (wpAny_call (PySem.W.prop_get (s := { s with toks := s.toks + 1 }) I.kIn hrec ?_))
  refine codeAny_mono (F.run X.A.in1 X.stack { s with toks := s.toks + 1 } H ⟨[.ref a], []⟩ [.ref a] [.ref a] Q (E σ) hr.in1 hgd I1.env0.in1 ?_ (.cons rfl .nil) q) fun r s' hq => ?_
  · have := hb { s with toks := s.toks + 1 } [.ref a] I.kIn (by rw [List.append_nil]; exact hl.symm)
    rwa [List.append_nil] at this
  cases r with
  | error e => exact (hx _ _ _ _ _ I1 hq).elim
  | ok fl =>
    cases fl with
    | ret u =>
      obtain ⟨v, H', I2, rv, q⟩ := I1.after hq
      exact wpAny_of_eq (PySem.W.handedOut_of (handed_of rv)) ⟨v, H', I2, rv, q⟩
    | next => exact False.elim hq
    | brk => exact False.elim hq
    | cont => exact False.elim hq
/-- e.f, a property (one that does not raise) -/
def eProp (tb : List (Str × (List MV → RF))) (f : FE) : FE := fun γ => match f γ with
  | .ok c γ1 => (match c.v with
    | .ins C vs => (match tbF tb C with
      | some F => (match F [.ins C vs] with
        | .rt c _ => .ok c γ1
        | _ => .no)
      | none => .no)
    | _ => .no)
  | .ex e γ1 => .ex e γ1
  | .no => .no
theorem re_prop {tb : List (Str × (List MV → RF))} (ht : ∀ p ∈ tb, PrpM X.prog X.w X.K X.mg X.base k p.1 f p.2) (hr : Room j X.A) (hgd : X.A.guards = some []) (he : RE X o ff) (hk : k + 1 ≤ j := by decide)
    (hb : attributeBase o f X.env (eval o X.env) = eval o X.env := by rfl) : RE X (.Attribute o f pos) (eProp tb ff) := fun W tk => by
  refine ⟨fun pins s σ H Q I h => ?_⟩
  refine attr_of hb (thn ((he W tk).run pins s σ H (fun x H1 => ∃ C F a dx vs, (C, F) ∈ tb ∧ x = V.ref a ∧ SlX.Slt H1 a (He.ga X.K C) dx vs ∧ spM X.prog X.w X.K 1 none F [.ref a] H1 Q (fun _ _ _ => False)) I ?_) fun w s1 ⟨x, H1, I1, rx, C, F, a, dx, vs, mem, ex, hs, q⟩ => ?_)
  · obtain ⟨Z, A, γ, S, h⟩ := h
    refine ⟨Z, A, γ, S, ?_⟩
    unfold eProp at h
    cases E1 : ff γ with
    | no => rw [E1] at h; exact h
    | ex e γ1 => rw [E1] at h; exact h
    | ok c γ1 =>
      rw [E1] at h
      simp only at h
      intro x A1 H1 hs le1 k1
      cases ec : c.v with
      | ins C vs =>
        have hrep := hs.rep
        rw [ec] at h hrep
        simp only at h
        cases E2 : tbF tb C with
        | none => rw [E2] at h; exact h.elim
        | some F =>
          rw [E2] at h
          simp only at h
          have M := ht _ (tbF_mem E2)
          obtain ⟨a, dx, ws, rfl, h1, _, hrp⟩ := rb_ins M.1 (.inl hrep)
          refine ⟨C, F, a, dx, _, tbF_mem E2, rfl, h1, ?_⟩
          cases E3 : F [.ins C vs] with
          | no => rw [E3] at h; exact h.elim
          | ex e o => rw [E3] at h; exact h.elim
          | rt c2 o =>
            rw [E3] at h
            have q := call_end (F := F) (ms := [.ins C vs]) (xs := [.ref a]) (n := 0 + 1) (Q := Q) (W := Bot) hs.sim le1 k1 (Reps.consI hrp Reps.nil) rfl (by rw [E3]; exact h)
            rwa [List.append_nil] at q
      | _ => rw [ec] at h; exact h.elim
  · subst ex
    obtain rfl : w = Value.ref a := rx
    obtain ⟨_, c, p, g, fd, ps, hl, G, hbd, pr⟩ := ht _ mem
    exact getprop_G (E := fun _ _ _ _ => False) I1 hs c pr G hbd (hr.mono hk) hgd (fun pins H s e s' I2 cx => by obtain ⟨_, _, _, _, _, _, _, _, _, _, _, _, hE⟩ := cx; exact hE) hl q
end
end Mi

set_option Elab.async false
set_option linter.all false
set_option maxRecDepth 100000
set_option maxHeartbeats 4000000
/-! classes with slots: making instances -/
namespace Mi
open PySem PySem.Spec PyProof.Rows L2 My

/-- what __init__ leaves: the slots -/
inductive RIF where
  | rt (fs : List MV) | ex (e : Ex) | no
abbrev selfV : MV := .ins ("" : Str) []
/-- the instance while it is made: so many slots are filled -/
def oI (a C dx : Addr) : List (Option V) → HO
  | [] => .ins C dx []
  | v :: vs => SlX.SlO a C dx (v :: vs)
def dI (a : Addr) : List (Option V) → HO
  | [] => .own a
  | _ => .xd []
theorem slt_oI {H : Hp} {a C dx : Addr} {vs : List (Option V)} (h1 : H a = some (oI a C dx vs)) (h2 : H dx = some (dI a vs)) : SlX.Slt H a C dx vs := by
  cases vs with
  | nil => exact .inl ⟨h1, rfl⟩
  | cons v vs => exact .inr ⟨h1, h2⟩
def entI (G : GG) (H : Hp) (M : Addr → Prop) (a C dx : Addr) (vs : List (Option V)) : Ent :=
  ⟨H, fun b => M b ∨ b = a ∨ b = dx, fun b o => (H b = some o ∧ ¬ G.isT b ∧ b ≠ a ∧ b ≠ dx) ∨ (b = a ∧ o = oI a C dx vs) ∨ (b = dx ∧ o = dI a vs), fun _ => none, fun i => if i = 0 then some (a, oI a C dx vs) else none,
    fun i p h => (by
      split at h
      · cases h; exact .inr (.inl ⟨rfl, rfl⟩)
      · cases h), fun b => G.isT b ∧ M b, fun b h => .inl h.2⟩
/-- some slots hold what is told of them -/
def OReps (G : GG) (M : Addr → Prop) (H : Hp) (ms : List (Option MV)) (vs : List (Option V)) : Prop := vs.length = ms.length ∧ ∀ (i : Nat) m, ms[i]? = some (some m) → ∃ v, vs[i]? = some (some v) ∧ Rep G M H m v
def putM (i : Nat) (v : MV) (vs : List (Option MV)) : List (Option MV) := (vs ++ List.replicate (i + 1 - vs.length) none).set i (some v)
theorem putM_get (i : Nat) (v : MV) (vs : List (Option MV)) : (putM i v vs)[i]? = some (some v) := by
  unfold putM
  exact List.getElem?_set_self (by simp only [List.length_append, List.length_replicate]; omega)
theorem putM_ne {i j : Nat} {v x : MV} {vs : List (Option MV)} (h : j ≠ i) (e : (putM i v vs)[j]? = some (some x)) : vs[j]? = some (some x) := by
  unfold putM at e
  rw [List.getElem?_set_ne (Ne.symm h)] at e
  rcases Nat.lt_or_ge j vs.length with hl | hl
  · rwa [List.getElem?_append_left hl] at e
  · rw [List.getElem?_append_right hl, List.getElem?_replicate] at e
    split at e <;> cases e
theorem putM_len (i : Nat) (v : MV) (vs : List (Option MV)) : (putM i v vs).length = max vs.length (i + 1) := by
  unfold putM
  rw [List.length_set, List.length_append, List.length_replicate]
  omega
theorem putS_len (i : Nat) (v : V) (vs : List (Option V)) : (SlX.putS i v vs).length = max vs.length (i + 1) := by
  unfold SlX.putS
  rw [List.length_set, List.length_append, List.length_replicate]
  omega
section
variable {G : GG} {M M' : Addr → Prop} {H H' H0 : Hp} {ms : List (Option MV)} {vs : List (Option V)} {a dx C : Addr} {A A' : AM} {γ γ' : Sg} {σ σ' : L2.St}
theorem OReps.keep (k : Keep M H H') (m : ∀ b o, H b = some o → M' b → M b) (h : OReps G M H ms vs) : OReps G M' H' ms vs := by
  obtain ⟨h0, h⟩ := h
  refine ⟨h0, fun i x e => ?_⟩
  obtain ⟨v, h1, h2⟩ := h i x e
  exact ⟨v, h1, h2.keep k m⟩
theorem OReps.put {i : Nat} {m : MV} {v : V} (h : OReps G M H ms vs) (r : Rep G M H m v) : OReps G M H (putM i m ms) (SlX.putS i v vs) := by
  refine ⟨by rw [putM_len, putS_len, h.1], fun j x e => ?_⟩
  by_cases hj : j = i
  · subst hj
    rw [putM_get] at e
    cases e
    exact ⟨v, SlX.putS_get j v vs, r⟩
  · obtain ⟨y, h1, h2⟩ := h.2 j x (putM_ne hj e)
    exact ⟨y, (SlX.putS_ne hj).mpr h1, h2⟩
/-- the state within __init__ -/
structure SI (G : GG) (C : Str) (H0 : Hp) (M : Addr → Prop) (a dx : Addr) (A : AM) (γ : Sg) (ms : List (Option MV)) (vs : List (Option V)) (σ : L2.St) (H : Hp) : Prop where
  ne : dx ≠ a
  or : OReps G (Mz (entI G H0 M a (He.ga G.K C) dx vs) A) H ms vs
  sim : Sim G (entI G H0 M a (He.ga G.K C) dx vs) A γ σ H
def insB : MV → Bool
  | .ins _ _ => true
  | _ => false
def selfOk (γ : Sg) : Bool := match (γ[(0 : Nat)]? : Option (Option Cell)) with
  | some (some ⟨.lown, v⟩) => insB v
  | _ => false
theorem selfOk_at {γ : Sg} (h : selfOk γ = true) : ∃ C ms, γ[0]? = some (some ⟨.lown, .ins C ms⟩) := by
  unfold selfOk at h
  split at h
  · rename_i v e
    cases v <;> first | exact ⟨_, _, e⟩ | cases h
  · cases h
theorem SI.self {Cn : Str} (S : SI G Cn H0 M a dx A γ ms vs σ H) (h : selfOk γ = true) : σ[0]? = some (some (.ref a)) := by
  obtain ⟨C, ms, e⟩ := selfOk_at h
  obtain ⟨x, h1, h2⟩ := S.sim.cell 0 _ e
  obtain ⟨_, a', o, e2, rfl, _⟩ := h2
  cases e2
  exact h1
/-- a store into a slot of the instance -/
theorem SI.put {Cn : Str} {i : Nat} {m : MV} {y : V} (S : SI G Cn H0 M a dx A γ ms vs σ H) (hs : selfOk γ = true) (r : Rep G (Mz (entI G H0 M a (He.ga G.K Cn) dx vs) A) H m y) :
    SI G Cn H0 M a dx A γ (putM i m ms) (SlX.putS i y vs) σ (SlX.slH H a (He.ga G.K Cn) dx (SlX.putS i y vs)) ∧ Keep (Mz (entI G H0 M a (He.ga G.K Cn) dx vs) A) H (SlX.slH H a (He.ga G.K Cn) dx (SlX.putS i y vs)) := by
  have hne : ∃ w ws, SlX.putS i y vs = w :: ws := by
    cases e : SlX.putS i y vs with
    | nil => have := putS_len i y vs; rw [e] at this; simp at this; omega
    | cons w ws => exact ⟨w, ws, rfl⟩
  obtain ⟨w, ws, ew⟩ := hne
  have eo : oI a (He.ga G.K Cn) dx (SlX.putS i y vs) = SlX.SlO a (He.ga G.K Cn) dx (SlX.putS i y vs) := by rw [ew]; rfl
  have ed : dI a (SlX.putS i y vs) = .xd [] := by rw [ew]; rfl
  have out : ∀ b, b ≠ a → b ≠ dx → SlX.slH H a (He.ga G.K Cn) dx (SlX.putS i y vs) b = H b := fun b h1 h2 => SlX.slH_ne h1 h2
  have ha : SlX.slH H a (He.ga G.K Cn) dx (SlX.putS i y vs) a = some (SlX.SlO a (He.ga G.K Cn) dx (SlX.putS i y vs)) := by unfold SlX.slH; exact upd_same
  have hd : SlX.slH H a (He.ga G.K Cn) dx (SlX.putS i y vs) dx = some (.xd []) := by unfold SlX.slH; rw [upd_ne S.ne, upd_same]
  have k : Keep (Mz (entI G H0 M a (He.ga G.K Cn) dx vs) A) H (SlX.slH H a (He.ga G.K Cn) dx (SlX.putS i y vs)) := ⟨fun b o n h => by
    rw [out b (fun z => n (.inl (.inr (.inl z)))) fun z => n (.inl (.inr (.inr z)))]
    exact h, fun b o h => by
    by_cases h1 : b = a
    · exact ⟨_, by rw [h1]; exact ha⟩
    · by_cases h2 : b = dx
      · exact ⟨_, by rw [h2]; exact hd⟩
      · exact ⟨o, by rw [out b h1 h2]; exact h⟩⟩
  have nA : ∀ j b, A j = some b → b ≠ a ∧ b ≠ dx := fun j b e => by
    obtain ⟨_, _, h, _⟩ := S.sim.adr j b e
    exact ⟨fun z => h _ (.inr (.inl ⟨z, rfl⟩)), fun z => h _ (.inr (.inr ⟨z, rfl⟩))⟩
  refine ⟨⟨S.ne, (S.or.put r).keep k fun _ _ _ m => m, ?_⟩, k⟩
  refine ⟨S.sim.len, fun j c hj => ?_, fun j b hj => ?_, S.sim.inj, fun b m => ?_, fun b u hb => ?_, fun b u hb => let ⟨u', h'⟩ := S.sim.new b u hb; k.on b u' h', ?_⟩
  · obtain ⟨x, h1, h2⟩ := S.sim.cell j c hj
    refine ⟨x, h1, ?_⟩
    obtain ⟨kd, v⟩ := c
    have low : A j = none ∧ (∃ a' o, (entI G H0 M a (He.ga G.K Cn) dx vs).ln j = some (a', o) ∧ x = .ref a' ∧ Own G (Mz (entI G H0 M a (He.ga G.K Cn) dx vs) A) H v a') →
        A j = none ∧ ∃ a' o, (entI G H0 M a (He.ga G.K Cn) dx (SlX.putS i y vs)).ln j = some (a', o) ∧ x = .ref a' ∧ Own G (Mz (entI G H0 M a (He.ga G.K Cn) dx (SlX.putS i y vs)) A) (SlX.slH H a (He.ga G.K Cn) dx (SlX.putS i y vs)) v a' := by
      rintro ⟨e1, a', o, e2, e3, ow⟩
      refine ⟨e1, a', oI a (He.ga G.K Cn) dx (SlX.putS i y vs), ?_, e3, ?_⟩
      · have e2 : (if j = 0 then some (a, oI a (He.ga G.K Cn) dx vs) else none) = some (a', o) := e2
        show (if j = 0 then some (a, oI a (He.ga G.K Cn) dx (SlX.putS i y vs)) else none) = _
        split at e2
        · rename_i ej
          cases e2
          rw [if_pos ej]
        · cases e2
      · have e2 : (if j = 0 then some (a, oI a (He.ga G.K Cn) dx vs) else none) = some (a', o) := e2
        split at e2
        · rename_i ej
          subst ej
          cases e2
          obtain ⟨C', ms', e0⟩ := selfOk_at hs
          rw [e0] at hj
          cases hj
          simp only [Own] at ow ⊢
          exact ⟨ow.1, _, ha, fun ps z => (by unfold SlX.SlO at z; cases z), slo_ne⟩
        · cases e2
    cases kd with
    | val => exact ⟨h2.1, h2.2.keep k fun _ _ _ m => m⟩
    | own => obtain ⟨b, e1, e2, h⟩ := h2; exact ⟨b, e1, e2, h.keep k (fun _ _ _ m => m) fun o z => by rw [out b (nA j b e1).1 (nA j b e1).2]; exact z⟩
    | io => obtain ⟨b, e1, e2, h⟩ := h2; exact ⟨b, e1, e2, h.keep k (fun _ _ _ m => m) fun o z => by rw [out b (nA j b e1).1 (nA j b e1).2]; exact z⟩
    | lown => exact low h2
    | lio => exact low h2
  · obtain ⟨c, h1, h2, h3⟩ := S.sim.adr j b hj
    obtain ⟨n1, n2⟩ := nA j b hj
    exact ⟨c, h1, fun u hu => hu.elim (fun hu => h2 u (.inl hu)) fun hu => hu.elim (fun z => n1 z.1) fun z => n2 z.1, h3⟩
  · obtain ⟨u, hu⟩ := S.sim.mf b m
    exact k.on b u hu
  · rcases hb with hb | ⟨rfl, rfl⟩ | ⟨rfl, rfl⟩
    · rw [out b hb.2.2.1 hb.2.2.2]
      exact S.sim.fr b u (.inl hb)
    · rw [eo]; exact ha
    · rw [ed]; exact hd
  · refine ⟨S.sim.tb.tm, fun q hq u hu => ?_, fun q hq => ?_⟩
    · rcases hu with hu | hu | hu
      · exact S.sim.tb.nf q hq u (.inl hu)
      · exact S.sim.tb.nf q hq _ (.inr (.inl ⟨hu.1, rfl⟩))
      · exact S.sim.tb.nf q hq _ (.inr (.inr ⟨hu.1, rfl⟩))
    · have fa := S.sim.fr a _ (.inr (.inl ⟨rfl, rfl⟩))
      have fd := S.sim.fr dx _ (.inr (.inr ⟨rfl, rfl⟩))
      obtain ⟨ps, h1, h2, h3⟩ := S.sim.tb.ok q hq
      have n1 : q.1 ≠ a := fun z => S.sim.tb.nf q hq _ (.inr (.inl ⟨z, rfl⟩))
      have n2 : q.1 ≠ dx := fun z => S.sim.tb.nf q hq _ (.inr (.inr ⟨z, rfl⟩))
      refine ⟨ps, by rw [out _ n1 n2]; exact h1, h2, fun pos cv hc => ?_⟩
      obtain ⟨c, e1, e2⟩ := h3 pos cv hc
      have m1 : c ≠ a := fun z => by
        subst z
        rw [fa] at e2
        cases vs with
        | nil =>
          have e3 := Option.some.inj e2
          unfold oI LamX.CodeO at e3
          cases e3
        | cons v vs => exact slo_ne _ (Option.some.inj e2)
      have m2 : c ≠ dx := fun z => by
        subst z
        rw [fd] at e2
        have e3 := Option.some.inj e2
        unfold LamX.CodeO at e3
        cases vs <;> cases e3
      exact ⟨c, e1, by rw [out _ m1 m2]; exact e2⟩
end
/-! ### the statements of __init__ -/
inductive ROI where
  | nx (γ : Sg) (ms : List (Option MV)) | rt (γ : Sg) (ms : List (Option MV)) | ex (e : Ex) (γ : Sg) | no
abbrev FSI := Sg → List (Option MV) → ROI
def EndSI (G : GG) (C : Str) (W : WX) (D : Ends) (H0 : Hp) (M : Addr → Prop) (a dx : Addr) : ROI → Prop
  | .nx γ ms => ∀ σ A H vs, SI G C H0 M a dx A γ ms vs σ H → D.nx σ H
  | .rt γ ms => ∀ σ A H vs, SI G C H0 M a dx A γ ms vs σ H → D.rt .non H
  | .ex e γ => ∀ σ A H vs cls d, Sim G (entI G H0 M a (He.ga G.K C) dx vs) A γ σ H → ExRep G (Mz (entI G H0 M a (He.ga G.K C) dx vs) A) H e cls d → W cls d σ H
  | .no => False
def tMSI (G : GG) (C : Str) (f : FSI) (W : WX) : TS := fun D σ H => ∃ H0 M a dx A γ ms vs, SI G C H0 M a dx A γ ms vs σ H ∧ EndSI G C W D H0 M a dx (f γ ms)
def IS (X : Cx) (C : Str) (st : Stmt) (f : FSI) : Prop := PO' X → ∀ W, Takes X W → PS X st (tMSI (GX X) C f W)
def ISs (X : Cx) (C : Str) (sts : List Stmt) (f : FSI) : Prop := PO' X → ∀ W, Takes X W → PSs X sts (tMSI (GX X) C f W)
section
variable {X : Cx} {C : Str} {st : Stmt} {sts sts2 : List Stmt} {f : FS} {g g2 : FSI} {e o tg : Expr} {es : List Expr} {pos : Pos} {t : FT} {fe : FE} {at_ : Str}
def iNorm (f : FS) : FSI := fun γ ms => match f γ with
  | .nx γ' => .nx γ' ms
  | .ex e γ' => .ex e γ'
  | _ => .no
theorem is_norm (h : QS X st f) : IS X C st (iNorm f) := fun po W tk => PS_imp (h po W tk) fun D σ H ⟨H0, M, a, dx, A, γ, ms, vs, S, h⟩ => by
  refine ⟨_, A, γ, S.sim, ?_⟩
  unfold iNorm at h
  cases E : f γ with
  | nx γ' =>
    rw [E] at h
    exact fun σ' A' H' S' s' => h σ' A' H' vs ⟨S.ne, S.or.keep s'.1 s'.2, S'⟩
  | ex e γ' =>
    rw [E] at h
    exact fun σ' A' H' cls d S' s' xr => h σ' A' H' vs cls d S' xr
  | _ => rw [E] at h; exact h.elim
def iNil : FSI := fun γ ms => .nx γ ms
def iSeq (f g : FSI) : FSI := fun γ ms => match f γ ms with
  | .nx γ' ms' => g γ' ms'
  | r => r
theorem iss_nil : ISs X C [] iNil := fun _ W tk => PSs_imp pss_nil fun D σ H ⟨H0, M, a, dx, A, γ, ms, vs, S, h⟩ => h σ A H vs S
theorem iss_cons (h1 : IS X C st g) (h2 : ISs X C sts g2) : ISs X C (st :: sts) (iSeq g g2) := fun po W tk => PSs_imp (pss_cons (h1 po W tk) (h2 po W tk)) fun D σ H ⟨H0, M, a, dx, A, γ, ms, vs, S, h⟩ => by
  refine ⟨H0, M, a, dx, A, γ, ms, vs, S, ?_⟩
  unfold iSeq at h
  cases E : g γ ms with
  | nx γ' ms' =>
    rw [E] at h
    exact fun σ' A' H' vs' S' => ⟨H0, M, a, dx, A', γ', ms', vs', S', h⟩
  | rt γ' ms' => rw [E] at h; exact h
  | ex e γ' => rw [E] at h; exact h
  | no => rw [E] at h; exact h
theorem iss_one (h1 : IS X C st g) : ISs X C [st] g := fun po W tk => pss_one (h1 po W tk)
def iRet : FSI := fun γ ms => .rt γ ms
theorem is_ret : IS X C (.Return none pos) iRet := fun _ W tk => PS_imp ps_retN fun D σ H ⟨H0, M, a, dx, A, γ, ms, vs, S, h⟩ => h σ A H vs S
def iIf (t : FT) (f g : FSI) : FSI := fun γ ms => match t γ with
  | .ok b γ' => if b = true then f γ' ms else g γ' ms
  | .ex e γ' => .ex e γ'
  | .no => .no
theorem is_if (ht : RT X e t) (h1 : ISs X C sts g) (h2 : ISs X C sts2 g2) : IS X C (.If e sts sts2 pos) (iIf t g g2) := fun po W tk => PS_imp (ps_if (ht W tk) (h1 po W tk) (h2 po W tk)) fun D σ H ⟨H0, M, a, dx, A, γ, ms, vs, S, h⟩ => by
  refine ⟨_, A, γ, S.sim, ?_⟩
  unfold iIf at h
  cases E : t γ with
  | no => rw [E] at h; exact h
  | ex e γ' => rw [E] at h; exact fun A' H' cls d S' le k xr => h σ A' H' vs cls d S' xr
  | ok b γ' =>
    rw [E] at h
    intro A' H' S' le k
    have S2 : SI (GX X) C H0 M a dx A' γ' ms vs σ H' := ⟨S.ne, S.or.keep k fun b _ _ m => le.mz b m, S'⟩
    cases b with
    | true => simp only [if_true] at h ⊢; exact ⟨H0, M, a, dx, A', γ', ms, vs, S2, h⟩
    | false => simp only [Bool.false_eq_true, if_false] at h ⊢; exact ⟨H0, M, a, dx, A', γ', ms, vs, S2, h⟩
/-! self.f = e, self.f, self.g = e -/
def tGI (G : GG) (C : Str) (i : Nat) : TG := fun y σ H Q => ∃ H0 M a dx A γ ms vs m, SI G C H0 M a dx A γ ms vs σ H ∧ selfOk γ = true ∧ Rep G (Mz (entI G H0 M a (He.ga G.K C) dx vs) A) H m y ∧
  ∀ vs' H', SI G C H0 M a dx A γ (putM i m ms) vs' σ H' → Keep (Mz (entI G H0 M a (He.ga G.K C) dx vs) A) H H' → Q σ H'
def putMs : List Nat → List MV → List (Option MV) → Option (List (Option MV))
  | [], [], ms => some ms
  | i :: is, v :: vs, ms => putMs is vs (putM i v ms)
  | _, _, _ => none
def tGIs (G : GG) (C : Str) (is : List Nat) : TGs := fun ys σ H Q => ∃ H0 M a dx A γ ms vs xs ms', SI G C H0 M a dx A γ ms vs σ H ∧ selfOk γ = true ∧ Reps G (Mz (entI G H0 M a (He.ga G.K C) dx vs) A) H xs ys ∧ putMs is xs ms = some ms' ∧
  ∀ vs' H', SI G C H0 M a dx A γ ms' vs' σ H' → Q σ H'
theorem pgi_slt {i : Nat} (c : AtF X.K at_ (C, i)) (ho : PE X o (tVar 0)) : PG X (.Attribute o at_ pos) (tGI (GX X) C i) :=
  PG_imp (pg_slt ho) fun y σ H Q ⟨H0, M, a, dx, A, γ, ms, vs, m, S, ok, r, h⟩ => by
    refine ⟨_, S.self ok, a, _, dx, _, vs, i, rfl, slt_oI (S.sim.fr a _ (.inr (.inl ⟨rfl, rfl⟩))) (S.sim.fr dx _ (.inr (.inr ⟨rfl, rfl⟩))), c.c, c.s, ?_⟩
    obtain ⟨S', k⟩ := S.put (i := i) ok r
    exact h _ _ S' k
theorem pgis_nil : PGs X [] (tGIs (GX X) C []) := PGs_imp pgs_nil fun ys σ H Q ⟨H0, M, a, dx, A, γ, ms, vs, xs, ms', S, ok, r, e, h⟩ => by
  cases xs with
  | nil =>
    simp only [Reps] at r
    simp only [putMs] at e
    cases e
    exact ⟨r, h vs H S⟩
  | cons v vs => simp only [putMs] at e; cases e
theorem pgis_cons {i : Nat} {is : List Nat} (h1 : PG X e (tGI (GX X) C i)) (h2 : PGs X es (tGIs (GX X) C is)) (hs : (assignEach (e :: es) X.env).map (·.2) = assign e X.env :: (assignEach es X.env).map (·.2) := by rfl) : PGs X (e :: es) (tGIs (GX X) C (i :: is)) :=
  PGs_imp (pgs_cons h1 h2 hs) fun ys σ H Q ⟨H0, M, a, dx, A, γ, ms, vs, xs, ms', S, ok, r, e, h⟩ => by
    cases xs with
    | nil => simp only [putMs] at e; cases e
    | cons x xs =>
      simp only [Reps] at r
      obtain ⟨y, yr, rfl, r1, r2⟩ := r
      simp only [putMs] at e
      exact ⟨y, yr, rfl, H0, M, a, dx, A, γ, ms, vs, x, S, ok, r1, fun vs' H' S' k => ⟨H0, M, a, dx, A, γ, _, vs', xs, ms', S', ok, r2.keep k fun _ _ _ m => m, e, h⟩⟩
def iSet (i : Nat) (f : FE) : FSI := fun γ ms => match f γ with
  | .ok c γ' => if selfOk γ' then .nx γ' (putM i c.v ms) else .no
  | .ex e γ' => .ex e γ'
  | .no => .no
theorem is_set {i : Nat} (ha : RE X e fe) (hg : PG X tg (tGI (GX X) C i)) (hs : swapsWithSole [tg] e pos.line X.env = pure false := by rfl) (hw : swappedStores [tg] e X.env = pure none := by rfl)
    (h1 : (assignEach [tg] X.env).map (·.2) = [assign tg X.env] := by rfl) : IS X C (.Assign [tg] e pos) (iSet i fe) := fun _ W tk => PS_imp (ps_asg (ha W tk) hg hs hw h1) fun D σ H ⟨H0, M, a, dx, A, γ, ms, vs, S, h⟩ => by
  refine ⟨_, A, γ, S.sim, ?_⟩
  unfold iSet at h
  cases E : fe γ with
  | no => rw [E] at h; exact h
  | ex e γ' => rw [E] at h; exact fun A' H' cls d S' le k xr => h σ A' H' vs cls d S' xr
  | ok c γ' =>
    rw [E] at h
    simp only at h
    split at h
    · rename_i ok
      intro y A' H' hs le k
      exact ⟨H0, M, a, dx, A', γ', ms, vs, c.v, ⟨S.ne, S.or.keep k fun b _ _ m => le.mz b m, hs.sim⟩, ok, hs.rep, fun vs' H2 S2 _ => h σ A' H2 vs' S2⟩
    · exact h.elim
def iSets (is : List Nat) (f : FE) : FSI := fun γ ms => match f γ with
  | .ok c γ' => if selfOk γ' then (match c.v with
    | .tup xs => (match putMs is xs ms with
      | some ms' => .nx γ' ms'
      | none => .no)
    | _ => .no) else .no
  | .ex e γ' => .ex e γ'
  | .no => .no
theorem putMs_len : ∀ {is : List Nat} {xs : List MV} {ms ms' : List (Option MV)}, putMs is xs ms = some ms' → xs.length = is.length
  | [], [], _, _, _ => rfl
  | i :: is, x :: xs, ms, ms', h => by
    simp only [putMs] at h
    rw [List.length_cons, List.length_cons, putMs_len h]
  | [], _ :: _, _, _, h | _ :: _, [], _, _, h => by simp only [putMs] at h; cases h
theorem is_sets {is : List Nat} {k : Nat} {tpos : Pos} (hc : X.calm = true) (ha : RE X e fe) (hg : PGs X es (tGIs (GX X) C is)) (hn : (assignEach es X.env).length = is.length := by rfl) (hst : (assignEach es X.env).findIdx? (·.1) = none := by rfl)
    (hs : swapsWithSole [.Tuple es k tpos] e pos.line X.env = pure false := by rfl) (hw : swappedStores [.Tuple es k tpos] e X.env = pure none := by rfl)
    (h1 : (assignEach [.Tuple es k tpos] X.env).map (·.2) = [assign (.Tuple es k tpos) X.env] := by rfl) : IS X C (.Assign [.Tuple es k tpos] e pos) (iSets is fe) := fun _ W tk => PS_imp (ps_asg (ha W tk) (pg_tup hc hg hn hst) hs hw h1) fun D σ H ⟨H0, M, a, dx, A, γ, ms, vs, S, h⟩ => by
  refine ⟨_, A, γ, S.sim, ?_⟩
  unfold iSets at h
  cases E : fe γ with
  | no => rw [E] at h; exact h
  | ex e γ' => rw [E] at h; exact fun A' H' cls d S' le k xr => h σ A' H' vs cls d S' xr
  | ok c γ' =>
    rw [E] at h
    simp only at h
    split at h
    rotate_left
    · exact h.elim
    rename_i ok
    intro y A' H' hs le k
    cases ec : c.v with
    | tup xs =>
      have r := hs.rep
      rw [ec] at h r
      simp only at h
      cases E2 : putMs is xs ms with
      | none => rw [E2] at h; exact h.elim
      | some ms' =>
        rw [E2] at h
        simp only [Rep] at r
        obtain ⟨p, ys, rfl, h2, h3⟩ := r
        exact ⟨p, ys, rfl, h2.sq, by rw [h3.len]; exact putMs_len E2, H0, M, a, dx, A', γ', ms, vs, xs, ms', ⟨S.ne, S.or.keep k fun b _ _ m => le.mz b m, hs.sim⟩, ok, h3, E2, fun vs' H2 S2 => h σ A' H2 vs' S2⟩
    | _ => rw [ec] at h; exact h.elim
end
end Mi

set_option Elab.async false
set_option linter.all false
set_option maxRecDepth 100000
set_option maxHeartbeats 4000000
/-! calls of classes; defs of methods; len of one's own -/
namespace Mi
open PySem PySem.Spec PyProof.Rows L2 My

def allS : List (Option MV) → Option (List MV)
  | [] => some []
  | some m :: ms => (allS ms).map (m :: ·)
  | none :: _ => none
def finI : ROI → RIF
  | .nx _ ms => match allS ms with
    | some (f :: fs) => .rt (f :: fs)
    | _ => .no
  | .rt _ ms => match allS ms with
    | some (f :: fs) => .rt (f :: fs)
    | _ => .no
  | .ex e _ => .ex e
  | .no => .no
def initI (n : Nat) (ms : List MV) : Sg := (initG none n (selfV :: ms)).set 0 (some ⟨.lown, selfV⟩)
def runI (n : Nat) (body : FSI) (ms : List MV) : RIF := finI (body (initI n ms) [])
def spI (P : Program) (w : World) (K : PySem.W.Frag) (C : Str) (n : Nat) (I : List MV → RIF) : Sp := fun vs H Q E => vs.length = n ∧ ∃ (M : Addr → Prop) (ms : List MV) (a dx : Addr) (xs : List V),
  vs = .ref a :: xs ∧ dx ≠ a ∧ H a = some (.ins (He.ga K C) dx []) ∧ H dx = some (.own a) ∧ ¬ M a ∧ ¬ M dx ∧ Trk M H ∧ ((∀ p ∈ (GG.mk P w K).T, M p.1) ∧ TabsOk ⟨P, w, K⟩ H) ∧ Reps ⟨P, w, K⟩ (fun b => M b ∨ b = a ∨ b = dx) H ms xs ∧ match I ms with
    | .rt fs => ∀ H', (∀ b o, ¬ (GG.mk P w K).isT b → b ≠ a → b ≠ dx → H b = some o → H' b = some o) → (∀ b o, H b = some o → ∃ o', H' b = some o') → TabsOk ⟨P, w, K⟩ H' → Rep ⟨P, w, K⟩ M H' (.ins C fs) (.ref a) → Q .non H'
    | .ex e => ∀ cls d H', (∀ b o, ¬ (GG.mk P w K).isT b → b ≠ a → b ≠ dx → H b = some o → H' b = some o) → (∀ b o, H b = some o → ∃ o', H' b = some o') → TabsOk ⟨P, w, K⟩ H' → ExRep ⟨P, w, K⟩ M H' e cls d → E cls d H'
    | .no => False
section
variable {G : GG} {M : Addr → Prop} {H H' : Hp} {ms : List MV} {xs : List V} {a dx C : Addr} {A : AM} {γ : Sg} {σ : L2.St} {N : List Str}
theorem SI.entry {Cn : Str} (ne : dx ≠ a) (ha : H a = some (.ins (He.ga G.K Cn) dx [])) (hd : H dx = some (.own a)) (tr : Trk M H) (tb : (∀ p ∈ G.T, M p.1) ∧ TabsOk G H) (r : Reps G (fun b => M b ∨ b = a ∨ b = dx) H ms xs) (hn : xs.length + 1 ≤ N.length) :
    SI G Cn H M a dx (fun _ => none) (initI N.length ms) [] [] (start N (.ref a :: xs)) H := by
  have tr' : Trk (fun b => M b ∨ b = a ∨ b = dx) H := fun b m => by
    rcases m with m | rfl | rfl
    · exact tr b m
    · exact ⟨_, ha⟩
    · exact ⟨_, hd⟩
  have S : Sim G (entE G H (fun b => M b ∨ b = a ∨ b = dx) none (.ref a :: xs)) (entE G H (fun b => M b ∨ b = a ∨ b = dx) none (.ref a :: xs)).io (initG none N.length (selfV :: ms)) (start N (.ref a :: xs)) H := by
    refine Sim.entry tr' ⟨fun p hp => .inl (tb.1 p hp), tb.2⟩ ⟨by simp [r.len], fun i m x hm hx _ => ?_, fun i h => by cases h⟩ (by simpa using hn)
    cases i with
    | zero =>
      cases hm
      cases hx
      simp only [Rep]
      exact .inl ⟨trivial, a, _, rfl, ha⟩
    | succ i =>
      obtain ⟨y, hy, ry⟩ := r.get (show ms[i]? = some m from hm)
      rw [show xs[i]? = some x from hx] at hy
      cases hy
      exact ry
  have h0 : (initG none N.length (selfV :: ms))[0]? = some (some ⟨.val, selfV⟩) := initG_at (io := none) rfl
  have hl0 : 0 < (initG none N.length (selfV :: ms)).length := (List.getElem?_eq_some_iff.mp h0).1
  refine ⟨ne, ⟨rfl, fun i m h => by simp at h⟩, ?_⟩
  refine ⟨by unfold initI; rw [List.length_set]; exact S.len, fun i c hi => ?_, fun i b hi => (by cases hi), fun i j b hi => (by cases hi), fun b m => tr' b m, fun b o h => ?_, fun b o h => ⟨o, h⟩, ⟨fun p hp => ⟨⟨_, hp⟩, tb.1 p hp⟩, fun p hp u hu => ?_, tb.2⟩⟩
  · unfold initI at hi
    by_cases h : i = 0
    · subst h
      rw [List.getElem?_set_self hl0] at hi
      cases hi
      obtain ⟨x, h1, h2⟩ := S.cell 0 _ h0
      refine ⟨.ref a, by rfl, rfl, a, _, rfl, rfl, ?_⟩
      simp only [Own]
      exact ⟨trivial, _, ha, fun ps z => (by cases z), fun q z => (by unfold LamX.CodeO at z; cases z)⟩
    · rw [List.getElem?_set_ne (Ne.symm h)] at hi
      obtain ⟨x, h1, h2⟩ := S.cell i c hi
      refine ⟨x, h1, ?_⟩
      obtain ⟨k, v⟩ := c
      have hk : k = .val := by
        rcases Nat.lt_or_ge i (selfV :: ms).length with hl | hl
        · rw [initG_at (io := none) (List.getElem?_eq_getElem hl)] at hi
          cases hi
          rfl
        · exact absurd hi (initG_out hl _)
      subst hk
      exact ⟨rfl, h2.2.less fun b m => .inl (m.elim id fun ⟨_, e⟩ => by cases e)⟩
  · rcases h with h | ⟨rfl, rfl⟩ | ⟨rfl, rfl⟩
    · exact h.1
    · exact ha
    · exact hd
  · obtain ⟨ps, t1, _⟩ := tb.2 p hp
    rcases hu with hu | ⟨z, _⟩ | ⟨z, _⟩
    · exact hu.2.1 ⟨_, hp⟩
    · rw [z, ha] at t1; cases t1
    · rw [z, hd] at t1; cases t1
theorem SI.out {Cn : Str} {oms : List (Option MV)} {vs : List (Option V)} {fs : List MV} {f : MV} (S : SI G Cn H M a dx A γ oms vs σ H') (nm : ¬ M a) (nd : ¬ M dx) (e : allS oms = some (f :: fs)) : Rep G M H' (.ins Cn (f :: fs)) (.ref a) := by
  have key : ∀ (oms : List (Option MV)) (vs : List (Option V)) (fs : List MV), OReps G M H' oms vs → allS oms = some fs → ∃ ws, vs = ws.map some ∧ Reps G M H' fs ws := by
    intro oms
    induction oms with
    | nil =>
      intro vs fs o e
      cases e
      have := o.1
      rw [List.length_nil, List.length_eq_zero_iff] at this
      subst this
      exact ⟨[], rfl, Reps.nil⟩
    | cons m oms ih =>
      intro vs fs o e
      cases m with
      | none => cases e
      | some m =>
        simp only [allS, Option.map_eq_some_iff] at e
        obtain ⟨fs', e, rfl⟩ := e
        obtain ⟨o1, o2⟩ := o
        cases vs with
        | nil => cases o1
        | cons v vs =>
          obtain ⟨y, h1, h2⟩ := o2 0 m rfl
          cases h1
          obtain ⟨ws, rfl, h3⟩ := ih vs fs' ⟨by simpa using o1, fun i x h => o2 (i + 1) x h⟩ e
          exact ⟨y :: ws, rfl, Reps.consI h2 h3⟩
  obtain ⟨ws, rfl, h⟩ := key oms vs _ (S.or.keep .refl fun b _ _ m => .inl (.inl m)) e
  simp only [Rep]
  refine .inr ⟨a, dx, ws, rfl, ?_, ?_, nm, nd, h⟩
  · have := S.sim.fr a _ (.inr (.inl ⟨rfl, rfl⟩))
    cases ws with
    | nil => have := h.len; cases this
    | cons w ws => exact this
  · have := S.sim.fr dx _ (.inr (.inr ⟨rfl, rfl⟩))
    cases ws with
    | nil => have := h.len; cases this
    | cons w ws => exact this
theorem SI.frame {Cn : Str} {vs : List (Option V)} (S : Sim G (entI G H M a (He.ga G.K Cn) dx vs) A γ σ H') : (∀ b o, ¬ G.isT b → b ≠ a → b ≠ dx → H b = some o → H' b = some o) ∧ (∀ b o, H b = some o → ∃ o', H' b = some o') ∧ TabsOk G H' :=
  ⟨fun b o h0 h1 h2 h => S.fr b o (.inl ⟨h, h0, h1, h2⟩), S.new, S.tb.ok⟩
end
/-- a class that can be called: dms its last defaults -/
def MkM (P : Program) (w : World) (K : PySem.W.Frag) (mg : Str → Option Value) (base : Heap) (k : Nat) (C : Str) (ps : List Str) (dms : List MV) (I : List MV → RIF) : Prop :=
  C ≠ ("" : Str) ∧ ∃ fd ds dvs, FnG P w K mg base k (He.ma K (He.ga K C) "__init__") fd ps (spI P w K C ps.length I) ∧ Vals dvs ds ∧ (∀ G M H, Reps G M H dms dvs) ∧ Binds K fd ps ds ∧ Mk K (He.ga K C) (He.ma K (He.ga K C) "__init__") ∧ mg C = some (.ref (He.ga K C))
section
variable {P : Program} {w : World} {K : PySem.W.Frag} {mg : Str → Option Value} {base : Heap} {k : Nat} {C : Str} {st : Stmt} {N ps : List Str} {body : FSI}
theorem entry_init {f : Addr} {qual : Str} {cdv : Value} {A : Around} {outer : List Env} {s : Shared} {H : Hp} {vs : List V} {Q : VK} {E : XK} {sts : List Stmt} {sc : Scope} (S : FnScope N ps sc)
    (hb : ISs (cxOf (CX P w) P w K mg base N qual sc f cdv A outer s H E) C sts body) (h : spI P w K C ps.length (runI N.length body) vs H Q E) :
    ∃ t, PSs (cxOf (CX P w) P w K mg base N qual sc f cdv A outer s H E) sts t ∧ t { nx := fun _ H' => Q .non H', rt := Q } (start N vs) H := by
  have hpl : ps.length ≤ N.length := by have := congrArg List.length S.pre; rw [List.length_take] at this; omega
  obtain ⟨hl, M, ms, a, dx, xs, rfl, ne, ha, hd, na, nd, tr, tb, r, h⟩ := h
  rw [List.length_cons] at hl
  refine ⟨_, hb (passes_of rfl) (fun cls d _ H => E cls d H) (takes_of rfl rfl rfl rfl), H, M, a, dx, _, _, [], [], SI.entry ne ha hd tr tb r (by omega), ?_⟩
  unfold runI at h
  cases e : body (initI N.length ms) [] with
  | nx γ' oms =>
    rw [e] at h
    cases e2 : allS oms with
    | none => simp only [finI, e2] at h
    | some l =>
      cases l with
      | nil => simp only [finI, e2] at h
      | cons f fs =>
        simp only [finI, e2] at h
        intro σ' A' H' vs' S'
        have fr := SI.frame S'.sim
        exact h H' fr.1 fr.2.1 fr.2.2 (S'.out na nd e2)
  | rt γ' oms =>
    rw [e] at h
    cases e2 : allS oms with
    | none => simp only [finI, e2] at h
    | some l =>
      cases l with
      | nil => simp only [finI, e2] at h
      | cons f fs =>
        simp only [finI, e2] at h
        intro σ' A' H' vs' S'
        have fr := SI.frame S'.sim
        exact h H' fr.1 fr.2.1 fr.2.2 (S'.out na nd e2)
  | ex e' γ' =>
    rw [e] at h
    intro σ' A' H' vs' cls d S' xr
    have fr := SI.frame S'
    exact h cls d H' fr.1 fr.2.1 fr.2.2 (xr.less fun b m => .inl (.inl m))
  | no => rw [e] at h; exact h.elim
/-- the facts of an own __init__ -/
structure DefInit (K : PySem.W.Frag) (mg : Str → Option Value) (C : Str) (st : Stmt) (qual : Str) (dvs : List V) : Prop where
  fd : ∃ fd, FunD K "__init__" qual (defArgs st) (defBody st) (defScope st) dvs [] (He.ma K (He.ga K C) "__init__") fd
  mk_ : Mk K (He.ga K C) (He.ma K (He.ga K C) "__init__")
  gl : mg C = some (.ref (He.ga K C))
theorem DefInit.mkM {qual : Str} {dvs : List V} {dms : List MV} (D : DefInit K mg C st qual dvs) (n : C ≠ ("" : Str)) (S : FnScope N ps (defScope st)) (nd : Nat) (hdm : ∀ G M H, Reps G M H dms (dvs.drop nd))
    (hb : ∀ fd, FunD K "__init__" qual (defArgs st) (defBody st) (defScope st) dvs [] (He.ma K (He.ga K C) "__init__") fd → ∃ ds, Vals (dvs.drop nd) ds ∧ Binds K fd ps ds)
    (hbody : ∀ (cdv : Value) (A : Around) (outer : List Env) (s : Shared) (H : Hp) (E : XK), Room k (cxOf (CX P w) P w K mg base N qual (defScope st) (He.ma K (He.ga K C) "__init__") cdv A outer s H E).A → (cxOf (CX P w) P w K mg base N qual (defScope st) (He.ma K (He.ga K C) "__init__") cdv A outer s H E).A.guards = some [] →
      ISs (cxOf (CX P w) P w K mg base N qual (defScope st) (He.ma K (He.ga K C) "__init__") cdv A outer s H E) C (defBody st) body) : MkM P w K mg base (k + 1) C ps dms (runI N.length body) := by
  obtain ⟨fd, F⟩ := D.fd
  obtain ⟨ds, hds, Fb⟩ := hb fd F
  obtain ⟨oc, od, dV, kV, doc, pm, an, cdv, ct, osl, rfl, lk, hcd, _, _⟩ := F.ex
  exact ⟨n, _, ds, _, fnG_of lk hcd S (fun vs H Q E h => h.1) (fun A outer s H vs Q E hr hgd h => entry_init S (hbody cdv A outer s H E hr hgd) h), hds, hdm, Fb, D.mk_, D.gl⟩
/-- .. of a method -/
theorem DefMeth.mthM {m qual : Str} {F : FS} (D : DefMeth K C m qual st) (n : C ≠ ("" : Str)) (c : SlX.SCls K (He.ga K C)) (S : FnScope N ps (defScope st))
    (hb : ∀ (kV doc pm : Value) (an : Option Addr) (cdv ct : Value) (us : List Value), us.length = ps.length → bindArgs (PySem.W.fnOf m qual (defArgs st) (defBody st) (defScope st) .none kV doc pm an cdv ct) ⟨us, []⟩ = pure (ps.zip us))
    (hbody : ∀ (cdv : Value) (A : Around) (outer : List Env) (s : Shared) (H : Hp) (E : XK), Room k (cxOf (CX P w) P w K mg base N qual (defScope st) (He.ma K (He.ga K C) m) cdv A outer s H E).A → (cxOf (CX P w) P w K mg base N qual (defScope st) (He.ma K (He.ga K C) m) cdv A outer s H E).A.guards = some [] →
      QSs (cxOf (CX P w) P w K mg base N qual (defScope st) (He.ma K (He.ga K C) m) cdv A outer s H E) (defBody st) F) : MthM P w K mg base (k + 1) C m ps (runM none N.length F) := by
  obtain ⟨fd, Fd⟩ := D.fd
  have Fb := Fd.bindsN hb
  obtain ⟨oc, od, dV, kV, doc, pm, an, cdv, ct, osl, rfl, lk, hcd, _, _⟩ := Fd.ex
  exact ⟨n, _, fnG_of lk hcd S (fun vs H Q E h => h.1) (fun A outer s H vs Q E hr hgd h => entry_ok S (hbody cdv A outer s H E hr hgd) h), Fb, c, D.me⟩
/-- .. of a property -/
structure DefPrp (K : PySem.W.Frag) (C f : Str) (qual : Str) (st : Stmt) : Prop where
  fd : ∃ fd, FunD K f qual (defArgs st) (defBody st) (defScope st) [] [] (pgA K (He.ga K C) f) fd
  pr : PropOf K (He.ga K C) f (He.ma K (He.ga K C) f) (pgA K (He.ga K C) f)
theorem DefPrp.prpM {m qual : Str} {F : FS} (D : DefPrp K C m qual st) (n : C ≠ ("" : Str)) (c : SlX.SCls K (He.ga K C)) (S : FnScope N ps (defScope st)) (hl : ps.length = 1)
    (hb : ∀ (kV doc pm : Value) (an : Option Addr) (cdv ct : Value) (us : List Value), us.length = ps.length → bindArgs (PySem.W.fnOf m qual (defArgs st) (defBody st) (defScope st) .none kV doc pm an cdv ct) ⟨us, []⟩ = pure (ps.zip us))
    (hbody : ∀ (cdv : Value) (A : Around) (outer : List Env) (s : Shared) (H : Hp) (E : XK), Room k (cxOf (CX P w) P w K mg base N qual (defScope st) (pgA K (He.ga K C) m) cdv A outer s H E).A → (cxOf (CX P w) P w K mg base N qual (defScope st) (pgA K (He.ga K C) m) cdv A outer s H E).A.guards = some [] →
      QSs (cxOf (CX P w) P w K mg base N qual (defScope st) (pgA K (He.ga K C) m) cdv A outer s H E) (defBody st) F) : PrpM P w K mg base (k + 1) C m (runM none N.length F) := by
  obtain ⟨fd, Fd⟩ := D.fd
  have Fb := Fd.bindsN hb
  obtain ⟨oc, od, dV, kV, doc, pm, an, cdv, ct, osl, rfl, lk, hcd, _, _⟩ := Fd.ex
  have q := fnG_of (P := P) (w := w) (mg := mg) (base := base) (k := k) (sp := spM P w K ps.length none (runM none N.length F)) lk hcd S (fun vs H Q E h => h.1) fun A outer s H vs Q E hr hgd h => entry_ok S (hbody cdv A outer s H E hr hgd) h
  rw [hl] at q
  exact ⟨n, c, _, _, _, ps, hl, q, Fb, D.pr⟩
end
/-! ### C(a, ..) -/
def eMk (I : List MV → RIF) (C : Str) (dms : List MV) (fa : FA) : FE := fun γ => match fa γ with
  | .ok ms γ1 => (match I (ms ++ dms) with
    | .rt fs => .ok ⟨.val, .ins C fs⟩ γ1
    | .ex e => .ex e γ1
    | .no => .no)
  | .ex e γ1 => .ex e γ1
  | .no => .no
section
variable {X : Cx} {k j : Nat} {C : Str} {ps : List Str} {dms : List MV} {I : List MV → RIF} {p pos : Pos} {e : Expr} {es : List Expr} {fa : FA}
theorem run_makeG {E : L2.St → XK} {fd : FuncData} {ds : List Value} {dvs : List V} {sp : Sp} {pins : List (Addr × Obj)} {σ : L2.St} {H : Hp} {s : Shared} {Q : VK} {us : List Value} {vs : List V} {D f : Addr} (M : Mk X.K D f) (F : FnG X.prog X.w X.K X.mg X.base k f fd ps sp) (hr : Room (k + 1) X.A) (hgd : X.A.guards = some []) (hb : Binds X.K fd ps ds) (hd : Vals dvs ds)
    (hx : ∀ (pins : List (Addr × Obj)) (H : Hp) (s : Shared) (e : Value) (s' : Shared), L2.Inv X pins σ H s → CX X.prog X.w X.stack H s (E σ) e s' → X.xe e s') (I : L2.Inv X pins σ H s) (r : Vals vs us)
    (h : ∀ x dx, H x = none → H dx = none → dx ≠ x → sp (.ref x :: (vs ++ dvs)) (upd (upd H dx (.own x)) x (.ins D dx [])) (fun v H2 => v = .non ∧ Q (.ref x) H2) (E σ)) :
    wpAny (model X.prog X.w) X.A (call (.ref D) us) (EP X pins σ Q) X.xe s := by
  have hq := h (s.heap.objs.size + 1) s.heap.objs.size (I.hok.fresh (Nat.le_succ _)) (I.hok.fresh (Nat.le_refl _)) (Nat.ne_of_lt (Nat.lt_succ_self _))
  have I2 := Inv.made (C := D) I
  have r2 : Vals (V.ref (s.heap.objs.size + 1) :: (vs ++ dvs)) (Value.ref (s.heap.objs.size + 1) :: (us ++ ds)) := .cons rfl (r.append hd)
  have hl : (Value.ref (s.heap.objs.size + 1) :: us ++ ds).length = ps.length := by
    have e := r2.length
    rw [F.len _ _ _ _ hq] at e
    exact e.symm
  refine wpAny_call (make_map (f := f) I.kIn M.makes M.init (beq_iff_eq.mp M.fn) (codeAny_mono (F.run _ X.stack _ _ ⟨Value.ref (s.heap.objs.size + 1) :: us, []⟩ (Value.ref (s.heap.objs.size + 1) :: (us ++ ds)) _ _ (E σ) (hr.make D us []) hgd
    (I2.env0.make D us []) (hb _ (Value.ref (s.heap.objs.size + 1) :: us) I2.kIn hl) r2 hq) fun r s' hq' => ?_))
  cases r with
  | error e => exact hx pins _ _ e s' I2 hq'
  | ok fl =>
    cases fl with
    | ret u =>
      obtain ⟨v, H', I3, rv, ev, q3⟩ := I2.after hq'
      subst ev
      exact ⟨rv, ⟨V.ref (s.heap.objs.size + 1), H', I3, rfl, q3⟩⟩
    | next => exact False.elim hq'
    | brk => exact False.elim hq'
    | cont => exact False.elim hq'
def tMakeG (D : Addr) (sp : Sp) (dvs : List V) (E : L2.St → XK) (t : TA) : TE := fun σ H Q => t σ H fun vs H1 => ∀ x dx, H1 x = none → H1 dx = none → dx ≠ x → sp (.ref x :: (vs ++ dvs)) (upd (upd H1 dx (.own x)) x (.ins D dx [])) (fun v H2 => v = .non ∧ Q (.ref x) H2) (E σ)
theorem pe_makeG {E : L2.St → XK} {fd : FuncData} {ds : List Value} {dvs : List V} {sp : Sp} {D f : Addr} {t : TA} {x : Str} (M : Mk X.K D f) (F : FnG X.prog X.w X.K X.mg X.base k f fd ps sp) (hr : Room (k + 1) X.A) (hgd : X.A.guards = some []) (hg : Gl X x) (hm : X.mg x = some (.ref D)) (hb : Binds X.K fd ps ds) (hd : Vals dvs ds)
    (hx : ∀ σ (pins : List (Addr × Obj)) (H : Hp) (s : Shared) (e : Value) (s' : Shared), L2.Inv X pins σ H s → CX X.prog X.w X.stack H s (E σ) e s' → X.xe e s')
    (ha : PA X (e :: es) t) (hdb : (x == ("__debug__" : Str)) = false) (he : starEach (e :: es) X.env = (false, eval e X.env) :: starEach es X.env) (hpl : (backTo pos (starEach es X.env)).any (·.1) = false) :
    PE X (.Call (.Name x p) (e :: es) [] pos) (tMakeG D sp dvs E t) := by
  refine ⟨fun pins s σ H Q I h => wpAny_Call_Name_kw (ld_glob I hg hm ?_ hdb)⟩
  exact PySem.W.callWith_K (h₀ := X.base) I.ok.mod.kin M.kp (thn (ha.run pos pins s σ H _ I h) fun us s1 ⟨vs, H1, I1, r, q⟩ => ⟨I1.kIn, run_makeG M F hr hgd hb hd (hx σ) I1 r q⟩) he hpl
theorem re_mk (D : MkM X.prog X.w X.K X.mg X.base k C ps dms I) (hr : Room j X.A) (hgd : X.A.guards = some []) (hg : Gl X C) (ha : RA X (e :: es) fa) {n : Nat} (hl : Lim n fa) (hn : n + 1 + dms.length = ps.length) (hk : k + 1 ≤ j := by decide) (hdb : (C == ("__debug__" : Str)) = false := by decide)
    (he : starEach (e :: es) X.env = (false, eval e X.env) :: starEach es X.env := by rfl) (hpl : (backTo pos (starEach es X.env)).any (·.1) = false := by rfl) : RE X (.Call (.Name C p) (e :: es) [] pos) (eMk I C dms fa) := fun W tk => by
  obtain ⟨_, fd, ds, dvs, G, hds, hdm, b, M, m⟩ := D
  refine PE_imp (pe_makeG (E := fun σ cls d H => W cls d σ H) M G (hr.mono hk) hgd hg m b hds (xpass tk) (ha W tk) hdb he hpl) fun σ H Q ⟨Z, A, γ, S, h⟩ => ⟨Z, A, γ, S, ?_⟩
  unfold eMk at h
  cases E : fa γ with
  | no => rw [E] at h; exact h
  | ex e γ1 => rw [E] at h; exact h
  | ok ms γ1 =>
    rw [E] at h
    simp only at h
    intro xs A1 H1 S1 le k1 rs x dx nx ndx ne
    have e1 : Same H1 (upd (upd H1 dx (.own x)) x (.ins (He.ga X.K C) dx [])) := fun b o h => by
      rw [upd_ne (ne_of_none h nx), upd_ne (ne_of_none h ndx)]
      exact h
    have dmr := hdm (GX X) (Mz Z A1) H1
    have rall := Reps.app rs dmr
    have mx : ¬ Mz Z A1 x := S1.trk.new nx
    have mdx : ¬ Mz Z A1 dx := S1.trk.new ndx
    refine ⟨?_, Mz Z A1, ms ++ dms, x, dx, xs ++ dvs, rfl, ne, upd_same, ?_, mx, mdx, fun b m => ?_, ⟨fun p hp => .inl (Z.TmM _ (S1.tb.tm p hp)), S1.tb.ok.new e1⟩, ?_, ?_⟩
    · rw [List.length_cons, List.length_append, rs.len, dmr.len, hl _ _ _ E, ← hn]
      omega
    · rw [upd_ne ne, upd_same]
    · obtain ⟨o, ho⟩ := S1.trk b m
      exact ⟨o, e1 _ _ ho⟩
    · exact rall.keep (.of_same e1) fun b o hb m => by
        rcases m with m | rfl | rfl
        · exact m
        · rw [nx] at hb; cases hb
        · rw [ndx] at hb; cases hb
    · cases E2 : I (ms ++ dms) with
      | no => rw [E2] at h; exact h
      | rt fs =>
        rw [E2] at h
        intro H' k2 on2 tb2 r
        have e2 : SameT (GX X) H1 H' := ⟨fun b o nt hb => k2 b o nt (ne_of_none hb nx) (ne_of_none hb ndx) (e1 b o hb), fun b o hb => on2 b o (e1 b o hb), tb2⟩
        exact ⟨rfl, h (.ref x) A1 H' ⟨S1.sameT e2, r⟩ le (k1.trans (S1.keepT e2) fun b _ _ m => le.mz b m)⟩
      | ex e2' =>
        rw [E2] at h
        intro cls d H' k2 on2 tb2 r
        have e2 : SameT (GX X) H1 H' := ⟨fun b o nt hb => k2 b o nt (ne_of_none hb nx) (ne_of_none hb ndx) (e1 b o hb), fun b o hb => on2 b o (e1 b o hb), tb2⟩
        exact h A1 H' cls d (S1.sameT e2) le (k1.trans (S1.keepT e2) fun b _ _ m => le.mz b m) r
end
end Mi

set_option Elab.async false
set_option linter.all false
set_option maxRecDepth 100000
set_option maxHeartbeats 4000000
/-! methods that change nothing; more of dicts; isinstance; (a, *b) -/
namespace Mi
open PySem PySem.Spec PyProof.Rows L2 My

/-! ### o.m(..), o a slot -/
def TyB (G : GG) (T : String) (x : V) (H : Hp) : Prop := tyV G.K T x H ∨ (T = "dict" ∧ ∃ a es, x = .ref a ∧ DnAt G H a es)
section
variable {X : Cx} {pins : List (Addr × Obj)} {σ : L2.St} {H : Hp} {s : Shared} {T : String} {x : V} {u : Value}
theorem tyB_is (I : L2.Inv X pins σ H s) (r : RelV x u) (ty : TyB (GX X) T x H) : s.TypeIs u T ∧ ∀ a, u = .ref a → ∃ o, s.heap.get? a = some o ∧ o.dict = none := by
  rcases ty with ty | ⟨rfl, a, es, rfl, d⟩
  · exact tyV_is I r ty
  · cases r
    obtain ⟨_, _, xs, _, dd⟩ := d.get I
    refine ⟨dd.typeIs, fun b e => ?_⟩
    cases e
    obtain ⟨ob, _, _, h1, h2, _⟩ := dd
    exact ⟨ob, h1, h2.2.1⟩
end
def isTyB (T : String) : MV → Bool
  | .lst _ => T == "list"
  | .dk _ _ => T == "dict"
  | .dn _ _ => T == "dict"
  | .str _ => T == "str"
  | _ => false
theorem isTyB_ok {G : GG} {M : Addr → Prop} {H : Hp} {T : String} {v : MV} {y : V} (h : isTyB T v = true) (r : RepB G M H v y) : TyB G T y H := by
  cases v with
  | lst ms => exact .inl (isTy_ok (G := G) (M := M) (v := .lst ms) h r)
  | dk ks ms => exact .inl (isTy_ok (G := G) (M := M) (v := .dk ks ms) h r)
  | dn ks ms =>
    have h : (T == "dict") = true := h
    obtain ⟨a, ks', as, vs, rfl, h1, _⟩ := dn_repB r
    exact .inr ⟨eq_of_beq h, a, _, rfl, h1⟩
  | str z =>
    have h : (T == "str") = true := h
    rw [rb_str r]
    exact .inl (eq_of_beq h)
  | _ => cases h
abbrev PurF := MV → List MV → Option Cell
def PurR (X : Cx) (id : String) (g : PurF) : Prop :=
  ∃ r, MtR X id r ∧ ∀ M v ms c x vs H Q, Trk M H → g v ms = some c → RepB (GX X) M H v x → Reps (GX X) M H ms vs → (∀ z H', Same H H' → Res (GX X) M H H' c z → Q z H') → r x vs H Q
def ePur (T : String) (g : PurF) (j : Nat) (fa : FA) : FE := fun γ => match γ[j]? with
  | some (some c0) => if isTyB T c0.v then (match fa γ with
    | .ok ms γ1 => (match γ1[j]? with
      | some (some c1) => (match g c1.v ms with
        | some w => .ok w γ1
        | none => .no)
      | _ => .no)
    | .ex e γ1 => .ex e γ1
    | .no => .no) else .no
  | _ => .no
section
variable {X : Cx} {a b e e1 : Expr} {es : List Expr} {f : FE} {fa : FA} {o q : Opd} {pos apos cpos : Pos} {x name : Str} {j : Nat} {T id : String} {g : PurF} {to : TE} {t : TA} {r : V → List V → Hp → VK → Prop}
theorem pe_bmG (pa : PlainAttrs T) (slot : Slot T name id) (hty : typeOf (.builtin id) = pure (.type "method_descriptor")) (hm : MtR X id r) (ho : PE X a to) (ha : PA X (e :: es) t)
    (hbase : attributeBase a name X.env (eval a X.env) = eval a X.env)
    (hfew : ((backTo cpos (starEach (e :: es) X.env)).all (fun x => !x.1) && (backToKw cpos (keywordEach [] X.env)).all (fun x => x.1.isSome)
      && decide ((e :: es).length + ([] : List Keyword).length + (if ([] : List Keyword).isEmpty then 0 else 1) < 30)) = true)
    (hline : (apos.endLine == cpos.line) = true) (hs : starEach (e :: es) X.env = (false, eval e X.env) :: starEach es X.env) (hplain : (backTo cpos (starEach es X.env)).any (·.1) = false) :
    PE X (.Call (.Attribute a name apos) (e :: es) [] cpos) (fun σ H Q => to σ H fun x H1 => TyB (GX X) T x H1 ∧ t σ H1 fun xs H2 => r x xs H2 Q) := by
  refine ⟨fun pins s σ H Q I h => ?_⟩
  refine wpAny_Call_method_late hbase hfew hline rfl (thn (ho.run pins s σ H _ I h) fun v s1 ⟨x, H1, I1, r1, ty, q1⟩ => ?_)
  obtain ⟨h1, h2⟩ := tyB_is I1 r1 ty
  refine ⟨T, id, pa, slot, hty, h1, h2, ?_⟩
  have hA := ha.run cpos pins s1 σ H1 _ I1 q1
  rw [hs] at hA ⊢
  refine Calls.callWith_builtin (by show (false || (backTo cpos (starEach es X.env)).any (·.1)) = false; rw [hplain] <;> rfl) (Calls.evalArgs_plain ?_)
  exact thn hA fun us s2 ⟨vs, H2, I2, r2, q2⟩ => hm pins s2 σ H2 x vs v us Q I2 r1 r2 q2
theorem re_pur (pa : PlainAttrs T) (slot : Slot T name id) (hty : typeOf (.builtin id) = pure (.type "method_descriptor")) (hm : PurR X id g) (ho : PE X a (tVar j)) (ha : RA X (e1 :: es) fa)
    (hbase : attributeBase a name X.env (eval a X.env) = eval a X.env := by rfl)
    (hfew : ((backTo cpos (starEach (e1 :: es) X.env)).all (fun x => !x.1) && (backToKw cpos (keywordEach [] X.env)).all (fun x => x.1.isSome)
      && decide ((e1 :: es).length + ([] : List Keyword).length + (if ([] : List Keyword).isEmpty then 0 else 1) < 30)) = true := by rfl)
    (hline : (apos.endLine == cpos.line) = true := by rfl) (hs : starEach (e1 :: es) X.env = (false, eval e1 X.env) :: starEach es X.env := by rfl) (hplain : (backTo cpos (starEach es X.env)).any (·.1) = false := by rfl) :
    RE X (.Call (.Attribute a name apos) (e1 :: es) [] cpos) (ePur T g j fa) := fun W tk => by
  obtain ⟨r, hm, hr⟩ := hm
  refine PE_imp (pe_bmG pa slot hty hm ho (ha W tk) hbase hfew hline hs hplain) fun σ H Q ⟨Z, A, γ, S, h⟩ => ?_
  unfold ePur at h
  cases E0 : γ[j]? with
  | none => rw [E0] at h; exact h.elim
  | some oc =>
    cases oc with
    | none => rw [E0] at h; exact h.elim
    | some c0 =>
      rw [E0] at h
      simp only at h
      split at h
      · rename_i ht
        obtain ⟨x, h1, h2⟩ := S.cell j _ E0
        refine ⟨x, h1, isTyB_ok (G := GX X) ht h2.repB, Z, A, γ, S, ?_⟩
        cases E1 : fa γ with
        | no => rw [E1] at h; exact h
        | ex e γ1 => rw [E1] at h; exact h
        | ok ms γ1 =>
          rw [E1] at h
          intro vs A1 H1 S1 le k rs
          simp only at h
          split at h
          · rename_i c1 E4
            obtain ⟨y, h3, h4⟩ := S1.cell j _ E4
            rw [h1] at h3
            cases h3
            cases E5 : g c1.v ms with
            | none => rw [E5] at h; exact h.elim
            | some w =>
              rw [E5] at h
              exact hr _ c1.v ms w x vs H1 Q S1.trk E5 h4.repB rs fun z H' e res => h z A1 H' ((Res.held S1 e res).old fun a n => k.isnone n) le (k.trans (.of_same e) fun b _ _ m => le.mz b m)
          · exact h.elim
      · exact h.elim
/-! d.get(k), d.get(k, x) -/
theorem dn_get2 {pins : List (Addr × Obj)} {σ : L2.St} {H : Hp} {s : Shared} {A : Around} {E : Value → Shared → Prop} {es : Ent3} {a b : Addr} {k : NestedKey} {d : V} {r : Value} {Q : Value → Shared → Prop} (hu : A.units + 64 < cLine) (I : L2.Inv X pins σ H s) (D : DnAt (GX X) H a es) (hk : KeyR X.K H k (.ref b)) (hd : k.depth ≤ 8) (rd : RelV d r)
    (h : ∀ w' s', L2.Inv X pins σ H s' → RelV ((esGet es k).getD d) w' → Q w' s') : wpAny (model X.prog X.w) A (call (.builtin "dict.get") [.ref a, .ref b, r]) Q E s := by
  obtain ⟨h1, h2, xs, hp, dd⟩ := D.get I
  refine call_meetsIn PySem.F.slot_dict_get dd.typeIs PySem.F.entry_dict_get (PySem.F.args_dict_get_3 _ _ _) (meetsH_dict_get_default (knd X) a b h1 r) ⟨knd_room hu, k, xs, key_is I hk hd, dd, h _ _ (I.tok _) ?_⟩
  exact (hp.find k).getD rd
def rGet (G : GG) : V → List V → Hp → VK → Prop := fun x vs H Q => ∃ a y r, x = .ref a ∧ DGt G H a y r ∧ ((vs = [y] ∧ Q (r.getD .non) H) ∨ ∃ d, vs = [y, d] ∧ Q (r.getD d) H)
theorem mt_get (hu : X.A.units + 64 < cLine) : MtR X "dict.get" (rGet (GX X)) := by
  intro pins s σ H x xs v us Q I rx rxs h
  obtain ⟨a, y, r, rfl, g, q⟩ := h
  cases rx
  rcases q with ⟨rfl, q⟩ | ⟨d, rfl, q⟩
  · obtain ⟨u, rfl, ru⟩ := vals1 rxs
    rcases g with ⟨kvs, k, e, rfl, l⟩ | ⟨es, k, b, D, rfl, hk, hd, l⟩
    · exact d_get1 (by omega) I (.inl ⟨kvs, k, e, rfl, l⟩ : DGet H a (kV k) r) ru fun w' s' I' rw' => ⟨_, H, I', rw', q⟩
    · cases ru
      subst l
      obtain ⟨h1, h2, xs, hp, dd⟩ := D.get I
      refine call_meetsIn PySem.F.slot_dict_get dd.typeIs PySem.F.entry_dict_get (PySem.F.args_dict_get_2 _ _) (meetsH_dict_get (knd X) a b h1) ⟨knd_room hu, k, xs, key_is I hk hd, dd, ?_⟩
      exact ⟨_, H, I.tok _, (hp.find k).getD (d := V.non) rfl, q⟩
  · obtain ⟨u, z, rfl, ru, rz⟩ := vals2 rxs
    rcases g with ⟨kvs, k, e, rfl, l⟩ | ⟨es, k, b, D, rfl, hk, hd, l⟩
    · exact d_get2 (by omega) I (.inl ⟨kvs, k, e, rfl, l⟩ : DGet H a (kV k) r) ru rz fun w' s' I' rw' => ⟨_, H, I', rw', q⟩
    · cases ru
      subst l
      exact dn_get2 hu I D hk hd rz fun w' s' I' rw' => ⟨_, H, I', rw', q⟩
/-- what a dict has, or nothing -/
def lookM (v k : MV) : Option (Option MV) := match dGetM v k with
  | some m => some (some m)
  | none => match hasM v k with
    | some false => some none
    | _ => none
theorem lookM_ok {G : GG} {M : Addr → Prop} {H : Hp} {v w : MV} {r : Option MV} {x y : V} (e : lookM v w = some r) (hv : RepB G M H v x) (hw : RepB G M H w y) : ∃ a u, x = .ref a ∧ DGt G H a y u ∧ match r with
    | some m => ∃ z, u = some z ∧ Rep G M H m z
    | none => u = none := by
  unfold lookM at e
  cases E : dGetM v w with
  | some m =>
    rw [E] at e
    cases e
    obtain ⟨a, u, rfl, g, hr⟩ := dGetM_ok E hv hw
    exact ⟨a, some u, rfl, g, u, rfl, hr⟩
  | none =>
    rw [E] at e
    simp only at e
    split at e
    · rename_i E2
      cases e
      obtain ⟨a, u, rfl, g, hr⟩ := hasM_ok E2 hv hw
      cases u with
      | none => exact ⟨a, none, rfl, g, rfl⟩
      | some _ => cases hr
    · cases e
def getM : PurF
  | v, [k] => (lookM v k).map fun r => vV (r.getD .non)
  | v, [k, d] => (lookM v k).map fun r => vV (r.getD d)
  | _, _ => none
theorem pur_get (hu : X.A.units + 64 < cLine) : PurR X "dict.get" getM := ⟨_, mt_get hu, fun M v ms c x vs H Q tr e rv rs q => by
  unfold getM at e
  split at e
  · obtain ⟨r, e', rfl⟩ := Option.map_eq_some_iff.mp e
    simp only [Reps] at rs
    obtain ⟨y, _, rfl, ry, rfl⟩ := rs
    obtain ⟨a, u, rfl, g, hr⟩ := lookM_ok e' rv (.inl ry)
    refine ⟨a, y, u, rfl, g, .inl ⟨rfl, ?_⟩⟩
    cases r with
    | some m => obtain ⟨z, rfl, hz⟩ := hr; exact q _ H (.refl _) (res_val hz)
    | none => cases hr; exact q _ H (.refl _) res_non
  · obtain ⟨r, e', rfl⟩ := Option.map_eq_some_iff.mp e
    simp only [Reps] at rs
    obtain ⟨y, _, rfl, ry, d, _, rfl, rd, rfl⟩ := rs
    obtain ⟨a, u, rfl, g, hr⟩ := lookM_ok e' rv (.inl ry)
    refine ⟨a, y, u, rfl, g, .inr ⟨d, rfl, ?_⟩⟩
    cases r with
    | some m => obtain ⟨z, rfl, hz⟩ := hr; exact q _ H (.refl _) (res_val hz)
    | none => cases hr; exact q _ H (.refl _) (res_val rd)
  · cases e⟩
/-! ### {}, to be a dict of tuples -/
theorem re_newN : RE X (.Dict [] [] pos) (eNew (.dn [] [])) := fun W tk => by
  refine PE_imp (t := fun σ H Q => ∀ p, H p = none → Q (.ref p) (upd H p (DnO (GX X) p []))) ⟨fun pins s σ H Q I h => ?_⟩ fun σ H Q ⟨Z, A, γ, S, h⟩ p np => EndE.new S (same_new np) np (by
    simp only [Own]
    exact ⟨[], [], [], upd_same, rfl, rfl, rfl, (fun k hk => by cases hk), Reps.nil, Reps.nil⟩) h
  refine wpAny_Dict_empty ⟨.ref s.heap.objs.size, _, I.laid (a := s.heap.objs.size) (o := DnO (GX X) s.heap.objs.size []) (t' := s.toks) (fun _ _ q => Heap.get?_push_of_some _ q) (Nat.le_refl _) ?_, rfl, h _ (I.hok.fresh (Nat.le_refl _))⟩
  have hq : (s.heap.push { cls := .type "dict", data := .dict #[] }).get? s.heap.objs.size = some { cls := .type "dict", data := .dict #[] } := Heap.get?_push_size _ rfl
  exact ⟨⟨beq_eq_false_iff_ne.mpr (Ne.symm (Nat.ne_of_lt I.big)), Nat.zero_le _, [], .nil, _, #[], 0, hq, ⟨rfl, rfl, rfl⟩, rfl, rfl, List.nodup_nil⟩, ⟨_, hq⟩, fun g1 g2 ⟨z1, z2, zs, zp, zo, ze, zep, z3, z4⟩ hk => ⟨z1, z2, zs, zp, zo, ze, zep, hk _ z3, z4⟩⟩
/-! ### dict(pairs), list(dict) -/
def pairM : MV → Option (Key × MV)
  | .tup [k, v] => (keyM k).map fun k => (k, v)
  | _ => none
def prsM : List MV → Option (List (Key × MV))
  | [] => some []
  | m :: ms => (pairM m).bind fun p => (prsM ms).map (p :: ·)
def mergeD : List Key → List MV → List (Key × MV) → List Key × List MV
  | ks, ms, [] => (ks, ms)
  | ks, ms, p :: ps => if (dFind ks ms p.1).isSome then mergeD ks (dVals ks ms p.1 p.2) ps else mergeD (ks ++ [p.1]) (ms ++ [p.2]) ps
def dictP : MV → Option Cell
  | .lst ms => (prsM ms).map fun ps => ⟨.own, .dk (mergeD [] [] ps).1 (mergeD [] [] ps).2⟩
  | _ => none
theorem prsM_rep {G : GG} {M : Addr → Prop} {H : Hp} : ∀ {ms : List MV} {prs : List (Key × MV)} {vs : List V}, prsM ms = some prs → Reps G M H ms vs → ∃ (ps : List Addr) (kvs : List (Key × V)), vs = ps.map V.ref ∧ Paired (fun p kv => SqT G.K H p [kV kv.1, kv.2]) ps kvs ∧ Paired (fun (p : Key × MV) (q : Key × V) => p.1 = q.1 ∧ Rep G M H p.2 q.2) prs kvs
  | [], prs, vs, e, h => by
    simp only [prsM] at e
    cases e
    simp only [Reps] at h
    exact ⟨[], [], h, .nil, .nil⟩
  | m :: ms, prs, vs, e, h => by
    simp only [prsM, Option.bind_eq_some_iff, Option.map_eq_some_iff] at e
    obtain ⟨p, e1, prs', e2, rfl⟩ := e
    simp only [Reps] at h
    obtain ⟨v, r, rfl, h1, h2⟩ := h
    obtain ⟨ps, kvs, rfl, q1, q2⟩ := prsM_rep e2 h2
    unfold pairM at e1
    split at e1
    · rename_i k m
      obtain ⟨k', e3, rfl⟩ := Option.map_eq_some_iff.mp e1
      simp only [Rep] at h1
      obtain ⟨a, ws, rfl, t, rs⟩ := h1
      simp only [Reps] at rs
      obtain ⟨y, _, rfl, r1, z, _, rfl, r2, rfl⟩ := rs
      obtain rfl := keyM_rep e3 r1
      exact ⟨a :: ps, (k', z) :: kvs, rfl, .cons t.sq q1, .cons ⟨rfl, r2⟩ q2⟩
    · cases e1
theorem mergeD_rep {G : GG} {M : Addr → Prop} {H : Hp} : ∀ {prs : List (Key × MV)} {kvs : List (Key × V)} {ks : List Key} {ms : List MV} {vs : List V}, Paired (fun (p : Key × MV) (q : Key × V) => p.1 = q.1 ∧ Rep G M H p.2 q.2) prs kvs → Reps G M H ms vs → ks.length = vs.length →
    ∃ ws, mergeK (ks.zip vs) kvs = (mergeD ks ms prs).1.zip ws ∧ (mergeD ks ms prs).1.length = ws.length ∧ Reps G M H (mergeD ks ms prs).2 ws
  | [], _, ks, ms, vs, .nil, r, hl => ⟨vs, rfl, hl, r⟩
  | p :: prs, q :: kvs, ks, ms, vs, .cons ⟨e, rp⟩ t, r, hl => by
    have hlm : ks.length = ms.length := by rw [hl, r.len]
    unfold mergeD
    show ∃ ws, mergeK (putK (ks.zip vs) q.1 q.2) kvs = _ ∧ _
    rw [← e]
    split
    · rename_i hin
      have hin' : p.1 ∈ ks := (dFind_some (k := p.1) (vs := ms) (ks := ks) hlm).mp hin
      rw [putK_in hl hin']
      exact mergeD_rep t (vals_rep rp r hl) (by rw [zipW_len hl]; exact hl)
    · rename_i hin
      have hin' : p.1 ∉ ks := fun h => hin ((dFind_some (k := p.1) (vs := ms) (ks := ks) hlm).mpr h)
      rw [putK_out hl hin']
      exact mergeD_rep t (Reps.app r (Reps.one rp)) (by simp [hl])
theorem res_dk {M : Addr → Prop} {H : Hp} {p : Addr} {ks : List Key} {ms : List MV} {vs : List V} (n : H p = none) (hl : ks.length = vs.length) (r : Reps (GX X) M H ms vs) : Res (GX X) M H (upd H p (.dK (ks.zip vs))) ⟨.own, .dk ks ms⟩ (.ref p) := by
  refine ⟨p, rfl, n, ?_⟩
  simp only [Own]
  refine ⟨vs, upd_same, hl, r.keep (.of_same (same_new n)) fun b o hb m => ?_⟩
  rcases m with m | rfl
  · exact m
  · rw [n] at hb; cases hb
theorem cal_dictP (hc : X.calm = true) : Cal1 X (.type "dict") dictP := ⟨_, call_dictP hc, fun M v c x H Q tr e rv q => by
  unfold dictP at e
  split at e
  · obtain ⟨prs, h, rfl⟩ := Option.map_eq_some_iff.mp e
    obtain ⟨a, vs, rfl, h1, h2⟩ := rb_lst rv
    obtain ⟨ps, kvs, rfl, q1, q2⟩ := prsM_rep h h2
    refine ⟨a, ps, kvs, rfl, h1, q1, fun p np => ?_⟩
    obtain ⟨ws, e1, e2, e3⟩ := mergeD_rep (ks := []) (ms := []) (vs := []) q2 Reps.nil rfl
    have e1 : mergeK [] kvs = _ := e1
    rw [e1]
    exact q _ _ (same_new np) (res_dk np e2 e3)
  · cases e⟩
def kM : Key → MV
  | .inl i => .int i
  | .inr x => .str x
def lstD : MV → Option Cell
  | .dk ks _ => some ⟨.own, .lst (ks.map kM)⟩
  | _ => none
theorem kM_rep {G : GG} {M : Addr → Prop} {H : Hp} : ∀ ks : List Key, Reps G M H (ks.map kM) (ks.map kV)
  | [] => Reps.nil
  | k :: ks => Reps.consI (by cases k <;> simp only [kM, Rep] <;> rfl) (kM_rep ks)
theorem call_listDt (hc : X.calm = true) : CallR X (.type "list") (fun xs H Q => ∃ p kvs, xs = [.ref p] ∧ Rd H p (.dK kvs) ∧ ∀ q, H q = none → Q (.ref q) (upd H q (.lst (kvs.map fun kv => kV kv.1)))) := by
  intro pins s σ H xs us Q I r h
  obtain ⟨p, kvs, e, hk, q⟩ := h
  subst e
  obtain ⟨u, eu, rx⟩ := vals1 r
  subst eu
  obtain rfl : u = Value.ref p := rx
  obtain ⟨z, lo, vs, rk, hd⟩ := dk_rd I.hok hk
  obtain ⟨ep, hat⟩ := hd.dictAt
  have hl : kvs.length = vs.length := Paired.length rk
  refine PySem.W.kdl_call (PySem.W.kdl_dict (knd := mixKind X.prog X.w) (kvs := vs) (ep := ep) lo) (I.ok.hd hc) hat (by rw [← hl]; exact z) fun h' tk acc' c' hkeep hS hacc => ?_
  refine ⟨.ref s.heap.objs.size, upd H s.heap.objs.size (.lst (kvs.map fun kv => kV kv.1)), I.laid hkeep (Nat.le_refl _) (show ObjOk X.prog X.w _ _ _ (.lst (kvs.map fun kv => kV kv.1)) from ⟨?_, acc'.toList, c', ?_, ?_⟩), rfl, q _ (I.hok.fresh (Nat.le_refl _))⟩
  · rw [List.length_map]; exact z
  · have el : acc'.toList.length = acc'.size := by simp
    refine vals_of_at (by rw [List.length_map, el, hacc.1, hl]) fun j x w h1 h2 => ?_
    obtain ⟨k, y, hky, hi⟩ := hacc.2 j w (by rw [← Array.getElem?_toList]; exact h2)
    have e1 : (kvs.map (·.1))[j]? = some k := by
      rw [KV.keys rk, List.getElem?_map, hky] <;> rfl
    have e2 : (kvs.map fun kv => kV kv.1)[j]? = some (kV k) := by
      have e3 : (kvs.map fun kv => kV kv.1) = (kvs.map (·.1)).map kV := by rw [List.map_map] <;> rfl
      rw [e3, List.getElem?_map, e1] <;> rfl
    rw [e2] at h1
    cases h1
    exact keyIs_rel hi
  · rw [Array.toArray_toList]; exact hS
theorem cal_lstD (hc : X.calm = true) : Cal1 X (.type "list") lstD := ⟨_, call_listDt hc, fun M v c x H Q tr e rv q => by
  unfold lstD at e
  split at e
  · cases e
    obtain ⟨a, vs, rfl, h1, h2, h3⟩ := dk_repB rv
    refine ⟨a, _, rfl, h1, fun p np => ?_⟩
    have ek : ∀ (ks : List Key) (vs : List V), ks.length = vs.length → ((ks.zip vs).map fun kv => kV kv.1) = ks.map kV := by
      intro ks
      induction ks with
      | nil => intro vs _; rfl
      | cons k ks ih =>
        intro vs hl
        cases vs with
        | nil => cases hl
        | cons v vs => simp only [List.zip_cons_cons, List.map_cons]; rw [ih vs (by simpa using hl)]
    rw [ek _ _ h2]
    exact q _ _ (same_new np) (res_lst np (kM_rep _))
  · cases e⟩
abbrev listM : MV → Option Cell := fun v => (lstM v).or (lstD v)
theorem cal_list (hc : X.calm = true) : Cal1 X (.type "list") listM := cal_lst.or (cal_lstD hc)
end
/-! ### (a, *b) -/
section
variable {X : Cx} {a b e e1 : Expr} {es : List Expr} {f : FE} {fa : FA} {pos : Pos} {x1 }
def rowM : MV → Option (List MV)
  | .lst ms => some ms
  | .tup ms => some ms
  | _ => none
def aStar (f : FE) (r : FA) : FA := fun γ => match f γ with
  | .ok c γ1 => (match rowM c.v with
    | some ns => (match r γ1 with
      | .ok ms γ2 => .ok (ns ++ ms) γ2
      | .ex e γ2 => .ex e γ2
      | .no => .no)
    | none => .no)
  | .ex e γ1 => .ex e γ1
  | .no => .no
theorem ra_star {p : Pos} (ha : RE X e f) (hr : RA X es fa) (hs : starEach (.Starred e p :: es) X.env = (true, eval e X.env) :: starEach es X.env := by rfl) : RA X (.Starred e p :: es) (aStar f fa) := fun W tk =>
  PA_imp (StX.pa_star (ha W tk) (hr W tk) hs) fun σ H Q ⟨Z, A, γ, S, h⟩ => by
    refine ⟨Z, A, γ, S, ?_⟩
    unfold aStar at h
    cases E1 : f γ with
    | no => rw [E1] at h; exact h
    | ex e γ1 => rw [E1] at h; exact h
    | ok c γ1 =>
      rw [E1] at h
      simp only at h
      intro x A1 H1 hs le k
      have rep := hs.rep
      cases E3 : rowM c.v with
      | none => rw [E3] at h; exact h.elim
      | some ns =>
        rw [E3] at h
        simp only at h
        have ⟨p, ys, ex, hq, hy⟩ : ∃ p ys, x = .ref p ∧ (SqT X.K H1 p ys ∨ SqL X.K H1 p ys) ∧ Reps (GX X) (Mz Z A1) H1 ns ys := by
          cases ec : c.v with
          | lst ms =>
            rw [ec] at rep E3
            cases E3
            obtain ⟨p, ys, rfl, h1, h2⟩ := rb_lst (.inl rep)
            exact ⟨p, ys, rfl, .inr h1, h2⟩
          | tup ms =>
            rw [ec] at rep E3
            cases E3
            obtain ⟨p, ys, rfl, h1, h2, _⟩ := rb_tup (.inl rep)
            exact ⟨p, ys, rfl, .inl h1, h2⟩
          | _ => rw [ec] at E3; cases E3
        subst ex
        refine ⟨p, ys, rfl, hq, Z, A1, γ1, hs.sim, ?_⟩
        cases E2 : fa γ1 with
        | no => rw [E2] at h; exact h
        | ex e γ2 =>
          rw [E2] at h
          exact fun A2 H2 cls d S le2 kk => h A2 H2 cls d S (le2.trans le) (k.trans kk fun b _ _ m => le.mz b m)
        | ok ms γ2 =>
          rw [E2] at h
          intro xs A2 H2 S2 le2 kk r2
          exact h (ys ++ xs) A2 H2 S2 (le2.trans le) (k.trans kk fun b _ _ m => le.mz b m) (Reps.app (hy.keep kk fun b _ _ m => le2.mz b m) r2)
/-- so many, told by looking -/
def aLim (n : Nat) (fa : FA) : FA := fun γ => match fa γ with
  | .ok ms γ1 => if ms.length = n then .ok ms γ1 else .no
  | .ex e γ1 => .ex e γ1
  | .no => .no
theorem ra_lim {n : Nat} (h : RA X es fa) : RA X es (aLim n fa) := fun W tk => PA_imp (h W tk) fun σ H Q ⟨Z, A, γ, S, h⟩ => by
  refine ⟨Z, A, γ, S, ?_⟩
  unfold aLim at h
  cases E : fa γ with
  | no => rw [E] at h; exact h
  | ex e γ1 => rw [E] at h; exact h
  | ok ms γ1 =>
    rw [E] at h
    simp only at h
    split at h
    · exact h
    · exact h.elim
theorem lim_lim {n : Nat} {fa : FA} : Lim n (aLim n fa) := fun γ ms γ' h => by
  unfold aLim at h
  split at h
  · split at h
    · rename_i e
      cases h
      exact e
    · cases h
  · cases h
  · cases h
def eTupD (fa : FA) : FE := fun γ => match fa γ with
  | .ok ms γ1 => if ms.length ≤ sizeLine then .ok ⟨.val, .tup ms⟩ γ1 else .no
  | .ex e γ1 => .ex e γ1
  | .no => .no
theorem re_tupD {x1} (ha : RA X es fa) : RE X (.Tuple es x1 pos) (eTupD fa) := fun W tk =>
  PE_imp (pe_tup (ha W tk)) fun σ H Q ⟨Z, A, γ, S, h⟩ => by
    refine ⟨Z, A, γ, S, ?_⟩
    unfold eTupD at h
    cases E1 : fa γ with
    | no => rw [E1] at h; exact h
    | ex e γ1 => rw [E1] at h; exact h
    | ok ms γ1 =>
      rw [E1] at h
      simp only at h
      split at h
      · rename_i hz
        intro xs A1 H1 S1 le k r
        refine ⟨by rw [r.len]; exact hz, fun p np => ?_⟩
        have e : Same H1 (upd H1 p (.tup xs)) := same_new np
        refine h (.ref p) A1 _ ⟨S1.same e, ?_⟩ le (k.trans (Keep.of_same e) fun b _ _ m => le.mz b m)
        simp only [Rep]
        exact ⟨p, xs, rfl, .inl ⟨.inl upd_same, S1.trk.new np⟩, r.same e⟩
      · exact h.elim
end
/-! ### isinstance -/
def tagM : MV → Option String
  | .non => some "NoneType"
  | .bl _ => some "bool"
  | .int _ => some "int"
  | .str _ => some "str"
  | .tup _ => some "tuple"
  | .lst _ => some "list"
  | .dk _ _ => some "dict"
  | _ => none
/-- of the class T of the built-ins -/
def isiT (f : String → Option Bool) (g : List (Str × Bool)) : MV → Option Cell
  | .ins C _ => (tbF g C).map vB
  | v => (tagM v).bind fun t => (f t).map vB
theorem tyx_rep {G : GG} {M : Addr → Prop} {H : Hp} {v : MV} {t : String} {x : V} (e : tagM v = some t) (h : RepB G M H v x) : TyX G.K H x (.type t) := by
  cases v with
  | non => cases e; rw [rb_non h]; exact .base .non
  | bl b => cases e; rw [rb_bl h]; exact .base (.bl b)
  | int b => cases e; rw [rb_int h]; exact .base (.int b)
  | str b => cases e; rw [rb_str h]; exact .base (.str b)
  | tup ms =>
    cases e
    obtain ⟨a, vs, rfl, h1, _⟩ := rb_tup h
    rcases h1 with (h1 | ⟨o, h1⟩) | ⟨o, its, n, h1, h2, _⟩
    · exact .base (.tup h1)
    · exact .fTuple h1
    · exact .kTuple h1 h2
  | lst ms =>
    cases e
    obtain ⟨a, vs, rfl, h1, _⟩ := rb_lst h
    rcases h1 with (h1 | ⟨o, h1⟩) | ⟨o, its, n, h1, h2, _⟩
    · exact .base (.lst h1)
    · exact .base (.frz h1)
    · exact .kList h1 h2
  | dk ks ms =>
    cases e
    obtain ⟨a, vs, rfl, h1 | ⟨o, h1⟩, _⟩ := dk_repB h
    · exact .base (.dK h1)
    · exact .fDict h1
  | _ => cases e
/-- the tests of instances of own classes -/
def IsG (K : PySem.W.Frag) (u : Value) (g : List (Str × Bool)) : Prop := ∀ p ∈ g, p.1 ≠ ("" : Str) ∧ SlX.SCls K (He.ga K p.1) ∧ SlX.SIsi K (He.ga K p.1) ∧ PySem.W.kitOne K (.ref (He.ga K p.1)) u = some p.2
section
variable {X : Cx} {a : Expr} {pos p p2 : Pos} {o : Opd} {f : String → Option Bool} {g : List (Str × Bool)}
def rIsiM (K : PySem.W.Frag) (c : V) (u : Value) : V → Hp → VK → Prop := fun x H Q => (∃ t b, TyX K H x (.type t) ∧ PySem.W.kitOne K (.type t) u = some b ∧ Q (.bl b) H) ∨ ∃ (a C dx : Addr) (vs : List (Option V)) (b : Bool), x = .ref a ∧ SlX.Slt H a C dx vs ∧ SlX.SCls K C ∧ SlX.SIsi K C ∧ PySem.W.kitOne K (.ref C) u = some b ∧ Q (.bl b) H
theorem isi_both {c : V} {u : Value} (k : ClsV c u) (one : ∀ w, RelV c w → w = u) (rc : RelV c u) : CallR X (.builtin "isinstance") (fun xs H Q => ∃ x, xs = [x, c] ∧ rIsiM X.K c u x H Q) := by
  intro pins s σ H xs us Q I r h
  obtain ⟨x, rfl, ⟨t, b, ty, kb, q⟩ | ⟨a, C, dx, vs, b, rfl, sl, sc, si, kb, q⟩⟩ := h
  · exact call_isi pins s σ H _ us Q I r ⟨x, c, _, u, b, rfl, k, ty, kb, q⟩
  · exact SlX.call_isiSl u pins s σ H _ us Q I r ⟨a, C, dx, vs, c, b, rfl, rc, one, sl, sc, si, kb, q⟩
theorem isi_one {W : WX} {σ : L2.St} {H : Hp} {Q : VK} {c : V} {u : Value} (hf : ∀ t b, f t = some b → PySem.W.kitOne X.K (.type t) u = some b) (hg : IsG X.K u g) (h : tME (GX X) (e1 (isiT f g) o) W σ H Q) : tMQ (GX X) o W σ H fun x H1 => ∃ x', [x, c] = [x', c] ∧ rIsiM X.K c u x' H1 Q :=
  one (r := fun x H Q => ∃ x', [x, c] = [x', c] ∧ rIsiM X.K c u x' H Q) (fun M v cc x H Q tr e rv q => ⟨x, rfl, by
    unfold isiT at e
    split at e
    · rename_i C ms
      obtain ⟨b, e', rfl⟩ := Option.map_eq_some_iff.mp e
      obtain ⟨n, sc, si, kb⟩ := hg _ (tbF_mem e')
      obtain ⟨a, dx, vs, rfl, h1, _⟩ := rb_ins n rv
      exact .inr ⟨a, _, dx, _, b, rfl, h1, sc, si, kb, q _ H (.refl _) res_bl⟩
    · obtain ⟨t, e1, e⟩ := Option.bind_eq_some_iff.mp e
      obtain ⟨b, e2, rfl⟩ := Option.map_eq_some_iff.mp e
      exact .inl ⟨t, b, tyx_rep e1 rv, hf t b e2, q _ H (.refl _) res_bl⟩⟩) h
/-- isinstance(a, T), T built in -/
abbrev kitT (T : String) (t : String) : Option Bool := L2.kitB t T
theorem re_isi {x : Str} {Tn : String} (hg : Gl X "isinstance") (hm : X.mg "isinstance" = none) (hT : PE X (.Name x p2) (tC (.ty Tn))) (hi : IsG X.K (.type Tn) g) (ha : RQ X a o)
    (hs : starEach [a, .Name x p2] X.env = (false, eval a X.env) :: starEach [.Name x p2] X.env := by rfl) (hs' : starEach [.Name x p2] X.env = (false, eval (.Name x p2) X.env) :: starEach [] X.env := by rfl) (hpl : (backTo pos (starEach [.Name x p2] X.env)).any (·.1) = false := by rfl) :
    RE X (.Call (.Name "isinstance" p) [a, .Name x p2] [] pos) (e1 (isiT (kitT Tn) g) o) := fun W tk =>
  PE_imp (pe_callB (isi_both (c := .ty Tn) (u := .type Tn) (.ty Tn) (fun w h => h) rfl) hg hm (by rfl) (pa_cons (ha W tk) (pa_cons hT pa_nil hs') hs) (by decide) (by decide) hs hpl) fun σ H Q h =>
    isi_one (c := .ty Tn) (f := kitT Tn) (fun t b e => kit_ty e) hi h
/-- isinstance(a, C), C an own class; f: which built-in types are told -/
theorem re_isiC {C : Str} {f : String → Option Bool} (hg : Gl X "isinstance") (hm : X.mg "isinstance" = none) (hT : PE X (.Name C p2) (tC (.ref (He.ga X.K C)))) (hf : ∀ t b, f t = some b → PySem.W.kitOne X.K (.type t) (.ref (He.ga X.K C)) = some b) (hi : IsG X.K (.ref (He.ga X.K C)) g) (ha : RQ X a o)
    (hs : starEach [a, .Name C p2] X.env = (false, eval a X.env) :: starEach [.Name C p2] X.env := by rfl) (hs' : starEach [.Name C p2] X.env = (false, eval (.Name C p2) X.env) :: starEach [] X.env := by rfl) (hpl : (backTo pos (starEach [.Name C p2] X.env)).any (·.1) = false := by rfl) :
    RE X (.Call (.Name "isinstance" p) [a, .Name C p2] [] pos) (e1 (isiT f g) o) := fun W tk =>
  PE_imp (pe_callB (isi_both (c := .ref (He.ga X.K C)) (u := .ref (He.ga X.K C)) (.own _) (fun w h => h) rfl) hg hm (by rfl) (pa_cons (ha W tk) (pa_cons hT pa_nil hs') hs) (by decide) (by decide) hs hpl) fun σ H Q h =>
    isi_one (c := .ref (He.ga X.K C)) hf hi h
end
/-! ### len of one's own -/
section
variable {X : Cx} {a : Expr} {pos p : Pos} {f : FE} {tb : List (Str × (List MV → RF))} {k j : Nat}
theorem call_lenG {E : L2.St → XK} {C : Str} {F : List MV → RF} {pins : List (Addr × Obj)} {σ : L2.St} {H : Hp} {s : Shared} {Q : VK} {a dx : Addr} {vs : List (Option V)} {ps : List Str} (hps : ps.length = 1) (M : MthM X.prog X.w X.K X.mg X.base k C "__len__" ps F) (hr : Room j X.A) (hk : k + 1 ≤ j) (hgd : X.A.guards = some [])
    (hx : ∀ (pins : List (Addr × Obj)) (H : Hp) (s : Shared) (e : Value) (s' : Shared), L2.Inv X pins σ H s → CX X.prog X.w X.stack H s (E σ) e s' → X.xe e s') (I : L2.Inv X pins σ H s) (hsl : SlX.Slt H a (He.ga X.K C) dx vs)
    (q : spM X.prog X.w X.K 1 none F [.ref a] H (fun z H' => ∃ i : Int, z = .int i ∧ 0 ≤ i ∧ i < 2 ^ 63 ∧ Q z H') (E σ)) : wpAny (model X.prog X.w) X.A (call (.builtin "len") [.ref a]) (EP X pins σ Q) X.xe s := by
  obtain ⟨_, fd, G, b, c, hm⟩ := M
  obtain ⟨sl, od, _, J, _⟩ := SlX.slt_inst I hsl
  refine Calls.call_function_entry kind_len plain_len entry_len (args_len1 _) ?_
  unfold Builtin.«len»
  refine wpAny_bind (m := oneArg "len" _) (wpAny_pure ?_)
  have run := G.run X.A.in1 X.stack s H ⟨[.ref a], []⟩ [.ref a] [.ref a] _ (E σ) (hr.mono hk).in1 hgd I.env0.in1 (by
    have := b s [.ref a] I.kIn (by rw [List.append_nil]; exact hps.symm)
    rwa [List.append_nil] at this) (.cons rfl .nil) (by rw [hps]; exact q)
  refine wpAny_bind (m := callSpecial? (.ref a) (PySem.Str.ofString "__len__")) (PySem.W.special_fn I.kIn J hm.at_ (beq_iff_eq.mp hm.fn) (wpAny_call (codeAny_mono run fun r s' z => ?_)))
  cases r with
  | error e => exact hx pins H s e s' I z
  | ok fl =>
    cases fl with
    | ret u =>
      obtain ⟨z', H', I', rz, i, ei, hi0, hi1, qz⟩ := I.after z
      subst ei
      obtain ⟨t, e⟩ := (show ∃ t, u = Value.int i t from rz)
      cases e
      refine wpAny_bind (wpAny_holding (wpAny_pure ?_))
      refine wpAny_bind (wpAny_letGo ?_)
      show wpAny _ _ (if i < 0 then _ else _) _ _ _
      rw [if_neg (by omega)]
      show wpAny _ _ (if i ≥ 2 ^ 63 then _ else _) _ _ _
      rw [if_neg (by omega)]
      exact wpAny_bind (wpAny_mkInt (wpAny_pure ⟨_, rfl, .int i, H', I'.tok _, ⟨_, rfl⟩, qz⟩))
    | next => exact z.elim
    | brk => exact z.elim
    | cont => exact z.elim
def intB : MV → Option Int
  | .int n => if 0 ≤ n ∧ n < 2 ^ 63 then some n else none
  | _ => none
def lenO (tb : List (Str × (List MV → RF))) : MV → Option Cell
  | .ins C vs => (tbF tb C).bind fun F => match F [.ins C vs] with
    | .rt ⟨.val, v⟩ _ => (intB v).map vI
    | _ => none
  | _ => none
theorem cal_lenO (ht : MTb X k 0 "__len__" tb) (hr : Room j X.A) (hgd : X.A.guards = some []) (hk : k + 1 ≤ j := by decide) : Cal1T X (.builtin "len") (lenO tb) := by
  refine ⟨fun xs H Q => ∃ C F a dx vs ps, xs = [V.ref a] ∧ ps.length = 1 ∧ SlX.Slt H a (He.ga X.K C) dx vs ∧ MthM X.prog X.w X.K X.mg X.base k C "__len__" ps F ∧ spM X.prog X.w X.K 1 none F [.ref a] H (fun z H' => ∃ i : Int, z = .int i ∧ 0 ≤ i ∧ i < 2 ^ 63 ∧ Q z H') (fun _ _ _ => False),
    fun pins s σ H xs us Q I r ⟨C, F, a, dx, vs, ps, e, hps, sl, M, q⟩ => ?_, fun M v c x H Q tr e rv q => ?_⟩
  · subst e
    obtain ⟨u, rfl, ru⟩ := vals1 r
    cases ru
    exact call_lenG (E := fun _ _ _ _ => False) hps M hr hk hgd (fun pins H s e s' I2 cx => by
      obtain ⟨_, _, _, _, _, _, _, _, _, _, _, _, hE⟩ := cx
      exact hE.elim) I sl q
  · unfold lenO at e
    split at e
    · rename_i C vs
      obtain ⟨F, e1, e⟩ := Option.bind_eq_some_iff.mp e
      split at e
      · rename_i v out e2
        obtain ⟨n, e3, rfl⟩ := Option.map_eq_some_iff.mp e
        obtain ⟨ps, hps, Mm⟩ := ht _ (tbF_mem e1)
        obtain ⟨a, dx, ws, rfl, h1, _, hrp⟩ := rb_ins Mm.1 rv
        refine ⟨C, F, a, dx, _, ps, rfl, hps, h1, Mm, rfl, M, [.ins C vs], tr.1, tr.2, ⟨rfl, fun i m x hm hx _ => ?_, fun i hi => by cases hi⟩, ?_⟩
        · cases i with
          | zero => cases hm; cases hx; exact hrp
          | succ i => simp at hm
        · rw [e2]
          intro x H' dn
          have sm := dn.sameT
          have rx : Rep (GX X) M H' v x := dn.2
          unfold intB at e3
          split at e3
          · rename_i n'
            split at e3
            · rename_i hn
              cases e3
              simp only [Rep] at rx
              subst rx
              exact ⟨_, rfl, hn.1, hn.2, q _ H' sm res_int⟩
            · cases e3
          · cases e3
      · cases e
    · cases e
end
end Mi

set_option Elab.async false
set_option linter.all false
set_option maxRecDepth 100000
set_option maxHeartbeats 4000000
/-! comprehensions with two for -/
namespace Mi
open PySem PySem.Spec PyProof.Rows L2 My

/-- turns: the target, then what a turn adds -/
def loopM (t : Tg) (bd : Sg → Option (List MV × Sg)) (vs : List Nat) : List MV → Sg → Option (List MV × Sg)
  | [], γ => some ([], γ)
  | m :: ms, γ => match asgM t m γ with
    | none => none
    | some γ1 => match bd γ1 with
      | none => none
      | some (ns, γ2) => (loopM t bd vs ms (wipeG γ2 vs)).map fun r => (ns ++ r.1, r.2)
def bd1 (tt : FT) (f : FE) : Sg → Option (List MV × Sg) := fun γ => match tt γ with
  | .ok true γ1 => (match f γ1 with
    | .ok c γ2 => some ([c.v], γ2)
    | _ => none)
  | .ok false γ1 => some ([], γ1)
  | _ => none
def bd2 (tt : FT) (fi : FI) (t1 : Tg) (vs1 : List Nat) (bd : Sg → Option (List MV × Sg)) : Sg → Option (List MV × Sg) := fun γ => match tt γ with
  | .ok true γ1 => (match fi γ1 with
    | .ok ms γ2 => loopM t1 bd vs1 ms (wipeG γ2 vs1)
    | _ => none)
  | .ok false γ1 => some ([], γ1)
  | _ => none
def eComp2 (t : Tg) (fi : FI) (tt : FT) (fi1 : FI) (t1 : Tg) (tt1 : FT) (f : FE) (vs vs1 : List Nat) : FE := fun γ => match fi γ with
  | .ok ms γ1 => (match loopM t (bd2 tt fi1 t1 vs1 (bd1 tt1 f)) vs ms (wipeG γ1 vs) with
    | some (rs, γ2) => if rs.length ≤ sizeLine then .ok ⟨.own, .lst rs⟩ (backG γ1 vs γ2) else .no
    | none => .no)
  | .ex e γ1 => .ex e γ1
  | .no => .no
theorem loopM_nil {t : Tg} {bd : Sg → Option (List MV × Sg)} {vs : List Nat} {γ γ' : Sg} {rs : List MV} (h : loopM t bd vs [] γ = some (rs, γ')) : rs = [] ∧ γ' = γ := by
  unfold loopM at h
  cases h
  exact ⟨rfl, rfl⟩
section
variable {X : Cx} {Zl : Ent} {D : Addr} {vs : List Nat} {σ : L2.St} {J : It} {ms : List MV} {P : Ent → AM → Hp → Prop} {src : Addr → Prop} {t : Tg} {bd : Sg → Option (List MV × Sg)} {A2 : AM} {γ0 γf : Sg} {H0 : Hp} {acc0 : List V} {rs0 rest : List MV}
theorem loop_gen (nf : ∀ u, ¬ Zl.F D u) (K : ItOk (GX X) J ms P src) (nsrc : ¬ src D) (hsub : ∀ i ∈ t.slots, i ∈ vs)
    (S0 : Sim (GX X) (Zl.wait D (.lst acc0)) A2 γ0 (L2.wipe σ vs) H0) (hv0 : ∀ j ∈ vs, γ0[j]? = none ∨ γ0[j]? = some none) (r0 : Reps (GX X) (Mz (Zl.wait D (.lst acc0)) A2) H0 rs0 acc0) (p0 : P (Zl.wait D (.lst acc0)) A2 H0)
    (hc0 : loopM t bd vs ms γ0 = some (rest, γf)) (hsz : rs0.length + rest.length ≤ sizeLine) {QQ : Hp → Prop}
    (fin : ∀ A' H' acc, Sim (GX X) (Zl.wait D (.lst acc)) A' γf (L2.wipe σ vs) H' → (∀ j ∈ vs, γf[j]? = none ∨ γf[j]? = some none) → Reps (GX X) (Mz (Zl.wait D (.lst acc)) A') H' (rs0 ++ rest) acc → Le A' A2 → Keep (Mz (Zl.wait D (.lst acc0)) A2) H0 H' → QQ H')
    {BODY : L2.St → Hp → (Hp → Prop) → Prop}
    (hb : ∀ σ2 A3 γ2 acc rs H2 ns γ3 (NX : Hp → Prop), Sim (GX X) (Zl.wait D (.lst acc)) A3 γ2 σ2 H2 → L2.wipe σ2 vs = L2.wipe σ vs → Reps (GX X) (Mz (Zl.wait D (.lst acc)) A3) H2 rs acc → bd γ2 = some (ns, γ3) → rs.length + ns.length ≤ sizeLine →
      (∀ σ4 A4 H4 acc', Sim (GX X) (Zl.wait D (.lst acc')) A4 γ3 σ4 H4 → L2.wipe σ4 vs = L2.wipe σ vs → Reps (GX X) (Mz (Zl.wait D (.lst acc')) A4) H4 (rs ++ ns) acc' → Le A4 A3 → Keep (Mz (Zl.wait D (.lst acc)) A3) H2 H4 → NX H4) → BODY σ2 H2 NX) :
    ∃ W : Nat → Nat → Hp → Prop, (∃ m, W 0 m H0) ∧ ∀ i m H, W i m H → (J.stop i H ∧ QQ H) ∨ (J.go i H ∧ ∃ Nx : Hp → Prop, (∀ H', Nx H' → ∃ m', m' < m ∧ W (i + 1) m' H') ∧ ∀ x H', J.yld i H x H' → tMG (GX X) t x (L2.wipe σ vs) H' fun σ2 H2 => L2.wipe σ2 vs = L2.wipe σ vs ∧ BODY σ2 H2 Nx) := by
  have mzs : ∀ (a b : List V) (A : AM) (c : Addr), Mz (Zl.wait D (.lst a)) A c → Mz (Zl.wait D (.lst b)) A c := fun a b A c m => (mz_wait c).mpr ((mz_wait c).mp m)
  refine ⟨fun i m H' => m = ms.length - i ∧ i ≤ ms.length ∧ ∃ A' γ' acc rs rest', Sim (GX X) (Zl.wait D (.lst acc)) A' γ' (L2.wipe σ vs) H' ∧ (∀ j ∈ vs, γ'[j]? = none ∨ γ'[j]? = some none) ∧ Reps (GX X) (Mz (Zl.wait D (.lst acc)) A') H' rs acc ∧ P (Zl.wait D (.lst acc)) A' H' ∧
      loopM t bd vs (ms.drop i) γ' = some (rest', γf) ∧ rs ++ rest' = rs0 ++ rest ∧ Le A' A2 ∧ Keep (Mz (Zl.wait D (.lst acc0)) A2) H0 H',
    ⟨ms.length, by simp, Nat.zero_le _, A2, γ0, acc0, rs0, rest, S0, hv0, r0, p0, by rw [List.drop_zero]; exact hc0, rfl, .refl, .refl⟩, ?_⟩
  rintro i m H' ⟨rfl, hi, A', γ', acc, rs, rest', S', hv, hrs, p', hc, hall, le', k'⟩
  by_cases hlt : i < ms.length
  · refine .inr ⟨K.go hlt p', fun H3 => i + 1 ≤ ms.length ∧ ∃ A3 γ3 acc3 rs3 rest3, Sim (GX X) (Zl.wait D (.lst acc3)) A3 γ3 (L2.wipe σ vs) H3 ∧ (∀ j ∈ vs, γ3[j]? = none ∨ γ3[j]? = some none) ∧ Reps (GX X) (Mz (Zl.wait D (.lst acc3)) A3) H3 rs3 acc3 ∧ P (Zl.wait D (.lst acc3)) A3 H3 ∧
        loopM t bd vs (ms.drop (i + 1)) γ3 = some (rest3, γf) ∧ rs3 ++ rest3 = rs0 ++ rest ∧ Le A3 A2 ∧ Keep (Mz (Zl.wait D (.lst acc0)) A2) H0 H3,
      fun H3 q => ⟨ms.length - (i + 1), by omega, rfl, q.1, q.2⟩, fun x H2 y => ?_⟩
    obtain ⟨e2, m, hm, r2⟩ := K.yld p' S' hlt y
    have em : ms.drop i = m :: ms.drop (i + 1) := by
      rw [List.drop_eq_getElem_cons hlt]
      rw [List.getElem?_eq_getElem hlt] at hm
      rw [Option.some.inj hm]
    rw [em] at hc
    simp only [loopM] at hc
    have S2 := S'.same e2
    have p2 := K.stp p' S' S2 (.of_same e2)
    cases E3 : asgM t m γ' with
    | none => rw [E3] at hc; cases hc
    | some γ2 =>
      rw [E3] at hc
      simp only at hc
      cases E4 : bd γ2 with
      | none => rw [E4] at hc; cases hc
      | some nb =>
        obtain ⟨ns, γ3⟩ := nb
        rw [E4] at hc
        simp only [Option.map_eq_some_iff] at hc
        obtain ⟨⟨rest3, γr⟩, hc, hr⟩ := hc
        have hr1 : ns ++ rest3 = rest' := congrArg Prod.fst hr
        have hr2 : γr = γf := congrArg Prod.snd hr
        subst hr2
        refine ⟨_, A', γ', m, S2, r2, γ2, E3, fun σ3 A3 S3 le3 out3 => ?_⟩
        have hw : L2.wipe σ3 vs = L2.wipe σ vs := by
          rw [← wipe_wipe (σ := σ)]
          exact wipe_eq (by rw [← S3.len, ← S2.len]; exact (asgM_len _ _ _ _ E3)) fun j hj => out3 j fun z => hj (hsub j z)
        refine ⟨hw, hb σ3 A3 γ2 acc rs H2 ns γ3 _ S3 hw ?_ E4 ?_ fun σ4 A4 H4 acc4 S4 hw4 rs4 le4 k4 => ?_⟩
        · exact hrs.keep (.of_same e2) fun b _ _ m => le3.mz b m
        · have := congrArg List.length hall
          rw [List.length_append, List.length_append, ← hr1, List.length_append] at this
          omega
        · -- the walked thing, behind the turn
          have k24 : Keep (Mz (Zl.wait D (.lst acc)) A') H' H4 := (Keep.of_same e2).trans (k4.mono fun b m => le3.mz b m) fun _ _ _ m => m
          have Sr := Sim.rew (o' := .lst acc4) nt_lst nf S'
          have pr := K.rew (o' := .lst acc4) nsrc p'
          obtain ⟨A5, le5, S5⟩ := S4.wipe vs
          rw [hw4] at S5
          have l5 : Le A5 A' := le5.trans (le4.trans le3)
          have hD4 := S4.waits
          have kr : Keep (Mz (Zl.wait D (.lst acc4)) A') (upd H' D (.lst acc4)) H4 := ⟨fun b o n hb => by
            have hbd : b ≠ D := fun z => n (by rw [z]; exact wait_in)
            rw [upd_ne hbd] at hb
            exact k24.at_ b o (fun z => n (mzs _ _ _ _ z)) hb, fun b o hb => by
            by_cases hbd : b = D
            · exact ⟨_, by rw [hbd]; exact hD4⟩
            · rw [upd_ne hbd] at hb
              exact k24.on b o hb⟩
          have p5 := K.stp pr Sr S5 (.of l5 kr)
          refine ⟨hlt, A5, wipeG γ3 vs, acc4, rs ++ ns, rest3, S5, fun j hj => wipeG_at hj, rs4.keep .refl fun b _ _ m => le5.mz b m, p5, hc, ?_, l5.trans le', ?_⟩
          · rw [List.append_assoc, hr1]
            exact hall
          · exact k'.trans k24 fun b o hb m => mzs _ _ _ _ (le'.mz b m)
  · have e : i = ms.length := by omega
    subst e
    rw [List.drop_length] at hc
    obtain ⟨h1, h2⟩ := loopM_nil hc
    subst h1 h2
    rw [List.append_nil] at hall
    subst hall
    exact .inl ⟨K.stop p', fin A' H' acc S' hv hrs le' k'⟩
end
/-! what stays of itself while it is walked: tuples, texts -/
def EndIT (G : GG) (Z : Ent) (W : WX) (A : AM) (σ : L2.St) (H : Hp) (R' : It → Hp → Prop) : R (List MV) → Prop
  | .ok ms γ' => ∀ J l A' H' P, Stg G Z A H l A' γ' σ H' → ItOk G J ms P (fun _ => False) → P (Z.waits l) A' H' → R' J H'
  | .ex e γ' => EndX G Z W A σ H e γ'
  | .no => False
def tMIT (G : GG) (fi : FI) (W : WX) : TI := fun σ H R' => ∃ Z A γ, Sim G Z A γ σ H ∧ EndIT G Z W A σ H R' (fi γ)
def RIT (X : Cx) (tg e : Expr) (fi : FI) : Prop := ∀ W : WX, Takes X W → PI X tg e (tMIT (GX X) fi W)
def fTup (o : Opd) : FI := fun γ => match oEv o γ with
  | .ok c γ1 => if walkable o c then (match c.v with
    | .tup ms => .ok ms γ1
    | .str z => .ok (z.cps.toList.map fun c => .str ⟨#[c]⟩) γ1
    | _ => .no) else .no
  | .ex e γ1 => .ex e γ1
  | .no => .no
section
variable {X : Cx} {tg e : Expr} {o : Opd}
theorem rit_tup (ha : RQ X e o) : RIT X tg e (fTup o) := fun W tk => PI_imp (pi_seq (ha W tk)) fun σ H R ⟨Z, A, γ, S, h⟩ => by
  refine (Stg.start S).run ?_
  unfold fTup at h
  cases E1 : oEv o γ with
  | no => rw [E1] at h; exact h
  | ex e γ1 => rw [E1] at h; exact h
  | ok c γ1 =>
    rw [E1] at h
    simp only at h ⊢
    intro x l1 A1 H1 T1 _ L1
    split at h
    · rename_i hw
      have hd := L1.hold T1.sim hw fun i e => by
        subst e
        obtain ⟨e1, e2⟩ := oEv_sl E1
        rw [e1]
        exact e2
      obtain ⟨k, v⟩ := c
      cases v with
      | tup ms =>
        obtain ⟨a, vs, rfl, h1, h2⟩ := hd.tup
        exact .inr (.inl ⟨a, rfl, ⟨vs, h1⟩, h _ l1 A1 H1 _ T1 it_tup hd⟩)
      | str z =>
        have := hd.str
        exact .inr (.inr ⟨z, this, h _ l1 A1 H1 _ T1 it_str trivial⟩)
      | _ => exact h.elim
    · exact h.elim
end
theorem comp2_end {X : Cx} {t t1 : Tg} {fi fi1 : FI} {tt tt1 : FT} {f : FE} {vs vs1 : List Nat} {W : WX} (hsub : ∀ i ∈ t.slots, i ∈ vs) (hsub1 : ∀ i ∈ t1.slots, i ∈ vs1) (hv1 : ∀ i ∈ vs1, i ∈ vs) {σ : L2.St} {H : Hp} {Q : VK} (h : tME (GX X) (eComp2 t fi tt fi1 t1 tt1 f vs vs1) W σ H Q) :
    tLc2 (tMI (GX X) fi W) (tMG (GX X) t) (tMT (GX X) tt Bot) (tMIT (GX X) fi1 Bot) (tMG (GX X) t1) (tMT (GX X) tt1 Bot) (tME (GX X) f Bot) vs vs1 σ H Q := by
  obtain ⟨Z, A, γ, S, h⟩ := h
  refine ⟨Z, A, γ, S, ?_⟩
  unfold eComp2 at h
  cases E1 : fi γ with
  | no => rw [E1] at h; exact h
  | ex e γ1 => rw [E1] at h; exact h
  | ok ms γ1 =>
    rw [E1] at h
    simp only at h
    intro J l A1 H1 P src T K p1 D nD
    cases E2 : loopM t (bd2 tt fi1 t1 vs1 (bd1 tt1 f)) vs ms (wipeG γ1 vs) with
    | none => rw [E2] at h; exact h.elim
    | some r =>
    obtain ⟨all, γf⟩ := r
    rw [E2] at h
    simp only at h
    split at h
    rotate_left
    · exact h.elim
    rename_i hz
    have S1 := T.sim
    have nsrc : ¬ src D := fun hs => by
      obtain ⟨o, ho⟩ := K.at_ p1 hs
      rw [nD] at ho
      cases ho
    have eD : Same H1 (upd H1 D (.lst [])) := same_new nD
    have Sw := S1.wait eD nD (o := .lst []) upd_same
    obtain ⟨A2, le2, S2⟩ := Sw.wipe vs
    have nf : ∀ u, ¬ (Z.waits l).F D u := S1.nF nD
    have pw : P ((Z.waits l).wait D (.lst [])) A1 (upd H1 D (.lst [])) := K.wait p1 eD nD
    have nD0 : H D = none := T.kp.isnone nD
    refine loop_gen (Zl := Z.waits l) (acc0 := []) (rs0 := []) (rest := all) (γf := γf) (QQ := fun H => Q (.ref D) H) (A2 := A2) (γ0 := wipeG γ1 vs)
      (BODY := fun σ2 H2 NX => tMT (GX X) tt Bot σ2 H2 fun b H3 => if b = true then tMIT (GX X) fi1 Bot σ2 H3 fun J1 H4 => ∃ W1 : Nat → Nat → Hp → Prop, (∃ m, W1 0 m H4) ∧ ∀ j k H, W1 j k H →
        (J1.stop j H ∧ NX H) ∨ (J1.go j H ∧ ∃ Nx1 : Hp → Prop, (∀ H', Nx1 H' → ∃ k', k' < k ∧ W1 (j + 1) k' H') ∧ ∀ x H', J1.yld j H x H' → tMG (GX X) t1 x (L2.wipe σ2 vs1) H' fun σ3 H5 => L2.wipe σ3 vs1 = L2.wipe σ2 vs1 ∧ tMT (GX X) tt1 Bot σ3 H5 fun b H6 =>
          if b = true then tME (GX X) f Bot σ3 H6 fun y H7 => ∃ acc, H7 D = some (.lst acc) ∧ acc.length < sizeLine ∧ Nx1 (upd H7 D (.lst (acc ++ [y]))) else Nx1 H6) else NX H3)
      nf K nsrc hsub S2 (fun j hj => wipeG_at hj) Reps.nil (K.stp pw Sw S2 (.of le2 .refl)) E2 (by simpa using hz) ?_ ?_
    · intro A' H' acc S' hv hrs le' k'
      rw [List.nil_append] at hrs
      have k1' : Keep (Mz (Z.waits l) A1) H1 H' := (Keep.of_same eD).trans k' fun b o hb m => by
        rcases (mz_wait b).mp m with m | rfl
        · exact le2.mz b m
        · rw [nD] at hb; cases hb
      have le1 : Le A' A1 := le'.trans le2
      have k0 : Keep (Mz Z A) H H' := Keep.waits k1' T.nw T.kp T.le
      have S'' := S'
      rw [← waits_wait] at S''
      have Sz : Sim (GX X) (Z.wait D (.lst acc)) A' γf (L2.wipe σ vs) H' := S''.drops
      refine h (.ref D) A' H' ⟨D, .lst acc, rfl, nD0, fun m => ?_, ?_, ?_⟩ (le1.trans T.le) k0
      · obtain ⟨o, ho⟩ := S.mf D m
        rw [nD0] at ho
        cases ho
      · simp only [Own]
        exact ⟨acc, S'.waits, hrs.keep .refl fun b _ _ m => by
          rw [mz_wait] at m ⊢
          exact m.imp_left fun m => (waits_mz l b).mpr (.inl m)⟩
      · exact Sim.backG S1 Sz hv k1' fun b o hb m => by
          rcases (mz_wait b).mp m with m | rfl
          · exact (waits_mz l b).mpr (.inl (le1.mz b m))
          · rw [nD] at hb; cases hb
    · intro σ2 A3 γ2 acc rs H2 ns γ3 NX S3 hw hrs eb hl nx
      refine ⟨_, A3, γ2, S3, ?_⟩
      unfold bd2 at eb
      cases E4 : tt γ2 with
      | no => rw [E4] at eb; cases eb
      | ex e γ4 => rw [E4] at eb; cases eb
      | ok b γ4 =>
        rw [E4] at eb
        intro A4 H4 S4 le4 k4
        cases b with
        | false =>
          simp only at eb
          cases eb
          simp only [Bool.false_eq_true, if_false]
          exact nx σ2 A4 H4 acc S4 hw (by rw [List.append_nil]; exact hrs.keep k4 fun b _ _ m => le4.mz b m) le4 k4
        | true =>
          simp only at eb
          simp only [if_true]
          refine ⟨_, A4, γ4, S4, ?_⟩
          cases E5 : fi1 γ4 with
          | no => rw [E5] at eb; cases eb
          | ex e γ5 => rw [E5] at eb; cases eb
          | ok ms1 γ5 =>
            rw [E5] at eb
            simp only at eb
            intro J1 l1 A5 H5 P1 T1 K1 q1
            have S5 := T1.sim
            rw [waits_wait] at S5
            have q1' := q1
            rw [waits_wait] at q1'
            have hD4 : H4 D = some (.lst acc) := S4.waits
            have nf1 : ∀ u, ¬ ((Z.waits l).waits l1).F D u := by
              have key : ∀ l1 : List (Addr × HO), (∀ p ∈ l1, H4 p.1 = none) → ∀ u, ¬ ((Z.waits l).waits l1).F D u := by
                intro l1
                induction l1 with
                | nil => exact fun _ => nf
                | cons p l1 ih =>
                  rintro hn u (hf | ⟨e, _⟩)
                  · exact ih (fun q hq => hn q (List.mem_cons_of_mem _ hq)) u hf
                  · have := hn p List.mem_cons_self
                    rw [← e, hD4] at this
                    cases this
              exact key l1 T1.nw
            obtain ⟨A6, le6, S6⟩ := S5.wipe vs1
            have r5 : Reps (GX X) (Mz (((Z.waits l).waits l1).wait D (.lst acc)) A6) H5 rs acc := (hrs.keep k4 fun b _ _ m => le4.mz b m).keep T1.kp fun b o hb m => by
              rw [← waits_wait] at m
              rcases (waits_mz l1 b).mp m with m | ⟨p, hp, rfl⟩
              · exact T1.le.mz b (le6.mz b m)
              · rw [T1.nw p hp] at hb; cases hb
            have q6 := K1.stp q1' S5 S6 (.of le6 .refl)
            refine loop_gen (Zl := (Z.waits l).waits l1) (acc0 := acc) (rs0 := rs) (rest := ns) (γf := γ3) (QQ := NX) (A2 := A6) (γ0 := wipeG γ5 vs1) (σ := σ2)
              (BODY := fun σ3 H5 Nx1 => tMT (GX X) tt1 Bot σ3 H5 fun b H6 => if b = true then tME (GX X) f Bot σ3 H6 fun y H7 => ∃ acc, H7 D = some (.lst acc) ∧ acc.length < sizeLine ∧ Nx1 (upd H7 D (.lst (acc ++ [y]))) else Nx1 H6)
              nf1 K1 (fun z => z) hsub1 S6 (fun j hj => wipeG_at hj) r5 q6 eb hl ?_ ?_
            · intro A7 H7 acc7 S7 hv7 rs7 le7 k7
              have S8 := S7
              rw [← waits_wait] at S8
              have S9 : Sim (GX X) ((Z.waits l).wait D (.lst acc7)) A7 γ3 (L2.wipe σ2 vs1) H7 := S8.drops
              have lea : Le A7 A4 := le7.trans (le6.trans T1.le)
              refine nx (L2.wipe σ2 vs1) A7 H7 acc7 S9 ?_ ?_ (lea.trans le4) ?_
              · rw [← hw]
                exact wipe_eq (L2.wipe_length σ2 vs1) fun j hj => wipe_out' fun z => hj (hv1 j z)
              · exact rs7.keep .refl fun b _ _ m => by
                  rw [← waits_wait]
                  exact (waits_mz l1 b).mpr (.inl m)
              · refine k4.trans (T1.kp.trans k7 fun b o hb m => ?_) fun b _ _ m => le4.mz b m
                rw [← waits_wait] at m
                rcases (waits_mz l1 b).mp m with m | ⟨p, hp, rfl⟩
                · exact T1.le.mz b (le6.mz b m)
                · rw [T1.nw p hp] at hb; cases hb
            · intro σ3 A7 γ7 acc7 rs7 H7 ns7 γ8 Nx1 S7 hw7 hrs7 eb7 hl7 nx7
              refine ⟨_, A7, γ7, S7, ?_⟩
              unfold bd1 at eb7
              cases E7 : tt1 γ7 with
              | no => rw [E7] at eb7; cases eb7
              | ex e γ9 => rw [E7] at eb7; cases eb7
              | ok b γ9 =>
                rw [E7] at eb7
                intro A8 H8 S8 le8 k8
                cases b with
                | false =>
                  simp only at eb7
                  cases eb7
                  simp only [Bool.false_eq_true, if_false]
                  exact nx7 σ3 A8 H8 acc7 S8 hw7 (by rw [List.append_nil]; exact hrs7.keep k8 fun b _ _ m => le8.mz b m) le8 k8
                | true =>
                  simp only at eb7
                  simp only [if_true]
                  refine ⟨_, A8, γ9, S8, ?_⟩
                  cases E8 : f γ9 with
                  | no => rw [E8] at eb7; cases eb7
                  | ex e γ5 => rw [E8] at eb7; cases eb7
                  | ok c γ10 =>
                    rw [E8] at eb7
                    cases eb7
                    intro y A9 H9 hs9 le9 k9
                    have S9 := hs9.sim
                    have k79 : Keep (Mz (((Z.waits l).waits l1).wait D (.lst acc7)) A7) H7 H9 := k8.trans k9 fun b _ _ m => le8.mz b m
                    have hD9 := S9.waits
                    have hrs9 := hrs7.keep k79 fun b _ _ m => le8.mz b (le9.mz b m)
                    refine ⟨acc7, hD9, by rw [hrs9.len]; simp at hl7; omega, ?_⟩
                    have ku : Keep (Mz (((Z.waits l).waits l1).wait D (.lst acc7)) A9) H9 (upd H9 D (.lst (acc7 ++ [y]))) := Keep.upd wait_in
                    refine nx7 σ3 A9 _ (acc7 ++ [y]) (Sim.rew nt_lst nf1 S9) hw7 ?_ (le9.trans le8) (k79.trans ku fun b _ _ m => le8.mz b (le9.mz b m))
                    exact Reps.app (hrs9.keep ku fun b _ _ m => (mz_wait b).mpr ((mz_wait b).mp m)) (Reps.one (hs9.rep.keep ku fun b _ _ m => (mz_wait b).mpr ((mz_wait b).mp m)))
section
variable {X : Cx} {elt tg iter tg1 iter1 : Expr} {ifs ifs1 : List Expr} {scope : Scope} {own : List (Str × Nat)} {vs1 : List Nat} {pos : Pos} {t t1 : Tg} {fi fi1 : FI} {tt tt1 : FT} {f : FE}
theorem re_lc2 (hc : X.calm = true) (hN : X.N.Nodup) (hi : RI X tg iter fi) (ok : BlkOk X.N X.env.scope scope own) (hv : ∀ i ∈ vs1, i ∈ own.map (·.2))
    (hg : ∀ (s : Shared) (H : Hp) (C : Addr) (cl : List (Str × Addr)) (fp : List Addr), RG (X.blk s H scope (compEnvC scope cl C X.env) fp) tg t)
    (ht : ∀ (s : Shared) (H : Hp) (C : Addr) (cl : List (Str × Addr)) (fp : List Addr), RTs (X.blk s H scope (compEnvC scope cl C X.env) fp) ifs tt)
    (hi1 : ∀ (s : Shared) (H : Hp) (C : Addr) (cl : List (Str × Addr)) (fp : List Addr), RIT (X.blk s H scope (compEnvC scope cl C X.env) fp) tg1 iter1 fi1)
    (hg1 : ∀ (s : Shared) (H : Hp) (C : Addr) (cl : List (Str × Addr)) (fp : List Addr), RG (X.blk s H scope (compEnvC scope cl C X.env) fp) tg1 t1)
    (ht1 : ∀ (s : Shared) (H : Hp) (C : Addr) (cl : List (Str × Addr)) (fp : List Addr), RTs (X.blk s H scope (compEnvC scope cl C X.env) fp) ifs1 tt1)
    (he : ∀ (s : Shared) (H : Hp) (C : Addr) (cl : List (Str × Addr)) (fp : List Addr), RE (X.blk s H scope (compEnvC scope cl C X.env) fp) elt f)
    (hsub : ∀ i ∈ t.slots, i ∈ own.map (·.2) := by decide) (hsub1 : ∀ i ∈ t1.slots, i ∈ vs1 := by decide) (hs : ∀ x, foldedSetIterable iter X.env x = pure x := by intro _; rfl) (hs1 : ∀ env x, foldedSetIterable iter1 env x = pure x := by intro _ _; rfl) :
    RE X (.ListComp elt [⟨tg, iter, ifs, 0⟩, ⟨tg1, iter1, ifs1, 0⟩] scope pos) (eComp2 t fi tt fi1 t1 tt1 f (own.map (·.2)) vs1) := fun W tk =>
  PE_imp (pe_lc2 (g := tMG (GX X) t) (tt := tMT (GX X) tt Bot) (wi1 := tMIT (GX X) fi1 Bot) (g1 := tMG (GX X) t1) (tt1 := tMT (GX X) tt1 Bot) (te := tME (GX X) f Bot) hc hN (hi W tk) ok hv (fun s H C cl fp => hg s H C cl fp) (fun s H C cl fp => ht s H C cl fp Bot takes_bot)
    (fun s H C cl fp => hi1 s H C cl fp Bot takes_bot) (fun s H C cl fp => hg1 s H C cl fp) (fun s H C cl fp => ht1 s H C cl fp Bot takes_bot) (fun s H C cl fp => he s H C cl fp Bot takes_bot) hs hs1) fun σ H Q h => comp2_end hsub hsub1 hv h
end
end Mi

set_option Elab.async false
set_option linter.all false
set_option maxRecDepth 100000
set_option maxHeartbeats 4000000
/-! {k: v}; name += e; what is not covered; the law -/
namespace Mi
open PySem PySem.Spec PyProof.Rows L2 My

section
variable {X : Cx} {st : Stmt} {e : Expr} {es : List Expr} {j : Nat}
/-! what is not covered: no promise -/
def sNo : FS := fun _ => .no
def eNo : FE := fun _ => .no
def tNo : FT := fun _ => .no
def aNo : FA := fun _ => .no
theorem qs_no : QS X st sNo := fun _ W tk => ⟨fun pins s σ H D I ⟨_, _, _, _, h⟩ => h.elim⟩
theorem re_no : RE X e eNo := fun W tk => ⟨fun pins s σ H Q I ⟨_, _, _, _, h⟩ => h.elim⟩
theorem rt_no : RT X e tNo := fun W tk => ⟨fun pins s σ H Q I ⟨_, _, _, _, h⟩ => h.elim⟩
theorem lim_no {n : Nat} : Lim n aNo := fun γ ms γ' h => by cases h
theorem ra_no : RA X es aNo := fun W tk => ⟨fun pos pins s σ H Q I ⟨_, _, _, _, h⟩ => h.elim⟩
end
/-! ### name += e, ints -/
def sAug (i : Nat) (g : Int → Int → Int) (f : FE) : FS := fun γ => match γ[i]? with
  | some (some ⟨.val, .int m⟩) => (match f γ with
    | .ok c γ1 => (match c.v with
      | .int n => if canSet γ1 i then .nx (γ1.set i (some (vI (g m n)))) else .no
      | _ => .no)
    | .ex e γ1 => .ex e γ1
    | .no => .no)
  | _ => .no
section
variable {X : Cx} {e : Expr} {f : FE} {x : Str} {pos pos' : Pos}
theorem qs_aug {i : Nat} {op : Operator} {g : Int → Int → Int} (ho : PIp X op (ipI g)) (hN : X.N.Nodup) (hi : X.N[i]? = some x) (hx : Loc X.env.scope x) (ha : RE X e f) (hf : X.fn x = true ∨ X.env.scope.names.lookup x = some .local := by first | exact .inl rfl | exact .inr rfl | assumption) :
    QS X (.AugAssign (.Name x pos') op e pos) (sAug i g f) := fun _ W tk => PS_imp (ps_aug hN hi hx (ha W tk) ho hf) fun D σ H ⟨Z, A, γ, S, h⟩ => by
  unfold sAug at h
  split at h
  · rename_i m e0
    obtain ⟨y, h1, h2⟩ := S.cell i _ e0
    have ey : y = .int m := by
      have q := h2.2
      simp only [Rep] at q
      exact q
    subst ey
    refine ⟨.int m, h1, Z, A, γ, S, ?_⟩
    cases E : f γ with
    | no => rw [E] at h; exact h
    | ex e γ1 => rw [E] at h; exact fun A' H' cls d S' le k xr => h σ A' H' cls d S' (.of le k) xr
    | ok c γ1 =>
      rw [E] at h
      simp only at h
      intro z A1 H1 hs le k
      cases ec : c.v with
      | int n =>
        have r := hs.rep
        rw [ec] at h r
        simp only at h
        simp only [Rep] at r
        subst r
        split at h
        · rename_i hcs
          have S2 := hs.sim.setVal (i := i) (v := .int (g m n)) (x := .int (g m n)) (canSet_lt hcs) (by simp only [Rep])
          exact ⟨m, n, rfl, rfl, h _ _ H1 S2 (.of (AM.del_le.trans le) k)⟩
        · exact h.elim
      | _ => rw [ec] at h; exact h.elim
  · exact h.elim
end
/-! ### {k: v} -/
def eDisp (fk f : FE) : FE := fun γ => match fk γ with
  | .ok ck γ1 => (match keyM ck.v with
    | some k => (match f γ1 with
      | .ok c γ2 => .ok ⟨.own, .dk [k] [c.v]⟩ γ2
      | .ex e γ2 => .ex e γ2
      | .no => .no)
    | none => .no)
  | .ex e γ1 => .ex e γ1
  | .no => .no
theorem ExRep.drop {G : GG} {Z : Ent} {A : AM} {H : Hp} {p : Addr} {o : HO} {e : Ex} {cls : Value} {d : Option Addr} (h : ExRep G (Mz (Z.wait p o) A) H e cls d) : ExRep G (Mz Z A) H e cls d := h.less fun b m => (mz_wait b).mpr (.inl m)
section
variable {X : Cx} {a b : Expr} {fk f : FE} {pos : Pos}
theorem re_disp (hk : RE X a fk) (hv : RE X b f) : RE X (.Dict [some a] [b] pos) (eDisp fk f) := fun W tk =>
  PE_imp (pe_disp (pps_cons (hk W tk) (hv W tk) pps_nil) rfl rfl (by simp) (by simp)) fun σ H Q ⟨Z, A, γ, S, h⟩ p np => by
    have e1 : Same H (upd H p (.dK [])) := same_new np
    have S1 := S.wait e1 np (o := .dK []) upd_same
    refine ⟨_, A, γ, S1, ?_⟩
    unfold eDisp at h
    have kk : ∀ {A' H'}, Le A' A → Keep (Mz (Z.wait p (.dK [])) A) (upd H p (.dK [])) H' → Keep (Mz Z A) H H' := fun {A' H'} le k => (Keep.of_same e1).trans k fun b o hb m => by
      rcases (mz_wait b).mp m with m | rfl
      · exact m
      · rw [np] at hb; cases hb
    cases E1 : fk γ with
    | no => rw [E1] at h; exact h
    | ex e γ1 =>
      rw [E1] at h
      exact fun A' H' cls d S' le k xr => h A' H' cls d S'.drop le (kk le k) xr.drop
    | ok ck γ1 =>
      rw [E1] at h
      simp only at h
      cases E2 : keyM ck.v with
      | none => rw [E2] at h; exact h.elim
      | some k =>
        rw [E2] at h
        simp only at h
        intro x A1 H1 hs le1 k1
        have ex : x = kV k := keyM_rep E2 hs.rep
        subst ex
        refine ⟨_, A1, γ1, hs.sim, ?_⟩
        cases E3 : f γ1 with
        | no => rw [E3] at h; exact h
        | ex e γ2 =>
          rw [E3] at h
          exact fun A' H' cls d S' le k xr => h A' H' cls d S'.drop (le.trans le1) (kk (le.trans le1) (k1.trans k fun b _ _ m => le1.mz b m)) xr.drop
        | ok c γ2 =>
          rw [E3] at h
          intro y A2 H2 hs2 le2 k2
          have S2 := hs2.sim
          have r2 := hs2.rep
          refine ⟨S2.waits, [(k, y)], rfl, by simp, ?_⟩
          have em : mergeK [] [(k, y)] = [k].zip [y] := by
            show putK [] k y = _
            unfold putK
            rfl
          rw [em]
          have nf : ∀ u, ¬ Z.F p u := S.nF np
          have S3 := Sim.rew (o' := .dK ([k].zip [y])) nt_dK nf S2
          have ku : Keep (Mz (Z.wait p (.dK [])) A2) H2 (upd H2 p (.dK ([k].zip [y]))) := Keep.upd wait_in
          have kall : Keep (Mz (Z.wait p (.dK [])) A) (upd H p (.dK [])) (upd H2 p (.dK ([k].zip [y]))) := (k1.trans k2 fun b _ _ m => le1.mz b m).trans ku fun b _ _ m => le1.mz b (le2.mz b m)
          refine h (.ref p) A2 _ ⟨p, _, rfl, np, fun m => ?_, ?_, S3⟩ (le2.trans le1) (kk (le2.trans le1) kall)
          · obtain ⟨u, hu⟩ := S.mf p m
            rw [np] at hu
            cases hu
          · simp only [Own]
            exact ⟨[y], upd_same, rfl, Reps.one (r2.keep ku fun b _ _ m => (mz_wait b).mpr ((mz_wait b).mp m))⟩
end
/-! ### the law -/
/-- what the head tells of the tables: code objects with their empty tables -/
structure TabHd (K : PySem.W.Frag) (h : Heap) (p : Addr × Addr) : Prop where
  e : h.get? p.2 = some (PySem.W.tabObj #[])
  n : K.lookup p.2 = none
  c : PySem.W.CodeHd h p.1 p.2
section
variable {P : Program} {w : World} {K : PySem.W.Frag} {mg mb : Str → Option Value} {k : Nat} {fa a : Addr} {cs : List (Addr × Addr)} {fd : FuncData} {x : Str} {sp : Sp} {s₁ : Shared} {vs : List Value} {ns : List Int}
/-- the abstract heap at the law's call: the script's list (if it is not written), the tables -/
def hpT (K : PySem.W.Frag) (cs : List (Addr × Addr)) (a : Addr) (o : Obj) (us : List V) : Hp := fun b => if b ∈ cs.map (·.2) then some (.tbl #[]) else if b = a ∧ K.lookup a = none then some (.frz o (.lst us)) else none
theorem law_callT (KX : K.In s₁.heap) (hns : s₁.heap.Ns mainGlobals mg) (hb : s₁.heap.Ns builtinsNs mb) (hbb : ∀ x : Str, x ≠ "__name__" → mb x = bootBuiltins x) (hlim : s₁.heap.NoLimit) (hg : s₁.gens = #[]) (hT : ∀ p ∈ cs, TabHd K s₁.heap p)
    (hbm : ∃ (bm : Addr) (ob : Obj), mg "__builtins__" = some (.ref bm) ∧ bm ≠ builtinsNs ∧ s₁.heap.get? bm = some ob ∧ ob.cls = .type "module" ∧ ob.dict = some builtinsNs ∧ ob.data = .plain)
    (ha : s₁.heap.get? a = some { cls := .type "list", data := .seq vs.toArray }) (hi : IntsAre vs ns) (hl : ns.length ≤ sizeLine) (hr : Room k callerA)
    (F : ∀ base : Heap, K.In base → base.Ns mainGlobals mg → (∀ p ∈ cs, LamX.TabB base mg p.1 p.2) → FnG P w K mg base k fa fd [x] sp) (hbind : ∀ (s : Shared) (u : Value), BindsTo s fd ⟨[u], []⟩ [(x, u)])
    (hsp : ∀ H : Hp, (∀ p ∈ cs, H p.2 = some (.tbl #[])) → SqL K H a (ns.map V.int) → sp [.ref a] H (fun v _ => v = .bl true) fun _ _ _ => False) :
    codeAny (model P w) callerA (.call (.ref fa) ⟨[.ref a], []⟩) (fun r s' => r = .ok (.ret (.bool true)) ∧ OldK s₁.heap s'.heap ∧ s'.os = s₁.os ∧ AllBare s'.gens) s₁ := by
  have rv := vals_ints hi
  have tab : ∀ b, b ∈ cs.map (·.2) → s₁.heap.get? b = some (PySem.W.tabObj #[]) := fun b m => by
    obtain ⟨p, hp, rfl⟩ := List.mem_map.mp m
    exact (hT p hp).e
  have na : a ∉ cs.map (·.2) := fun m => by
    have e := tab a m
    rw [ha] at e
    cases e
  generalize hH : hpT K cs a { cls := .type "list", data := .seq vs.toArray } (ns.map V.int) = H
  have atT : ∀ b, b ∈ cs.map (·.2) → H b = some (.tbl #[]) := fun b m => by
    rw [← hH]
    exact if_pos m
  have only : ∀ b u, H b = some u → (b ∈ cs.map (·.2) ∧ u = .tbl #[]) ∨ (b = a ∧ K.lookup a = none ∧ u = .frz { cls := .type "list", data := .seq vs.toArray } (.lst (ns.map V.int))) := fun b u e => by
    rw [← hH] at e
    unfold hpT at e
    split at e
    · rename_i m
      cases e
      exact .inl ⟨m, rfl⟩
    · split at e
      · rename_i m
        cases e
        exact .inr ⟨m.1, m.2, rfl⟩
      · cases e
  have free : ∀ b o, s₁.heap.get? b = some o → o ≠ PySem.W.tabObj #[] → b ≠ a → H b = none := fun b o e n1 n2 => by
    cases q : H b with
    | none => rfl
    | some u =>
      rcases only b u q with ⟨m, _⟩ | ⟨z, _⟩
      · rw [tab b m] at e
        exact absurd (Option.some.inj e).symm n1
      · exact absurd z n2
  have hid : ∀ b o, s₁.heap.get? b = some o → o ≠ PySem.W.tabObj #[] → b ≠ a → (hidT s₁.heap H).get? b = some o := fun b o e n1 n2 => hidT_get e (free b o e n1 n2)
  have ne_a : ∀ b o, s₁.heap.get? b = some o → o.data ≠ .seq vs.toArray → b ≠ a := fun b o e n z => by
    rw [z, ha] at e
    cases e
    exact n rfl
  have nsH : ∀ {b : Addr} {m : Str → Option Value}, s₁.heap.Ns b m → (hidT s₁.heap H).Ns b m := fun {b m} ⟨o, es, ep, e, d, r⟩ => ⟨o, es, ep, hid b o e (fun z => by rw [z] at d; cases d) (ne_a b o e fun z => by rw [d] at z; cases z), d, r⟩
  have kH : K.In (hidT s₁.heap H) := fun b o e => hidT_get (KX b o e) (by
    cases q : H b with
    | none => rfl
    | some u =>
      rcases only b u q with ⟨m, _⟩ | ⟨rfl, z, _⟩
      · obtain ⟨p, hp, rfl⟩ := List.mem_map.mp m
        rw [(hT p hp).n] at e
        cases e
      · rw [z] at e
        cases e)
  have TBs : ∀ p ∈ cs, LamX.TabB (hidT s₁.heap H) mg p.1 p.2 := fun p hp => by
    obtain ⟨o, us, r⟩ := (hT p hp).c
    obtain ⟨file, tf, flags, tg, inF, text, tt, e1, r1, r2, r3, r4⟩ := r
    refine ⟨⟨o, us, file, tf, flags, tg, inF, text, tt, hid p.1 o e1 (fun z => ?_) (ne_a _ _ e1 fun z => ?_), r1, r2, r3, r4⟩, ?_, fun z => ?_⟩
    · rw [z] at r1
      cases r1
    · rw [r2] at z
      cases z
    · obtain ⟨bm, ob, b1, b2, b3, b4, b5, b6⟩ := hbm
      have plain : ∀ q, ob.data = .plain → ob.data ≠ q ∨ q = .plain := fun q h => by
        by_cases z : q = .plain
        · exact .inr z
        · exact .inl fun y => z (y.symm.trans h)
      refine ⟨bm, ob, b1, b2, fun z => ?_, fun z => ?_, hid bm ob b3 (fun z => ?_) (ne_a _ _ b3 fun z => ?_), b4, b5, b6⟩
      · obtain ⟨o2, es, ep, e2, d2, _⟩ := hns
        rw [z, e2] at b3
        cases b3
        rw [d2] at b6
        cases b6
      · rw [z, (hT p hp).e] at b3
        cases b3
        cases b6
      · rw [z] at b6
        cases b6
      · rw [b6] at z
        cases z
    · obtain ⟨o2, es, ep, e2, d2, _⟩ := hns
      rw [z, (hT p hp).e] at e2
      cases e2
      cases d2
  have hok : HOk P w H s₁.heap := fun b u q => by
    rcases only b u q with ⟨m, rfl⟩ | ⟨rfl, _, rfl⟩
    · exact tab b m
    · exact ⟨ha, by rw [List.length_map]; exact hl, vs, _, rv, ha⟩
  have hS : SqL K H a (ns.map V.int) := by
    cases hk : K.lookup a with
    | some o =>
      have e := KX a o hk
      rw [ha] at e
      cases e
      exact .inr ⟨_, vs.toArray, _, hk, rfl, rfl, rfl, by rw [List.size_toArray, hi.length]; exact hl, by simpa using rv⟩
    | none =>
      refine .inl (.inr ⟨{ cls := .type "list", data := .seq vs.toArray }, ?_⟩)
      rw [← hH]
      unfold hpT
      rw [if_neg na, if_pos ⟨rfl, hk⟩]
  have e0 : Env0 P w K mg (hidT s₁.heap H) callerA [] s₁ H :=
    ⟨rfl, ⟨kH, nsH hns, ⟨mb, nsH hb, hbb⟩, let ⟨mc, h1, h2⟩ := hlim; ⟨mc, nsH h1, h2⟩⟩, fun b o e => of_hidT e, Nat.le_of_eq (hidT_size _ _), trivial, fun b m => absurd (show b ∈ ([] : List Addr) from m) List.not_mem_nil, hok, .of_eq hg⟩
  have go := (F _ kH (nsH hns) TBs).run callerA [] s₁ H ⟨[.ref a], []⟩ [.ref a] [.ref a] _ _ hr rfl e0 (hbind s₁ (.ref a)) (.cons rfl .nil) (hsp H (fun p hp => atT p.2 (List.mem_map.mpr ⟨p, hp, rfl⟩)) hS)
  refine codeAny_mono go fun r s' h => ?_
  cases r with
  | error e => exact (let ⟨_, _, _, _, _, _, _, _, _, _, _, _, z⟩ := h; (z : False).elim)
  | ok fl =>
    cases fl with
    | next => exact (h : False).elim
    | brk => exact (h : False).elim
    | cont => exact (h : False).elim
    | ret u =>
      obtain ⟨v, H', os, bare, un, hok', r', q⟩ := h
      obtain rfl : v = .bl true := q
      obtain rfl : u = Value.bool true := r'
      have old : ∀ b o, b ∉ cs.map (·.2) → s₁.heap.get? b = some o → s'.heap.get? b = some o := fun b o nb e => by
        cases q : H b with
        | none => exact un.keep b o e q (fun z => absurd (show b ∈ ([] : List Addr) from z) List.not_mem_nil) (by simp)
        | some u =>
          rcases only b u q with ⟨m, _⟩ | ⟨_, _, rfl⟩
          · exact absurd m nb
          · obtain ⟨e1, _⟩ := hok b _ q
            obtain ⟨e2, _⟩ := hok' b _ (un.frzs b _ _ q)
            rw [e] at e1
            cases e1
            exact e2
      have grown : ∀ p ∈ cs, ∃ more : Array Value, s'.heap.get? p.2 = some (PySem.W.tabObj more) := fun p hp => by
        obtain ⟨more, z⟩ := un.tbls p.2 #[] (atT p.2 (List.mem_map.mpr ⟨p, hp, rfl⟩))
        exact ⟨_, hok' p.2 _ z⟩
      refine ⟨rfl, ⟨fun b o e => ?_, fun b o e => ?_⟩, os, bare⟩
      · by_cases m : b ∈ cs.map (·.2)
        · obtain ⟨p, hp, rfl⟩ := List.mem_map.mp m
          obtain ⟨more, hm⟩ := grown p hp
          rw [(hT p hp).e] at e
          cases e
          exact .inr (.inl ⟨((hT p hp).c.tab (hT p hp).e).isCodeTable, rfl, #[], more, rfl, by rw [Array.empty_append]; exact hm⟩)
        · exact .inl (old b o m e)
      · by_cases m : b ∈ cs.map (·.2)
        · obtain ⟨p, hp, rfl⟩ := List.mem_map.mp m
          obtain ⟨more, hm⟩ := grown p hp
          exact ⟨_, hm⟩
        · exact ⟨o, old b o m e⟩
end
/-- the law's def gives True at every script: m its meaning -/
theorem walk_mi {l : PySem.W.OpenLaw} {n k : Nat} {q : Program} {loose : List Str} {XP : (Str → Option Value) → Heap → Prop} {YP : World → Heap → Prop} {d : DefRec} {x : Str} {m : List MV → RF}
    (hn : l.most = some n) (hn2 : n ≤ sizeLine) (hdf : d.params.defaults = []) (hr : Room k callerA)
    (F : ∀ (w : World) (mg : Str → Option Value) (fa : Addr) (h : Heap), YP w h → h.Ns mainGlobals mg → mg d.name = some (.ref fa) →
      ∃ (K : PySem.W.Frag) (fd : FuncData) (cs : List (Addr × Addr)), K.In h ∧ (∀ (s : Shared) (u : Value), BindsTo s fd ⟨[u], []⟩ [(x, u)]) ∧ (∀ p ∈ cs, TabHd K h p) ∧ (∀ p ∈ (GG.mk l.prog w K).T, ∃ q ∈ cs, q.2 = p.1) ∧
        ∀ base : Heap, K.In base → base.Ns mainGlobals mg → (∀ p ∈ cs, LamX.TabB base mg p.1 p.2) → FnG l.prog w K mg base k fa fd [x] (spM l.prog w K 1 none m))
    (hm : ∀ ns : List Int, ns.length ≤ n → m [.lst (ns.map .int)] = .rt ⟨.val, .bl true⟩ none) :
    PySem.W.WalkO q loose XP YP l.row.toRowW d [] (fun f vs => PySem.call f vs) := by
  refine Att.attach_callB hn hdf fun w s₀ s₁ mg mb fa o pm cd doc a vs ns G Y ho hd hcd hmg hobj hints hlen _ hg => ?_
  obtain ⟨K, fd, cs, KX, hb, hT, hcs, hF⟩ := F w mg fa _ Y G.T.g hmg
  refine law_callT KX G.T.g G.T.b G.T.builtins G.T.nolimit hg hT G.T.bmain hobj hints (Nat.le_trans hlen hn2) hr hF hb fun H hO hS => ?_
  have tb : TabsOk ⟨l.prog, w, K⟩ H := fun p hp => by
    obtain ⟨q, hq, e⟩ := hcs p hp
    rw [← e]
    exact LamX.TabS.nil (hO q hq)
  refine ⟨rfl, (GG.mk l.prog w K).isT, [.lst (ns.map .int)], fun b ⟨q, hq⟩ => let ⟨ps, e, _⟩ := tb _ hq; ⟨_, e⟩, ⟨fun p hp => ⟨p.2, hp⟩, tb⟩, ⟨rfl, fun i m x hm hx _ => ?_, fun i hi => by cases hi⟩, ?_⟩
  · cases i with
    | zero =>
      cases hm
      cases hx
      simp only [Rep]
      refine ⟨a, _, rfl, ?_, trivial, reps_ints ns⟩
      rcases hS with h | h
      · exact .inl ⟨h, fun ⟨q, hq⟩ => by
          obtain ⟨ps, e, _⟩ := tb _ hq
          rcases h with h | ⟨_, h⟩ <;> rw [h] at e <;> cases e⟩
      · exact .inr h
    | succ i => simp at hm
  · rw [hm ns hlen]
    intro x H' dn
    have r := dn.2
    simp only [Rep] at r
    exact r
end Mi

set_option Elab.async false
set_option linter.all false
set_option maxRecDepth 100000
set_option maxHeartbeats 4000000
/-! what the printed derivations lean on -/
namespace Mi
open PySem PySem.Spec PyProof.Rows L2 My

theorem units65 {k : Nat} {A : Around} (h : Room k A) : A.units + 65 < cLine := by
  have := h.un
  omega
theorem units64 {k : Nat} {A : Around} (h : Room k A) : A.units + 64 < cLine := by
  have := h.un
  omega
theorem units0 {k : Nat} {A : Around} (h : Room k A) : A.units < cLine := by
  have := h.un
  omega
theorem FnG.up {P : Program} {w : World} {K : PySem.W.Frag} {mg : Str → Option Value} {base : Heap} {j k : Nat} {C m : Str} {ps : List Str} {F : List MV → RF} (h : MthM P w K mg base j C m ps F) (hk : j ≤ k) : MthM P w K mg base k C m ps F := by
  obtain ⟨n, fd, G, r⟩ := h
  exact ⟨n, fd, G.mono hk, r⟩
section
variable {X : Cx} {k j n : Nat} {m f C : Str} {ps : List Str} {F : List MV → RF}
theorem mtb_nil : MTb X k n m [] := fun p hp => by cases hp
theorem mtb_cons {tb : List (Str × (List MV → RF))} (h : MthM X.prog X.w X.K X.mg X.base j C m ps F) (r : MTb X k n m tb) (hk : j ≤ k := by decide) (hl : ps.length = n + 1 := by rfl) : MTb X k n m ((C, F) :: tb) := fun p hp => by
  rcases List.mem_cons.mp hp with rfl | hp
  · exact ⟨ps, hl, FnG.up h hk⟩
  · exact r p hp
abbrev PTb (X : Cx) (k : Nat) (f : Str) (tb : List (Str × (List MV → RF))) : Prop := ∀ p ∈ tb, PrpM X.prog X.w X.K X.mg X.base k p.1 f p.2
theorem ptb_nil : PTb X k f [] := fun p hp => by cases hp
theorem ptb_cons {tb : List (Str × (List MV → RF))} (h : PrpM X.prog X.w X.K X.mg X.base j C f F) (r : PTb X k f tb) (hk : j ≤ k := by decide) : PTb X k f ((C, F) :: tb) := fun p hp => by
  rcases List.mem_cons.mp hp with rfl | hp
  · obtain ⟨h1, h2, a, g, fd, ps, h3, G, r⟩ := h
    exact ⟨h1, h2, a, g, fd, ps, h3, G.mono hk, r⟩
  · exact r p hp
abbrev ATb (K : PySem.W.Frag) (f : Str) (tb : List (Str × Nat)) : Prop := ∀ p ∈ tb, AtF K f p
theorem atb_nil {K : PySem.W.Frag} : ATb K f [] := fun p hp => by cases hp
theorem atb_cons {K : PySem.W.Frag} {i : Nat} {tb : List (Str × Nat)} (h : AtF K f (C, i)) (r : ATb K f tb) : ATb K f ((C, i) :: tb) := fun p hp => by
  rcases List.mem_cons.mp hp with rfl | hp
  · exact h
  · exact r p hp
/-- a class of one's own, as the written part has it -/
def tags : List String := ["NoneType", "bool", "int", "str", "tuple", "list", "dict"]
def tyF : String → Option Bool := fun t => if t ∈ tags then some false else none
structure CF (K : PySem.W.Frag) (mg : Str → Option Value) (C : Str) : Prop where
  ne : C ≠ ("" : Str)
  c : SlX.SCls K (He.ga K C)
  isi : SlX.SIsi K (He.ga K C)
  me : PySem.W.kitOne K (.ref (He.ga K C)) (.ref (He.ga K C)) = some true
  ty : ∀ t ∈ tags, PySem.W.kitOne K (.type t) (.ref (He.ga K C)) = some false
  gl : mg C = some (.ref (He.ga K C))
theorem CF.hf {K : PySem.W.Frag} {mg : Str → Option Value} (h : CF K mg C) : ∀ t b, tyF t = some b → PySem.W.kitOne K (.type t) (.ref (He.ga K C)) = some b := fun t b e => by
  unfold tyF at e
  split at e
  · rename_i ht
    cases e
    exact h.ty t ht
  · cases e
theorem isg_nil {K : PySem.W.Frag} {u : Value} : IsG K u [] := fun p hp => by cases hp
theorem isg_me {K : PySem.W.Frag} {mg : Str → Option Value} {g : List (Str × Bool)} (h : CF K mg C) (r : IsG K (.ref (He.ga K C)) g) : IsG K (.ref (He.ga K C)) ((C, true) :: g) := fun p hp => by
  rcases List.mem_cons.mp hp with rfl | hp
  · exact ⟨h.ne, h.c, h.isi, h.me⟩
  · exact r p hp
theorem isg_no {K : PySem.W.Frag} {mg : Str → Option Value} {u : Value} {g : List (Str × Bool)} (h : CF K mg C) (hk : PySem.W.kitOne K (.ref (He.ga K C)) u = some false) (r : IsG K u g) : IsG K u ((C, false) :: g) := fun p hp => by
  rcases List.mem_cons.mp hp with rfl | hp
  · exact ⟨h.ne, h.c, h.isi, hk⟩
  · exact r p hp
end
section
variable {X : Cx} {e : Expr} {f : FE}
theorem rt_val (h : RE X e f) (he : ∀ whole, isTrue e X.env whole = (do let v ← whole; standAt e.pos; holding [v] (truthy v))) : RT X e (tB f) := fun W tk => PT_imp (pt_val (h W tk) he) fun σ H Q ⟨Z, A, γ, S, h⟩ => ⟨Z, A, γ, S, tB_of (r := .no) f S h⟩
theorem re_lenA {a : Expr} {pos p : Pos} {o : Opd} {tb : List (Str × (List MV → RF))} {k j : Nat} (ht : MTb X k 0 "__len__" tb) (hr : Room j X.A) (hgd : X.A.guards = some []) (hg : Gl X "len") (hm : X.mg "len" = none) (ha : RQ X a o) (hk : k + 1 ≤ j := by decide)
    (hs : starEach [a] X.env = (false, eval a X.env) :: starEach [] X.env := by rfl) (hpl : (backTo pos (starEach [] X.env)).any (·.1) = false := by rfl) : RE X (.Call (.Name "len" p) [a] [] pos) (e1 (fun v => (lenM v).or (lenO tb v)) o) :=
  re_cb1T (cal_len.toT.or (cal_lenO ht hr hgd hk)) hg hm ha (by rfl) (by decide) (by decide) hs hpl
end
def mulM (v w : MV) : Option Cell := (mulI v w).or (repT v w)
theorem op2_mul {X : Cx} : Op2 X (binaryOp .Mult) mulM := op2_mulI.or op2_repT
/-- turns of a while at most -/
def fuel : Nat := 1000000000
theorem fnG_law {P : Program} {w : World} {K : PySem.W.Frag} {mg : Str → Option Value} {base : Heap} {k : Nat} {fd : FuncData} {st : Stmt} {N : List Str} {body : FS} (F : FunD K "law" "law" (defArgs st) (defBody st) (defScope st) [] [] (He.ga K "law") fd) (S : FnScope N ["script"] (defScope st))
    (hbody : ∀ (cdv : Value) (A : Around) (outer : List Env) (s : Shared) (H : Hp) (E : XK), Room k (cxOf (CX P w) P w K mg base N "law" (defScope st) (He.ga K "law") cdv A outer s H E).A → (cxOf (CX P w) P w K mg base N "law" (defScope st) (He.ga K "law") cdv A outer s H E).A.guards = some [] →
      QSs (cxOf (CX P w) P w K mg base N "law" (defScope st) (He.ga K "law") cdv A outer s H E) (defBody st) body) : FnG P w K mg base (k + 1) (He.ga K "law") fd ["script"] (spM P w K 1 none (runM none N.length body)) := by
  obtain ⟨oc, od, dV, kV, doc, pm, an, cdv, ct, osl, rfl, lk, hcd, _, _⟩ := F.ex
  exact fnG_of lk hcd S (fun vs H Q E h => h.1) fun A outer s H vs Q E hr hgd h => entry_ok (ps := ["script"]) S (hbody cdv A outer s H E hr hgd) h
/-! xs.extend(ys) -/
theorem list_extL (l : Addr) (items : Array Value) (n : Nat) (b : Addr) (items2 : Array Value) (n2 : Nat) (dd : Option Addr) (sl : Array (Option Value)) (hs0 : ¬(!items.isEmpty && Builtin.List.listTooLong (items.size + items2.size)) = true) (hs1 : items.size ≤ sizeLine) (hs2 : items.size + items2.size ≤ sizeLine + 1) :
    Meets (Builtin.«list.extend» ⟨[.ref l, .ref b], []⟩) (fun _ R s => s.heap.get? l = some { cls := .type "list", dict := none, data := .seq items n, slots := #[] } ∧ s.heap.get? b = some { cls := .type "list", dict := dd, data := .seq items2 n2, slots := sl } ∧
      R (.ok (.ret Value.none)) { s with heap := s.heap.update l (Obj.mapSeq fun x => x ++ items2), toks := s.toks }) :=
  .of_wp fun prog w A R s h => by
    obtain ⟨hp, g, d, tk, os⟩ := s
    obtain ⟨hl, hb, h⟩ := h
    have f3 := AutoSeq1.sub_list_list
    have hz' : (items ++ items2).size ≤ sizeLine + 1 := by rw [Array.size_append]; exact hs2
    wp_walk using (wpAny_updateSeq hl rfl (hz := hs1) (_hz' := hz')), wpAny_loadPart' hl, wpAny_loadPart' hb
    exact ⟨_, rfl, h⟩
def rExtendL (K : PySem.W.Frag) : V → List V → Hp → VK → Prop := fun x vs H Q => ∃ l b xs zs, x = .ref l ∧ vs = [.ref b] ∧ H l = some (.lst xs) ∧ SqL K H b zs ∧ xs.length + zs.length ≤ sizeLine ∧ Q .non (upd H l (.lst (xs ++ zs)))
theorem mt_extendL {X : Cx} : MtM X "list.extend" (rExtendL X.K) := by
  intro pins s σ H x vs v us Q I rx rv h
  obtain ⟨l, b, xs, zs, rfl, rfl, hH, hB, hz, q⟩ := h
  cases rx
  obtain ⟨u, rfl, ru⟩ := rv.one
  cases ru
  obtain ⟨z, its, n, r, hl, e⟩ := I.lstM hH
  obtain ⟨its2, r2, pl2, hz2⟩ := I.list hB
  obtain ⟨⟨cls, dd, data, sl⟩, ho, hc, n2, hd⟩ := pl2.isList
  simp only at hc hd
  subst hc hd
  have hl2 := r2.length
  have hsz : its.toArray.size + its2.toArray.size ≤ sizeLine := by rw [List.size_toArray, List.size_toArray]; omega
  have hlong : ¬ (!its.toArray.isEmpty && Builtin.List.listTooLong (its.toArray.size + its2.toArray.size)) = true := by
    rw [notLongL hsz, Bool.and_false]
    exact Bool.false_ne_true
  refine call_meets F.slot_list_extend ⟨_, e, rfl⟩ F.entry_list_extend (F.args_list_extend_2 _ _)
    (list_extL l its.toArray n b its2.toArray n2 dd sl hlong (by rw [List.size_toArray]; omega) (by omega)) ⟨e, ho, ?_⟩
  refine ⟨.non, _, I.lset (its' := its ++ its2) hH e (by simp) (r.append r2) ?_, rfl, q⟩
  rw [List.length_append]
  omega
def extM : MutF
  | .lst xs, [m] => (rowM m).bind fun ys => if xs.length + ys.length ≤ sizeLine then some (.lst (xs ++ ys), .non) else none
  | _, _ => none
theorem mut_extend {X : Cx} : MutR X "list.extend" extM := by
  refine ⟨fun x vs H Q => rExtendL X.K x vs H Q ∨ rExtendT X.K x vs H Q, fun pins s σ H x xs v us Q I rx rxs h => h.elim (mt_extendL pins s σ H x xs v us Q I rx rxs) (mt_extendT pins s σ H x xs v us Q I rx rxs), fun M v ms v' w a vs H Q tr ma e oa rs q => ?_⟩
  unfold extM at e
  split at e
  · rename_i xs m
    obtain ⟨ys, e1, e⟩ := Option.bind_eq_some_iff.mp e
    split at e
    · rename_i hz
      cases e
      simp only [Own] at oa
      obtain ⟨us, h1, h2⟩ := oa
      simp only [Reps] at rs
      obtain ⟨y, _, rfl, r1, rfl⟩ := rs
      have fin : ∀ ws : List V, Reps (GX X) M H ys ws → Q .non (upd H a (.lst (us ++ ws))) := fun ws hw => by
        refine q .non _ out_upd ?_ (by simp only [Rep])
        simp only [Own]
        exact ⟨_, upd_same, (Reps.app h2 hw).keep (kp_upd ma) fun _ _ _ m => m⟩
      cases m with
      | lst ns =>
        cases e1
        obtain ⟨b, ws, rfl, h3, h4⟩ := rb_lst (.inl r1)
        exact .inl ⟨a, b, us, ws, rfl, rfl, h1, h3, by rw [h2.len, h4.len]; exact hz, fin ws h4⟩
      | tup ns =>
        cases e1
        obtain ⟨b, ws, rfl, h3, h4, _⟩ := rb_tup (.inl r1)
        exact .inr ⟨a, b, us, ws, rfl, rfl, h1, h3, by rw [h2.len, h4.len]; exact hz, fin ws h4⟩
      | _ => cases e1
    · cases e
  · cases e
end Mi

set_option Elab.async false
set_option linter.all false
set_option maxRecDepth 100000
set_option maxHeartbeats 4000000
/-! the head -/
namespace Mi
open PySem PySem.Spec PyProof.Rows L2 My

abbrev FTs : Type := PySem.W.Frag → Bool
/-- a function with a closure: its cells by their names only -/
def fnI (K : PySem.W.Frag) (a : Addr) : He5.FnW := match K.lookup a with
  | some ⟨_, _, .func fd, _⟩ => some (fd.name, fd.qualname, fd.params, fd.body, fd.scope, fd.globals, fd.closure.map fun q => (q.1, 0), fd.builtins)
  | _ => none
def iniV (d : He5.DefA) : He5.FnW := some (d.name, d.qual, d.params, .stmts d.body, d.scope, mainGlobals, [("__class__", 0)], builtinsNs)
abbrev Obs : Type := He.AlD × List He5.FnW
def obsM (fn : List He5.DefA) (xt : List FTs) (ini : List He5.DefA) (K : PySem.W.Frag) : Obs := (((xt.all fun t => t K) && ((fn.all fun d => d.ok K) && ini.all fun d => d.ok K), fn.map fun d => He5.fnA K (d.at_ K)), ini.map fun d => fnI K (d.at_ K))
def valMH (fn ini : List He5.DefA) : Obs := ((true, fn.map He5.DefA.val), ini.map iniV)
def SaysM (fn : List He5.DefA) (xt : List FTs) (ini : List He5.DefA) (K : PySem.W.Frag) : Prop := obsM fn xt ini K = valMH fn ini
/-! the tables of the defs that make lambdas: they are left out of what stays -/
def emptyTabB : Option Obj → Bool
  | some ⟨.none, none, .fields vs, sl⟩ => vs.isEmpty && sl.isEmpty
  | _ => false
theorem emptyTab_ok {o : Option Obj} (h : emptyTabB o = true) : o = some (PySem.W.tabObj #[]) := by
  unfold emptyTabB at h
  split at h
  · rename_i vs sl
    obtain ⟨h1, h2⟩ := Bool.and_eq_true_iff.mp h
    have e1 : vs = #[] := Array.isEmpty_iff.mp h1
    have e2 : sl = #[] := Array.isEmpty_iff.mp h2
    rw [e1, e2]
  · cases h
def asT (g : Addr → Option Obj) (n : Nat) : List Addr := (He.asD g n ++ [cStatics]).filter fun a => !emptyTabB (g a)
theorem frG_mem {g : Addr → Option Obj} {a : Addr} {o : Obj} (as : List Addr) (h : (He.frG g as).lookup a = some o) : a ∈ as := by
  have m : (a, o) ∈ as.filterMap fun a => (g a).map fun o => (a, o) := PySem.W.mem_of_lookupK h
  obtain ⟨b, hb, e⟩ := List.mem_filterMap.mp m
  obtain ⟨u, _, e2⟩ := Option.map_eq_some_iff.mp e
  cases e2
  exact hb
def lamB (g : Addr → Option Obj) (K : PySem.W.Frag) (x : Str) : Bool := match codeOf K (He.ga K x), tabOf K (He.ga K x) with
  | some c, some P => PySem.W.codeHdIn K c P && emptyTabB (g P)
  | _, _ => false
structure LamHd (K : PySem.W.Frag) (h : Heap) (x : Str) (c P : Addr) : Prop where
  co : codeOf K (He.ga K x) = some c
  ta : tabOf K (He.ga K x) = some P
  hd : TabHd K h (c, P)
theorem LamHd.keeps {K : PySem.W.Frag} {h h' : Heap} {x : Str} {c P : Addr} (L : LamHd K h x c P) (k : ∀ b o, h.get? b = some o → h'.get? b = some o) : LamHd K h' x c P := ⟨L.co, L.ta, k _ _ L.hd.e, L.hd.n, L.hd.c.keeps k⟩
def lamNd (lam : List Str) (K : PySem.W.Frag) : Bool := decide ((lam.map fun x => tabOf K (He.ga K x)).Nodup)
def LamAll (lam : List Str) (K : PySem.W.Frag) (h : Heap) : Prop := lamNd lam K = true ∧ ∀ x ∈ lam, ∃ c P, LamHd K h x c P
abbrev AlM : Type := Bool × Obs
def obsMG (n : Nat) (fn : List He5.DefA) (xt : List FTs) (ini : List He5.DefA) (lam : List Str) (g : Addr → Option Obj) : AlM := (lamNd lam (He.frG g (asT g n)) && lam.all (lamB g (He.frG g (asT g n))), obsM fn xt ini (He.frG g (asT g n)))
theorem lam_ok {h : Heap} {n : Nat} {lam : List Str} (c : (lamNd lam (He.frG h.get? (asT h.get? n)) && lam.all (lamB h.get? (He.frG h.get? (asT h.get? n)))) = true) : LamAll lam (He.frG h.get? (asT h.get? n)) h := by
  obtain ⟨c0, c1⟩ := Bool.and_eq_true_iff.mp c
  refine ⟨c0, fun x hx => ?_⟩
  have b := List.all_eq_true.mp c1 x hx
  unfold lamB at b
  split at b
  · rename_i cd P e1 e2
    obtain ⟨b1, b2⟩ := Bool.and_eq_true_iff.mp b
    refine ⟨cd, P, e1, e2, emptyTab_ok b2, ?_, PySem.W.codeHd_of_K He.frG_in b1⟩
    cases q : (He.frG h.get? (asT h.get? n)).lookup P with
    | none => rfl
    | some o =>
      have m := (List.mem_filter.mp (frG_mem _ q)).2
      rw [b2] at m
      cases m
  · cases b
def hookM (n : Nat) (fn : List He5.DefA) (xt : List FTs) (ini : List He5.DefA) (lam : List Str) : PySem.W.Hook where
  α := AlM
  obs := fun s => obsMG n fn xt ini lam s.heap.get?
  val := fun _ => (true, valMH fn ini)
  says := fun _ h => ∃ K : PySem.W.Frag, K.In h ∧ SaysM fn xt ini K ∧ LamAll lam K h
  of := fun _ _ e => ⟨_, He.frG_in, congrArg Prod.snd e, lam_ok (congrArg Prod.fst e)⟩
  keeps := fun _ _ _ ⟨K, hK, c, l⟩ k => ⟨K, PySem.W.Frag.In.keeps hK k, c, l.1, fun x hx => let ⟨cd, P, L⟩ := l.2 x hx; ⟨cd, P, L.keeps k⟩⟩
theorem obsMG_eq {n : Nat} {fn : List He5.DefA} {xt : List FTs} {ini : List He5.DefA} {lam : List Str} {g : Addr → Option Obj} {s : Shared} (h : ∀ a, g a = s.heap.get? a) : obsMG n fn xt ini lam g = (hookM n fn xt ini lam).obs s := by
  have e : g = s.heap.get? := funext h
  rw [e] <;> rfl
def csOf (K : PySem.W.Frag) (lam : List Str) : List (Addr × Addr) := lam.filterMap fun x => (codeOf K (He.ga K x)).bind fun c => (tabOf K (He.ga K x)).map fun P => (c, P)
theorem cs_mem {K : PySem.W.Frag} {h : Heap} {lam : List Str} {x : Str} {c P : Addr} (hx : x ∈ lam) (L : LamHd K h x c P) : (c, P) ∈ csOf K lam := List.mem_filterMap.mpr ⟨x, hx, by rw [L.co, L.ta]; rfl⟩
theorem lam_end {K : PySem.W.Frag} {h : Heap} {w : World} {lam : List Str} {prog : Program} (hl : lamDefs prog = lam) (l : LamAll lam K h) : (∀ p ∈ csOf K lam, TabHd K h p) ∧ ∀ p ∈ (GG.mk prog w K).T, ∃ q ∈ csOf K lam, q.2 = p.1 := by
  refine ⟨fun p hp => ?_, fun p hp => ?_⟩
  · obtain ⟨x, hx, e⟩ := List.mem_filterMap.mp hp
    obtain ⟨c, P, L⟩ := l.2 x hx
    rw [L.co, L.ta] at e
    cases e
    exact L.hd
  · obtain ⟨x, hx, e⟩ := List.mem_filterMap.mp hp
    have hx : x ∈ lam := hl ▸ hx
    obtain ⟨c, P, L⟩ := l.2 x hx
    obtain ⟨P', e1, rfl⟩ := Option.map_eq_some_iff.mp e
    have e1 : tabOf K (He.ga K x) = some P' := e1
    rw [L.ta] at e1
    cases e1
    exact ⟨(c, P), cs_mem hx L, rfl⟩
/-- what a def that makes lambdas must know -/
structure LamK (P : Program) (w : World) (K : PySem.W.Frag) (mg : Str → Option Value) (base : Heap) (x : Str) (c Pt : Addr) : Prop where
  co : codeOf K (He.ga K x) = some c
  tb : LamX.TabB base mg c Pt
  me : (Pt, lamQ x) ∈ (GG.mk P w K).T
  un : ∀ p ∈ (GG.mk P w K).T, p.1 = Pt → p.2 = lamQ x
theorem nodup_map {α β : Type} {f : α → β} : ∀ {l : List α}, (l.map f).Nodup → ∀ a ∈ l, ∀ b ∈ l, f a = f b → a = b
  | [], _, a, ha, _, _, _ => absurd ha List.not_mem_nil
  | x :: l, h, a, ha, b, hb, e => by
    rw [List.map_cons, List.nodup_cons] at h
    rcases List.mem_cons.mp ha with z | ha <;> rcases List.mem_cons.mp hb with z2 | hb
    · rw [z, z2]
    · exact absurd (List.mem_map.mpr ⟨b, hb, by rw [← e, z]⟩) h.1
    · exact absurd (List.mem_map.mpr ⟨a, ha, by rw [e, z2]⟩) h.1
    · exact nodup_map h.2 a ha b hb e
theorem lamK_of {K : PySem.W.Frag} {h base : Heap} {w : World} {mg : Str → Option Value} {lam : List Str} {prog : Program} {x : Str} (hl : lamDefs prog = lam) (l : LamAll lam K h) (hx : x ∈ lam) (TB : ∀ p ∈ csOf K lam, LamX.TabB base mg p.1 p.2) :
    ∃ c P, LamK prog w K mg base x c P := by
  obtain ⟨c, P, L⟩ := l.2 x hx
  refine ⟨c, P, L.co, TB _ (cs_mem hx L), List.mem_filterMap.mpr ⟨x, hl ▸ hx, by rw [show tabOf (GG.mk prog w K).K (He.ga (GG.mk prog w K).K x) = some P from L.ta]; rfl⟩, fun p hp e => ?_⟩
  obtain ⟨y, hy, e2⟩ := List.mem_filterMap.mp hp
  have hy : y ∈ lam := hl ▸ hy
  obtain ⟨P', e1, rfl⟩ := Option.map_eq_some_iff.mp e2
  have e1 : tabOf K (He.ga K y) = some P' := e1
  have e : P' = P := e
  have nd : (lam.map fun x => tabOf K (He.ga K x)).Nodup := of_decide_eq_true l.1
  rw [nodup_map nd y hy x hx (by show tabOf K (He.ga K y) = tabOf K (He.ga K x); rw [e1, L.ta, e])]
section
variable {fn ini : List He5.DefA} {xt : List FTs} {K : PySem.W.Frag}
theorem SaysM.test (c : SaysM fn xt ini K) (i : Nat) {t : FTs} (h : xt[i]? = some t := by rfl) : t K = true := by
  have c1 := (He.ba (show ((xt.all fun t => t K) && ((fn.all fun d => d.ok K) && ini.all fun d => d.ok K)) = true from congrArg (fun z : Obs => z.1.1) c)).1
  exact List.all_eq_true.mp c1 t (List.mem_of_getElem? h)
theorem SaysM.def_ (c : SaysM fn xt ini K) (i : Nat) {d : He5.DefA} (h : fn[i]? = some d := by rfl) : ∃ fd, FunD K d.name d.qual d.params d.body d.scope (d.dvs K) (d.kws K) (d.at_ K) fd := by
  have c2 := (He.ba (He.ba (show ((xt.all fun t => t K) && ((fn.all fun d => d.ok K) && ini.all fun d => d.ok K)) = true from congrArg (fun z : Obs => z.1.1) c)).2).1
  have e : fn.map (fun d => He5.fnA K (d.at_ K)) = fn.map He5.DefA.val := congrArg (fun z : Obs => z.1.2) c
  have e2 : (fn.map fun d => He5.fnA K (d.at_ K))[i]? = (fn.map He5.DefA.val)[i]? := by rw [e]
  rw [List.getElem?_map, List.getElem?_map, h] at e2
  exact He5.DefA.funD (Option.some.inj e2) (List.all_eq_true.mp c2 d (List.mem_of_getElem? h))
theorem ini_fun {d : He5.DefA} (e : fnI K (d.at_ K) = iniV d) (c : d.ok K = true) (hd : d.dfl = []) : ∃ oc od kV doc pm an cdv ct cc osl, K.lookup (d.at_ K) = some ⟨oc, od, .func (PySem.W.ksFn d.name d.qual d.params d.body d.scope .none kV doc pm an cdv ct cc), osl⟩ ∧ PySem.W.codeIn K cdv d.qual = true := by
  obtain ⟨kp, c2⟩ := He.ba c
  unfold fnI at e
  cases q : K.lookup (d.at_ K) with
  | none =>
    rw [q] at c2
    cases c2
  | some o =>
    obtain ⟨oc, od, dt, osl⟩ := o
    rw [q] at c2 e
    cases dt with
    | func fd =>
      obtain ⟨n1, n2, n3, n4, n5, n6, n7, n8, n9, n10, n11, n12, n13, n14, n15⟩ := fd
      have e2 : (some (n1, n2, n3, n4, n5, n6, n7.map (fun q => (q.1, (0 : Addr))), n15) : He5.FnW) = (some (d.name, d.qual, d.params, FuncBody.stmts d.body, d.scope, mainGlobals, [("__class__", 0)], builtinsNs) : He5.FnW) := e
      simp only [Option.some.injEq, Prod.mk.injEq] at e2
      obtain ⟨h1, h2, h3, h4, h5, h6, h7, h8⟩ := e2
      have c3 : (PySem.W.codeIn K n13 d.qual && (He.dflB K n8 (d.dvs K) && He.kwdB K n9 (d.kws K))) = true := c2
      obtain ⟨k1, k2⟩ := He.ba c3
      obtain ⟨k3, k4⟩ := He.ba k2
      obtain ⟨⟨x, cc⟩, rfl, hx⟩ : ∃ p : Str × Addr, n7 = [p] ∧ p.1 = "__class__" := by
        cases n7 with
        | nil => exact absurd (congrArg List.length h7) (by simp)
        | cons p r =>
          cases r with
          | nil =>
            refine ⟨p, rfl, ?_⟩
            exact congrArg Prod.fst (List.cons.inj h7).1
          | cons q r => exact absurd (congrArg List.length h7) (by simp)
      subst h1 h2 h3 h4 h5 h6 h8
      have hx : x = "__class__" := hx
      subst hx
      rcases He.dflB_ok k3 with ⟨_, e3⟩ | ⟨e3, _⟩
      · subst e3
        exact ⟨_, _, _, _, _, _, _, _, _, _, rfl, k1⟩
      · exact absurd (show d.dvs K = [] by unfold He5.DefA.dvs; rw [hd]; rfl) e3
    | _ => cases c2
theorem SaysM.ini_ (c : SaysM fn xt ini K) (i : Nat) {d : He5.DefA} (h : ini[i]? = some d) (hd : d.dfl = []) : ∃ oc od kV doc pm an cdv ct cc osl, K.lookup (d.at_ K) = some ⟨oc, od, .func (PySem.W.ksFn d.name d.qual d.params d.body d.scope .none kV doc pm an cdv ct cc), osl⟩ ∧ PySem.W.codeIn K cdv d.qual = true := by
  have c2 := (He.ba (He.ba (show ((xt.all fun t => t K) && ((fn.all fun d => d.ok K) && ini.all fun d => d.ok K)) = true from congrArg (fun z : Obs => z.1.1) c)).2).2
  have e : ini.map (fun d => fnI K (d.at_ K)) = ini.map iniV := congrArg (fun z : Obs => z.2) c
  have e2 : (ini.map fun d => fnI K (d.at_ K))[i]? = (ini.map iniV)[i]? := by rw [e]
  rw [List.getElem?_map, List.getElem?_map, h] at e2
  exact ini_fun (Option.some.inj e2) (List.all_eq_true.mp c2 d (List.mem_of_getElem? h)) hd
end
/-- the tests of a class of one's own -/
def clsT (C : Str) : FTs := fun K => sclsB K (He.ga K C) && (isiB K (He.ga K C) && (kitB K (.ref (He.ga K C)) (.ref (He.ga K C)) true && (tags.all fun t => kitB K (.type t) (.ref (He.ga K C)) false) && He.Fa.ok K (.glo C)))
theorem cf_of {K : PySem.W.Frag} {mg : Str → Option Value} {h : Heap} {C : Str} (X : K.In h) (G : h.Ns mainGlobals mg) (ne : C ≠ ("" : Str)) (t : clsT C K = true) : CF K mg C := by
  obtain ⟨h1, t⟩ := He.ba t
  obtain ⟨h2, t⟩ := He.ba t
  obtain ⟨t, h5⟩ := He.ba t
  obtain ⟨h3, h4⟩ := He.ba t
  exact ⟨ne, scls_ok h1, isi_ok h2, kit_ok h3, fun t ht => kit_ok (List.all_eq_true.mp h4 t ht), He.glo_ok X G h5⟩
def slT (C f : Str) (i : Nat) : FTs := fun K => sclsB K (He.ga K C) && slotB K (He.ga K C) f i
theorem at_of {K : PySem.W.Frag} {C f : Str} {i : Nat} (ne : C ≠ ("" : Str)) (t : slT C f i K = true) : AtF K f (C, i) := by
  obtain ⟨h1, h2⟩ := He.ba t
  exact ⟨ne, scls_ok h1, slot_ok h2⟩
def prT (C f : Str) : FTs := fun K => propB K (He.ga K C) f
end Mi

set_option Elab.async false
set_option linter.all false
set_option maxRecDepth 100000
set_option maxHeartbeats 4000000
/-! running the small machine by simp -/
namespace Mi
open PySem PySem.Spec PyProof.Rows L2 My

theorem shM_int (i : Int) : shM (.int i) = some (.int i) := by
  simp [shM, datM, SeqAt.shaped, PyData.canLay0, PyData.depth]
theorem eqM_ii (i j : Int) : eqM (.int i) (.int j) = some (vB (decide (i = j))) := by
  simp only [eqM, shM_int, Option.bind_some, Option.map_some, PyData.eqv]
  congr 1
theorem neM_ii (i j : Int) : neM (.int i) (.int j) = some (vB (!decide (i = j))) := by
  simp only [neM, shM_int, Option.bind_some, Option.map_some, PyData.eqv]
  congr 1
theorem datsM_ints (ns : List Int) : datsM (ns.map MV.int) = some (ns.map PyData.int) := by
  induction ns with
  | nil => rfl
  | cons n ns ih => simp only [List.map_cons, datsM, datM, Option.bind_some, ih, Option.map_some]
theorem lay_ints (ns : List Int) : PyData.canLayAll0 (ns.map PyData.int) = true := by
  induction ns with
  | nil => rfl
  | cons n ns ih => simp only [List.map_cons, PyData.canLayAll0, PyData.canLay0, ih, Bool.and_self]
theorem depth_ints (ns : List Int) : PyData.depthAll (ns.map PyData.int) ≤ 1 := by
  induction ns with
  | nil => simp [PyData.depthAll]
  | cons n ns ih => simp only [List.map_cons, PyData.depthAll, PyData.depth]; omega
theorem eqv_ints : ∀ ns ms : List Int, PyData.eqvAll (ns.map PyData.int) (ms.map PyData.int) = decide (ns = ms)
  | [], [] => rfl
  | [], m :: ms => by simp [PyData.eqvAll]
  | n :: ns, [] => by simp [PyData.eqvAll]
  | n :: ns, m :: ms => by
    simp only [List.map_cons, PyData.eqvAll, PyData.eqv, eqv_ints ns ms]
    by_cases h : n = m <;> by_cases h2 : ns = ms <;> simp [h, h2]
theorem shM_tup (ns : List Int) : shM (.tup (ns.map MV.int)) = some (.tuple (ns.map .int)) := by
  have := depth_ints ns
  simp only [shM, datM, datsM_ints, Option.map_some, Option.bind_some, SeqAt.shaped, PyData.canLay0, lay_ints, PyData.depth, Bool.true_and]
  exact if_pos (decide_eq_true (by omega))
theorem shM_lst (ns : List Int) : shM (.lst (ns.map MV.int)) = some (.list (ns.map .int)) := by
  have := depth_ints ns
  simp only [shM, datM, datsM_ints, Option.map_some, Option.bind_some, SeqAt.shaped, PyData.canLay0, lay_ints, PyData.depth, Bool.true_and]
  exact if_pos (decide_eq_true (by omega))
theorem eqM_tt (ns ms : List Int) : eqM (.tup (ns.map MV.int)) (.tup (ms.map MV.int)) = some (vB (decide (ns = ms))) := by
  simp only [eqM, shM_tup, Option.bind_some, Option.map_some, PyData.eqv, eqv_ints]
theorem neM_tt (ns ms : List Int) : neM (.tup (ns.map MV.int)) (.tup (ms.map MV.int)) = some (vB (!decide (ns = ms))) := by
  simp only [neM, shM_tup, Option.bind_some, Option.map_some, PyData.eqv, eqv_ints]
theorem eqM_ll (ns ms : List Int) : eqM (.lst (ns.map MV.int)) (.lst (ms.map MV.int)) = some (vB (decide (ns = ms))) := by
  simp only [eqM, shM_lst, Option.bind_some, Option.map_some, PyData.eqv, eqv_ints]
theorem neM_ll (ns ms : List Int) : neM (.lst (ns.map MV.int)) (.lst (ms.map MV.int)) = some (vB (!decide (ns = ms))) := by
  simp only [neM, shM_lst, Option.bind_some, Option.map_some, PyData.eqv, eqv_ints]
theorem rangeM1_nat (n : Nat) (h : n < 2 ^ 62) : rangeM1 [.int (n : Int)] = some ((List.range n).map fun k => .int ((k : Nat) : Int)) := by
  simp only [rangeM1]
  rw [if_pos ⟨by omega, by omega⟩]
  simp
theorem rangeM2_nat (m n : Nat) (hm : m < 2 ^ 62) (h : n < 2 ^ 62) : rangeM2 [.int (m : Int), .int (n : Int)] = some ((List.range (n - m)).map fun k => .int ((m + k : Nat) : Int)) := by
  simp only [rangeM2]
  rw [if_pos ⟨by omega, by omega, by omega, by omega⟩]
  have e : ((n : Int) - m).toNat = n - m := by omega
  rw [e]
  simp
/-! ### loops -/
theorem forM_inv {t : Tg} {s : FS} {ms : List MV} {γ : Sg} (I : Nat → Sg → Prop) (h0 : I 0 γ)
    (hs : ∀ i m γ, ms[i]? = some m → I i γ → ∃ γ1 γ2, asgM t m γ = some γ1 ∧ (s γ1 = .nx γ2 ∨ s γ1 = .ct γ2) ∧ I (i + 1) γ2) : ∃ γ', forM t s ms γ = .nx γ' ∧ I ms.length γ' := by
  induction ms generalizing γ I with
  | nil => exact ⟨γ, rfl, h0⟩
  | cons m ms ih =>
    obtain ⟨γ1, γ2, e1, e2, h1⟩ := hs 0 m γ rfl h0
    obtain ⟨γ', e3, h2⟩ := ih (γ := γ2) (fun i => I (i + 1)) h1 fun i m' γ hm hi => hs (i + 1) m' γ (by simpa using hm) hi
    refine ⟨γ', ?_, h2⟩
    simp only [forM, e1]
    rcases e2 with e2 | e2 <;> rw [e2] <;> exact e3
theorem whileM_inv {t : FT} {s : FS} (I : Nat → Sg → Prop)
    (hs : ∀ k γ, I k γ → (∃ γ1, t γ = .ok false γ1 ∧ I 0 γ1 ∧ k = 0) ∨ ∃ γ1 γ2 k', t γ = .ok true γ1 ∧ (s γ1 = .nx γ2 ∨ s γ1 = .ct γ2) ∧ I k' γ2 ∧ k' < k) :
    ∀ n k γ, k < n → I k γ → ∃ γ', whileM t s n γ = .nx γ' ∧ ∃ γ1, t γ1 = .ok false γ' ∧ I 0 γ'
  | 0, k, γ, h, _ => absurd h (by omega)
  | n + 1, k, γ, h, hi => by
    rcases hs k γ hi with ⟨γ1, e, h1, _⟩ | ⟨γ1, γ2, k', e1, e2, h2, hk⟩
    · refine ⟨γ1, ?_, γ, e, h1⟩
      simp only [whileM, e]
    · obtain ⟨γ', e3, h3⟩ := whileM_inv I hs n k' γ2 (by omega) h2
      refine ⟨γ', ?_, h3⟩
      simp only [whileM, e1]
      rcases e2 with e2 | e2 <;> rw [e2] <;> exact e3
/-- .. a test that changes nothing -/
theorem whileP {t : Mi.FT} {s : FS} (I : Nat → Sg → Prop) (hs : ∀ k γ, I k γ → (k = 0 ∧ t γ = .ok false γ) ∨ (t γ = .ok true γ ∧ ∃ γ2 k', s γ = .nx γ2 ∧ I k' γ2 ∧ k' < k)) :
    ∀ n k γ, k < n → I k γ → ∃ γ', whileM t s n γ = .nx γ' ∧ I 0 γ' ∧ t γ' = .ok false γ'
  | 0, k, γ, h, _ => absurd h (by omega)
  | n + 1, k, γ, h, hi => by
    rcases hs k γ hi with ⟨rfl, e⟩ | ⟨e1, γ2, k', e2, h2, hk⟩
    · exact ⟨γ, by simp only [whileM, e], hi, e⟩
    · obtain ⟨γ', e3, h3⟩ := whileP I hs n k' γ2 (by omega) h2
      exact ⟨γ', by simp only [whileM, e1, e2]; exact e3, h3⟩
/-- .. a body that goes on -/
theorem forP {t : Tg} {s : FS} {ms : List MV} {γ : Sg} (I : Nat → Sg → Prop) (h0 : I 0 γ)
    (hs : ∀ i m γ, ms[i]? = some m → I i γ → ∃ γ1 γ2, asgM t m γ = some γ1 ∧ s γ1 = .nx γ2 ∧ I (i + 1) γ2) : ∃ γ', forM t s ms γ = .nx γ' ∧ I ms.length γ' :=
  forM_inv I h0 fun i m γ hm hi => let ⟨γ1, γ2, h1, h2, h3⟩ := hs i m γ hm hi; ⟨γ1, γ2, h1, .inl h2, h3⟩
/-! ### dice -/
def Dice (N : Nat) (d : MV) : Prop := ∃ (a b : Int) (c : Nat), d = .lst [.int a, .int b, .int c] ∧ c ≤ N
theorem Dice.mono {N N' : Nat} {d : MV} (h : Dice N d) (l : N ≤ N') : Dice N' d := by
  obtain ⟨a, b, c, e, hc⟩ := h
  exact ⟨a, b, c, e, by omega⟩
theorem log2_le {n k : Nat} (h : n < 2 ^ k) (hk : 0 < k) : n.log2 < k := by
  by_cases h0 : n = 0
  · subst h0; simpa using hk
  · exact (Nat.log2_lt h0).mpr h
end Mi

set_option Elab.async false
set_option linter.all false
set_option maxRecDepth 100000
set_option maxHeartbeats 4000000
/-! numbers, digits, machines: plain -/
namespace Mi
open PySem PySem.Spec PyProof.Rows L2 My

abbrev iv (n : Nat) : MV := .int (n : Int)
abbrev tv (l : List Nat) : MV := .tup (l.map iv)
abbrev rv (rows : List (List Nat)) : MV := .tup (rows.map tv)
/-- the digits, the lowest first -/
def lds (b p : Nat) : List Nat := if h : 2 ≤ b ∧ 0 < p then p % b :: lds b (p / b) else []
termination_by p
decreasing_by exact Nat.div_lt_self h.2 h.1
theorem lds_zero {b : Nat} : lds b 0 = [] := by
  rw [lds, dif_neg]
  omega
theorem lds_pos {b p : Nat} (hb : 2 ≤ b) (h : 0 < p) : lds b p = p % b :: lds b (p / b) := by
  rw [lds, dif_pos ⟨hb, h⟩]
theorem lds_len {b : Nat} (hb : 2 ≤ b) : ∀ {k p : Nat}, p < 2 ^ k → (lds b p).length ≤ k := by
  intro k
  induction k with
  | zero =>
    intro p h
    have : p = 0 := by omega
    subst this
    rw [lds_zero]
    exact Nat.le_refl _
  | succ k ih =>
    intro p h
    by_cases hp : 0 < p
    · rw [lds_pos hb hp, List.length_cons]
      have : p / b < 2 ^ k := by
        have h1 : p / b ≤ p / 2 := Nat.div_le_div_left hb (by omega)
        have h2 : p / 2 < 2 ^ k := by omega
        omega
      have := ih this
      omega
    · have : p = 0 := by omega
      subst this
      rw [lds_zero]
      exact Nat.zero_le _
theorem lds_nil {b p : Nat} (hb : 2 ≤ b) (h : (lds b p).length = 0) : p = 0 := by
  by_cases hp : 0 < p
  · rw [lds_pos hb hp] at h
    cases h
  · omega
theorem lds_lt {b : Nat} (hb : 2 ≤ b) : ∀ p, ∀ d ∈ lds b p, d < b := by
  intro p
  induction p using Nat.strongRecOn with
  | ind p ih =>
    by_cases hp : 0 < p
    · rw [lds_pos hb hp]
      intro d hd
      rcases List.mem_cons.mp hd with rfl | hd
      · exact Nat.mod_lt _ (by omega)
      · exact ih (p / b) (Nat.div_lt_self hp hb) d hd
    · have : p = 0 := by omega
      subst this
      rw [lds_zero]
      intro d hd
      cases hd
def digs (b p : Nat) : List Nat := (lds b p).reverse
/-- a step of a machine -/
def stp (rows : List (List Nat)) (s d : Nat) : Nat := (rows.getD s []).getD d 0
def stOf (rows : List (List Nat)) (ds : List Nat) : Nat := ds.foldl (stp rows) 0
def stAt (rows : List (List Nat)) (b p : Nat) : Nat := stOf rows (digs b p)
theorem stAt_zero {rows : List (List Nat)} {b : Nat} : stAt rows b 0 = 0 := by
  unfold stAt digs stOf
  rw [lds_zero]
  rfl
theorem stAt_pos {rows : List (List Nat)} {b p : Nat} (hb : 2 ≤ b) (h : 0 < p) : stAt rows b p = stp rows (stAt rows b (p / b)) (p % b) := by
  unfold stAt digs stOf
  rw [lds_pos hb h, List.reverse_cons, List.foldl_append]
  rfl
/-- n states, b digits -/
structure Mach (b : Nat) (rows : List (List Nat)) (lets : List Nat) : Prop where
  hb : 2 ≤ b
  ne : 0 < rows.length
  row : ∀ r ∈ rows, r.length = b ∧ ∀ s ∈ r, s < rows.length
  len : lets.length = rows.length
theorem Mach.stp {b : Nat} {rows : List (List Nat)} {lets : List Nat} (M : Mach b rows lets) {s d : Nat} (hs : s < rows.length) (hd : d < b) : Mi.stp rows s d < rows.length := by
  unfold Mi.stp
  have h1 := M.row _ (List.getElem_mem hs)
  have e1 : rows.getD s [] = rows[s] := by
    rw [List.getD_eq_getElem?_getD, List.getElem?_eq_getElem hs]
    rfl
  have hd' : d < (rows[s]).length := by rw [h1.1]; exact hd
  have e2 : (rows[s]).getD d 0 = (rows[s])[d] := by
    rw [List.getD_eq_getElem?_getD, List.getElem?_eq_getElem hd']
    rfl
  rw [e1, e2]
  exact h1.2 _ (List.getElem_mem _)
theorem Mach.fold {b : Nat} {rows : List (List Nat)} {lets : List Nat} (M : Mach b rows lets) : ∀ {ds : List Nat} {s : Nat}, s < rows.length → (∀ d ∈ ds, d < b) → ds.foldl (Mi.stp rows) s < rows.length
  | [], s, hs, _ => hs
  | d :: ds, s, hs, h => M.fold (ds := ds) (s := Mi.stp rows s d) (M.stp hs (h d List.mem_cons_self)) fun e he => h e (List.mem_cons_of_mem _ he)
theorem Mach.stAt {b : Nat} {rows : List (List Nat)} {lets : List Nat} (M : Mach b rows lets) (p : Nat) : Mi.stAt rows b p < rows.length :=
  M.fold M.ne fun d hd => lds_lt M.hb p d (List.mem_reverse.mp hd)
/-- an index that is a number -/
theorem atI_nat {α : Type} (xs : List α) (k : Nat) : atI xs ((k : Nat) : Int) = xs[k]? := by
  unfold atI ixN
  rw [if_pos (by omega)]
  by_cases h : k < xs.length
  · rw [if_pos (by omega)]
    rfl
  · rw [if_neg (by omega), List.getElem?_eq_none (by omega)]
    rfl
theorem atM_tup (xs : List MV) (k : Nat) (h : k < xs.length) : atM (.tup xs) (.int ((k : Nat) : Int)) = some (vV xs[k]) := by
  unfold atM ixM
  simp only [atI_nat, List.getElem?_eq_getElem h]
  rfl
theorem atM_lst (xs : List MV) (k : Nat) (h : k < xs.length) : atM (.lst xs) (.int ((k : Nat) : Int)) = some (vV xs[k]) := by
  unfold atM ixM
  simp only [atI_nat, List.getElem?_eq_getElem h]
  rfl
end Mi

set_option Elab.async false
set_option linter.all false
namespace Mi
open PySem PySem.Spec PyProof.Rows L2 My
/-! single steps of a reading, stated over anything, for the kernel's sake -/
theorem fArgs_one {g : List MV → Option (List MV)} {i : Nat} {γ : Sg} {m : MV} {r : List MV} (h : γ[i]? = some (some ⟨.val, m⟩)) (hg : g [m] = some r) : fArgs g (aCons (eVar i) aNil) γ = .ok r γ := by
  simp only [fArgs, aCons, eVar, aNil, h, hg]
theorem eComp_of {t : Tg} {fi : FI} {tt : FT} {f : FE} {vs : List Nat} {γ γ1 γ2 : Sg} {ms rs : List MV} (h : fi γ = .ok ms γ1) (hl : ms.length ≤ sizeLine) (hc : compM t tt f vs ms (wipeG γ1 vs) = some (rs, γ2)) : eComp t fi tt f vs γ = .ok ⟨.own, .lst rs⟩ (backG γ1 vs γ2) := by
  simp only [eComp, h, if_pos hl, hc]
theorem e1_ex {g : MV → Option Cell} {f : FE} {γ γ1 : Sg} {c u : Cell} (h : f γ = .ok c γ1) (hg : g c.v = some u) : e1 g (.ex f) γ = .ok u γ1 := by
  simp only [e1, oEv, oGet, h, hg]
theorem sRet_of {f : FE} {γ γ1 : Sg} {c : Cell} (h : f γ = .ok c γ1) : sRet f γ = .rt c γ1 := by
  simp only [sRet, h]
theorem runM_rt {n : Nat} {body : FS} {ms : List MV} {m : MV} {γ : Sg} (h : body (initG none n ms) = .rt ⟨.val, m⟩ γ) : runM none n body ms = .rt ⟨.val, m⟩ none := by
  simp only [runM, finM, h, outG]
theorem eCall_rt {g : List MV → RF} {fa : FA} {γ γ1 : Sg} {ms : List MV} {c : Cell} (h : fa γ = .ok ms γ1) (hg : g ms = .rt c none) : eCall g fa γ = .ok c γ1 := by
  simp only [eCall, h, hg]
theorem sExpr_of {f : FE} {γ γ1 : Sg} {c : Cell} (h : f γ = .ok c γ1) : sExpr f γ = .nx γ1 := by
  simp only [sExpr, h]
theorem sSeq_go {f g : FS} {γ γ1 : Sg} (h : f γ = .nx γ1) : sSeq f g γ = g γ1 := by
  simp only [sSeq, h]
theorem small_size {n : Nat} (h : n ≤ 5000) : n ≤ sizeLine := by rw [sizeLine_eq]; omega
theorem lt62 {n : Nat} (h : n ≤ 5000) : n < 2 ^ 62 := Nat.lt_of_le_of_lt h (by decide +kernel)
theorem le60 {n : Nat} (h : n ≤ 5000) : n ≤ 10 ^ 60 := Nat.le_trans h (by decide +kernel)
end Mi

set_option Elab.async false
set_option linter.all false
namespace Mi
open PySem PySem.Spec PyProof.Rows L2 My
/-! comprehensions and loops as maps and folds -/
/-- one turn of a comprehension: m gives r -/
def One (t : Tg) (tt : FT) (f : FE) (vs : List Nat) (γ : Sg) (m r : MV) : Prop := ∃ γ1 γ2 c γ3, asgM t m γ = some γ1 ∧ tt γ1 = .ok true γ2 ∧ f γ2 = .ok c γ3 ∧ wipeG γ3 vs = γ ∧ c.v = r
def Skip (t : Tg) (tt : FT) (vs : List Nat) (γ : Sg) (m : MV) : Prop := ∃ γ1 γ2, asgM t m γ = some γ1 ∧ tt γ1 = .ok false γ2 ∧ wipeG γ2 vs = γ
theorem compM_map {t : Tg} {tt : FT} {f : FE} {vs : List Nat} {γ : Sg} {α : Type} (e g : α → MV) : ∀ l : List α, (∀ m ∈ l, One t tt f vs γ (e m) (g m)) → compM t tt f vs (l.map e) γ = some (l.map g, γ)
  | [], _ => rfl
  | m :: l, h => by
    obtain ⟨γ1, γ2, c, γ3, h1, h2, h3, h4, h5⟩ := h m List.mem_cons_self
    have := compM_map e g l fun m' hm => h m' (List.mem_cons_of_mem _ hm)
    simp only [List.map_cons, compM, h1, h2, h3, h4, this, Option.map_some, h5]
theorem compM_filter {t : Tg} {tt : FT} {f : FE} {vs : List Nat} {γ : Sg} {α : Type} (e g : α → MV) (p : α → Bool) : ∀ l : List α, (∀ m ∈ l, p m = true → One t tt f vs γ (e m) (g m)) → (∀ m ∈ l, p m = false → Skip t tt vs γ (e m)) → compM t tt f vs (l.map e) γ = some ((l.filter p).map g, γ)
  | [], _, _ => rfl
  | m :: l, h, h' => by
    have ih := compM_filter e g p l (fun m' hm => h m' (List.mem_cons_of_mem _ hm)) fun m' hm => h' m' (List.mem_cons_of_mem _ hm)
    cases hp : p m with
    | true =>
      obtain ⟨γ1, γ2, c, γ3, h1, h2, h3, h4, h5⟩ := h m List.mem_cons_self hp
      simp only [List.map_cons, compM, h1, h2, h3, h4, ih, Option.map_some, h5, List.filter_cons_of_pos hp]
    | false =>
      obtain ⟨γ1, γ2, h1, h2, h3⟩ := h' m List.mem_cons_self hp
      have hn : ¬ p m = true := by rw [hp]; exact Bool.false_ne_true
      simp only [List.map_cons, compM, h1, h2, h3, ih, List.filter_cons_of_neg hn]
theorem eComp_map {t : Tg} {fi : FI} {tt : FT} {f : FE} {vs : List Nat} {γ γ1 γ2 γ3 : Sg} {α : Type} (e g : α → MV) (l : List α) (h : fi γ = .ok (l.map e) γ1) (hl : l.length ≤ sizeLine) (hw : wipeG γ1 vs = γ2) (hf : ∀ m ∈ l, One t tt f vs γ2 (e m) (g m)) (hb : backG γ1 vs γ2 = γ3) :
    eComp t fi tt f vs γ = .ok ⟨.own, .lst (l.map g)⟩ γ3 := by
  simp only [eComp, h, List.length_map, if_pos hl, hw, compM_map e g l hf, hb]
theorem eComp_filter {t : Tg} {fi : FI} {tt : FT} {f : FE} {vs : List Nat} {γ γ1 γ2 γ3 : Sg} {α : Type} (e g : α → MV) (p : α → Bool) (l : List α) (h : fi γ = .ok (l.map e) γ1) (hl : l.length ≤ sizeLine) (hw : wipeG γ1 vs = γ2) (hf : ∀ m ∈ l, p m = true → One t tt f vs γ2 (e m) (g m))
    (hs : ∀ m ∈ l, p m = false → Skip t tt vs γ2 (e m)) (hb : backG γ1 vs γ2 = γ3) : eComp t fi tt f vs γ = .ok ⟨.own, .lst ((l.filter p).map g)⟩ γ3 := by
  simp only [eComp, h, List.length_map, if_pos hl, hw, compM_filter e g p l hf hs, hb]
/-- a loop as a fold: enc tells the slots by what the loop's own names hold and by the state -/
theorem forM_fold {t : Tg} {s : FS} {α β β' : Type} (em : β' → MV) (enc : β → α → Sg) (step : α → β' → α) (P : α → Prop) : ∀ (ms : List β') (l : β) (a : α), P a →
    (∀ l a m, m ∈ ms → P a → P (step a m) ∧ ∃ γ1 l', asgM t (em m) (enc l a) = some γ1 ∧ s γ1 = .nx (enc l' (step a m))) → ∃ l', forM t s (ms.map em) (enc l a) = .nx (enc l' (ms.foldl step a)) ∧ P (ms.foldl step a)
  | [], l, a, h, _ => ⟨l, rfl, h⟩
  | m :: ms, l, a, h, hs => by
    obtain ⟨h1, γ1, l', h2, h3⟩ := hs l a m List.mem_cons_self h
    obtain ⟨l2, h4, h5⟩ := forM_fold em enc step P ms l' (step a m) h1 fun l a m' hm => hs l a m' (List.mem_cons_of_mem _ hm)
    exact ⟨l2, by simp only [List.map_cons, forM, h2, h3, h4, List.foldl_cons], h5⟩
/-- .. of which each turn leaves the state -/
theorem forM_same {t : Tg} {s : FS} {β' : Type} (em : β' → MV) (P : Sg → Prop) : ∀ (ms : List β') (γ : Sg), P γ → (∀ γ m, m ∈ ms → P γ → ∃ γ1 γ2, asgM t (em m) γ = some γ1 ∧ s γ1 = .nx γ2 ∧ P γ2) → ∃ γ', forM t s (ms.map em) γ = .nx γ' ∧ P γ'
  | [], γ, h, _ => ⟨γ, rfl, h⟩
  | m :: ms, γ, h, hs => by
    obtain ⟨γ1, γ2, h1, h2, h3⟩ := hs γ m List.mem_cons_self h
    obtain ⟨γ', h4, h5⟩ := forM_same em P ms γ2 h3 fun γ m' hm => hs γ m' (List.mem_cons_of_mem _ hm)
    exact ⟨γ', by simp only [List.map_cons, forM, h1, h2, h4], h5⟩
theorem sFor_nx {t : Tg} {fi : FI} {s : FS} {γ γ1 γ2 : Sg} {ms : List MV} (h : fi γ = .ok ms γ1) (h2 : forM t s ms γ1 = .nx γ2) : sFor t fi s γ = .nx γ2 := by
  simp only [sFor, h, h2]
/-- the law's spots: range(max(1, min(m, len(script)))) -/
theorem fArgs_of {g : List MV → Option (List MV)} {fa : FA} {γ γ1 : Sg} {ms r : List MV} (h : fa γ = .ok ms γ1) (hg : g ms = some r) : fArgs g fa γ = .ok r γ1 := by
  simp only [fArgs, h, hg]
theorem e2_of {g : MV → MV → Option Cell} {o q : Opd} {γ γ1 γ2 : Sg} {c d u : Cell} {v w : MV} (h : oEv o γ = .ok c γ1) (h2 : oEv q γ1 = .ok d γ2) (k1 : oGet o c γ2 = some v) (k2 : oGet q d γ2 = some w) (hg : g v w = some u) : e2 g o q γ = .ok u γ2 := by
  simp only [e2, h, h2, k1, k2, hg]
theorem e1_of {g : MV → Option Cell} {o : Opd} {γ γ1 : Sg} {c u : Cell} {v : MV} (h : oEv o γ = .ok c γ1) (k1 : oGet o c γ1 = some v) (hg : g v = some u) : e1 g o γ = .ok u γ1 := by
  simp only [e1, h, k1, hg]
theorem oEv_ex {f : FE} {γ γ1 : Sg} {c : Cell} (h : f γ = .ok c γ1) : oEv (.ex f) γ = .ok c γ1 := by
  simp only [oEv, oGet, h]
theorem aCons_of {f : FE} {r : FA} {γ γ1 γ2 : Sg} {c : Cell} {ms : List MV} (h : f γ = .ok c γ1) (h2 : r γ1 = .ok ms γ2) : aCons f r γ = .ok (c.v :: ms) γ2 := by
  simp only [aCons, h, h2]
theorem spots_num (m n : Nat) : (if (if (n : Int) < (m : Int) then (n : Int) else (m : Int)) > 1 then (if (n : Int) < (m : Int) then (n : Int) else (m : Int)) else 1) = ((max 1 (min m n) : Nat) : Int) := by
  split <;> split <;> omega
theorem spots_fi {lenf : MV → Option Cell} {s : MV} {γ : Sg} {n m : Nat} (hm : m ≤ 5000) (h : lenf s = some (vI (n : Int))) (h0 : oEv (.sl 0) γ = .ok ⟨.val, s⟩ γ) (k0 : oGet (.sl 0) ⟨.val, s⟩ γ = some s) :
    fArgs rangeM1 (aCons (e2 maxII (.ex (eC (.int 1))) (.ex (e2 minII (.ex (eC (.int (m : Int)))) (.ex (e1 lenf (.sl 0)))))) aNil) γ = .ok ((List.range (max 1 (min m n))).map iv) γ := by
  have a1 : e1 lenf (.sl 0) γ = .ok (vI (n : Int)) γ := e1_of h0 k0 h
  have a2 : minII (.int (m : Int)) (.int (n : Int)) = some (vI (if (n : Int) < (m : Int) then (n : Int) else (m : Int))) := rfl
  have a3 := e2_of (oEv_ex (f := eC (.int (m : Int))) (γ := γ) rfl) (oEv_ex a1) rfl rfl a2
  have a4 : maxII (.int 1) (.int (if (n : Int) < (m : Int) then (n : Int) else (m : Int))) = some (vV (iv (max 1 (min m n)))) := by
    have e := spots_num m n
    unfold iv
    rw [← e]; rfl
  have a5 := e2_of (oEv_ex (f := eC (.int 1)) (γ := γ) rfl) (oEv_ex a3) rfl rfl a4
  exact fArgs_of (aCons_of a5 rfl) (rangeM1_nat _ (lt62 (by omega)))
end Mi

set_option Elab.async false
set_option linter.all false
set_option maxRecDepth 100000
set_option maxHeartbeats 4000000
/-! repr of data -/
namespace Mi
open PySem PySem.Spec PyProof.Rows L2 My

section
variable {prog : Program} {w : World} {A : Around} {E : Value → Shared → Prop} {s : Shared} {h₀ : Heap} {v : Value} {d : PyData} {as : List Addr}
theorem pyRepr_reads {Q : Value → Shared → Prop} (r : Reads h₀ v d as) (hs : d.showable = true) (nd : d.hasDict = false) (hg : A.guards = some []) (hu : A.units + d.depth < cLine) (hk0 : ∀ b o, h₀.get? b = some o → s.heap.get? b = some o)
    (hsz : d.shown.length ≤ sizeLine) (hQ : ∀ h' u tk, (∀ b o, s.heap.get? b = some o → h'.get? b = some o) → Q (.str d.shown u) { s with heap := h', toks := tk }) : wpAny (model prog w) A (pyReprObj v) Q E s := by
  have none_of : d.hasDict = true → sysModules ∉ as := fun z => by rw [nd] at z; cases z
  cases r with
  | none => exact pyReprObj_none (hQ s.heap _ _ fun _ _ e => e)
  | bool b => exact pyReprObj_bool (hQ s.heap _ _ fun _ _ e => e)
  | int i t => exact pyReprObj_int (of_decide_eq_true hs) (hQ s.heap _ _ fun _ _ e => e)
  | str x t => exact pyReprObj_str (hQ s.heap _ _ fun _ _ e => e) hsz
  | list h1 h2 h3 h4 => exact pyReprObj_of_reads (.list h1 h2 h3 h4) hs none_of hg hu hk0 hQ hsz
  | tuple h1 h2 h3 h4 => exact pyReprObj_of_reads (.tuple h1 h2 h3 h4) hs none_of hg hu hk0 hQ hsz
  | dict h1 h2 h3 h4 h5 => cases nd
end
end Mi

set_option Elab.async false
set_option linter.all false
set_option maxRecDepth 100000
set_option maxHeartbeats 4000000
/-! exceptions with an __init__ of their own: super().__init__(f'..'); self.f = f -/
namespace Mi
open PySem PySem.Spec PyProof.Rows L2 My

section
variable {prog : Program} {w : World} {A : Around} {E : Value → Shared → Prop} {s : Shared} {env : Env} {h₀ : Heap} {v : Value} {d : PyData} {as : List Addr}
/-- what is told of the argument -/
structure ArgD (h₀ : Heap) (A : Around) (v : Value) (d : PyData) : Prop where
  r : ∃ as, Reads h₀ v d as
  s : d.showable = true
  n : d.hasDict = false
  u : A.units + (d.depth + 2) < cLine
  z : d.shown.length ≤ 1000000
  y : ∀ x, d = .str x → x.length ≤ 1000000
/-- {x!r} -/
theorem fv_repr {e : Expr} {pos : Pos} {Q : Value → Shared → Prop} (D : ArgD h₀ A v d) (hg : A.guards = some []) (hk0 : ∀ b o, h₀.get? b = some o → s.heap.get? b = some o) (he : ∀ Q : Value → Shared → Prop, Q v s → wpAny (model prog w) A (eval e env) Q E s)
    (hQ : ∀ h' u tk, (∀ b o, s.heap.get? b = some o → h'.get? b = some o) → Q (.str d.shown u) { s with heap := h', toks := tk }) : wpAny (model prog w) A (eval (.FormattedValue e 114 none pos) env) Q E s := by
  obtain ⟨as, r⟩ := D.r
  have hz : d.shown.length ≤ sizeLine := Nat.le_trans D.z (by rw [sizeLine_eq]; omega)
  have hu := D.u
  refine wpAny_FormattedValue_repr (he _ (pyRepr_reads r D.s D.n hg (by omega) hk0 hz fun h' u tk k => ?_))
  exact wpAny_formatField_str (hQ h' u tk k) (hQ h' _ _ k) hz
/-- {x} -/
theorem fv_plain {e : Expr} {pos : Pos} {Q : Value → Shared → Prop} (D : ArgD h₀ A v d) (hg : A.guards = some []) (hk0 : ∀ b o, h₀.get? b = some o → s.heap.get? b = some o) (he : ∀ Q : Value → Shared → Prop, Q v s → wpAny (model prog w) A (eval e env) Q E s)
    (hQ : ∀ h' z u tk, z.length ≤ 1000000 → (∀ b o, s.heap.get? b = some o → h'.get? b = some o) → Q (.str z u) { s with heap := h', toks := tk }) : wpAny (model prog w) A (eval (.FormattedValue e (-1) none pos) env) Q E s := by
  obtain ⟨as, r⟩ := D.r
  have hs := D.s
  have hz := D.z
  have hu := D.u
  have nd : d.hasDict = true → sysModules ∉ as := fun z => by rw [D.n] at z; cases z
  have lz : sizeLine = 16777216 := sizeLine_eq
  refine wpAny_FormattedValue_plain (he _ ?_)
  cases r with
  | none => exact wpAny_formatField_none (hQ s.heap _ _ _ (by decide) fun _ _ e => e)
  | bool b => exact wpAny_formatField_bool (hQ s.heap _ _ _ (by cases b <;> decide) fun _ _ e => e)
  | int i t => exact wpAny_formatField_int (of_decide_eq_true hs) (hQ s.heap _ _ _ hz fun _ _ e => e)
  | str x t =>
    have hx : x.length ≤ 1000000 := D.y x rfl
    exact wpAny_formatField_str (hQ s.heap _ _ _ hx fun _ _ e => e) (hQ s.heap _ _ _ hx fun _ _ e => e) (by omega)
  | list h1 h2 h3 h4 => exact formatField_of_reads (.list h1 h2 h3 h4) hs nd hg hu hk0 (fun h' u tk k => hQ h' _ u tk hz k) (by omega)
  | tuple h1 h2 h3 h4 => exact formatField_of_reads (.tuple h1 h2 h3 h4) hs nd hg hu hk0 (fun h' u tk k => hQ h' _ u tk hz k) (by omega)
  | dict h1 h2 h3 h4 h5 => cases D.n
theorem eval_const {x : Str} {j : Nat} {p : Pos} {Q : Value → Shared → Prop} (h : ∀ tk, Q (.str x tk) { s with toks := s.toks + 1 }) : wpAny (model prog w) A (eval (.Constant (.str x) j p) env) Q E s := wpAny_Constant_str (h _)
/-- the message: one part is a text, the other the argument -/
inductive Msg (x : Str) : Expr → Prop
  | rc {m : Str} {j : Nat} {p1 p2 p3 p4 : Pos} : m.length ≤ 1000 → Msg x (.JoinedStr [.FormattedValue (.Name x p1) 114 none p2, .Constant (.str m) j p3] p4)
  | cr {m : Str} {j : Nat} {p1 p2 p3 p4 : Pos} : m.length ≤ 1000 → Msg x (.JoinedStr [.Constant (.str m) j p3, .FormattedValue (.Name x p1) 114 none p2] p4)
  | cp {m : Str} {j : Nat} {p1 p2 p3 p4 : Pos} : m.length ≤ 1000 → Msg x (.JoinedStr [.Constant (.str m) j p3, .FormattedValue (.Name x p1) (-1) none p2] p4)
theorem msg_ok {x : Str} {msg : Expr} {Q : Value → Shared → Prop} (M : Msg x msg) (D : ArgD h₀ A v d) (hg : A.guards = some []) (hk0 : ∀ b o, h₀.get? b = some o → s.heap.get? b = some o)
    (he : ∀ (s' : Shared) (p : Pos) (Q : Value → Shared → Prop), (∀ b o, s.heap.get? b = some o → s'.heap.get? b = some o) → Q v s' → wpAny (model prog w) A (eval (.Name x p) env) Q E s')
    (hQ : ∀ h' z u tk, (∀ b o, s.heap.get? b = some o → h'.get? b = some o) → Q (.str z u) { s with heap := h', toks := tk }) : wpAny (model prog w) A (eval msg env) Q E s := by
  have lz : sizeLine = 16777216 := sizeLine_eq
  have hz := D.z
  have l0 : ∀ y : Str, (Str.empty ++ y).length = y.length := fun y => by rw [strLen_append]; exact Nat.zero_add _
  cases M with
  | rc hm =>
    refine wpAny_JoinedStr ?_
    refine fv_repr D hg hk0 (fun Q q => he s _ Q (fun _ _ e => e) q) fun h' u tk k => ⟨_, _, rfl, by rw [l0]; omega, ?_⟩
    refine eval_const fun tk2 => ⟨_, _, rfl, by rw [strLen_append, l0]; omega, ?_⟩
    exact ⟨by rw [strLen_append, l0]; omega, hQ h' _ _ _ k⟩
  | cr hm =>
    refine wpAny_JoinedStr ?_
    refine eval_const fun tk2 => ⟨_, _, rfl, by rw [l0]; omega, ?_⟩
    refine fv_repr D hg hk0 (fun Q q => he _ _ Q (fun _ _ e => e) q) fun h' u tk k => ⟨_, _, rfl, by rw [strLen_append, l0]; omega, ?_⟩
    exact ⟨by rw [strLen_append, l0]; omega, hQ h' _ _ _ k⟩
  | cp hm =>
    refine wpAny_JoinedStr ?_
    refine eval_const fun tk2 => ⟨_, _, rfl, by rw [l0]; omega, ?_⟩
    refine fv_plain D hg hk0 (fun Q q => he _ _ Q (fun _ _ e => e) q) fun h' z u tk hz k => ⟨_, _, rfl, by rw [strLen_append, l0]; omega, ?_⟩
    exact ⟨by rw [strLen_append, l0]; omega, hQ h' _ _ _ k⟩
end
end Mi

set_option Elab.async false
set_option linter.all false
set_option maxRecDepth 100000
set_option maxHeartbeats 4000000
/-! an __init__ that says super().__init__(message); self.f = f -/
namespace Mi
open PySem PySem.Spec PyProof.Rows L2 My
open PySem.W (Frag ksFn ksEnv ks_superIn KxsFacts excInitIn excOver excObj kxs_mw ks_superObj)

/-- what the written part tells of an exception's class with an __init__ of its own -/
structure ExI (P : Program) (K : Frag) (C fI cda cc : Addr) (f : Str) (params : Arguments) (body : List Stmt) (scope : Scope) (B newId initId : String) (bmB : List Value) : Prop where
  FB : ExcBaseFacts B newId initId bmB
  KF : KxsFacts B initId
  SF : StoreFacts B bmB "object.__setattr__" "object"
  q : excInitIn K C bmB newId = true
  ov : excOver K C bmB = true
  sa : PySem.W.findIn K (.ref C) "__setattr__" = some (some (.builtin "object.__setattr__"))
  tk : PySem.W.takerIn K C f = some none
  hd : PySem.W.hasDictIn K C = true
  ini : PySem.W.findIn K (.ref C) "__init__" = some (some (.ref fI))
  ty : PySem.W.typeIn K (.ref fI) = some (.type "function")
  fn : ∃ qual oc od kV doc pm an ct osl, K.lookup fI = some ⟨oc, od, .func (ksFn "__init__" qual params body scope .none kV doc pm an (.ref cda) ct cc), osl⟩ ∧ PySem.W.codeIn K (.ref cda) qual = true
  code : ∃ ccl cdd vs ccs file tf, K.lookup cda = some ⟨ccl, cdd, .fields vs, ccs⟩ ∧ vs[2]? = some (.str file tf) ∧ ((P.main.file : Str) == file) = true
  cell : ∃ cl cld csl, K.lookup cc = some ⟨cl, cld, .cell (some (.ref C)), csl⟩
  cls : ∃ cd, PySem.W.clsIn K C = some cd
  me : PySem.W.mroIn K C (.ref C) = some true
  any : PySem.W.nsIn K cStatics "thirdparty.any" = some none
  sup : ks_superIn K C C "__init__" = some (some (.builtin initId))
  sub : PySem.W.subIn K (.ref C) (.type B) = some true
  top : (P.main.scope.names.lookup ("super" : Str)).isSome = false
/-- its text -/
structure ExT (f : Str) (params : Arguments) (body : List Stmt) (scope : Scope) : Prop where
  text : ∃ msg p0 p1 p2 p3 p4 p5 p6 p7 p8, Msg f msg ∧ body = [.Expr (.Call (.Attribute (.Call (.Name "super" p0) [] [] p1) "__init__" p2) [msg] [] p3) p4, .Assign [.Attribute (.Name "self" p5) f p6] (.Name f p7) p8] ∧
    ∀ (qual : Str) (L fI cda cc : Addr), ∃ pl : Sem Bool, eval (.Call (.Attribute (.Call (.Name "super" p0) [] [] p1) "__init__" p2) [msg] [] p3) (ksEnv qual scope L fI (.ref cda) cc) = (do
      let ov ← attributeBase (.Call (.Name "super" p0) [] [] p1) "__init__" (ksEnv qual scope L fI (.ref cda) cc) (eval (.Call (.Name "super" p0) [] [] p1) (ksEnv qual scope L fI (.ref cda) cc))
      standAt p2.atName
      let (f, first) ← holding [ov] (getMethod ov "__init__" pl)
      callWith p3 f first (backTo p3 (starEach [msg] (ksEnv qual scope L fI (.ref cda) cc))) [])
  hi : ∀ (qual : Str) (L fI cda cc : Addr), interactive (ksEnv qual scope L fI (.ref cda) cc) = false
  first : ∃ ar, (params.posonlyargs ++ params.args).head? = some ar ∧ ar.arg = ("self" : Str)
  hks : scope.names.lookup ("super" : Str) = some .globalImplicit
  hkc : scope.names.lookup ("__class__" : Str) = some .free
  hka : scope.names.lookup ("self" : Str) = some .local
  hkf : scope.names.lookup f = some .local
  kind : scope.kind = .function
  co : scope.isCoroutine = false
  gen : scope.isGenerator = false
  nocell : ∀ x ∈ scope.names, x.2 ≠ .cell
  ne : f ≠ ("self" : Str)
  nd : (f == ("__debug__" : Str)) = false
  bind : ∀ (qual : Str) (kV doc pm : Value) (an : Option Addr) (cdv ct : Value) (cc : Addr) (a v : Value), bindArgs (ksFn "__init__" qual params body scope .none kV doc pm an cdv ct cc) ⟨[a, v], []⟩ = pure [(("self" : Str), a), (f, v)]
/-- what the module's names are -/
structure Lib (mg : Str → Option Value) (h : Heap) : Prop where
  g : h.Ns mainGlobals mg
  b : ∃ mb, h.Ns builtinsNs mb ∧ ∀ x : Str, x ≠ "__name__" → mb x = bootBuiltins x
  lim : h.NoLimit
  sup : mg "super" = none
theorem Lib.keeps {mg : Str → Option Value} {h h' : Heap} (L : Lib mg h) (k : ∀ b o, h.get? b = some o → h'.get? b = some o) : Lib mg h' :=
  ⟨L.g.keeps k, let ⟨mb, h1, h2⟩ := L.b; ⟨mb, h1.keeps k, h2⟩, L.lim.keeps k, L.sup⟩
/-- what __init__ leaves of a new exception at x -/
structure IniEnd (hp h' : Heap) (x C dx t1 : Addr) (f : Str) (v : Value) : Prop where
  keep : ∀ b o, hp.get? b = some o → h'.get? b = some o
  obj : h'.get? x = some (excObj C t1 (some dx) .none)
  dbig : hp.objs.size ≤ dx
  dne : dx ≠ x
  ns : h'.Ns1 dx (fun y => if y = f then some v else none)
section
variable {P : Program} {w : World} {K : Frag} {A : Around} {C fI cda cc x t0 : Addr} {f : Str} {params : Arguments} {body : List Stmt} {scope : Scope} {B newId initId : String} {bmB : List Value} {mg : Str → Option Value} {hp : Heap} {s : Shared} {v : Value} {d : PyData} {R : Result → Shared → Prop}
/-- the store of the first field -/
theorem exi_store {hq : Heap} {g : Array GenState} {dr : Drawn} {tk : Nat} {os : OsState} {E : Value → Shared → Prop} {Q : Unit → Shared → Prop} (T : ExI P K C fI cda cc f params body scope B newId initId bmB) (X : K.In hq) (hx : hq.get? x = some (excObj C t0 none .none))
    (h : ∀ h' tk' dx, (∀ b o, b ≠ x → hq.get? b = some o → h'.get? b = some o) → hq.objs.size ≤ dx → dx ≠ x → h'.get? x = some (excObj C t0 (some dx) .none) → h'.Ns1 dx (fun y => if y = f then some v else none) → Q () ⟨h', g, dr, tk', os⟩) :
    wpAny (model P w) A (setAttr (.ref x) f v) Q E ⟨hq, g, dr, tk, os⟩ := by
  refine PySem.W.set_plain X (ox := excObj C t0 none .none) (od := none) ⟨hx, rfl, rfl, trivial⟩ T.sa ?_
  refine PySem.W.osa_openX (od := none) T.SF X ⟨hx, rfl, rfl, trivial⟩ T.ov T.tk fun b => ?_
  obtain ⟨cd, hc, hd'⟩ := PySem.W.any_some T.hd
  have hxs : x ≠ hq.objs.size := Nat.ne_of_lt (Heap.lt_size hx)
  refine wpAny_bind (wpAny_pure (wpAny_bind (PySem.W.instanceDict_exc hx (PySem.W.looks_clsIn X hc) hd' ?_)))
  refine PySem.HandSPX.store_in_new ?_ ?_
  · exact ⟨_, #[], _, (Heap.get?_update_ne _ _ _ _ hxs.symm).trans (Heap.get?_push_at rfl rfl), rfl, fun e he => absurd he (by simp), fun _ => rfl⟩
  · intro h' tk' hn' hs
    have hx1 : (hq.push (PySem.W.dictOf [] 0)).get? x = some (excObj C t0 none .none) := Heap.get?_push_of_some _ hx
    refine h h' tk' hq.objs.size (fun b o hb ho => ?_) (Nat.le_refl _) hxs.symm ?_ hn'
    · exact (hs.2 b (Nat.ne_of_lt (Heap.lt_size ho))).trans ((Heap.get?_update_ne _ _ _ _ hb).trans (Heap.get?_push_of_some _ ho))
    · exact (hs.2 x hxs).trans (Heap.get?_update_self _ hx1 rfl)
theorem exi_init (T : ExI P K C fI cda cc f params body scope B newId initId bmB) (Y : ExT f params body scope) (X : K.In hp) (L : Lib mg hp) (hs : s.heap = (hp.push (PySem.W.kdv_tup [v])).push (PySem.HandSPX.excO C hp.objs.size)) (hx : x = hp.objs.size + 1)
    (hroom : A.depth < recursionLimit) (hg : A.guards = some []) (D : ∀ env : Env, ArgD hp (A.deeper env) v d) (hq : ∀ h' tk dx t1, IniEnd hp h' x C dx t1 f v → R (.ok (.ret .none)) { s with heap := h', toks := tk }) :
    codeAny (model P w) A (.call (.ref fI) ⟨[.ref x, v], []⟩) R s := by
  obtain ⟨qual, oc, od, kV, doc, pm, an, ct, osl, hfn, hcd⟩ := T.fn
  obtain ⟨ccl, cdd, vs, ccs, file, tf, hcode, hvs, hfile⟩ := T.code
  obtain ⟨cl, cld, csl, hcell⟩ := T.cell
  obtain ⟨cd, hcls⟩ := T.cls
  obtain ⟨msg, p0, p1, p2, p3, p4, p5, p6, p7, p8, hmsg, rfl, hev⟩ := Y.text
  obtain ⟨ar, har, hself⟩ := Y.first
  obtain ⟨mb, hb, hbb⟩ := L.b
  have k0 : ∀ b o, hp.get? b = some o → s.heap.get? b = some o := fun b o e => by
    rw [hs]
    exact Heap.get?_push_of_some _ (Heap.get?_push_of_some _ e)
  have hx0 : s.heap.get? x = some (excObj C hp.objs.size none .none) := by
    rw [hs, hx]
    heap_get
  have hsz : hp.objs.size + 2 = s.heap.objs.size := by
    rw [hs, Heap.size_push, Heap.size_push]
  have X0 : K.In s.heap := X.keeps k0
  have L0 := L.keeps k0
  have hn1 : ("self" : Str) ≠ f := fun z => Y.ne z.symm
  refine PySem.ks_codeAny_call_defAt (fd := ksFn "__init__" qual params _ scope .none kV doc pm an (.ref cda) ct cc) (binds := [("self", .ref x), (f, v)]) hroom (X0 _ _ hfn) rfl L0.lim (PySem.W.codeRec_of X0 hcd) rfl (.of_eq (Y.bind _ _ _ _ _ _ _ _ _ _)) Y.nocell (fun y hy => ?_) (fun h₁ hns hk₁ => ?_) Y.co Y.gen Y.kind
  · rcases List.mem_cons.mp hy with rfl | hy
    · exact Y.hka
    · rcases List.mem_cons.mp hy with rfl | hy
      · exact Y.hkf
      · exact absurd hy List.not_mem_nil
  have F : Fr hp s.heap.objs.size h₁ _ := ⟨hns, fun b o e => hk₁ b o (k0 b o e), by rw [← hsz]; omega⟩
  have N : News hp s.heap.objs.size h₁ [(x, excObj C hp.objs.size none .none)] := fun p hp' => by
    rcases List.mem_cons.mp hp' with rfl | hp'
    · refine ⟨hk₁ _ _ hx0, fun z => ?_, ?_⟩
      · have z : x = s.heap.objs.size := z
        rw [← hsz, hx] at z
        exact absurd z (Nat.ne_of_lt (Nat.lt_succ_self _))
      · show hp.get? x = none
        cases e : hp.get? x with
        | none => rfl
        | some o =>
          have := Heap.lt_size e
          rw [hx] at this
          exact absurd this (Nat.not_lt.mpr (Nat.le_succ _))
    · exact absurd hp' List.not_mem_nil
  have X1 : K.In h₁ := X.keeps F.keep
  have I : PySem.W.InstAt h₁ x (excObj C hp.objs.size none .none) C none := PySem.W.InstAt.of_exc0 N (by simp)
  have L1 := L.keeps F.keep
  obtain ⟨oD, hD1, hD2⟩ : ∃ oD, h₁.get? C = some oD ∧ oD.data = .cls cd := by
    have h := hcls
    unfold PySem.W.clsIn at h
    split at h
    · rename_i c d' cd' sl ho
      cases h
      exact ⟨_, X1 _ _ ho, rfl⟩
    · cases h
  obtain ⟨pl, he⟩ := hev qual s.heap.objs.size fI cda cc
  refine PySem.ks_wpAt_execs_cons (PySem.ks_wpAt_Expr_any (PySem.ks_wpAt_MethodCall (pl := pl) ?_ he) (Y.hi qual _ fI cda cc) (by rfl))
  refine PySem.ks_wpAt_super_base (env := ksEnv qual scope s.heap.objs.size fI (.ref cda) cc) Y.hks Y.hkc (by decide) rfl (X1 _ _ hfn) rfl har rfl (X1 _ _ hcode) rfl hvs hfile T.top ?_
  refine PySem.W.ks_loadName_global Y.kind Y.hks (PySem.Calls.loadGlobal_builtin (env := ksEnv qual scope s.heap.objs.size fI (.ref cda) cc) L1.g L.sup (hb.keeps F.keep) ((hbb _ (by decide)).trans (by rfl)) ⟨rfl, ?_⟩)
  refine wpAny_loadName_free Y.kind Y.hkc (by rfl) ⟨_, X1 _ _ hcell, rfl⟩ ?_
  rw [hself]
  have e1 : List.lookup ("self" : Str) ([(("self" : Str), Value.ref x), (f, v)] : List (Str × Value)).reverse = some (.ref x) := by
    have hb1 : (("self" : Str) == f) = false := beq_eq_false_iff_ne.mpr hn1
    simp only [List.reverse_cons, List.reverse_nil, List.nil_append, List.singleton_append, List.lookup, hb1, beq_self_eq_true]
  have e2 : List.lookup f ([(("self" : Str), Value.ref x), (f, v)] : List (Str × Value)).reverse = some v := by
    simp only [List.reverse_cons, List.reverse_nil, List.nil_append, List.singleton_append, List.lookup, beq_self_eq_true]
  refine wpAny_loadName_local Y.kind Y.hka F.ns e1 ?_
  refine PySem.ks_wpAny_isType_cls hD1 hD2 ⟨rfl, ?_⟩
  refine PySem.ks_wpAny_call_super hD1 hD2 I.at_ I.cls (fun c z => by cases z) (PySem.W.looks_mroIn X1 T.me) fun h2 eso k2 => ?_
  obtain ⟨F2, N2, lt2⟩ := PySem.W.ks_newsPush (s := ⟨h₁, s.gens, s.drawn, s.toks + 2, s.os⟩) F N rfl eso k2
  refine PySem.W.kxs_method T.KF F2 X N2 (List.mem_cons_self) (PySem.W.InstAt.of_exc0 (t := hp.objs.size) (c2 := .none) N2 (by simp)) T.any T.sup T.sub (by decide) fun q h3 F3 N3 lt3 => ?_
  have hst : starEach [msg] (ksEnv qual scope s.heap.objs.size fI (.ref cda) cc) = (false, eval msg (ksEnv qual scope s.heap.objs.size fI (.ref cda) cc)) :: starEach [] (ksEnv qual scope s.heap.objs.size fI (.ref cda) cc) := by cases hmsg <;> rfl
  refine PySem.W.kxs_callWith1 N3 List.mem_cons_self ?_ hst (by rfl)
  have frL : ∀ (s' : Shared) (h4 : Heap), (∀ b o, h3.get? b = some o → h4.get? b = some o) → Fr hp s.heap.objs.size h4 (fun y => List.lookup y ([(("self" : Str), Value.ref x), (f, v)] : List (Str × Value)).reverse) := fun s' h4 k => ⟨let ⟨oL, es, ep, e, r⟩ := F3.ns; ⟨oL, es, ep, k _ _ e, r⟩, fun b o e => k b o (F3.keep b o e), F3.above⟩
  show wpAny _ _ (spliced (backTo p3 (starEach [msg] (ksEnv qual scope s.heap.objs.size fI (.ref cda) cc)))) _ _ _
  rw [hst]
  show wpAny _ _ (spliced ((false, eval msg (ksEnv qual scope s.heap.objs.size fI (.ref cda) cc)) :: backTo p3 (starEach [] (ksEnv qual scope s.heap.objs.size fI (.ref cda) cc)))) _ _ _
  refine PySem.Calls.spliced_cons (msg_ok (h₀ := hp) (s := ⟨h3, s.gens, s.drawn, s.toks + 2 + 1, s.os⟩) hmsg (D _) hg F3.keep (fun s' p Q k q => ?_) fun h4 z u tk4 k4 => ?_)
  · exact wpAny_Name (wpAny_loadName_local Y.kind Y.hkf (let ⟨oL, es, ep, e, r⟩ := F3.ns; ⟨oL, es, ep, k _ _ e, r⟩) e2 q) Y.nd
  have F4 := frL s h4 k4
  have N4 : News hp s.heap.objs.size h4 _ := fun p hp' => ⟨k4 _ _ (N3 p hp').1, (N3 p hp').2⟩
  refine PySem.Calls.spliced_nil ⟨(N4 _ List.mem_cons_self).1, ?_⟩
  have lt3x : x < h₁.objs.size := Heap.lt_size I.at_
  refine PySem.W.kxs_call (s := ⟨h4, s.gens, s.drawn, tk4, s.os⟩) (t := hp.objs.size) (dv := none) (c2 := .none) F4 X N4 T.FB T.q List.mem_cons_self (.tail ?_ (.tail ?_ (.head fun p hp' => absurd hp' List.not_mem_nil))) ?_ fun t5 h5 F5 N5 lt5 => ?_
  · exact fun z => Nat.lt_irrefl _ (z ▸ lt3 (x, excObj C hp.objs.size none .none) (by simp))
  · exact fun z => Nat.lt_irrefl _ (z ▸ lt3x)
  · show 1 ≤ sizeLine
    rw [sizeLine_eq]
    omega
  have hx5 := (N5 (x, excObj C t5 none .none) (by simp)).1
  have F5' := F5.ns
  refine PySem.wpAt_of_wpAny (wpAny_execs_cons (plainObj_wpAny_Assign_Attribute (wpAny_Name (wpAny_loadName_local Y.kind Y.hkf F5' e2 ?_) Y.nd) (by rfl)))
  refine wpAny_Name (wpAny_loadName_local Y.kind Y.hka F5' e1 ?_) (by decide)
  refine exi_store T (X.keeps F5.keep) hx5 fun h6 tk6 dx k6 big6 ne6 o6 ns6 => ?_
  refine wpAny_execs_nil ?_
  have hpx : ∀ b o, hp.get? b = some o → b ≠ x := fun b o e z => by
    have := Heap.lt_size e
    rw [z, hx] at this
    exact absurd this (Nat.not_lt.mpr (Nat.le_succ _))
  refine hq h6 tk6 dx t5 ⟨fun b o e => k6 b o (hpx b o e) (F5.keep b o e), o6, Nat.le_trans ?_ big6, ne6, ns6⟩
  exact Nat.le_of_lt (Nat.lt_of_le_of_lt F.above (let ⟨oL, es, ep, e, r⟩ := F5.ns; Heap.lt_size e))
end
end Mi

set_option Elab.async false
set_option linter.all false
set_option maxRecDepth 100000
set_option maxHeartbeats 4000000
/-! raise -/
namespace Mi
open PySem PySem.Spec PyProof.Rows L2 My
open PySem.W (Frag ksFn ksEnv ks_superIn KxsFacts excInitIn excOver excObj kxs_mw ks_superObj)
section
variable {P : Program} {w : World} {K : Frag} {A : Around} {C fI cda cc : Addr} {f : Str} {params : Arguments} {body : List Stmt} {scope : Scope} {B newId initId : String} {bmB : List Value} {mg : Str → Option Value} {s : Shared} {v : Value} {d : PyData} {R : Result → Shared → Prop}
theorem exi_made (T : ExI P K C fI cda cc f params body scope B newId initId bmB) (Y : ExT f params body scope) (X : K.In s.heap) (L : Lib mg s.heap) (hroom : A.depth + 1 < recursionLimit) (hg : A.guards = some []) (D : ∀ env : Env, ArgD s.heap ((A.under (.builtin "type.__call__" ⟨[.ref C, v], []⟩)).deeper env) v d)
    (hq : ∀ h' tk dx t1, IniEnd s.heap h' (s.heap.objs.size + 1) C dx t1 f v → R (.ok (.ret (.ref (s.heap.objs.size + 1)))) { s with heap := h', toks := tk }) :
    codeAny (model P w) A (.call (.ref C) ⟨[v], []⟩) R s := by
  obtain ⟨nm, N', qn, bs, bm, hdct, sn, sub, ab, col, dd, k0, k1, k2, k3, k5, hC, hT⟩ := PySem.W.excInit_of X T.q
  obtain ⟨hp, g, dr, tk, os⟩ := s
  refine PySem.HandSPX.call_own T.FB hT hC (PySem.W.looks_findIn X T.ini) (fun self => PySem.W.bind_fn X self T.ty) (by show 1 ≤ sizeLine; rw [sizeLine_eq]; omega) ?_
  refine exi_init (s := ⟨(hp.push (PySem.W.kdv_tup [v])).push (PySem.HandSPX.excO C hp.objs.size), g, dr, tk, os⟩) T Y X L rfl rfl ?_ hg D fun h' tk' dx t1 e => ?_
  · show A.depth + 1 < recursionLimit
    exact hroom
  · exact ⟨rfl, hq h' tk' dx t1 e⟩
end
/-- a value of the small machine as data that repr shows -/
def strOk : PyData → Bool
  | .str x => decide (x.length ≤ 1000000)
  | _ => true
def showM (m : MV) : Option PyData := (datM m).bind fun d => if (d.showable && (!d.hasDict && (decide (d.depth ≤ 30) && (decide (d.shown.length ≤ 1000000) && strOk d)))) = true then some d else none
theorem showM_ok {m : MV} {d : PyData} (h : showM m = some d) : datM m = some d ∧ d.showable = true ∧ d.hasDict = false ∧ d.depth ≤ 30 ∧ d.shown.length ≤ 1000000 ∧ ∀ x, d = .str x → x.length ≤ 1000000 := by
  unfold showM at h
  obtain ⟨d', h1, h2⟩ := Option.bind_eq_some_iff.mp h
  split at h2
  · rename_i hs
    cases h2
    simp only [Bool.and_eq_true, Bool.not_eq_true', decide_eq_true_eq] at hs
    obtain ⟨a, b, c, e, f⟩ := hs
    refine ⟨h1, a, b, c, e, fun x z => ?_⟩
    subst z
    exact of_decide_eq_true f
  · cases h2
/-- the facts of an exception's class with an __init__ of its own, by its name -/
structure ExcI (P : Program) (K : Frag) (mg : Str → Option Value) (C f : Str) : Prop where
  ne : C ≠ ("" : Str)
  gl : mg C = some (.ref (He.ga K C))
  kp : PySem.W.keepIn K (.ref (He.ga K C)) = true
  sup : mg "super" = none
  i : ∃ fI cda cc params body scope B newId initId bmB, ExI P K (He.ga K C) fI cda cc f params body scope B newId initId bmB ∧ ExT f params body scope
  ex : PySem.W.subIn K (.ref (He.ga K C)) (.type "BaseException") = some true
  ty : PySem.W.typeIn K (.ref (He.ga K C)) = some (.type "type")
section
variable {X : Cx} {C f x : Str} {e : Expr} {fe : FE} {p pos : Pos}
theorem relO_one {v : V} {u : Value} {f : Str} (r : RelV v u) (g : Str) : RelO (List.lookup g [(f, v)]) (if g = f then some u else none) := by
  by_cases h : g = f
  · subst h
    simp [List.lookup]
    exact r
  · have hb : (g == f) = false := beq_eq_false_iff_ne.mpr h
    simp [List.lookup, hb, h]
    trivial
/-- C(e) -/
theorem pmk_exi {ta : TA} {k : Nat} (T : ExcI X.prog X.K X.mg C f) (hr : Room (k + 1) X.A) (hgd : X.A.guards = some []) (hg : Gl X C) (ha : PA X [e] ta) (hdb : (C == ("__debug__" : Str)) = false := by decide)
    (he : starEach [e] X.env = (false, eval e X.env) :: starEach [] X.env := by rfl) (hpl : (backTo pos (starEach [] X.env)).any (·.1) = false := by rfl) :
    PMk X (.Call (.Name C p) [e] [] pos) (fun σ H Q => ta σ H fun vs H1 => ∃ v d, vs = [v] ∧ Dp X.K H1 v d ∧ d.showable = true ∧ d.hasDict = false ∧ d.depth ≤ 30 ∧ d.shown.length ≤ 1000000 ∧ (∀ x, d = .str x → x.length ≤ 1000000) ∧
      ∀ dx, H1 dx = none → Q (.ref (He.ga X.K C)) (some dx) (upd H1 dx (.xd [(f, v)]))) := by
  intro pins s σ H Q I h
  obtain ⟨fI, cda, cc, params, body, scope, B, newId, initId, bmB, Ti, Y⟩ := T.i
  refine wpAny_Call_Name_kw (ld_glob I hg T.gl ?_ hdb)
  refine PySem.W.callWith_K (h₀ := X.base) I.ok.mod.kin T.kp (thn (ha.run pos pins s σ H _ I h) fun us s1 hh => ?_) he hpl
  obtain ⟨vs, H1, I1, r1, v, d, ev, hdp, d1, d2, d3, d4, d5, q1⟩ := hh
  subst ev
  refine ⟨I1.kIn, ?_⟩
  cases r1 with
  | cons rv rn =>
    rename_i u us'
    cases rn
    show wpAny _ _ (call (.ref (He.ga X.K C)) [u]) _ _ _
    obtain ⟨as, hrd⟩ := Dp.reads I1 d v u hdp rv
    have lib : Lib X.mg s1.heap := ⟨I1.mod.glob.keeps I1.bk, let ⟨mb, h1, h2⟩ := I1.mod.blt; ⟨mb, h1.keeps I1.bk, h2⟩, I1.nolimit, T.sup⟩
    have hu := hr.un
    have hd := hr.dp
    refine wpAny_call (exi_made (d := d) Ti Y I1.kIn lib (by omega) hgd (fun env => ⟨⟨as, hrd⟩, d1, d2, ?_, d4, d5⟩) fun h' tk dx t1 E => ?_)
    · show (X.A.under (.builtin "type.__call__" ⟨[.ref (He.ga X.K C), u], []⟩)).units + 3 + (d.depth + 2) < cLine
      rw [make_units (A := X.A) (C := He.ga X.K C) (us := [u]) (kw := [])]
      omega
    · obtain ⟨hp, g, dr, tk0, os⟩ := s1
      have hold : ∀ b o, hp.get? b = some o → b ≠ hp.objs.size + 1 := fun b o z => Nat.ne_of_lt (Nat.lt_of_lt_of_le (Heap.lt_size z) (Nat.le_succ _))
      obtain ⟨G', g1, g2⟩ := restrict h' fun b => decide (b ≠ hp.objs.size + 1)
      have gk : ∀ b, b ≠ hp.objs.size + 1 → G'.get? b = h'.get? b := fun b hb => g1 b (decide_eq_true hb)
      have ge : G'.get? (hp.objs.size + 1) = none := g2 _ (by simp)
      have old : ∀ b o, hp.get? b = some o → G'.get? b = some o := fun b o q => (gk b (hold b o q)).trans (E.keep b o q)
      have ob : ObjOk X.prog X.w (upd H1 dx (.xd [(f, v)])) G' dx (.xd [(f, v)]) := ⟨_, E.ns.at (fun o q => (gk dx E.dne).trans q), relO_one rv⟩
      have J : Inv X pins σ (upd H1 dx (.xd [(f, v)])) ⟨G', g, dr, tk, os⟩ := I1.laid (t' := tk) old E.dbig ob
      refine ⟨hp.objs.size + 1, _, _, ⟨G', g, dr, tk, os⟩, _, .ref (He.ga X.K C), some dx, rfl, J, fun b o q => ?_, ge, E.obj, ⟨rfl, rfl⟩, rfl, rfl, ?_, rfl, I1.bare, raises_own T.ex T.ty, q1 dx (I1.hok.fresh E.dbig)⟩
      · by_cases hb : b = hp.objs.size + 1
        · rw [hb, ge] at q
          cases q
        · exact (gk b hb).symm.trans q
      · rw [upd_ne (Ne.symm E.dne)]
        exact I1.hok.fresh (Nat.le_succ _)
/-- raise C(e) -/
def sRaise1 (C f : Str) (fe : FE) : FS := fun γ => match fe γ with
  | .ok c γ1 => if (showM c.v).isSome = true then .ex ⟨C, [(f, c.v)]⟩ γ1 else .no
  | .ex e γ1 => .ex e γ1
  | .no => .no
theorem qs_raise1 {k : Nat} {pos2 : Pos} (hc : X.calm = true) (T : ExcI X.prog X.K X.mg C f) (hr : Room (k + 1) X.A) (hgd : X.A.guards = some []) (hg : Gl X C) (ha : RE X e fe) (hdb : (C == ("__debug__" : Str)) = false := by decide)
    (he : starEach [e] X.env = (false, eval e X.env) :: starEach [] X.env := by rfl) (hpl : (backTo pos (starEach [] X.env)).any (·.1) = false := by rfl) : QS X (.Raise (some (.Call (.Name C p) [e] [] pos)) none pos2) (sRaise1 C f fe) := fun po W tk =>
  PS_imp (ps_raise hc tk (pmk_exi T hr hgd hg (pa_cons (ha W tk) pa_nil he) hdb he hpl)) fun D σ H ⟨Z, A, γ, S, h⟩ => by
    refine ⟨Z, A, γ, S, ?_⟩
    unfold sRaise1 at h
    cases E1 : fe γ with
    | no => rw [E1] at h; exact h
    | ex e γ1 =>
      rw [E1] at h
      exact fun A' H' cls d S' le k xr => h σ A' H' cls d S' (.of le k) xr
    | ok c γ1 =>
      rw [E1] at h
      simp only at h
      split at h
      · rename_i hs
        obtain ⟨d, hd⟩ := Option.isSome_iff_exists.mp hs
        obtain ⟨h1, h2⟩ := showM_ok hd
        intro y A' H' hs' le k
        refine ⟨y, d, rfl, dp_rep c.v d y h1 hs'.rep, h2.1, h2.2.1, h2.2.2.1, h2.2.2.2.1, h2.2.2.2.2, fun dx nx => ?_⟩
        have S1 := hs'.sim
        have e1 : Same H' (upd H' dx (.xd [(f, y)])) := same_new nx
        refine h σ A' _ _ _ (S1.same e1) (.of le (k.trans (.of_same e1) fun b _ _ m => le.mz b m)) ⟨rfl, dx, [y], rfl, upd_same, fun m => ?_, Reps.one (hs'.rep.same e1)⟩
        obtain ⟨o, ho⟩ := S1.trk dx m
        rw [nx] at ho
        cases ho
      · exact h.elim
/-- the facts of an exception's class without an __init__ of its own -/
structure ExcO (K : Frag) (mg : Str → Option Value) (C : Str) : Prop where
  gl : mg C = some (.ref (He.ga K C))
  kp : PySem.W.keepIn K (.ref (He.ga K C)) = true
  b : ∃ B newId initId bmB, ExcBaseFacts B newId initId bmB ∧ PySem.W.excIn K (He.ga K C) bmB newId = true
  ex : PySem.W.subIn K (.ref (He.ga K C)) (.type "BaseException") = some true
  ty : PySem.W.typeIn K (.ref (He.ga K C)) = some (.type "type")
/-- raise C('m') -/
def sRaise0 (C : Str) : FS := fun γ => .ex ⟨C, []⟩ γ
theorem qs_raise0 {m : Str} {j : Nat} {p2 pos2 : Pos} (hc : X.calm = true) (T : ExcO X.K X.mg C) (hg : Gl X C) (hdb : (C == ("__debug__" : Str)) = false := by decide) : QS X (.Raise (some (.Call (.Name C p) [.Constant (.str m) j p2] [] pos)) none pos2) (sRaise0 C) := fun po W tk => by
  obtain ⟨B, newId, initId, bmB, F, q⟩ := T.b
  exact PS_imp (ps_raise hc tk (pmk_own F q T.gl T.kp (raises_own T.ex T.ty) hg hdb)) fun D σ H ⟨Z, A, γ, S, h⟩ => h σ A H _ _ S .refl ⟨rfl, rfl⟩
end
end Mi

set_option Elab.async false
set_option linter.all false
set_option maxRecDepth 100000
set_option maxHeartbeats 4000000
/-! try: several clauses, with a name or without -/
namespace Mi
open PySem PySem.Spec PyProof.Rows L2 My

/-- one clause: the class, the slot of its name, what its suite does with the exception at a -/
structure Cls1 where
  c : Value
  i : Option Nat
  t : Addr → Value → Option Addr → TS
/-- what the clauses wish -/
def wCls (K : PySem.W.Frag) (Wo : WX) (D : Ends) : List Cls1 → WX
  | [] => Wo
  | k :: r => fun cls d σ H => ∃ b, PySem.W.exmOne K cls k.c = some b ∧
      (b = true → ∀ a, H a = none → match k.i with
        | none => k.t a cls d D σ H
        | some i => k.t a cls d { nx := fun σ' H' => D.nx (σ'.set i none) H', rt := D.rt, bk := fun σ' H' => D.bk (σ'.set i none) H', ct := fun σ' H' => D.ct (σ'.set i none) H' } (σ.set i (some (.ref a))) H) ∧
      (b = false → wCls K Wo D r cls d σ H)
inductive Clss (X : Cx) : List ExceptHandler → List Cls1 → Prop
  | nil : Clss X [] []
  | plain {x : Str} {c : Value} {t : Addr → Value → Option Addr → TS} {b : Stmt} {bs : List Stmt} {p p' : Pos} {hs : List ExceptHandler} {l : List Cls1} (hc : Names X x c)
      (hb : ∀ (a : Addr) (oe : Obj) (cls : Value) (d : Option Addr) (pn : List (Addr × Obj)), Zc cls d oe → (∃ vs, oe.data = .fields vs) → PSs (X.suite a ((a, oe) :: pn)) (b :: bs) (t a cls d)) (r : Clss X hs l) :
      Clss X (.ExceptHandler (some (.Name x p)) none (b :: bs) p' :: hs) (⟨c, none, t⟩ :: l)
  | named {x n : Str} {c : Value} {i : Nat} {t : Addr → Value → Option Addr → TS} {b : Stmt} {bs : List Stmt} {p p' : Pos} {hs : List ExceptHandler} {l : List Cls1} (hc : Names X x c) (hi : X.N[i]? = some n) (hn : X.env.kindOf n = some .local)
      (hb : ∀ (a : Addr) (oe : Obj) (cls : Value) (d : Option Addr) (pn : List (Addr × Obj)), Zc cls d oe → (∃ vs, oe.data = .fields vs) → PSs (X.suite a ((a, oe) :: pn)) (b :: bs) (t a cls d)) (r : Clss X hs l) :
      Clss X (.ExceptHandler (some (.Name x p)) (some n) (b :: bs) p' :: hs) (⟨c, some i, t⟩ :: l)
section
variable {X : Cx} {body : List Stmt} {h0 : ExceptHandler} {hs : List ExceptHandler} {l : List Cls1} {pos : Pos} {tb : WX → TS} {Wo : WX}
theorem ps_tryC (stk : X.stack = X.env :: X.outer) (fr : X.env.frame = some X.env.locals) (nd : X.N.Nodup) (tk : Takes X Wo)
    (hb : ∀ (W : WX) (pn : List (Addr × Obj)) (xe : Value → Shared → Prop), Takes (X.tr pn xe) W → PassesOwn (model X.prog X.w) X.A X.env xe → PSs (X.tr pn xe) body (tb W))
    (cl : Clss X (h0 :: hs) l) : PS X (.Try body (h0 :: hs) [] [] pos) (fun D σ H => tb (wCls X.K Wo D l) D σ H) := by
  refine ⟨fun pins s σ H D I h => ?_⟩
  have ok := I.ok
  have frs' : X.A.frames = some (X.env :: X.outer) := by rw [ok.frames, stk]
  refine wpAny_Try_except ?_
  let ends : Value → Shared → Prop := fun e s₁ => wpAny (model X.prog X.w) X.A (noteFrame e X.env) (fun _ s₂ => wpAny (model X.prog X.w) X.A (setFlight e none) (fun _ s₃ => wpAny (model X.prog X.w) X.A (handleBy e X.env (h0 :: hs)) (SP X pins D) X.xe s₃) X.xe s₂) X.xe s₁
  have take : Takes (X.tr (X.pn ++ pins) ends) (wCls X.K Wo D l) := by
    rintro u s' ⟨a, B, sI, pins', σ', H', cls, d, rfl, J', nb, up, sky, na, os, ag, w⟩
    have J : Inv X pins σ' H' sI := J'.ofTry ok
    have sky2 : Sky B (X.env :: X.outer) a (Zc cls d) X.env.locals s'.heap := by rw [← stk]; exact sky
    show wpAny (model X.prog X.w) X.A (noteFrame (.ref a) X.env) _ _ _
    refine Sky.land Zc.steady frs' fr sky2 fun h3 fl3 up3 => ?_
    have J3 : Inv X pins σ' H' { s' with heap := h3 } := J.landed nb fl3.1 (up.trans up3) os ag
    obtain ⟨oe, vs, he, hz, hd⟩ := fl3.there
    have out : a ∉ frs (X.env :: X.outer) := fun hm => by
      obtain ⟨_, o', e', hnf⟩ := fl3.2.2.1.mem hm
      rw [he] at e'
      cases e'
      exact hnf _ hd
    have nL : a ≠ X.env.locals := fun z => out (List.mem_filterMap.mpr ⟨X.env, List.mem_cons_self, by rw [fr, z]⟩)
    have nF : a ∉ X.fs := fun hm => let ⟨e, h1, h2⟩ := List.mem_filterMap.mp hm; out (List.mem_filterMap.mpr ⟨e, List.mem_cons_of_mem _ h1, h2⟩)
    have S3 := J3.suite he hd na nL nF
    have name : ∀ {x : Str} {p : Pos} {c : Value} {Q : Value → Shared → Prop} {E : Value → Shared → Prop}, Names X x c → Q c { s' with heap := h3 } → wpAny (model X.prog X.w) (X.A.mark (some (.ref a))) (eval (.Name x p) X.env) Q E { s' with heap := h3 } := fun {x p c Q E} hc q => by
      obtain ⟨hg, hdb, hm | ⟨hm, hv, hn⟩⟩ := hc
      · exact ld_glob (X := X.suite a ((a, oe) :: (X.pn ++ pins))) S3 hg hm q hdb
      · exact ld_blt (X := X.suite a ((a, oe) :: (X.pn ++ pins))) S3 hg hm hv q hn hdb
    have look : PySem.W.Looks (model X.prog X.w) h3 (typeOf (.ref a)) cls := fun A Q E s k q => wpAny_typeOf_ref (k _ _ he) (by rw [hz.1]; exact q)
    have go : ∀ {hs' : List ExceptHandler} {l' : List Cls1}, Clss X hs' l' → wCls X.K Wo D l' cls d σ' H' → wpAny (model X.prog X.w) X.A (handleBy (.ref a) X.env hs') (SP X pins D) X.xe { s' with heap := h3 } := by
      intro hs' l' ck
      induction ck with
      | nil =>
        intro wo
        refine wpAny_handleBy_nil ?_
        obtain ⟨_, _, _, oe', vs', T, oT, ts', he', hz', hd', h1, hr⟩ := id fl3
        unfold PySem.passOn
        refine wpAny_bind (wpAny_field he' hd' h1 ?_)
        rw [if_neg (show ¬ ((Value.ref T == Value.none) = true) from by simp)]
        have fin : wpAny (model X.prog X.w) X.A (setFlight (.ref a) X.env.frame) (fun _ s4 => wpAny (model X.prog X.w) X.A (throw (.ref a) : Sem Flow) (SP X pins D) X.xe s4) X.xe { s' with heap := h3 } := by
          rw [fr]
          exact HandSPX.setFlight_upZ fl3 fun h4 hh4 up4 => wpAny_throw (tk _ _ ⟨a, B, sI, pins, σ', H', cls, d, rfl, J, nb, (up.trans up3).trans up4, .inr (.inr (by rw [stk]; exact hh4)), na, os, ag, wo⟩)
        first
          | exact wpAny_bind (wpAny_pure (wpAny_bind fin))
          | exact wpAny_bind fin
      | plain hc hsu r ih =>
        rintro ⟨b, hb1, yes, no⟩
        have LM := PySem.W.exm_one (M := model X.prog X.w) (J3.kIn) look hb1
        refine wpAny_handleBy_cons (codeAny_handlers_test ?_) (by intro q; cases q)
        refine name hc (LM.here ?_)
        cases b with
        | false => exact ih (no rfl)
        | true =>
          refine codeAny_handlers_suite (HandSPX.lands_againZ fl3 fun h4 fl4 up4 => ?_)
          obtain ⟨oe4, vs4, he4, hz4, hd4⟩ := fl4.there
          have J4 : Inv X pins σ' H' { s' with heap := h4 } := J.landed nb fl4.1 ((up.trans up3).trans up4) os ag
          have S4 := J4.suite he4 hd4 na nL nF
          refine wpAny_mono ((hsu a oe4 cls d (X.pn ++ pins) hz4 ⟨_, hd4⟩).run [] _ _ H' _ S4 (yes rfl a na)) (fun fl s6 hsp => ?_) (fun _ _ z => False.elim z)
          cases fl with
          | ret u => exact let ⟨v6, σ6, H6, S6, r6, q6⟩ := hsp; ⟨_, _, _, S6.unsuite ok, r6, q6⟩
          | next => exact let ⟨σ6, H6, S6, q6⟩ := hsp; ⟨_, _, S6.unsuite ok, q6⟩
          | brk => exact let ⟨σ6, H6, S6, q6⟩ := hsp; ⟨_, _, S6.unsuite ok, q6⟩
          | cont => exact let ⟨σ6, H6, S6, q6⟩ := hsp; ⟨_, _, S6.unsuite ok, q6⟩
      | @named x n c i t b bs p p' hs2 l2 hc hi hn hsu r ih =>
        rintro ⟨b, hb1, yes, no⟩
        have LM := PySem.W.exm_one (M := model X.prog X.w) (J3.kIn) look hb1
        refine wpAny_handleBy_cons (codeAny_handlers_test ?_) (by intro q; cases q)
        refine name hc (LM.here ?_)
        cases b with
        | false => exact ih (no rfl)
        | true =>
          refine codeAny_handlers_suite_as (HandSPX.lands_againZ fl3 fun h4 fl4 up4 => ?_)
          obtain ⟨oe4, vs4, he4, hz4, hd4⟩ := fl4.there
          have J4 : Inv X pins σ' H' { s' with heap := h4 } := J.landed nb fl4.1 ((up.trans up3).trans up4) os ag
          have S4 := J4.suite he4 hd4 na nL nF
          have loc : Loc X.env.scope n := .inl hn
          refine store_ok (X := X.suite a ((a, oe4) :: (X.pn ++ pins))) (v := .ref a) S4 nd hi loc rfl (fun s5 S5 => ?_) (.inr hn)
          refine wpAny_mono ((hsu a oe4 cls d (X.pn ++ pins) hz4 ⟨_, hd4⟩).run [] s5 _ H' _ S5 (yes rfl a na)) (fun fl s6 hsp => ?_) (fun _ _ z => False.elim z)
          cases fl with
          | ret u => exact let ⟨v6, σ6, H6, S6, r6, q6⟩ := hsp; gone_ok (S6.unsuite ok) nd hi hn fun s7 J7 => ⟨_, _, _, J7, r6, q6⟩
          | next => exact let ⟨σ6, H6, S6, q6⟩ := hsp; gone_ok (S6.unsuite ok) nd hi hn fun s7 J7 => ⟨_, _, J7, q6⟩
          | brk => exact let ⟨σ6, H6, S6, q6⟩ := hsp; gone_ok (S6.unsuite ok) nd hi hn fun s7 J7 => ⟨_, _, J7, q6⟩
          | cont => exact let ⟨σ6, H6, S6, q6⟩ := hsp; gone_ok (S6.unsuite ok) nd hi hn fun s7 J7 => ⟨_, _, J7, q6⟩
    exact go cl w
  refine wpAny_mono ((hb (wCls X.K Wo D l) (X.pn ++ pins) ends take PassesOwn.looking).run [] s σ H D (I.toTry _) h) (fun fl s1 hsp => ?_) (fun e s1 he => he)
  cases fl with
  | next => exact let ⟨σ', H', J', q⟩ := hsp; wpAny_execs_nil ⟨σ', H', J'.ofTry ok, q⟩
  | brk => exact let ⟨σ', H', J', q⟩ := hsp; ⟨σ', H', J'.ofTry ok, q⟩
  | cont => exact let ⟨σ', H', J', q⟩ := hsp; ⟨σ', H', J'.ofTry ok, q⟩
  | ret u => exact let ⟨v, σ', H', J', r, q⟩ := hsp; ⟨v, σ', H', J'.ofTry ok, r, q⟩
end
end Mi

set_option Elab.async false
set_option linter.all false
set_option maxRecDepth 100000
set_option maxHeartbeats 4000000
/-! a lambda handed to a def that calls it: where nothing guards -/
namespace Mi
open PySem PySem.Spec PyProof.Rows L2 My LamX

/-- the lambda is made: its code object is new, or found in the table; all but the table stays -/
theorem lam_makeP {X : Cx} {pins : List (Addr × Obj)} {σ : L2.St} {H : Hp} {s : Shared} {T : List (Addr × Str)} {c P : Addr} {params : Arguments} {body : Expr} {scope : Scope} {pos : Pos} {E : Value → Shared → Prop} {Q : Value → Shared → Prop} (I : L2.Inv X pins σ H s) (TB : TabB X.base X.mg c P) (hcode : X.env.code = .ref c)
    (hm : (P, X.env.qual ++ "<lambda>") ∈ T) (hu : ∀ p ∈ T, p.1 = P → p.2 = X.env.qual ++ "<lambda>") (hT : Tabs T H) (hdef : defaultsOf params X.env = ([], [])) (fr : ∀ y ∈ scope.names, y.2 = .free → ∃ c, X.env.cells.lookup y.1 = some c)
    (h : ∀ (f c' : Addr) (pm ctv : Value) (H1 : Hp) (s' : Shared), L2.Inv X pins σ H1 s' → (∀ b o, b ≠ P → H b = some o → H1 b = some o) → Tabs T H1 →
      s'.heap.get? f = some (PySem.W.kla_obj "<lambda>" (X.env.qual ++ "<lambda>") params body scope (cloFrom X.env.cells scope.names []) pm c' ctv) → H1 f = none → f ∉ frs X.stack → H1 c' = some (CodeO c' (X.env.qual ++ "<lambda>")) → Q (.ref f) s') :
    wpAny (model X.prog X.w) X.A (eval (.Lambda params body scope pos) X.env) Q E s := by
  obtain ⟨ps, hP, ht, ha⟩ := hT _ hm
  refine PySem.W.kla_eval hdef ?_
  have bP : s.heap.BuiltinsAt X.mg P := TB.bm.keeps I.bk
  have oP : s.heap.get? P = some { cls := .none, data := .fields ps } := I.hok P _ hP
  have outF : ∀ f, s.heap.objs.size ≤ f → f ∉ frs X.stack := fun f hf z => (List.mem_cons.mp (I.stkSub _ z)).elim (fun e => absurd (e ▸ I.lt) (Nat.not_lt.mpr hf)) fun e => I.nofs hf e
  cases hc : codeAmong pos ps.toList with
  | some cv =>
    obtain ⟨c', e, hco⟩ := ha pos cv hc
    subst e
    refine PySem.W.kla_makeFunctionHit (mg := X.mg) (c := c) (P := P) (ps := ps) (closure_ok fr) I.ok.glob (I.mod.glob.keeps I.bk) hcode (TB.code.keeps I.bk) oP ht hc bP fun ctv h' tk hx hsz => ?_
    have I1 : L2.Inv X pins σ H { s with heap := h'.push (PySem.W.kla_obj "<lambda>" (X.env.qual ++ "<lambda>") params body scope (cloFrom X.env.cells scope.names []) ((X.mg "__name__").getD .none) c' ctv), toks := tk } := I.kept fun b o e => Heap.get?_push_of_some _ (hx b o e)
    exact h h'.objs.size c' ((X.mg "__name__").getD .none) ctv H _ I1 (fun _ _ _ e => e) hT (Heap.get?_push_size _ rfl) (I.hok.fresh hsz) (outF _ hsz) hco
  | none =>
    refine PySem.W.kla_makeFunction (mg := X.mg) (c := c) (P := P) (ps := ps) (closure_ok fr) I.ok.glob (I.mod.glob.keeps I.bk) hcode (TB.code.keeps I.bk) oP ht hc TB.gP bP fun c' ctv h' tk hx hge hlt hrec htb => ?_
    obtain ⟨c2, oc, vs, t, e2, hoc, hd, hv⟩ := hrec
    cases e2
    have hsz : s.heap.objs.size ≤ h'.objs.size := Nat.le_trans hge (Nat.le_of_lt hlt)
    have nC : H c' = none := I.hok.fresh hge
    have I1 := inv_table (t' := tk) (more := #[rawInt pos.line, rawInt pos.col, .ref c']) (h' := h'.push (PySem.W.kla_obj "<lambda>" (X.env.qual ++ "<lambda>") params body scope (cloFrom X.env.cells scope.names []) ((X.mg "__name__").getD .none) c' ctv)) I hP
      (fun b o hb e => Heap.get?_push_of_some _ (hx b o hb e)) (Heap.get?_push_of_some _ htb) hge ⟨oc, vs, t, Heap.get?_push_of_some _ hoc, hd, hv⟩
    have stay : ∀ b o, b ≠ P → H b = some o → upd (upd H P (.tbl (ps ++ #[rawInt pos.line, rawInt pos.col, .ref c']))) c' (CodeO c' (X.env.qual ++ "<lambda>")) b = some o := fun b o nb e => by rw [upd_ne (ne_of_none e nC), upd_ne nb]; exact e
    have code_stay : ∀ c0 q, H c0 = some (CodeO c0 q) → upd (upd H P (.tbl (ps ++ #[rawInt pos.line, rawInt pos.col, .ref c']))) c' (CodeO c' (X.env.qual ++ "<lambda>")) c0 = some (CodeO c0 q) := fun c0 q e => stay c0 _ (fun z => codeO_ne ps (Option.some.inj (e.symm.trans (z ▸ hP)))) e
    have eL : (ps ++ #[rawInt pos.line, rawInt pos.col, .ref c']).toList = ps.toList ++ [rawInt pos.line, rawInt pos.col, .ref c'] := by simp
    refine h h'.objs.size c' ((X.mg "__name__").getD .none) ctv _ _ I1 stay (fun p hp => ?_) (Heap.get?_push_size _ rfl) ?_ (outF _ hsz) upd_same
    · by_cases hb : p.1 = P
      · rw [hu p hp hb, hb]
        refine ⟨_, by rw [upd_ne (ne_of_none hP nC), upd_same], by rw [eL]; exact PySem.TriplesOk_snoc _ _ _ _ ht, fun p' cv hcv => ?_⟩
        rw [eL] at hcv
        rcases among_app _ ht hcv with z | z
        · obtain ⟨c0, e1, e2⟩ := ha p' cv z
          exact ⟨c0, e1, code_stay c0 _ e2⟩
        · exact ⟨c', z, upd_same⟩
      · obtain ⟨ps', a1, a2, a3⟩ := hT p hp
        refine ⟨ps', stay _ _ hb a1, a2, fun p' cv hcv => ?_⟩
        obtain ⟨c0, e1, e2⟩ := a3 p' cv hcv
        exact ⟨c0, e1, code_stay c0 _ e2⟩
    · rw [upd_ne (Nat.ne_of_gt hlt), upd_ne (Nat.ne_of_gt (Nat.lt_of_lt_of_le (Heap.lt_size oP) hsz))]
      exact I.hok.fresh hsz
def tLamP (T : List (Addr × Str)) (P : Addr) (TT : (XK → Hp → VK → Prop) → Hp → VK → Prop) (t : XK → TE) : TE := fun σ H Q => Tabs T H ∧ ∀ H1, (∀ b o, b ≠ P → H b = some o → H1 b = some o) → Tabs T H1 → TT (fun E H' Q' => t E σ H' Q') H1 Q
section
variable {X : Cx} {pins : List (Addr × Obj)} {σ : L2.St} {H HZ : Hp} {s s1 : Shared}
/-- the slot's function is called: the lambda's body runs -/
theorem pe_actG {CXg : CXT} {Eg : XK} {Ng : List Str} {qg : Str} {sg : Scope} {g f c' : Addr} {cdg pm ctv : Value} {params : Arguments} {body : Expr} {scope : Scope} {k i : Nat} {a : Str} {pn : List (Addr × Obj)} {xe : Value → Shared → Prop} {W : WX} {E : XK} {tb : TE} {p1 p2 : Pos}
    (I : L2.Inv X pins σ H s) (L : LamS X.env.scope scope) (hf : s.heap.get? f = some (PySem.W.kla_obj "<lambda>" (X.env.qual ++ "<lambda>") params body scope (cloFrom X.env.cells scope.names []) pm c' ctv)) (nf : H f = none) (nfr : f ∉ frs X.stack)
    (bind : bindArgs (PySem.W.kla_fn "<lambda>" (X.env.qual ++ "<lambda>") params body scope (cloFrom X.env.cells scope.names []) pm (.ref c') ctv) ⟨[], []⟩ = pure [])
    (tk : Takes ((cxOf CXg X.prog X.w X.K X.mg X.base Ng qg sg g cdg X.A X.stack s H Eg).tr pn xe) W) (hW : ∀ cls d σ' H', E cls d H' → σ'.length = Ng.length → W cls d σ' H') (hr : Room (k + 1) (X.A.deeper (envOfC qg sg s.heap.objs.size g cdg)))
    (hb : ∀ (A : Around) (outer : List Env) (s : Shared) (H : Hp), A.guards = X.A.guards → Room k (A.deeper (lamEnv X scope s.heap.objs.size f c')) → PE (lamCx X A outer s H E scope f c') body tb)
    (hN : Ng[i]? = some a) (hv : Vis sg a) (d1 : (a == ("__debug__" : Str)) = false) (d2 : (a == ("__classdict__" : Str)) = false) :
    PE ((cxOf CXg X.prog X.w X.K X.mg X.base Ng qg sg g cdg X.A X.stack s H Eg).tr pn xe) (.Call (.Name a p1) [] [] p2)
      (fun σZ HZ Q => σZ[i]? = some (some (.ref f)) ∧ HZ c' = some (CodeO c' (X.env.qual ++ "<lambda>")) ∧ tb σ HZ Q) := by
  refine ⟨fun pinsZ sZ σZ HZ Q IZ ⟨at_, hc, ht⟩ => wpAny_Call_Name_kw (thn ((pe_var (pos := p1) (i := i) hN hv d1 d2).run pinsZ sZ σZ HZ (fun v H1 => v = .ref f ∧ H1 = HZ) IZ ⟨.ref f, at_, rfl, rfl⟩) fun u s1 ⟨v, H1, I1, r1, ev, eH⟩ => ?_)⟩
  subst ev
  subst eH
  obtain rfl : u = Value.ref f := r1
  have here : s1.heap.get? f = some (PySem.W.kla_obj "<lambda>" (X.env.qual ++ "<lambda>") params body scope (cloFrom X.env.cells scope.names []) pm c' ctv) := I1.base.keep f _ hf nf nfr (fun z => nomatch (show f ∈ ([] : List Addr) from z))
  refine PySem.W.callWith_F0 ⟨_, _, _, _, here⟩ ?_
  obtain ⟨⟨oc, vs, t, hoc, hdc, hvc⟩, _, _⟩ := I1.hok c' _ hc
  have go : codeAny (model X.prog X.w) (X.A.deeper (envOfC qg sg s.heap.objs.size g cdg)) (.call (.ref f) ⟨[], []⟩) (CR (L2.CX X.prog X.w) (envOfC qg sg s.heap.objs.size g cdg :: X.stack) X.prog X.w H1 s1 Q E) s1 := by
    refine PySem.W.kla_callFunE hr.depth here rfl L.co L.gen rfl ⟨c', oc, vs, t, rfl, hoc, hdc, hvc⟩ ?_
    rw [bind]
    refine wpAny_pure (wpAny_newFunctionEnv (fun y hy => (L.own y hy).2) (fun y hy => absurd hy List.not_mem_nil) (fun h1 hns hsb => ⟨I1.nolimit.fresh _ hsb, ?_⟩) L.kind)
    have kp : ∀ b o, s1.heap.get? b = some o → h1.get? b = some o := fun b o e => hsb.extBut b o (Nat.ne_of_lt (Heap.lt_size e)) (Heap.get?_push_of_some _ e)
    have J : L2.Inv (lamCx X (X.A.deeper (envOfC qg sg s.heap.objs.size g cdg)) (envOfC qg sg s.heap.objs.size g cdg :: X.stack) s1 H1 E scope f c') [] σ H1 { s1 with heap := h1, toks := s1.toks + ([] : List (Str × Value)).length } :=
      lam_start2 I L I1.env0 hr.hd I1.base hns kp
    refine PySem.W.kla_codeExpr (wpAny_mono ((hb (X.A.deeper (envOfC qg sg s.heap.objs.size g cdg)) _ s1 H1 rfl (hr.deeper _)).run [] _ _ H1 Q J ht) (fun v s' hq => ?_) fun e s' hq => hq)
    obtain ⟨w', H', J', rv, q⟩ := hq
    exact ⟨w', H', J'.os, J'.bare, J'.base, J'.hok, rv, q⟩
  have tk2 : Takes ((cxOf CXg X.prog X.w X.K X.mg X.base Ng qg sg g cdg X.A X.stack s H Eg).tr pn xe) (fun cls d σ' H' => σ'.length = Ng.length → W cls d σ' H') := fun u s' ⟨a, B, sI, pp, σ', H', cls, d, e, I', r1, r2, r3, r4, r5, r6, w⟩ =>
    tk u s' ⟨a, B, sI, pp, σ', H', cls, d, e, I', r1, r2, r3, r4, r5, r6, w I'.len⟩
  refine wpAny_call (codeAny_mono go fun r s' hq => ?_)
  cases r with
  | error e => exact passes_call tk2 (fun cls d σ' H' h => hW cls d σ' H' h) pinsZ σZ H1 s1 e s' I1 hq
  | ok fl =>
    cases fl with
    | ret u => exact I1.after hq
    | next => exact (hq : False).elim
    | brk => exact (hq : False).elim
    | cont => exact (hq : False).elim
/-- a def that calls what it got; TT: what it makes of the lambda's reading -/
def Gives (X : Cx) (Ng : List Str) (x : Str) (sg : Scope) (g : Addr) (cdg : Value) (bg : List Stmt) (a : Str) (q : Str) (TT : (XK → Hp → VK → Prop) → Hp → VK → Prop) : Prop :=
  ∀ (f c' : Addr) (s : Shared) (H : Hp) (Q : VK) (tl : XK → Hp → VK → Prop), Room 1 (X.A.deeper (envOfC x sg s.heap.objs.size g cdg)) →
    (∀ (W : WX) (pn : List (Addr × Obj)) (xe : Value → Shared → Prop) (E : XK) (p1 p2 : Pos), Takes ((cxOf C8.CX0 X.prog X.w X.K X.mg X.base Ng x sg g cdg X.A X.stack s H C8.E0).tr pn xe) W → (∀ cls d σ' H', E cls d H' → σ'.length = Ng.length → W cls d σ' H') →
      PE ((cxOf C8.CX0 X.prog X.w X.K X.mg X.base Ng x sg g cdg X.A X.stack s H C8.E0).tr pn xe) (.Call (.Name a p1) [] [] p2) (fun σZ HZ Q => σZ[0]? = some (some (.ref f)) ∧ HZ c' = some (CodeO c' q) ∧ tl E HZ Q)) →
    H c' = some (CodeO c' q) → TT tl H Q →
    ∃ t, PSs (cxOf C8.CX0 X.prog X.w X.K X.mg X.base Ng x sg g cdg X.A X.stack s H C8.E0).nox bg t ∧ t { nx := fun _ H' => Q .non H', rt := Q } (L2.start Ng [.ref f]) H
theorem pe_lamG {T : List (Addr × Str)} {TT : (XK → Hp → VK → Prop) → Hp → VK → Prop} {x a : Str} {g c P : Addr} {k : Nat} {pg : Arguments} {bg : List Stmt} {sg : Scope} {dV kV doc pm cdv ct oc : Value} {an od : Option Addr} {osl : Array (Option Value)} {Ng : List Str}
    {params : Arguments} {body : Expr} {scope : Scope} {t : XK → TE} {p lpos pos : Pos} (hg : Gl X x) (hm : X.mg x = some (.ref g)) (hk : PySem.W.keepIn X.K (.ref g) = true)
    (lk : X.K.lookup g = some ⟨oc, od, .func (PySem.W.fnOf x x pg bg sg dV kV doc pm an cdv ct), osl⟩) (hcg : PySem.W.codeIn X.K cdv x = true) (hb : L2.Binds X.K (PySem.W.fnOf x x pg bg sg dV kV doc pm an cdv ct) [a] []) (Sg : FnScope Ng [a] sg) (hNg : Ng[0]? = some a) (hva : Vis sg a)
    (hG : Gives X Ng x sg g cdv bg a (X.env.qual ++ "<lambda>") TT)
    (TB : TabB X.base X.mg c P) (hcode : X.env.code = .ref c) (hmT : (P, X.env.qual ++ "<lambda>") ∈ T) (hu : ∀ p ∈ T, p.1 = P → p.2 = X.env.qual ++ "<lambda>") (hr : Room (k + 2) X.A) (L : LamS X.env.scope scope) (hdef : defaultsOf params X.env = ([], []))
    (hbind : ∀ (q : Str) (cl : List (Str × Addr)) (pm cv ctv : Value), bindArgs (PySem.W.kla_fn "<lambda>" q params body scope cl pm cv ctv) ⟨[], []⟩ = pure [])
    (hbody : ∀ (A : Around) (outer : List Env) (s : Shared) (H : Hp) (E : XK) (f c' : Addr), A.guards = X.A.guards → Room k (A.deeper (lamEnv X scope s.heap.objs.size f c')) → PE (lamCx X A outer s H E scope f c') body (t E))
    (hdb : (x == ("__debug__" : Str)) = false) (d1 : (a == ("__debug__" : Str)) = false) (d2 : (a == ("__classdict__" : Str)) = false) :
    PE X (.Call (.Name x p) [.Lambda params body scope lpos] [] pos) (tLamP T P TT t) := by
  refine ⟨fun pins s σ H Q I ⟨hT, h⟩ => wpAny_Call_Name_kw (ld_glob I hg hm ?_ hdb)⟩
  refine PySem.W.callWith_K (h₀ := X.base) I.ok.mod.kin hk ?_ (by rfl) (by rfl)
  show wpAny _ _ (spliced ((false, eval (.Lambda params body scope lpos) X.env) :: backTo pos (starEach [] X.env))) _ _ s
  refine Calls.spliced_cons (lam_makeP I TB hcode hmT hu hT hdef (L.has I.ok) fun f c' pm' ctv H1 s' I1 eN T1 hf nf nfr hco => Calls.spliced_nil ⟨I1.kIn, ?_⟩)
  have go : codeAny (model X.prog X.w) X.A (.call (.ref g) ⟨[.ref f], []⟩) (CR C8.CX0 X.stack X.prog X.w H1 s' Q C8.E0) s' := by
    refine run_ofS (N := Ng) (ps := [a]) (us := [.ref f]) (vs := [.ref f]) lk hcg Sg hr I1.env0 (hb s' [.ref f] I1.kIn rfl) (.cons rfl .nil) rfl fun hr' => ?_
    obtain ⟨t', ht', hq'⟩ := hG f c' s' H1 Q (fun E H' Q' => t E σ H' Q') (hr'.mono (Nat.le_add_left 1 k)) (fun W pn xe E p1 p2 tk hW => pe_actG (i := 0) I1 L hf nf nfr (hbind _ _ _ _ _) tk hW hr' (fun A outer s H eg hr2 => hbody A outer s H E f c' eg hr2) hNg hva d1 d2) hco (h H1 eN T1)
    exact ⟨t', ht'.nox, hq'⟩
  refine wpAny_call (codeAny_mono go fun r s2 hq => ?_)
  cases r with
  | error e => exact (show False from hq).elim
  | ok fl =>
    cases fl with
    | ret u => exact I1.after hq
    | next => exact (hq : False).elim
    | brk => exact (hq : False).elim
    | cont => exact (hq : False).elim
end
end Mi

set_option Elab.async false
set_option linter.all false
set_option maxRecDepth 100000
set_option maxHeartbeats 4000000
/-! repr of data by a call; a def that tells what a call raises -/
namespace Mi
open PySem PySem.Spec PyProof.Rows L2 My LamX

theorem call_reprD {X : Cx} (hg : X.A.guards = some []) (hu : X.A.units + 64 < cLine) : CallR X (.builtin "repr") (fun xs H Q => ∃ x d, xs = [x] ∧ Dp X.K H x d ∧ d.showable = true ∧ d.hasDict = false ∧ d.depth ≤ 30 ∧ d.shown.length ≤ 1000000 ∧ Q (.str d.shown) H) := by
  intro pins s σ H xs us Q I r h
  obtain ⟨x, d, rfl, hd, h1, h2, h3, h4, q⟩ := h
  obtain ⟨u, rfl, r1⟩ := Vals.one r
  have hz : d.shown.length ≤ sizeLine := Nat.le_trans h4 (by rw [sizeLine_eq]; omega)
  have nd : ∀ as : List Addr, d.hasDict = true → sysModules ∉ as := fun as z => by rw [h2] at z; cases z
  obtain ⟨as, rd⟩ := Dp.reads I d x u hd r1
  have fin : ∀ h' u tk, (∀ b o, s.heap.get? b = some o → h'.get? b = some o) → EP X pins σ Q (.str d.shown u) { s with heap := h', toks := tk } := fun h' u tk k => ⟨.str d.shown, H, I.kept k, ⟨u, rfl⟩, q⟩
  cases rd with
  | none => exact PySem.P.repr_of_none (fin s.heap _ _ fun _ _ e => e)
  | bool b => exact PySem.P.repr_of_bool (fin s.heap _ _ fun _ _ e => e)
  | int i t => exact PySem.P.repr_of_int (of_decide_eq_true h1) (fin s.heap _ _ fun _ _ e => e)
  | str y t => exact PySem.P.repr_of_str (fin s.heap _ _ fun _ _ e => e) hz
  | list a1 a2 a3 a4 => exact repr_of_reads' (.list a1 a2 a3 a4) h1 (nd _) hg (by omega) (fun _ _ e => e) fin hz
  | tuple a1 a2 a3 a4 => exact repr_of_reads' (.tuple a1 a2 a3 a4) h1 (nd _) hg (by omega) (fun _ _ e => e) fin hz
  | dict a1 a2 a3 a4 a5 => cases h2
/-- repr(x) -/
def reprM (m : MV) : Option Cell := (showM m).map fun d => vV (.str d.shown)
theorem cal_repr {X : Cx} (hg : X.A.guards = some []) (hu : X.A.units + 64 < cLine) : Cal1 X (.builtin "repr") reprM := ⟨_, call_reprD hg hu, fun M v c x H Q tr e rv q => by
  unfold reprM at e
  obtain ⟨d, hd, rfl⟩ := Option.map_eq_some_iff.mp e
  obtain ⟨h1, h2, h3, h4, h5, _⟩ := showM_ok hd
  exact ⟨x, d, rfl, dp_repB h1 rv, h2, h3, h4, h5, q _ H (.refl _) res_str⟩⟩
/-- what a clause of the def says: its class, its text, the field it tells of -/
abbrev MetH : Type := Str × Str × Option Str
def metM (es : List Str) : List MetH → Ex → Option Str
  | [], _ => none
  | (C, m, fo) :: r, e => if es.contains e.cls = true then (if e.cls = C then (match fo, e.fs with
    | none, _ => some m
    | some f, [(f', v)] => if f' = f then (showM v).bind fun d => if m.length ≤ 1000 then some (m ++ d.shown) else none else none
    | some _, _ => none) else metM es r e) else none
inductive MetHs : List ExceptHandler → List MetH → Prop
  | nil : MetHs [] []
  | plain {C m : Str} {j : Nat} {p p1 p2 p' : Pos} {hs : List ExceptHandler} {l : List MetH} (r : MetHs hs l) : MetHs (.ExceptHandler (some (.Name C p)) none [.Return (some (.Constant (.str m) j p1)) p2] p' :: hs) ((C, m, none) :: l)
  | named {C m f : Str} {j : Nat} {p p1 p2 p3 p4 p5 p6 p7 p' : Pos} {hs : List ExceptHandler} {l : List MetH} (r : MetHs hs l) :
      MetHs (.ExceptHandler (some (.Name C p)) (some "error") [.Return (some (.BinOp (.Constant (.str m) j p1) .Add (.Call (.Name "repr" p2) [.Attribute (.Name "error" p3) f p4] [] p5) p6)) p7] p' :: hs) ((C, m, some f) :: l)
/-- what is known of the classes -/
structure MetK (K : PySem.W.Frag) (mg : Str → Option Value) (sg : Scope) (es : List Str) (l : List MetH) : Prop where
  gl : ∀ k ∈ l, sg.names.lookup k.1 = some .globalImplicit ∧ mg k.1 = some (.ref (He.ga K k.1)) ∧ (k.1 == ("__debug__" : Str)) = false
  ex : ∀ c ∈ es, ∀ k ∈ l, PySem.W.exmOne K (.ref (He.ga K c)) (.ref (He.ga K k.1)) = some (decide (c = k.1))
  xf : ∀ k ∈ l, ∀ f, k.2.2 = some f → XfC K (He.ga K k.1) ∧ PySem.W.findIn K (.ref (He.ga K k.1)) f = some none
def TTmet (G : GG) (es : List Str) (l : List MetH) (dflt : Str) : (XK → Hp → VK → Prop) → Hp → VK → Prop := fun tl H Q =>
  tl (fun cls d H' => ∃ (M : Addr → Prop) (e : Ex) (z : Str), ExRep G M H' e cls d ∧ metM es l e = some z ∧ Q (.str z) H') H fun _ H' => Q (.str dflt) H'
section
variable {X : Cx} {Ng : List Str} {x q dflt : Str} {sg : Scope} {g : Addr} {cdg : Value} {hs : List ExceptHandler} {h0 : ExceptHandler} {es : List Str} {l : List MetH} {j : Nat} {p1 p2 p3 p4 p5 p6 : Pos}
/-- the clauses' readings -/
def metT (i : Nat) (K : PySem.W.Frag) (k : MetH) : Cls1 := match k.2.2 with
  | none => ⟨.ref (He.ga K k.1), none, fun _ _ _ => tRet (tC (.str k.2.1))⟩
  | some f => ⟨.ref (He.ga K k.1), some i, fun a cls d => tRet (tOp (fun x y H Q => ∃ i j, x = .str i ∧ y = .str j ∧ i.length + j.length ≤ sizeLine ∧ Q (.str (i ++ j)) H) (tC (.str k.2.1)) (tCB (fun xs H Q => ∃ x d, xs = [x] ∧ Dp K H x d ∧ d.showable = true ∧ d.hasDict = false ∧ d.depth ≤ 30 ∧ d.shown.length ≤ 1000000 ∧ Q (.str d.shown) H)
      (tCons (tXf a cls d (He.ga K k.1) f (tVar i)) tNil)))⟩
theorem met_clss {Z : Cx} {i : Nat} (hi : Z.N[i]? = some ("error" : Str) ∨ ∀ k ∈ l, k.2.2 = none) (hk : Z.env.kindOf "error" = some .local ∨ ∀ k ∈ l, k.2.2 = none) (hv : Vis Z.env.scope "error" ∨ ∀ k ∈ l, k.2.2 = none) (hrg : Gl Z "repr" ∧ Z.mg "repr" = none) (hgd : Z.A.guards = some []) (hu : Z.A.units + 64 < cLine)
    (M : ∀ k ∈ l, Names Z k.1 (.ref (He.ga Z.K k.1))) (xf : ∀ k ∈ l, ∀ f, k.2.2 = some f → XfC Z.K (He.ga Z.K k.1) ∧ PySem.W.findIn Z.K (.ref (He.ga Z.K k.1)) f = some none) (h : MetHs hs l) : Clss Z hs (l.map (metT i Z.K)) := by
  induction h with
  | nil => exact .nil
  | plain r ih =>
    refine .plain (M _ List.mem_cons_self) (fun a oe cls d pn hz hf => pss_one (ps_ret pe_str)) (ih ?_ ?_ ?_ (fun k hk => M k (List.mem_cons_of_mem _ hk)) fun k hk => xf k (List.mem_cons_of_mem _ hk))
    · exact hi.imp_right fun z k hk => z k (List.mem_cons_of_mem _ hk)
    · exact hk.imp_right fun z k hk => z k (List.mem_cons_of_mem _ hk)
    · exact hv.imp_right fun z k hk => z k (List.mem_cons_of_mem _ hk)
  | @named C m f j p p1 p2 p3 p4 p5 p6 p7 p' hs l r ih =>
    have no : ¬ ∀ k ∈ (C, m, some f) :: l, k.2.2 = none := fun z => by cases z _ List.mem_cons_self
    have hi1 := hi.resolve_right no
    have hk1 := hk.resolve_right no
    have hv1 := hv.resolve_right no
    obtain ⟨x1, x2⟩ := xf _ List.mem_cons_self f rfl
    refine .named (M _ List.mem_cons_self) hi1 hk1 (fun a oe cls d pn hz hf => pss_one (ps_ret (pe_op op_add_str pe_str (pe_callB (X := Z.suite a ((a, oe) :: pn)) (call_reprD hgd hu) hrg.1 hrg.2 (by rfl) (pa_cons (pe_xf x1 x2 hz hf (pe_var hi1 hv1 (by decide) (by decide)) (by rfl)) pa_nil (by rfl)) (by decide) (by decide) (by rfl) (by rfl)))))
      (ih (.inl hi1) (.inl hk1) (.inl hv1) (fun k hk => M k (List.mem_cons_of_mem _ hk)) fun k hk => xf k (List.mem_cons_of_mem _ hk))
theorem met_clss2 {Z : Cx} {i : Nat} (no : ∀ k ∈ l, k.2.2 = none) (M : ∀ k ∈ l, Names Z k.1 (.ref (He.ga Z.K k.1))) (h : MetHs hs l) : Clss Z hs (l.map (metT i Z.K)) := by
  induction h with
  | nil => exact .nil
  | plain r ih => exact .plain (M _ List.mem_cons_self) (fun a oe cls d pn hz hf => pss_one (ps_ret pe_str)) (ih (fun k hk => no k (List.mem_cons_of_mem _ hk)) fun k hk => M k (List.mem_cons_of_mem _ hk))
  | named r ih => cases no _ List.mem_cons_self
theorem met_wish {K : PySem.W.Frag} {G : GG} (eK : G.K = K) {D : Ends} {Q : VK} {n i : Nat} {cls : Value} {d : Option Addr} {σ' : L2.St} {H' : Hp} (hi : i < n ∨ ∀ k ∈ l, k.2.2 = none) (hl : σ'.length = n) (hD : ∀ x H, Q x H → D.rt x H)
    (ex : ∀ c ∈ es, ∀ k ∈ l, PySem.W.exmOne K (.ref (He.ga K c)) (.ref (He.ga K k.1)) = some (decide (c = k.1)))
    {M : Addr → Prop} {e : Ex} {z : Str} (xr : ExRep G M H' e cls d) (hm : metM es l e = some z) (hq : Q (.str z) H') : wCls K (fun _ _ _ _ => False) D (l.map (metT i K)) cls d σ' H' := by
  induction l with
  | nil => simp only [metM] at hm; cases hm
  | cons k r ih =>
    obtain ⟨C, m, fo⟩ := k
    simp only [metM] at hm
    split at hm
    rotate_left
    · cases hm
    rename_i hes
    have hes : e.cls ∈ es := by simpa using hes
    have hx := ex _ hes (C, m, fo) List.mem_cons_self
    have ec : cls = .ref (He.ga K e.cls) := by rw [← eK]; exact xr.1
    refine ⟨decide (e.cls = C), by subst ec; cases fo <;> exact hx, fun hb a na => ?_, fun hb => ?_⟩
    · have hc : e.cls = C := of_decide_eq_true hb
      rw [if_pos hc] at hm
      cases fo with
      | none =>
        cases hm
        exact hD _ _ hq
      | some f =>
        have hi' : i < n := hi.resolve_right fun z => by cases z _ List.mem_cons_self
        split at hm
        · rename_i heq
          cases heq
        · rename_i f' v heq hfs
          cases heq
          split at hm
          · rename_i hff
            subst hff
            obtain ⟨dt, h1, h2⟩ := Option.bind_eq_some_iff.mp hm
            split at h2
            · rename_i hml
              cases h2
              obtain ⟨s1, s2, s3, s4, s5, s6⟩ := showM_ok h1
              have xr2 := xr.2
              rw [hfs] at xr2
              obtain ⟨dd, vs, e1, e2, e3, e4⟩ := xr2
              simp only [List.map_cons, List.map_nil, Reps] at e4
              obtain ⟨y, ys, rfl, r1, rfl⟩ := e4
              have hdp := dp_rep v dt y s1 r1
              rw [eK] at hdp
              have hlen : m.length + dt.shown.length ≤ sizeLine := by rw [sizeLine_eq]; omega
              have at_ : (σ'.set i (some (V.ref a)))[i]? = some (some (.ref a)) := List.getElem?_set_self (by omega)
              refine ⟨.ref a, at_, rfl, by rw [ec, hc], dd, [(f', y)], y, e1, e2, by simp [List.lookup], y, dt, rfl, hdp, s2, s3, s4, s5, m, dt.shown, rfl, rfl, hlen, ?_⟩
              exact hD _ _ hq
            · cases h2
          · cases hm
        · cases hm
    · have hc : e.cls ≠ C := of_decide_eq_false hb
      rw [if_neg hc] at hm
      exact ih (hi.imp_right fun z k hk => z k (List.mem_cons_of_mem _ hk)) (fun c hc k hk => ex c hc k (List.mem_cons_of_mem _ hk)) hm
theorem met_gives {i : Nat} (hgd : X.A.guards = some []) (Mk : MetK X.K X.mg sg es l) (hh : MetHs (h0 :: hs) l) (nd : Ng.Nodup) (h0' : ∀ f : Addr, (L2.start Ng [V.ref f])[0]? = some (some (V.ref f))) (hi : Ng[i]? = some ("error" : Str) ∨ ∀ k ∈ l, k.2.2 = none)
    (hk : sg.names.lookup ("error" : Str) = some .local ∨ ∀ k ∈ l, k.2.2 = none) (hrg : sg.names.lookup ("repr" : Str) = some .globalImplicit ∨ ∀ k ∈ l, k.2.2 = none) (hrm : X.mg "repr" = none) :
    Gives X Ng x sg g cdg [.Try [.Expr (.Call (.Name "call" p1) [] [] p2) p3] (h0 :: hs) [] [] p4, .Return (some (.Constant (.str dflt) j p5)) p6] "call" q (TTmet (GX X) es l dflt) := by
  intro f c' s H Q tl hr act hc h
  have hn : i < Ng.length ∨ ∀ k ∈ l, k.2.2 = none := hi.imp_left fun z => (List.getElem?_eq_some_iff.mp z).1
  have hu : (X.A.deeper (envOfC x sg s.heap.objs.size g cdg)).units + 64 < cLine := units64 hr
  refine ⟨_, pss_cons (ps_tryC (X := (cxOf C8.CX0 X.prog X.w X.K X.mg X.base Ng x sg g cdg X.A X.stack s H C8.E0).nox) (l := l.map (metT i X.K)) (Wo := fun _ _ _ _ => False)
      (tb := fun W D σ H => ∃ Ech : XK, (∀ cls d σ' H', Ech cls d H' → σ'.length = Ng.length → W cls d σ' H') ∧ σ[0]? = some (some (.ref f)) ∧ H c' = some (CodeO c' q) ∧ tl Ech H fun _ H' => D.nx σ H')
      rfl rfl nd LamX.takes0 (fun W pn xe tk _ => ?_) ?_) (pss_one (ps_ret pe_str)), ?_⟩
  · refine ⟨fun pins s' σ H' D I ⟨Ech, hW, h1, h2, h3⟩ => ?_⟩
    exact (pss_one (ps_expr (pos := p3) (act W pn xe Ech p1 p2 tk hW))).run pins s' σ H' D I ⟨h1, h2, h3⟩
  · by_cases hno : ∀ k ∈ l, k.2.2 = none
    · exact met_clss2 hno (fun k hk => ⟨(Mk.gl k hk).1, (Mk.gl k hk).2.2, .inl (Mk.gl k hk).2.1⟩) hh
    · exact met_clss (hi.imp_left id) (hk.imp_left id) (hk.imp_left .inl) ⟨hrg.resolve_right hno, hrm⟩ hgd hu (fun k hk => ⟨(Mk.gl k hk).1, (Mk.gl k hk).2.2, .inl (Mk.gl k hk).2.1⟩) Mk.xf hh
  · refine ⟨fun cls d H' => ∃ (M : Addr → Prop) (e : Ex) (z : Str), ExRep (GX X) M H' e cls d ∧ metM es l e = some z ∧ Q (.str z) H', fun cls d σ' H' ⟨M, e, z, xr, hm, hq⟩ hl => ?_, h0' f, hc, h⟩
    exact met_wish (G := GX X) rfl hn hl (fun _ _ z => z) Mk.ex xr hm hq
end
end Mi

set_option Elab.async false
set_option linter.all false
set_option maxRecDepth 100000
set_option maxHeartbeats 4000000
/-! f(lambda: e), f a def that tells what a call raises -/
namespace Mi
open PySem PySem.Spec PyProof.Rows L2 My LamX

/-- the facts of that def -/
structure MetOk (K : PySem.W.Frag) (mg : Str → Option Value) (x : Str) (es : List Str) (l : List MetH) (dflt : Str) : Prop where
  gl : mg x = some (.ref (He.ga K x))
  kp : PySem.W.keepIn K (.ref (He.ga K x)) = true
  i : ∃ (Ng : List Str) (sg : Scope) (bg : List Stmt) (pg : Arguments) (dV kV doc pm cdv ct oc : Value) (an od : Option Addr) (osl : Array (Option Value)),
    K.lookup (He.ga K x) = some ⟨oc, od, .func (PySem.W.fnOf x x pg bg sg dV kV doc pm an cdv ct), osl⟩ ∧ PySem.W.codeIn K cdv x = true ∧ L2.Binds K (PySem.W.fnOf x x pg bg sg dV kV doc pm an cdv ct) [("call" : Str)] [] ∧ FnScope Ng [("call" : Str)] sg ∧ Ng[0]? = some ("call" : Str) ∧ Vis sg "call" ∧
      ∀ X : Cx, X.K = K → X.mg = mg → X.A.guards = some [] → ∀ q, Gives X Ng x sg (He.ga K x) cdv bg "call" q (TTmet (GX X) es l dflt)
def eMet (es : List Str) (l : List MetH) (dflt : Str) (f : FE) : FE := fun γ => match f γ with
  | .ok _ γ1 => .ok (vV (.str dflt)) γ1
  | .ex e γ1 => (match metM es l e with
    | some z => .ok (vV (.str z)) γ1
    | none => .no)
  | .no => .no
theorem re_met {X : Cx} {x nm dflt : Str} {es : List Str} {l : List MetH} {c P : Addr} {k : Nat} {params : Arguments} {body : Expr} {scope : Scope} {f : FE} {p lpos pos : Pos} (M : MetOk X.K X.mg x es l dflt) (LK : LamK X.prog X.w X.K X.mg X.base nm c P) (hcode : X.env.code = .ref c) (hq : X.env.qual ++ "<lambda>" = lamQ nm)
    (hr : Room (k + 2) X.A) (hgd : X.A.guards = some []) (hg : Gl X x) (L : LamS X.env.scope scope) (hdef : defaultsOf params X.env = ([], []))
    (hbind : ∀ (q : Str) (cl : List (Str × Addr)) (pm cv ctv : Value), bindArgs (PySem.W.kla_fn "<lambda>" q params body scope cl pm cv ctv) ⟨[], []⟩ = pure [])
    (hbody : ∀ (A : Around) (outer : List Env) (s : Shared) (H : Hp) (E : XK) (f' c' : Addr), Room k (lamCx X A outer s H E scope f' c').A → (lamCx X A outer s H E scope f' c').A.guards = some [] → RE (lamCx X A outer s H E scope f' c') body f)
    (hdb : (x == ("__debug__" : Str)) = false := by decide) : RE X (.Call (.Name x p) [.Lambda params body scope lpos] [] pos) (eMet es l dflt f) := fun W tk => by
  obtain ⟨Ng, sg, bg, pg, dV, kV, doc, pm, cdv, ct, oc, an, od, osl, lk, hcg, hb, Sg, hN, hv, hG⟩ := M.i
  refine PE_imp (pe_lamG (T := (GX X).T) (t := fun E => tME (GX X) f fun cls d _ H' => E cls d H') hg M.gl M.kp lk hcg hb Sg hN hv (hG X rfl rfl hgd _) LK.tb hcode (by rw [hq]; exact LK.me) (fun p hp e => by rw [hq]; exact LK.un p hp e) hr L hdef hbind
    (fun A outer s H E f' c' eg hr2 => hbody A outer s H E f' c' hr2 (eg.trans hgd) (fun cls d _ H' => E cls d H') (takes_of rfl rfl rfl rfl)) hdb (by decide) (by decide)) fun σ H Q ⟨Z, A, γ, S, h⟩ => ⟨S.tb.ok, fun H1 e1 T1 => ?_⟩
  have e : SameT (GX X) H H1 := ⟨fun b o nt hb => e1 b o (fun z => nt (z ▸ (⟨_, LK.me⟩ : (GX X).isT P))) hb, fun b o hb => by
    by_cases z : b = P
    · obtain ⟨ps, h1, _⟩ := T1 _ LK.me
      exact ⟨_, by rw [z]; exact h1⟩
    · exact ⟨o, e1 b o z hb⟩, T1⟩
  have S1 := S.sameT e
  have k1 := S.keepT e
  refine ⟨Z, A, γ, S1, ?_⟩
  unfold eMet at h
  cases E1 : f γ with
  | no => rw [E1] at h; exact h
  | ok c γ1 =>
    rw [E1] at h
    exact fun y A' H' hs le k => h (.str dflt) A' H' ⟨hs.sim, by simp only [Rep]⟩ le (k1.trans k fun _ _ _ m => m)
  | ex e γ1 =>
    rw [E1] at h
    simp only at h
    cases E2 : metM es l e with
    | none => rw [E2] at h; exact h.elim
    | some z =>
      rw [E2] at h
      exact fun A' H' cls d S' le k xr => ⟨_, e, z, xr, E2, h (.str z) A' H' ⟨S', by simp only [Rep]⟩ le (k1.trans k fun _ _ _ m => m)⟩
end Mi

set_option Elab.async false
set_option linter.all false
set_option maxRecDepth 100000
set_option maxHeartbeats 4000000
/-! defs that make lambdas; the def that tells what is raised -/
namespace Mi
open PySem PySem.Spec PyProof.Rows L2 My LamX

section
variable {P : Program} {w : World} {K : PySem.W.Frag} {mg : Str → Option Value} {base : Heap} {k : Nat} {x : Str} {st : Stmt} {N ps : List Str} {io : Option Nat} {body : FS}
theorem code_of {f : Addr} {oc : Value} {od : Option Addr} {fd : FuncData} {osl : Array (Option Value)} {c : Addr} (lk : K.lookup f = some ⟨oc, od, .func fd, osl⟩) (h : codeOf K f = some c) : fd.code = .ref c := by
  unfold codeOf at h
  rw [lk] at h
  simp only at h
  split at h
  · rename_i c' e
    cases h
    exact e
  · cases h
theorem DefIn.fnML (D : DefIn K mg x st) (S : FnScope N ps (defScope st)) {c : Addr} (hco : codeOf K (He.ga K x) = some c)
    (hb : ∀ (kV doc pm : Value) (an : Option Addr) (cdv ct : Value) (us : List Value), us.length = ps.length → bindArgs (PySem.W.fnOf x x (defArgs st) (defBody st) (defScope st) .none kV doc pm an cdv ct) ⟨us, []⟩ = pure (ps.zip us))
    (hbody : ∀ (A : Around) (outer : List Env) (s : Shared) (H : Hp) (E : XK), Room k (cxOf (CX P w) P w K mg base N x (defScope st) (He.ga K x) (.ref c) A outer s H E).A → (cxOf (CX P w) P w K mg base N x (defScope st) (He.ga K x) (.ref c) A outer s H E).A.guards = some [] →
      QSs (cxOf (CX P w) P w K mg base N x (defScope st) (He.ga K x) (.ref c) A outer s H E) (defBody st) body) : FnM P w K mg base (k + 1) x ps io (runM io N.length body) := by
  obtain ⟨fd, F⟩ := D.fd
  have Fb := F.bindsN hb
  obtain ⟨oc, od, dV, kV, doc, pm, an, cdv, ct, osl, rfl, lk, hcd, _, _⟩ := F.ex
  obtain rfl : cdv = .ref c := code_of lk hco
  exact ⟨_, fnG_of lk hcd S (fun vs H Q E h => h.1) fun A outer s H vs Q E hr hgd h => entry_ok S (hbody A outer s H E hr hgd) h, Fb, F.kp, D.gl⟩
end
theorem fnG_lawL {P : Program} {w : World} {K : PySem.W.Frag} {mg : Str → Option Value} {base : Heap} {k : Nat} {fd : FuncData} {st : Stmt} {N : List Str} {body : FS} {c : Addr} (F : FunD K "law" "law" (defArgs st) (defBody st) (defScope st) [] [] (He.ga K "law") fd) (S : FnScope N ["script"] (defScope st)) (hco : codeOf K (He.ga K "law") = some c)
    (hbody : ∀ (A : Around) (outer : List Env) (s : Shared) (H : Hp) (E : XK), Room k (cxOf (CX P w) P w K mg base N "law" (defScope st) (He.ga K "law") (.ref c) A outer s H E).A → (cxOf (CX P w) P w K mg base N "law" (defScope st) (He.ga K "law") (.ref c) A outer s H E).A.guards = some [] →
      QSs (cxOf (CX P w) P w K mg base N "law" (defScope st) (He.ga K "law") (.ref c) A outer s H E) (defBody st) body) : FnG P w K mg base (k + 1) (He.ga K "law") fd ["script"] (spM P w K 1 none (runM none N.length body)) := by
  obtain ⟨oc, od, dV, kV, doc, pm, an, cdv, ct, osl, rfl, lk, hcd, _, _⟩ := F.ex
  obtain rfl : cdv = .ref c := code_of lk hco
  exact fnG_of lk hcd S (fun vs H Q E h => h.1) fun A outer s H vs Q E hr hgd h => entry_ok (ps := ["script"]) S (hbody A outer s H E hr hgd) h
/-- the def that tells what is raised: try: call() / clauses; return dflt -/
theorem metOk_of {K : PySem.W.Frag} {mg : Str → Option Value} {x dflt : Str} {st : Stmt} {Ng : List Str} {es : List Str} {l : List MetH} {hs : List ExceptHandler} {h0 : ExceptHandler} {i j : Nat} {p1 p2 p3 p4 p5 p6 : Pos}
    (D : DefIn K mg x st) (S : FnScope Ng [("call" : Str)] (defScope st)) (hb : ∀ (kV doc pm : Value) (an : Option Addr) (cdv ct : Value) (us : List Value), us.length = [("call" : Str)].length → bindArgs (PySem.W.fnOf x x (defArgs st) (defBody st) (defScope st) .none kV doc pm an cdv ct) ⟨us, []⟩ = pure ([("call" : Str)].zip us))
    (hbd : defBody st = [.Try [.Expr (.Call (.Name "call" p1) [] [] p2) p3] (h0 :: hs) [] [] p4, .Return (some (.Constant (.str dflt) j p5)) p6]) (hh : MetHs (h0 :: hs) l) (Mk : MetK K mg (defScope st) es l)
    (h0' : ∀ f : Addr, (L2.start Ng [V.ref f])[0]? = some (some (V.ref f))) (hN : Ng[0]? = some ("call" : Str)) (hv : Vis (defScope st) "call") (hi : Ng[i]? = some ("error" : Str) ∨ ∀ k ∈ l, k.2.2 = none)
    (hk : (defScope st).names.lookup ("error" : Str) = some .local ∨ ∀ k ∈ l, k.2.2 = none) (hrg : (defScope st).names.lookup ("repr" : Str) = some .globalImplicit ∨ ∀ k ∈ l, k.2.2 = none) (hrm : mg "repr" = none) : MetOk K mg x es l dflt := by
  obtain ⟨fd, F⟩ := D.fd
  have Fb := F.bindsN hb
  obtain ⟨oc, od, dV, kV, doc, pm, an, cdv, ct, osl, rfl, lk, hcd, _, _⟩ := F.ex
  refine ⟨D.gl, F.kp, Ng, defScope st, defBody st, defArgs st, dV, kV, doc, pm, cdv, ct, oc, an, od, osl, lk, hcd, Fb, S, hN, hv, fun X eK eM hgd q => ?_⟩
  rw [hbd]
  subst eK eM
  exact met_gives (i := i) hgd Mk hh S.nd h0' hi hk hrg hrm
end Mi

set_option Elab.async false
set_option linter.all false
set_option maxRecDepth 100000
set_option maxHeartbeats 4000000
/-! facts of exceptions' classes, tested -/
namespace Mi
open PySem PySem.Spec PyProof.Rows L2 My LamX
open PySem.W (Frag ksFn ksEnv ks_superIn KxsFacts excInitIn excOver excObj kxs_mw ks_superObj)

/-- a built-in base of exceptions -/
structure EBase where
  B : String
  newId : String
  initId : String
  bm : List Value
  FB : ExcBaseFacts B newId initId bm
  KF : KxsFacts B initId
  SF : StoreFacts B bm "object.__setattr__" "object"
def bmIndex : List Value := [.type "IndexError", .type "LookupError", .type "Exception", .type "BaseException", .type "object"]
def bmOver : List Value := [.type "OverflowError", .type "ArithmeticError", .type "Exception", .type "BaseException", .type "object"]
def bmValue : List Value := [.type "ValueError", .type "Exception", .type "BaseException", .type "object"]
def eIndex : EBase := ⟨"IndexError", "IndexError.__new__", "IndexError.__init__", bmIndex, PySem.F.excBase_IndexError, PySem.W.kxs_IndexError, PySem.F.store_IndexError⟩
def eOver : EBase := ⟨"OverflowError", "OverflowError.__new__", "OverflowError.__init__", bmOver, PySem.F.excBase_OverflowError, PySem.W.kxs_OverflowError, PySem.F.store_OverflowError⟩
def eValue : EBase := ⟨"ValueError", "ValueError.__new__", "ValueError.__init__", bmValue, PySem.F.excBase_ValueError, PySem.W.kxs_ValueError, PySem.F.store_ValueError⟩

def cellOf (K : Frag) (f : Addr) : Addr := match K.lookup f with
  | some ⟨_, _, .func fd, _⟩ => (match fd.closure with
    | [q] => q.2
    | _ => 0)
  | _ => 0
def codeA (K : Frag) (f : Addr) : Addr := (codeOf K f).getD 0
def fileB (K : Frag) (file : Str) (c : Addr) : Bool := match K.lookup c with
  | some ⟨_, _, .fields vs, _⟩ => (match (vs[2]? : Option Value) with
    | some (Value.str z _) => file == z
    | _ => false)
  | _ => false
def cellB (K : Frag) (C cc : Addr) : Bool := match K.lookup cc with
  | some ⟨_, _, .cell (some (.ref D)), _⟩ => decide (D = C)
  | _ => false
def exiB (K : Frag) (file : Str) (C fI cda cc : Addr) (f : Str) (Bs : EBase) : Bool :=
  excInitIn K C Bs.bm Bs.newId && (excOver K C Bs.bm && (He.eqO (PySem.W.findIn K (.ref C) "__setattr__") (some (some (.builtin "object.__setattr__"))) && (He.eqO (PySem.W.takerIn K C f) (some none) && (PySem.W.hasDictIn K C &&
  (He.eqO (PySem.W.findIn K (.ref C) "__init__") (some (some (.ref fI))) && (decide (PySem.W.typeIn K (.ref fI) = some (.type "function")) && (decide (codeOf K fI = some cda) && (fileB K file cda && (cellB K C cc &&
  ((PySem.W.clsIn K C).isSome && (decide (PySem.W.mroIn K C (.ref C) = some true) && (He.eqO (PySem.W.nsIn K cStatics "thirdparty.any") (some none) && (He.eqO (ks_superIn K C C "__init__") (some (some (.builtin Bs.initId))) &&
  decide (PySem.W.subIn K (.ref C) (.type Bs.B) = some true))))))))))))))
def excT (file C f : Str) (Bs : EBase) : FTs := fun K => exiB K file (He.ga K C) (He.ma K (He.ga K C) "__init__") (codeA K (He.ma K (He.ga K C) "__init__")) (cellOf K (He.ma K (He.ga K C) "__init__")) f Bs && (PySem.W.keepIn K (.ref (He.ga K C)) && (decide (PySem.W.subIn K (.ref (He.ga K C)) (.type "BaseException") = some true) && (decide (PySem.W.typeIn K (.ref (He.ga K C)) = some (.type "type")) && He.Fa.ok K (.glo C))))
theorem exi_of {P : Program} {K : Frag} {file : Str} {C fI : Addr} {f qual : Str} {Bs : EBase} {params : Arguments} {body : List Stmt} {scope : Scope} (e : exiB K file C fI (codeA K fI) (cellOf K fI) f Bs = true) (hf : P.main.file = file) (ht : (P.main.scope.names.lookup ("super" : Str)).isSome = false)
    (hfn : ∃ oc od kV doc pm an cdv ct cc osl, K.lookup fI = some ⟨oc, od, .func (ksFn "__init__" qual params body scope .none kV doc pm an cdv ct cc), osl⟩ ∧ PySem.W.codeIn K cdv qual = true) :
    ExI P K C fI (codeA K fI) (cellOf K fI) f params body scope Bs.B Bs.newId Bs.initId Bs.bm := by
  obtain ⟨h1, e⟩ := He.ba e
  obtain ⟨h2, e⟩ := He.ba e
  obtain ⟨h3, e⟩ := He.ba e
  obtain ⟨h4, e⟩ := He.ba e
  obtain ⟨h5, e⟩ := He.ba e
  obtain ⟨h6, e⟩ := He.ba e
  obtain ⟨h7, e⟩ := He.ba e
  obtain ⟨h8, e⟩ := He.ba e
  obtain ⟨h9, e⟩ := He.ba e
  obtain ⟨h10, e⟩ := He.ba e
  obtain ⟨h11, e⟩ := He.ba e
  obtain ⟨h12, e⟩ := He.ba e
  obtain ⟨h13, e⟩ := He.ba e
  obtain ⟨h14, h15⟩ := He.ba e
  obtain ⟨oc, od, kV, doc, pm, an, cdv, ct, cc, osl, lk, hc⟩ := hfn
  have hcd : cdv = .ref (codeA K fI) := code_of lk (of_decide_eq_true h8)
  have hcc : cellOf K fI = cc := by unfold cellOf; rw [lk]
  refine { FB := Bs.FB, KF := Bs.KF, SF := Bs.SF, q := h1, ov := h2, sa := He.eqO_ok h3, tk := He.eqO_ok h4, hd := h5, ini := He.eqO_ok h6, ty := of_decide_eq_true h7, fn := ⟨qual, oc, od, kV, doc, pm, an, ct, osl, ?_, ?_⟩, code := ?_, cell := ?_, cls := Option.isSome_iff_exists.mp h11, me := of_decide_eq_true h12, any := He.eqO_ok h13, sup := He.eqO_ok h14, sub := of_decide_eq_true h15, top := ht }
  · rw [lk, hcd, hcc]
  · rw [← hcd]; exact hc
  · unfold fileB at h9
    split at h9
    · rename_i a b vs d q
      split at h9
      · rename_i z t q2
        exact ⟨_, _, _, _, _, _, q, q2, by rw [hf]; exact h9⟩
      · cases h9
    · cases h9
  · unfold cellB at h10
    split at h10
    · rename_i a b D d q
      rw [of_decide_eq_true h10] at q
      exact ⟨_, _, _, q⟩
    · cases h10
theorem excI_of {P : Program} {K : Frag} {mg : Str → Option Value} {h : Heap} {file C f : Str} {Bs : EBase} {qual : Str} {params : Arguments} {body : List Stmt} {scope : Scope} (X : K.In h) (G : h.Ns mainGlobals mg) (ne : C ≠ ("" : Str)) (t : excT file C f Bs K = true) (sup : mg "super" = none) (Y : ExT f params body scope) (hf : P.main.file = file) (ht : (P.main.scope.names.lookup ("super" : Str)).isSome = false)
    (hfn : ∃ oc od kV doc pm an cdv ct cc osl, K.lookup (He.ma K (He.ga K C) "__init__") = some ⟨oc, od, .func (ksFn "__init__" qual params body scope .none kV doc pm an cdv ct cc), osl⟩ ∧ PySem.W.codeIn K cdv qual = true) : ExcI P K mg C f := by
  obtain ⟨h1, t⟩ := He.ba t
  obtain ⟨h2, t⟩ := He.ba t
  obtain ⟨h3, t⟩ := He.ba t
  obtain ⟨h4, h5⟩ := He.ba t
  exact ⟨ne, He.glo_ok X G h5, h2, sup, ⟨_, _, _, _, _, _, _, _, _, _, exi_of h1 hf ht hfn, Y⟩, of_decide_eq_true h3, of_decide_eq_true h4⟩
/-- without an __init__ of its own -/
def exoT (C : Str) (Bs : EBase) : FTs := fun K => PySem.W.excIn K (He.ga K C) Bs.bm Bs.newId && (PySem.W.keepIn K (.ref (He.ga K C)) && (decide (PySem.W.subIn K (.ref (He.ga K C)) (.type "BaseException") = some true) && (decide (PySem.W.typeIn K (.ref (He.ga K C)) = some (.type "type")) && He.Fa.ok K (.glo C))))
theorem excO_of {K : Frag} {mg : Str → Option Value} {h : Heap} {C : Str} {Bs : EBase} (X : K.In h) (G : h.Ns mainGlobals mg) (t : exoT C Bs K = true) : ExcO K mg C := by
  obtain ⟨h1, t⟩ := He.ba t
  obtain ⟨h2, t⟩ := He.ba t
  obtain ⟨h3, t⟩ := He.ba t
  obtain ⟨h4, h5⟩ := He.ba t
  exact ⟨He.glo_ok X G h5, h2, ⟨_, _, _, _, Bs.FB, h1⟩, of_decide_eq_true h3, of_decide_eq_true h4⟩
/-- classes and clauses -/
def metT0 (es : List Str) (l : List MetH) : FTs := fun K => (l.all fun k => He.Fa.ok K (.glo k.1)) && ((es.all fun c => l.all fun k => decide (PySem.W.exmOne K (.ref (He.ga K c)) (.ref (He.ga K k.1)) = some (decide (c = k.1)))) && (l.all fun k => match k.2.2 with
  | none => true
  | some f => xfB K (He.ga K k.1) && He.eqO (PySem.W.findIn K (.ref (He.ga K k.1)) f) (some none)))
theorem metK_of {K : Frag} {mg : Str → Option Value} {h : Heap} {es : List Str} {l : List MetH} {sg : Scope} (X : K.In h) (G : h.Ns mainGlobals mg) (t : metT0 es l K = true) (hn : (l.all fun k => decide (sg.names.lookup k.1 = some .globalImplicit) && !(k.1 == ("__debug__" : Str))) = true) : MetK K mg sg es l := by
  obtain ⟨h1, t⟩ := He.ba t
  obtain ⟨h2, h3⟩ := He.ba t
  refine ⟨fun k hk => ?_, fun c hc k hk => of_decide_eq_true (List.all_eq_true.mp (List.all_eq_true.mp h2 c hc) k hk), fun k hk f hf => ?_⟩
  · obtain ⟨a, b⟩ := He.ba (List.all_eq_true.mp hn k hk)
    exact ⟨of_decide_eq_true a, He.glo_ok X G (List.all_eq_true.mp h1 k hk), by simpa using b⟩
  · have q := List.all_eq_true.mp h3 k hk
    rw [hf] at q
    obtain ⟨a, b⟩ := He.ba q
    exact ⟨xfB_ok a, He.eqO_ok b⟩
end Mi

set_option Elab.async false
set_option linter.all false
set_option maxRecDepth 100000
set_option maxHeartbeats 4000000
/-! a list times an int -/
namespace Mi
open PySem PySem.Spec PyProof.Rows L2 My LamX
section
variable {X : Cx}
theorem op_repLL : OpR X (binaryOp .Mult) (fun x y H Q => ∃ l k xs, x = .ref l ∧ y = .int k ∧ SqL X.K H l xs ∧ -1000000 ≤ k ∧ k ≤ 1000 ∧ xs.length ≤ 1000 ∧ ∀ p, H p = none → Q (.ref p) (upd H p (.lst (List.replicate k.toNat xs).flatten))) := by
  intro pins s σ H x y v u Q I rx ry h
  obtain ⟨l, k, xs, rfl, rfl, hH, h1, h2, hz, q⟩ := h
  cases rx
  obtain ⟨t, rfl⟩ := ry
  obtain ⟨its, r, pl, hl⟩ := I.list hH
  obtain ⟨⟨cls, dd, data, sl⟩, ho, hc, n, hd⟩ := pl.isList
  simp only at hc hd
  subst hc hd
  have hle : its.length = xs.length := r.length.symm
  have hsz : its.length * k.toNat ≤ 1000 * 1000 := Nat.mul_le_mul (by omega) (by omega)
  have hsz' : its.toArray.size * k.toNat ≤ 1000 * 1000 := by simpa using hsz
  refine wpAny_binaryOp_repeat_ref (T := "list") (U := "int") (by decide) ⟨_, ho, rfl⟩ (fun s' => typeIs_int s' k t) noFill_list_mul F.fills_int_mul F.slot_int_rmul repeat_list F.slot_int_index.lookup
    (call_meets F.slot_int_rmul (typeIs_int s k t) F.entry_int_rmul (F.args_int_rmul_2 _ _) (lm_int_rmul_list_any k t l its.toArray n dd sl)
      ⟨ho, rfl, ⟨_, ho, rfl⟩, call_meets F.slot_list_mul ⟨_, ho, rfl⟩ F.entry_list_mul (F.args_list_mul_2 _ _)
        (lm_list_mul_any l its.toArray n dd sl k t (by simp [Builtin.List.listFitsIndex]; omega) (by omega) (by simp [Builtin.List.listTooLong, sizeLine]; omega))
        ⟨ho, ?_⟩⟩)
  rw [listMul_foldl_if]
  exact ⟨.ref _, _, I.lnew (t' := s.toks) (r.rep k.toNat) (by rw [PyProof.Rows.lm_len_rep_flat, sizeLine_eq, ← hle, Nat.mul_comm]; omega), rfl, q _ I.fresh⟩
def repL : MV → MV → Option Cell
  | .lst a, .int k => if -1000000 ≤ k ∧ k ≤ 1000 ∧ a.length ≤ 1000 then some ⟨.own, .lst (List.replicate k.toNat a).flatten⟩ else none
  | _, _ => none
theorem op2_repL : Op2 X (binaryOp .Mult) repL := ⟨_, op_repLL, fun M v w c x y H Q tr e rv rw q => by
  unfold repL at e
  split at e
  · split at e
    · rename_i hl
      cases e
      obtain ⟨a, vs, rfl, h1, h2⟩ := rb_lst rv
      exact ⟨a, _, vs, rfl, rb_int rw, h1, hl.1, hl.2.1, by rw [h2.len]; exact hl.2.2, fun p np => q _ _ (same_new np) (res_lst np (h2.repl _))⟩
    · cases e
  · cases e⟩
end
def mulA (v w : MV) : Option Cell := (mulM v w).or (repL v w)
theorem op2_mulA {X : Cx} : Op2 X (binaryOp .Mult) mulA := op2_mul.or op2_repL
end Mi

set_option Elab.async false
set_option linter.all false
set_option maxRecDepth 100000
set_option maxHeartbeats 4000000
namespace Pf
open PySem PySem.Spec PyProof.Rows L2 My Mi
def top (i : Nat) : Stmt := PySem.Challenge.pw_digitwords_k12_errors_of_digits.main.body.getD i (.Pass ⟨0, 0, 0, 0⟩)
abbrev s_law_dice : Stmt := top 24
theorem sc_law_dice : FnScope ["script", "spot", "cell", "great", "seed"] ["script", "spot"] (defScope s_law_dice) := ⟨rfl, rfl, rfl, by decide +kernel, rfl, by decide +kernel, by decide +kernel⟩
abbrev s_law_roll : Stmt := top 25
theorem sc_law_roll : FnScope ["dice", "total", "found", "one", "two"] ["dice", "total"] (defScope s_law_roll) := ⟨rfl, rfl, rfl, by decide +kernel, rfl, by decide +kernel, by decide +kernel⟩
abbrev s_law_pick : Stmt := top 26
theorem sc_law_pick : FnScope ["dice", "items"] ["dice", "items"] (defScope s_law_pick) := ⟨rfl, rfl, rfl, by decide +kernel, rfl, by decide +kernel, by decide +kernel⟩
abbrev s_law_one : Stmt := top 29
theorem sc_law_one : FnScope ["dice", "right", "wrong"] ["dice", "right", "wrong"] (defScope s_law_one) := ⟨rfl, rfl, rfl, by decide +kernel, rfl, by decide +kernel, by decide +kernel⟩
abbrev s_law_first : Stmt := top 28
theorem sc_law_first : FnScope ["rows", "some", "word", "is_wrong"] ["rows"] (defScope s_law_first) := ⟨rfl, rfl, rfl, by decide +kernel, rfl, by decide +kernel, by decide +kernel⟩
abbrev s_is_integer : Stmt := top 10
theorem sc_is_integer : FnScope ["value"] ["value"] (defScope s_is_integer) := ⟨rfl, rfl, rfl, by decide +kernel, rfl, by decide +kernel, by decide +kernel⟩
abbrev s_is_within : Stmt := top 11
theorem sc_is_within : FnScope ["value", "least", "most"] ["value", "least", "most"] (defScope s_is_within) := ⟨rfl, rfl, rfl, by decide +kernel, rfl, by decide +kernel, by decide +kernel⟩
abbrev s_require_within : Stmt := top 12
theorem sc_require_within : FnScope ["value", "least", "most"] ["value", "least", "most"] (defScope s_require_within) := ⟨rfl, rfl, rfl, by decide +kernel, rfl, by decide +kernel, by decide +kernel⟩
abbrev s_require_base : Stmt := top 13
theorem sc_require_base : FnScope ["value"] ["value"] (defScope s_require_base) := ⟨rfl, rfl, rfl, by decide +kernel, rfl, by decide +kernel, by decide +kernel⟩
abbrev s_require_place : Stmt := top 14
theorem sc_require_place : FnScope ["value"] ["value"] (defScope s_require_place) := ⟨rfl, rfl, rfl, by decide +kernel, rfl, by decide +kernel, by decide +kernel⟩
abbrev s_digits_in : Stmt := top 15
theorem sc_digits_in : FnScope ["base", "place", "found", "left"] ["base", "place"] (defScope s_digits_in) := ⟨rfl, rfl, rfl, by decide +kernel, rfl, by decide +kernel, by decide +kernel⟩
abbrev s_digits_of : Stmt := top 18
theorem sc_digits_of : FnScope ["base", "place"] ["base", "place"] (defScope s_digits_of) := ⟨rfl, rfl, rfl, by decide +kernel, rfl, by decide +kernel, by decide +kernel⟩
abbrev s_digit_sum : Stmt := top 21
theorem sc_digit_sum : FnScope ["base", "place"] ["base", "place"] (defScope s_digit_sum) := ⟨rfl, rfl, rfl, by decide +kernel, rfl, by decide +kernel, by decide +kernel⟩
abbrev s_noughts_behind : Stmt := top 17
theorem sc_noughts_behind : FnScope ["base", "place", "found", "left"] ["base", "place"] (defScope s_noughts_behind) := ⟨rfl, rfl, rfl, by decide +kernel, rfl, by decide +kernel, by decide +kernel⟩
abbrev s_ends_with : Stmt := top 22
theorem sc_ends_with : FnScope ["base", "place"] ["base", "place"] (defScope s_ends_with) := ⟨rfl, rfl, rfl, by decide +kernel, rfl, by decide +kernel, by decide +kernel⟩
abbrev s_place_in : Stmt := top 16
theorem sc_place_in : FnScope ["base", "digits", "found", "digit"] ["base", "digits"] (defScope s_place_in) := ⟨rfl, rfl, rfl, by decide +kernel, rfl, by decide +kernel, by decide +kernel⟩
abbrev s_place_of : Stmt := top 19
theorem sc_place_of : FnScope ["base", "digits", "digit"] ["base", "digits"] (defScope s_place_of) := ⟨rfl, rfl, rfl, by decide +kernel, rfl, by decide +kernel, by decide +kernel⟩
abbrev s_digits_wide : Stmt := top 20
theorem sc_digits_wide : FnScope ["base", "place", "many", "digits"] ["base", "place", "many"] (defScope s_digits_wide) := ⟨rfl, rfl, rfl, by decide +kernel, rfl, by decide +kernel, by decide +kernel⟩
abbrev s_law_right : Stmt := top 30
theorem sc_law_right : FnScope ["dice", "no_base", "no_place", "no_digits", "no_many", "few", "first", "second", "told", "last", "due", "base", "digits", "many", "place"] ["dice"] (defScope s_law_right) := ⟨rfl, rfl, rfl, by decide +kernel, rfl, by decide +kernel, by decide +kernel⟩
abbrev s_law : Stmt := top 31
theorem sc_law : FnScope ["script", "spot", "dice", "turn"] ["script"] (defScope s_law) := ⟨rfl, rfl, rfl, by decide +kernel, rfl, by decide +kernel, by decide +kernel⟩
structure Fre (mg : Str → Option Value) : Prop where
  len : mg "len" = none
  int : mg "int" = none
  abs : mg "abs" = none
  max : mg "max" = none
  min : mg "min" = none
  bool : mg "bool" = none
  tuple : mg "tuple" = none
  list : mg "list" = none
  str : mg "str" = none
  dict : mg "dict" = none
  set : mg "set" = none
  isinstance : mg "isinstance" = none
  all : mg "all" = none
  any : mg "any" = none
  sum : mg "sum" = none
  sorted : mg "sorted" = none
  zip : mg "zip" = none
  enumerate : mg "enumerate" = none
  range : mg "range" = none
  repr : mg "repr" = none
  super : mg "super" = none
  c_MAX_BASE : ∃ t, mg "MAX_BASE" = some (.int 5 t)
  c_MAX_PLACE : ∃ t, mg "MAX_PLACE" = some (.int 1000000000000000000000000000000000000000000000000000000000000 t)
  c_MAX_DIGITS : ∃ t, mg "MAX_DIGITS" = some (.int 300 t)
abbrev s_InvalidCount_init : Stmt := inClass (top 4) 0
theorem et_InvalidCount : ExT "given" (defArgs s_InvalidCount_init) (defBody s_InvalidCount_init) (defScope s_InvalidCount_init) where
  text := by
    refine ⟨_, _, _, _, _, _, _, _, _, _, ?_, rfl, fun _ _ _ _ _ => ⟨_, rfl⟩⟩
    first | exact Msg.rc (by decide) | exact Msg.cr (by decide) | exact Msg.cp (by decide)
  hi := fun _ _ _ _ _ => by rfl
  first := ⟨_, rfl, rfl⟩
  hks := rfl
  hkc := rfl
  hka := rfl
  hkf := rfl
  kind := rfl
  co := rfl
  gen := rfl
  nocell := by decide +kernel
  ne := by decide
  nd := by decide
  bind := fun _ _ _ _ _ _ _ _ _ _ => rfl
def file : Str := (PySem.Challenge.pw_digitwords_k12_errors_of_digits).main.file
abbrev s_law_met : Stmt := top 27
theorem sc_law_met : FnScope ["call", "error"] ["call"] (defScope s_law_met) := ⟨rfl, rfl, rfl, by decide +kernel, rfl, by decide +kernel, by decide +kernel⟩
def met_es : List Str := ["InvalidCount", "InvalidOperation"]
def met_l : List MetH := [("InvalidCount", "count ", some "given"), ("InvalidWord", "word", none), ("InvalidOperation", "operation", none), ("TooMany", "many ", some "limit")]
def met_d : Str := "none"
theorem ok_met {K : PySem.W.Frag} {mg : Str → Option Value} (D : DefIn K mg "_law_met" s_law_met) (T : Fre mg) (Mk : MetK K mg (defScope s_law_met) met_es met_l) : MetOk K mg "_law_met" met_es met_l met_d :=
  metOk_of (Ng := ["call", "error"]) (i := 1) D sc_law_met (fun _ _ _ _ _ _ us hl => match us, hl with | [_], _ => rfl) rfl (.named (.plain (.plain (.named .nil)))) Mk (fun _ => rfl) rfl (by first | exact Or.inl rfl | exact Or.inr (Or.inl rfl) | exact Or.inr (Or.inr rfl)) (.inl rfl) (.inl rfl) (.inl rfl) T.repr
section
def b_law_dice : FS := (sSeq (sSet 2 (eIf (tB (e2 ltM (.sl 1) (.ex (e1 lenM (.sl 0))))) (e1 intM (.ex (e2 atM (.sl 0) (.sl 1)))) (e2 addM (.ex (e2 mulA (.ex (eC (.int 149))) (.sl 1))) (.ex (eC (.int 53))))))
  (sSeq (sSet 3 (e2 modI (.ex (e1 intM (.ex (e1 absM (.sl 2))))) (.ex (e2 powI (.ex (e2 powI (.ex (eC (.int 10))) (.ex (eC (.int 54))))) (.ex (eC (.int 6)))))))
  (sSeq (sSet 4 (e2 addM (.ex (e2 addM (.ex (e2 addM (.ex (e2 mulA (.ex (e2 modI (.sl 3) (.ex (eC (.int 2305843009213693921))))) (.ex (eC (.int 67))))) (.ex (e2 mulA (.ex (eC (.int 743))) (.sl 1))))) (.ex (e2 mulA (.ex (eC (.int 37))) (.ex (e1 intM (.ex (e2 ltM (.sl 2) (.ex (eC (.int 0))))))))))) (.ex (eC (.int 29)))))
  (sRet (eLst (aCons (e2 maxII (.ex (eC (.int 0))) (.ex (e2 subI (.sl 3) (.ex (e2 powI (.ex (eC (.int 10))) (.ex (eC (.int 16)))))))) (aCons (eVar 4) (aCons (eC (.int 0)) aNil))))))))
def m_law_dice : List MV → RF := runM none 5 b_law_dice
def b_law_roll : FS := (sSeq (sIf (tB (e2 gtI (.ex (e2 atM (.sl 0) (.ex (eC (.int 0))))) (.ex (eC (.int 0)))))
  (sSeq (sSet 2 (e2 modI (.ex (e2 atM (.sl 0) (.ex (eC (.int 0))))) (.sl 1)))
  (sSeq (sSt 0 (.ex (eC (.int 0))) (e2 divI (.ex (e2 atM (.sl 0) (.ex (eC (.int 0))))) (.sl 1)))
  (sRet (e1 intM (.sl 2)))))
  sNil)
  (sSeq (sSt 0 (.ex (eC (.int 2))) (e2 addM (.ex (e2 atM (.sl 0) (.ex (eC (.int 2))))) (.ex (eC (.int 1)))))
  (sSeq (sSet 3 (e2 modI (.ex (e2 addM (.ex (e2 atM (.sl 0) (.ex (eC (.int 1))))) (.ex (e2 mulA (.ex (eC (.int 86028157))) (.ex (e2 atM (.sl 0) (.ex (eC (.int 2))))))))) (.ex (eC (.int 2305843009213693951)))))
  (sSeq (sSet 4 (e2 addM (.ex (e2 mulA (.ex (e2 modI (.ex (e2 addM (.ex (e2 mulA (.sl 3) (.sl 3))) (.ex (e2 mulA (.ex (eC (.int 179))) (.ex (e2 atM (.sl 0) (.ex (eC (.int 2))))))))) (.ex (eC (.int 2305843009213693907))))) (.ex (eC (.int 15485867))))) (.sl 3)))
  (sRet (e2 modI (.ex (e1 intM (.ex (e2 divI (.sl 4) (.ex (eC (.int 65579))))))) (.sl 1)))))))
def m_law_roll : List MV → RF := runM (some 0) 5 b_law_roll
def b_law_pick : FS := (sRet (e2 atM (.sl 1) (.ex (eCallIo m_law_roll 0 (hHole 0 (hCons (e1 lenM (.sl 1)) hNil))))))
def m_law_pick : List MV → RF := runM (some 0) 2 b_law_pick
def b_law_one : FS := (sSeq (sIf (tB (e2 gtI (.ex (eCallIo m_law_roll 0 (hHole 0 (hCons (eC (.int 3)) hNil)))) (.ex (eC (.int 0)))))
  (sRet (eTup (aCons (eVar 1) (aCons (eC (.bl false)) aNil))))
  sNil)
  (sRet (eTup (aCons (eCallIo m_law_pick 0 (hHole 0 (hCons (eVar 2) hNil))) (aCons (eC (.bl true)) aNil)))))
def m_law_one : List MV → RF := runM (some 0) 3 b_law_one
def b_law_first : FS := (sSeq (sSet 1 (eComp (.tp [(.nm 2), (.nm 3)]) (fSeq (.ex (eVar 0))) (tQ (.sl 3)) (eVar 2) [2, 3]))
  (sRet (eIf (tB (e2 neM (.sl 1) (.ex (eLst aNil)))) (e2 atM (.sl 1) (.ex (eC (.int 0)))) (eC (.str "none")))))
def m_law_first : List MV → RF := runM none 4 b_law_first
def b_is_integer : FS := (sRet (eAn (e1 (isiT (kitT "int") []) (.sl 0)) (eNt (e1 (isiT (kitT "bool") []) (.sl 0)))))
def m_is_integer : List MV → RF := runM none 1 b_is_integer
def b_is_within : FS := (sRet (eAn (eCall m_is_integer (aCons (eVar 0) aNil)) (eChain leI leI (.sl 1) (.sl 0) (.sl 2))))
def m_is_within : List MV → RF := runM none 3 b_is_within
def b_require_within : FS := (sIf (tNt (tQ (.ex (eCall m_is_within (aCons (eVar 0) (aCons (eVar 1) (aCons (eVar 2) aNil)))))))
  (sRaise1 "InvalidCount" "given" (eVar 0))
  sNil)
def m_require_within : List MV → RF := runM none 3 b_require_within
def b_require_base : FS := (sExpr (eCall m_require_within (aCons (eVar 0) (aCons (eC (.int 2)) (aCons (eC (.int 5)) aNil)))))
def m_require_base : List MV → RF := runM none 1 b_require_base
def b_require_place : FS := (sExpr (eCall m_require_within (aCons (eVar 0) (aCons (eC (.int 0)) (aCons (eC (.int 1000000000000000000000000000000000000000000000000000000000000)) aNil)))))
def m_require_place : List MV → RF := runM none 1 b_require_place
def l_digits_in_1 : Mi.FS := (sSeq (sExpr (eMut "list" appM 2 (aCons (e2 modI (.sl 3) (.sl 0)) aNil)))
  (sSet 3 (e2 divI (.sl 3) (.sl 0))))
def b_digits_in : FS := (sSeq (sPar 2 3 (eLst aNil) (eVar 1))
  (sSeq (sWhile fuel (tB (e2 gtI (.sl 3) (.ex (eC (.int 0)))))
  l_digits_in_1)
  (sRet (e1 tupM (.ex (e1 revM (.sl 2)))))))
def m_digits_in : List MV → RF := runM none 4 b_digits_in
def b_digits_of : FS := (sSeq (sExpr (eCall m_require_base (aCons (eVar 0) aNil)))
  (sSeq (sExpr (eCall m_require_place (aCons (eVar 1) aNil)))
  (sRet (eCall m_digits_in (aCons (eVar 0) (aCons (eVar 1) aNil))))))
def m_digits_of : List MV → RF := runM none 2 b_digits_of
def b_digit_sum : FS := (sRet (e1 sumM (.ex (eCall m_digits_of (aCons (eVar 0) (aCons (eVar 1) aNil))))))
def m_digit_sum : List MV → RF := runM none 2 b_digit_sum
def l_noughts_behind_1 : Mi.FS := (sPar 2 3 (e2 addM (.sl 2) (.ex (eC (.int 1)))) (e2 divI (.sl 3) (.sl 0)))
def b_noughts_behind : FS := (sSeq (sPar 2 3 (eC (.int 0)) (eVar 1))
  (sSeq (sWhile fuel (tB (e2 eqM (.ex (e2 modI (.sl 3) (.sl 0))) (.ex (eC (.int 0)))))
  l_noughts_behind_1)
  (sRetV 2)))
def m_noughts_behind : List MV → RF := runM none 4 b_noughts_behind
def b_ends_with : FS := (sSeq (sExpr (eCall m_require_base (aCons (eVar 0) aNil)))
  (sSeq (sExpr (eCall m_require_place (aCons (eVar 1) aNil)))
  (sRet (eIf (tB (e2 gtI (.sl 1) (.ex (eC (.int 0))))) (eCall m_noughts_behind (aCons (eVar 0) (aCons (eVar 1) aNil))) (eC .non)))))
def m_ends_with : List MV → RF := runM none 2 b_ends_with
def l_place_in_1 : Mi.FS := (sSet 2 (e2 addM (.ex (e2 mulA (.sl 2) (.sl 0))) (.sl 3)))
def b_place_in : FS := (sSeq (sSet 2 (eC (.int 0)))
  (sSeq (sLend 1 (sFor (.nm 3) (fSeq (.sl 1))
  l_place_in_1))
  (sRetV 2)))
def m_place_in : List MV → RF := runM none 4 b_place_in
def c_place_of_1 : Mi.FE := (eCall m_is_within (aCons (eVar 2) (aCons (eC (.int 0)) (aCons (e2 subI (.sl 0) (.ex (eC (.int 1)))) aNil))))
def b_place_of : FS := (sSeq (sExpr (eCall m_require_base (aCons (eVar 0) aNil)))
  (sSeq (sIf (tOrr (tNt (tQ (.ex (e1 (isiT (kitT "tuple") []) (.sl 1))))) (tB (e2 gtI (.ex (e1 lenM (.sl 1))) (.ex (eC (.int 300))))))
  (sRaise0 "InvalidOperation")
  sNil)
  (sSeq (sIf (tNt (tQ (.ex (e1 allM (.ex (eComp (.nm 2) (fSeq (.ex (eVar 1))) tYesM c_place_of_1 [2]))))))
  (sRaise0 "InvalidOperation")
  sNil)
  (sRet (eCall m_place_in (aCons (eVar 0) (aCons (eVar 1) aNil)))))))
def m_place_of : List MV → RF := runM none 3 b_place_of
def b_digits_wide : FS := (sSeq (sExpr (eCall m_require_base (aCons (eVar 0) aNil)))
  (sSeq (sExpr (eCall m_require_place (aCons (eVar 1) aNil)))
  (sSeq (sExpr (eCall m_require_within (aCons (eVar 2) (aCons (eC (.int 0)) (aCons (eC (.int 300)) aNil)))))
  (sSeq (sSet 3 (eCall m_digits_in (aCons (eVar 0) (aCons (eVar 1) aNil))))
  (sSeq (sIf (tB (e2 gtI (.ex (e1 lenM (.sl 3))) (.sl 2)))
  (sRaise0 "InvalidOperation")
  sNil)
  (sRet (e2 addM (.ex (e2 mulA (.ex (eTup (aCons (eC (.int 0)) aNil))) (.ex (e2 subI (.sl 2) (.ex (e1 lenM (.sl 3))))))) (.sl 3))))))))
def m_digits_wide : List MV → RF := runM none 4 b_digits_wide
def z_law_right_1 : Mi.FS := (sAsg (.tp [(.nm 11), (.nm 1)]) (eCallIo m_law_one 0 (hHole 0 (hCons (eC (.int 3)) (hCons (eLst (aCons (eC (.int 0)) (aCons (eC (.int 1)) (aCons (eC (.int 6)) (aCons (e1 negI (.ex (eC (.int 2)))) (aCons (eC (.bl true)) (aCons (eC .non) (aCons (eC (.str "2")) (aCons (eTup (aCons (eC (.int 2)) aNil)) (aCons (e2 powI (.ex (eC (.int 10))) (.ex (eC (.int 64)))) aNil)))))))))) hNil)))))
def z_law_right_2 : Mi.FS := (sAsg (.tp [(.nm 14), (.nm 2)]) (eCallIo m_law_one 0 (hHole 0 (hCons (eC (.int 77)) (hCons (eLst (aCons (e1 negI (.ex (eC (.int 1)))) (aCons (e2 addM (.ex (e2 powI (.ex (eC (.int 10))) (.ex (eC (.int 60))))) (.ex (eC (.int 1)))) (aCons (eC (.bl true)) (aCons (eC .non) (aCons (eC (.str "1")) (aCons (eTup (aCons (eC (.int 1)) aNil)) (aCons (e2 powI (.ex (eC (.int 10))) (.ex (eC (.int 64)))) aNil)))))))) hNil)))))
def z_law_right_3 : Mi.FS := (sAsg (.tp [(.nm 12), (.nm 3)]) (eCallIo m_law_one 0 (hHole 0 (hCons (eTup (aCons (eC (.int 0)) (aCons (eC (.int 2)) (aCons (eC (.int 1)) aNil)))) (hCons (eLst (aCons (eC .non) (aCons (eLst (aCons (eC (.int 0)) (aCons (eC (.int 1)) aNil))) (aCons (eTup (aCons (eC (.int 0)) (aCons (eC (.int 3)) aNil))) (aCons (eTup (aCons (e1 negI (.ex (eC (.int 1)))) aNil)) (aCons (eTup (aCons (eC (.bl true)) aNil)) (aCons (eTup (aCons (eC (.str "1")) aNil)) (aCons (eC (.int 5)) (aCons (e2 mulA (.ex (eTup (aCons (eC (.int 0)) aNil))) (.ex (eC (.int 301)))) (aCons (eC (.str "01")) aNil)))))))))) hNil)))))
def z_law_right_4 : Mi.FS := (sAsg (.tp [(.nm 13), (.nm 4)]) (eCallIo m_law_one 0 (hHole 0 (hCons (eC (.int 5)) (hCons (eLst (aCons (e1 negI (.ex (eC (.int 1)))) (aCons (eC (.int 301)) (aCons (eC (.bl true)) (aCons (eC .non) (aCons (eC (.str "1")) (aCons (eTup (aCons (eC (.int 1)) aNil)) (aCons (e2 powI (.ex (eC (.int 10))) (.ex (eC (.int 64)))) aNil)))))))) hNil)))))
def z_law_right_5 : Mi.FS := (sSet 5 (eAn (eNt (eVar 4)) (e2 eqM (.ex (eCallIo m_law_roll 0 (hHole 0 (hCons (eC (.int 3)) hNil)))) (.ex (eC (.int 0))))))
def z_law_right_6 : Mi.FS := (sSet 13 (eIf (tQ (.sl 5)) (eCallIo m_law_roll 0 (hHole 0 (hCons (eC (.int 4)) hNil))) (eVar 13)))
def z_law_right_7 : Mi.FS := (sPar 6 7 (eTup (aCons (e2 addM (.ex (eC (.str "count "))) (.ex (e1 reprM (.sl 11)))) (aCons (eVar 1) aNil))) (eTup (aCons (e2 addM (.ex (eC (.str "count "))) (.ex (e1 reprM (.sl 14)))) (aCons (eVar 2) aNil))))
def c_law_right_8 : Mi.FE := (eCall m_digits_of (aCons (eVar 11) (aCons (eVar 14) aNil)))
def z_law_right_8 : Mi.FS := (sSet 8 (eLst (aCons (eMet met_es met_l met_d c_law_right_8) aNil)))
def c_law_right_10 : Mi.FE := (eCall m_digit_sum (aCons (eVar 11) (aCons (eVar 14) aNil)))
def z_law_right_9 : Mi.FS := (sExpr (eMut "list" appM 8 (aCons (eMet met_es met_l met_d c_law_right_10) aNil)))
def c_law_right_12 : Mi.FE := (eCall m_ends_with (aCons (eVar 11) (aCons (eVar 14) aNil)))
def z_law_right_10 : Mi.FS := (sExpr (eMut "list" appM 8 (aCons (eMet met_es met_l met_d c_law_right_12) aNil)))
def c_law_right_14 : Mi.FE := (eCall m_place_of (aCons (eVar 11) (aCons (eVar 12) aNil)))
def z_law_right_11 : Mi.FS := (sExpr (eMut "list" appM 8 (aCons (eMet met_es met_l met_d c_law_right_14) aNil)))
def c_law_right_16 : Mi.FE := (eCall m_digits_wide (aCons (eVar 11) (aCons (eVar 14) (aCons (eVar 13) aNil))))
def z_law_right_12 : Mi.FS := (sExpr (eMut "list" appM 8 (aCons (eMet met_es met_l met_d c_law_right_16) aNil)))
def z_law_right_13 : Mi.FS := (sSet 9 (eLst (aCons (eTup (aCons (e2 addM (.ex (eC (.str "count "))) (.ex (e1 reprM (.sl 13)))) (aCons (eVar 4) aNil))) (aCons (eTup (aCons (eC (.str "operation")) (aCons (eVar 5) aNil))) aNil))))
def z_law_right_14 : Mi.FS := (sSet 10 (e2 addM (.ex (e2 mulA (.ex (eLst (aCons (eCall m_law_first (aCons (eLst (aCons (eVar 6) (aCons (eVar 7) aNil))) aNil)) aNil))) (.ex (eC (.int 3))))) (.ex (eLst (aCons (eCall m_law_first (aCons (eLst (aCons (eVar 6) (aCons (eTup (aCons (eC (.str "operation")) (aCons (eVar 3) aNil))) aNil))) aNil)) aNil)))))
def z_law_right_15 : Mi.FS := (sRet (e2 eqM (.sl 8) (.ex (e2 addM (.sl 10) (.ex (eLst (aCons (eCall m_law_first (aCons (e2 addM (.ex (eLst (aCons (eVar 6) (aCons (eVar 7) aNil)))) (.sl 9)) aNil)) aNil)))))))
def b_law_right : FS := (sSeq z_law_right_1
  (sSeq z_law_right_2
  (sSeq z_law_right_3
  (sSeq z_law_right_4
  (sSeq z_law_right_5
  (sSeq z_law_right_6
  (sSeq z_law_right_7
  (sSeq z_law_right_8
  (sSeq z_law_right_9
  (sSeq z_law_right_10
  (sSeq z_law_right_11
  (sSeq z_law_right_12
  (sSeq z_law_right_13
  (sSeq z_law_right_14
  z_law_right_15))))))))))))))
def m_law_right : List MV → RF := runM (some 0) 15 b_law_right
def c_law_1 : Mi.FE := (eCall m_digits_wide (aCons (eC (.int 2)) (aCons (e2 powI (.ex (eC (.int 10))) (.ex (eC (.int 60)))) (aCons (eC (.int 199)) aNil))))
def l_law_2 : Mi.FS := (sIf (tNt (tQ (.ex (eCallIo m_law_right 2 (hHole 2 hNil)))))
  (sRet (eC (.bl false)))
  sNil)
def l_law_3 : Mi.FS := (sSeq (sSet 2 (eCall m_law_dice (aCons (eVar 0) (aCons (eVar 1) aNil))))
  (sFor (.nm 3) (fArgs rangeM1 (aCons (eC (.int 6)) aNil))
  l_law_2))
def b_law : FS := (sSeq (sFor (.nm 1) (fArgs rangeM1 (aCons (e2 maxII (.ex (eC (.int 1))) (.ex (e2 minII (.ex (eC (.int 8))) (.ex (e1 lenM (.sl 0)))))) aNil))
  l_law_3)
  (sRet (eAn (e2 eqM (.ex (eMet met_es met_l met_d c_law_1)) (.ex (eC (.str "operation")))) (e2 eqM (.ex (e2 atM (.ex (eCall m_digits_wide (aCons (eC (.int 2)) (aCons (e2 powI (.ex (eC (.int 10))) (.ex (eC (.int 60)))) (aCons (eC (.int 200)) aNil))))) (.ex (eC (.int 0))))) (.ex (eC (.int 1)))))))
def m_law : List MV → RF := runM none 4 b_law
end
section
variable {P : Program} {w : World} {K : PySem.W.Frag} {mg : Str → Option Value} {base : Heap}
theorem ok_law_dice (D : DefIn K mg "_law_dice" s_law_dice) (T : Fre mg)    : FnM P w K mg base 1 "_law_dice" ["script", "spot"] none m_law_dice :=
  Mi.DefIn.fnM (N := ["script", "spot", "cell", "great", "seed"]) (ps := ["script", "spot"]) (io := none) (body := b_law_dice) D sc_law_dice (fun _ _ _ _ _ _ us hl => match us, hl with | [_, _], _ => rfl) (fun cdv A outer s H E hr hgd => (qs_cons (qs_set (i := 2) sc_law_dice.nd rfl (Or.inl rfl) (re_if (rt_cmp (op2_lt (units0 hr)) (rq_sl (pv 1)) (rq_ex (re_cb1 cal_len rfl T.len (rq_sl (pv 0)))) (nomark _)) (re_ct1 cal_int rfl T.int (rq_ex (re_at (units64 hr) (rq_sl (pv 0)) (rq_sl (pv 1))))) (re_bin op2_add (rq_ex (re_bin op2_mulA (rq_ex re_int) (rq_sl (pv 1)))) (rq_ex re_int))))
  (qs_cons (qs_set (i := 3) sc_law_dice.nd rfl (Or.inl rfl) (re_bin op2_modI (rq_ex (re_ct1 cal_int rfl T.int (rq_ex (re_cb1 cal_abs rfl T.abs (rq_sl (pv 2)))))) (rq_ex (re_bin op2_powI (rq_ex (re_bin op2_powI (rq_ex re_int) (rq_ex re_int))) (rq_ex re_int)))))
  (qs_cons (qs_set (i := 4) sc_law_dice.nd rfl (Or.inl rfl) (re_bin op2_add (rq_ex (re_bin op2_add (rq_ex (re_bin op2_add (rq_ex (re_bin op2_mulA (rq_ex (re_bin op2_modI (rq_sl (pv 3)) (rq_ex re_int))) (rq_ex re_int))) (rq_ex (re_bin op2_mulA (rq_ex re_int) (rq_sl (pv 1)))))) (rq_ex (re_bin op2_mulA (rq_ex re_int) (rq_ex (re_ct1 cal_int rfl T.int (rq_ex (re_cmp (op2_lt (units0 hr)) (rq_sl (pv 2)) (rq_ex re_int) (nomark _))))))))) (rq_ex re_int)))
  (qs_one (qs_ret (re_lst (ra_cons (re_cb2 (cal_max2 rfl) rfl T.max (rq_ex re_int) (rq_ex (re_bin op2_subI (rq_sl (pv 3)) (rq_ex (re_bin op2_powI (rq_ex re_int) (rq_ex re_int)))))) (ra_cons (re_var (pv 4)) (ra_cons re_int ra_nil))) (lim_cons (lim_cons (lim_cons lim_nil))))))))))
theorem ok_law_roll (D : DefIn K mg "_law_roll" s_law_roll) (T : Fre mg)    : FnM P w K mg base 1 "_law_roll" ["dice", "total"] (some 0) m_law_roll :=
  Mi.DefIn.fnM (N := ["dice", "total", "found", "one", "two"]) (ps := ["dice", "total"]) (io := (some 0)) (body := b_law_roll) D sc_law_roll (fun _ _ _ _ _ _ us hl => match us, hl with | [_, _], _ => rfl) (fun cdv A outer s H E hr hgd => (qs_cons (qs_if (rt_cmp op2_gtI (rq_ex (re_at (units64 hr) (rq_sl (pv 0)) (rq_ex re_int))) (rq_ex re_int) (nomark _)) (qs_cons (qs_set (i := 2) sc_law_roll.nd rfl (Or.inl rfl) (re_bin op2_modI (rq_ex (re_at (units64 hr) (rq_sl (pv 0)) (rq_ex re_int))) (rq_sl (pv 1))))
  (qs_cons (qs_st (units64 hr) (pv 0) (rq_ex re_int) (re_bin op2_divI (rq_ex (re_at (units64 hr) (rq_sl (pv 0)) (rq_ex re_int))) (rq_sl (pv 1))))
  (qs_one (qs_ret (re_ct1 cal_int rfl T.int (rq_sl (pv 2))))))) qs_nil)
  (qs_cons (qs_st (units64 hr) (pv 0) (rq_ex re_int) (re_bin op2_add (rq_ex (re_at (units64 hr) (rq_sl (pv 0)) (rq_ex re_int))) (rq_ex re_int)))
  (qs_cons (qs_set (i := 3) sc_law_roll.nd rfl (Or.inl rfl) (re_bin op2_modI (rq_ex (re_bin op2_add (rq_ex (re_at (units64 hr) (rq_sl (pv 0)) (rq_ex re_int))) (rq_ex (re_bin op2_mulA (rq_ex re_int) (rq_ex (re_at (units64 hr) (rq_sl (pv 0)) (rq_ex re_int))))))) (rq_ex re_int)))
  (qs_cons (qs_set (i := 4) sc_law_roll.nd rfl (Or.inl rfl) (re_bin op2_add (rq_ex (re_bin op2_mulA (rq_ex (re_bin op2_modI (rq_ex (re_bin op2_add (rq_ex (re_bin op2_mulA (rq_sl (pv 3)) (rq_sl (pv 3)))) (rq_ex (re_bin op2_mulA (rq_ex re_int) (rq_ex (re_at (units64 hr) (rq_sl (pv 0)) (rq_ex re_int))))))) (rq_ex re_int))) (rq_ex re_int))) (rq_sl (pv 3))))
  (qs_one (qs_ret (re_bin op2_modI (rq_ex (re_ct1 cal_int rfl T.int (rq_ex (re_bin op2_divI (rq_sl (pv 4)) (rq_ex re_int))))) (rq_sl (pv 1))))))))))
theorem ok_law_pick (D : DefIn K mg "_law_pick" s_law_pick) (T : Fre mg)   (G_law_roll : FnM P w K mg base 1 "_law_roll" ["dice", "total"] (some 0) m_law_roll) : FnM P w K mg base 2 "_law_pick" ["dice", "items"] (some 0) m_law_pick :=
  Mi.DefIn.fnM (N := ["dice", "items"]) (ps := ["dice", "items"]) (io := (some 0)) (body := b_law_pick) D sc_law_pick (fun _ _ _ _ _ _ us hl => match us, hl with | [_, _], _ => rfl) (fun cdv A outer s H E hr hgd => (qs_one (qs_ret (re_at (units64 hr) (rq_sl (pv 1)) (rq_ex (re_callIo G_law_roll hr hgd rfl (rh_hole (pv 0) (rh_cons (re_cb1 cal_len rfl T.len (rq_sl (pv 1))) rh_nil)) (hlim_hole (nohole_cons nohole_nil))))))))
theorem ok_law_one (D : DefIn K mg "_law_one" s_law_one) (T : Fre mg)   (G_law_roll : FnM P w K mg base 1 "_law_roll" ["dice", "total"] (some 0) m_law_roll) (G_law_pick : FnM P w K mg base 2 "_law_pick" ["dice", "items"] (some 0) m_law_pick) : FnM P w K mg base 3 "_law_one" ["dice", "right", "wrong"] (some 0) m_law_one :=
  Mi.DefIn.fnM (N := ["dice", "right", "wrong"]) (ps := ["dice", "right", "wrong"]) (io := (some 0)) (body := b_law_one) D sc_law_one (fun _ _ _ _ _ _ us hl => match us, hl with | [_, _, _], _ => rfl) (fun cdv A outer s H E hr hgd => (qs_cons (qs_if (rt_cmp op2_gtI (rq_ex (re_callIo G_law_roll hr hgd rfl (rh_hole (pv 0) (rh_cons re_int rh_nil)) (hlim_hole (nohole_cons nohole_nil)))) (rq_ex re_int) (nomark _)) (qs_one (qs_ret (re_tup (ra_cons (re_var (pv 1)) (ra_cons re_bl ra_nil)) (lim_cons (lim_cons lim_nil))))) qs_nil)
  (qs_one (qs_ret (re_tup (ra_cons (re_callIo G_law_pick hr hgd rfl (rh_hole (pv 0) (rh_cons (re_var (pv 2)) rh_nil)) (hlim_hole (nohole_cons nohole_nil))) (ra_cons re_bl ra_nil)) (lim_cons (lim_cons lim_nil)))))))
theorem ok_law_first (D : DefIn K mg "_law_first" s_law_first) (T : Fre mg)    : FnM P w K mg base 1 "_law_first" ["rows"] none m_law_first :=
  Mi.DefIn.fnM (N := ["rows", "some", "word", "is_wrong"]) (ps := ["rows"]) (io := none) (body := b_law_first) D sc_law_first (fun _ _ _ _ _ _ us hl => match us, hl with | [_], _ => rfl) (fun cdv A outer s H E hr hgd => (qs_cons (qs_setLc (i := 1) (own := [("word", 2), ("is_wrong", 3)]) rfl sc_law_first.nd rfl rfl (sw_true rfl rfl rfl (by decide +kernel)) (ri_seq (rq_ex (re_var (pv 0)))) (blkOk_by (own := [("word", 2), ("is_wrong", 3)]) (N := ["rows", "some", "word", "is_wrong"]) (sc := defScope s_law_first) (by decide +kernel)) (fun _ _ _ _ _ => (rg_tp rfl (rgs_cons (rg_nm (i := 2) sc_law_first.nd rfl (Or.inl rfl)) (rgs_cons (rg_nm (i := 3) sc_law_first.nd rfl (Or.inl rfl)) rgs_nil)))) (fun _ _ _ _ _ => (rts_one (rt_q (rq_sl (pv 3)) (by intro _; rfl)))) (fun _ _ _ _ _ => (re_var (pv 2))))
  (qs_one (qs_ret (re_if (rt_cmp (op2_ne (units64 hr)) (rq_sl (pv 1)) (rq_ex (re_lst ra_nil lim_nil)) (nomark _)) (re_at (units64 hr) (rq_sl (pv 1)) (rq_ex re_int)) re_str)))))
theorem ok_is_integer (D : DefIn K mg "is_integer" s_is_integer) (T : Fre mg)    : FnM P w K mg base 1 "is_integer" ["value"] none m_is_integer :=
  Mi.DefIn.fnM (N := ["value"]) (ps := ["value"]) (io := none) (body := b_is_integer) D sc_is_integer (fun _ _ _ _ _ _ us hl => match us, hl with | [_], _ => rfl) (fun cdv A outer s H E hr hgd => (qs_one (qs_ret (re_and (re_isi rfl T.isinstance (pe_bltn (v := .ty "int") rfl T.int (by decide +kernel) rfl) isg_nil (rq_sl (pv 0))) (re_one (re_not (re_isi rfl T.isinstance (pe_bltn (v := .ty "bool") rfl T.bool (by decide +kernel) rfl) isg_nil (rq_sl (pv 0)))))))))
theorem ok_is_within (D : DefIn K mg "is_within" s_is_within) (T : Fre mg)   (G_is_integer : FnM P w K mg base 1 "is_integer" ["value"] none m_is_integer) : FnM P w K mg base 2 "is_within" ["value", "least", "most"] none m_is_within :=
  Mi.DefIn.fnM (N := ["value", "least", "most"]) (ps := ["value", "least", "most"]) (io := none) (body := b_is_within) D sc_is_within (fun _ _ _ _ _ _ us hl => match us, hl with | [_, _, _], _ => rfl) (fun cdv A outer s H E hr hgd => (qs_one (qs_ret (re_and (re_call G_is_integer hr hgd rfl (ra_cons (re_var (pv 0)) ra_nil) (lim_cons lim_nil)) (re_one (re_chain op2_leI op2_leI (rq_sl (pv 1)) (rq_sl (pv 0)) (rq_sl (pv 2))))))))
theorem ok_require_within (D : DefIn K mg "require_within" s_require_within) (T : Fre mg)   (E_InvalidCount : ExcI P K mg "InvalidCount" "given") (G_is_within : FnM P w K mg base 2 "is_within" ["value", "least", "most"] none m_is_within) : FnM P w K mg base 4 "require_within" ["value", "least", "most"] none m_require_within :=
  Mi.DefIn.fnM (N := ["value", "least", "most"]) (ps := ["value", "least", "most"]) (io := none) (body := b_require_within) D sc_require_within (fun _ _ _ _ _ _ us hl => match us, hl with | [_, _, _], _ => rfl) (fun cdv A outer s H E hr hgd => (qs_one (qs_if (rt_not (rt_q (rq_ex (re_call G_is_within hr hgd rfl (ra_cons (re_var (pv 0)) (ra_cons (re_var (pv 1)) (ra_cons (re_var (pv 2)) ra_nil))) (lim_cons (lim_cons (lim_cons lim_nil))))) (by intro _; rfl))) (qs_one (qs_raise1 (k := 0) rfl E_InvalidCount (hr.mono (by decide)) hgd rfl (re_var (pv 0)))) qs_nil)))
theorem ok_require_base (D : DefIn K mg "require_base" s_require_base) (T : Fre mg)   (G_require_within : FnM P w K mg base 4 "require_within" ["value", "least", "most"] none m_require_within) : FnM P w K mg base 5 "require_base" ["value"] none m_require_base :=
  Mi.DefIn.fnM (N := ["value"]) (ps := ["value"]) (io := none) (body := b_require_base) D sc_require_base (fun _ _ _ _ _ _ us hl => match us, hl with | [_], _ => rfl) (fun cdv A outer s H E hr hgd => (qs_one (qs_expr (re_call G_require_within hr hgd rfl (ra_cons (re_var (pv 0)) (ra_cons re_int (ra_cons (re_gint rfl T.c_MAX_BASE) ra_nil))) (lim_cons (lim_cons (lim_cons lim_nil)))))))
theorem ok_require_place (D : DefIn K mg "require_place" s_require_place) (T : Fre mg)   (G_require_within : FnM P w K mg base 4 "require_within" ["value", "least", "most"] none m_require_within) : FnM P w K mg base 5 "require_place" ["value"] none m_require_place :=
  Mi.DefIn.fnM (N := ["value"]) (ps := ["value"]) (io := none) (body := b_require_place) D sc_require_place (fun _ _ _ _ _ _ us hl => match us, hl with | [_], _ => rfl) (fun cdv A outer s H E hr hgd => (qs_one (qs_expr (re_call G_require_within hr hgd rfl (ra_cons (re_var (pv 0)) (ra_cons re_int (ra_cons (re_gint rfl T.c_MAX_PLACE) ra_nil))) (lim_cons (lim_cons (lim_cons lim_nil)))))))
theorem ok_digits_in (D : DefIn K mg "digits_in" s_digits_in) (T : Fre mg)    : FnM P w K mg base 1 "digits_in" ["base", "place"] none m_digits_in :=
  Mi.DefIn.fnM (N := ["base", "place", "found", "left"]) (ps := ["base", "place"]) (io := none) (body := b_digits_in) D sc_digits_in (fun _ _ _ _ _ _ us hl => match us, hl with | [_, _], _ => rfl) (fun cdv A outer s H E hr hgd => (qs_cons (qs_par (i := 2) (j := 3) rfl sc_digits_in.nd rfl rfl (by decide) rfl rfl (re_lst ra_nil lim_nil) (re_var (pv 1)) (by rfl))
  (qs_cons (qs_while (rt_cmp op2_gtI (rq_sl (pv 3)) (rq_ex re_int) (nomark _)) (qs_cons (qs_expr (re_mut PySem.F.plainAttrs_list PySem.F.slot_list_append PySem.F.type_list_append mut_append (pv 2) (ra_cons (re_bin op2_modI (rq_sl (pv 3)) (rq_sl (pv 0))) ra_nil)))
  (qs_one (qs_set (i := 3) sc_digits_in.nd rfl (Or.inl rfl) (re_bin op2_divI (rq_sl (pv 3)) (rq_sl (pv 0)))))))
  (qs_one (qs_ret (re_ct1 cal_tup rfl T.tuple (rq_ex (re_rev (rq_sl (pv 2))))))))))
theorem ok_digits_of (D : DefIn K mg "digits_of" s_digits_of) (T : Fre mg)   (G_require_base : FnM P w K mg base 5 "require_base" ["value"] none m_require_base) (G_require_place : FnM P w K mg base 5 "require_place" ["value"] none m_require_place) (G_digits_in : FnM P w K mg base 1 "digits_in" ["base", "place"] none m_digits_in) : FnM P w K mg base 6 "digits_of" ["base", "place"] none m_digits_of :=
  Mi.DefIn.fnM (N := ["base", "place"]) (ps := ["base", "place"]) (io := none) (body := b_digits_of) D sc_digits_of (fun _ _ _ _ _ _ us hl => match us, hl with | [_, _], _ => rfl) (fun cdv A outer s H E hr hgd => (qs_cons (qs_expr (re_call G_require_base hr hgd rfl (ra_cons (re_var (pv 0)) ra_nil) (lim_cons lim_nil)))
  (qs_cons (qs_expr (re_call G_require_place hr hgd rfl (ra_cons (re_var (pv 1)) ra_nil) (lim_cons lim_nil)))
  (qs_one (qs_ret (re_call G_digits_in hr hgd rfl (ra_cons (re_var (pv 0)) (ra_cons (re_var (pv 1)) ra_nil)) (lim_cons (lim_cons lim_nil))))))))
theorem ok_digit_sum (D : DefIn K mg "digit_sum" s_digit_sum) (T : Fre mg)   (G_digits_of : FnM P w K mg base 6 "digits_of" ["base", "place"] none m_digits_of) : FnM P w K mg base 7 "digit_sum" ["base", "place"] none m_digit_sum :=
  Mi.DefIn.fnM (N := ["base", "place"]) (ps := ["base", "place"]) (io := none) (body := b_digit_sum) D sc_digit_sum (fun _ _ _ _ _ _ us hl => match us, hl with | [_, _], _ => rfl) (fun cdv A outer s H E hr hgd => (qs_one (qs_ret (re_cb1 (cal_sum rfl) rfl T.sum (rq_ex (re_call G_digits_of hr hgd rfl (ra_cons (re_var (pv 0)) (ra_cons (re_var (pv 1)) ra_nil)) (lim_cons (lim_cons lim_nil))))))))
theorem ok_noughts_behind (D : DefIn K mg "noughts_behind" s_noughts_behind) (T : Fre mg)    : FnM P w K mg base 1 "noughts_behind" ["base", "place"] none m_noughts_behind :=
  Mi.DefIn.fnM (N := ["base", "place", "found", "left"]) (ps := ["base", "place"]) (io := none) (body := b_noughts_behind) D sc_noughts_behind (fun _ _ _ _ _ _ us hl => match us, hl with | [_, _], _ => rfl) (fun cdv A outer s H E hr hgd => (qs_cons (qs_par (i := 2) (j := 3) rfl sc_noughts_behind.nd rfl rfl (by decide) rfl rfl re_int (re_var (pv 1)) (by rfl))
  (qs_cons (qs_while (rt_cmp (op2_eq (units64 hr)) (rq_ex (re_bin op2_modI (rq_sl (pv 3)) (rq_sl (pv 0)))) (rq_ex re_int) (nomark _)) (qs_one (qs_par (i := 2) (j := 3) rfl sc_noughts_behind.nd rfl rfl (by decide) rfl rfl (re_bin op2_add (rq_sl (pv 2)) (rq_ex re_int)) (re_bin op2_divI (rq_sl (pv 3)) (rq_sl (pv 0))) (by rfl))))
  (qs_one (qs_retV (pv 2))))))
theorem ok_ends_with (D : DefIn K mg "ends_with" s_ends_with) (T : Fre mg)   (G_require_base : FnM P w K mg base 5 "require_base" ["value"] none m_require_base) (G_require_place : FnM P w K mg base 5 "require_place" ["value"] none m_require_place) (G_noughts_behind : FnM P w K mg base 1 "noughts_behind" ["base", "place"] none m_noughts_behind) : FnM P w K mg base 6 "ends_with" ["base", "place"] none m_ends_with :=
  Mi.DefIn.fnM (N := ["base", "place"]) (ps := ["base", "place"]) (io := none) (body := b_ends_with) D sc_ends_with (fun _ _ _ _ _ _ us hl => match us, hl with | [_, _], _ => rfl) (fun cdv A outer s H E hr hgd => (qs_cons (qs_expr (re_call G_require_base hr hgd rfl (ra_cons (re_var (pv 0)) ra_nil) (lim_cons lim_nil)))
  (qs_cons (qs_expr (re_call G_require_place hr hgd rfl (ra_cons (re_var (pv 1)) ra_nil) (lim_cons lim_nil)))
  (qs_one (qs_ret (re_if (rt_cmp op2_gtI (rq_sl (pv 1)) (rq_ex re_int) (nomark _)) (re_call G_noughts_behind hr hgd rfl (ra_cons (re_var (pv 0)) (ra_cons (re_var (pv 1)) ra_nil)) (lim_cons (lim_cons lim_nil))) re_non))))))
theorem ok_place_in (D : DefIn K mg "place_in" s_place_in) (T : Fre mg)    : FnM P w K mg base 1 "place_in" ["base", "digits"] none m_place_in :=
  Mi.DefIn.fnM (N := ["base", "digits", "found", "digit"]) (ps := ["base", "digits"]) (io := none) (body := b_place_in) D sc_place_in (fun _ _ _ _ _ _ us hl => match us, hl with | [_, _], _ => rfl) (fun cdv A outer s H E hr hgd => (qs_cons (qs_set (i := 2) sc_place_in.nd rfl (Or.inl rfl) re_int)
  (qs_cons (qs_lend 1 (qs_for rfl (ri_seq (rq_sl (pv 1))) (rg_nm (i := 3) sc_place_in.nd rfl (Or.inl rfl))
  (qs_one (qs_set (i := 2) sc_place_in.nd rfl (Or.inl rfl) (re_bin op2_add (rq_ex (re_bin op2_mulA (rq_sl (pv 2)) (rq_sl (pv 0)))) (rq_sl (pv 3)))))))
  (qs_one (qs_retV (pv 2))))))
theorem ok_place_of (D : DefIn K mg "place_of" s_place_of) (T : Fre mg)   (E_InvalidOperation : ExcO K mg "InvalidOperation") (G_require_base : FnM P w K mg base 5 "require_base" ["value"] none m_require_base) (G_place_in : FnM P w K mg base 1 "place_in" ["base", "digits"] none m_place_in) (G_is_within : FnM P w K mg base 2 "is_within" ["value", "least", "most"] none m_is_within) : FnM P w K mg base 6 "place_of" ["base", "digits"] none m_place_of :=
  Mi.DefIn.fnM (N := ["base", "digits", "digit"]) (ps := ["base", "digits"]) (io := none) (body := b_place_of) D sc_place_of (fun _ _ _ _ _ _ us hl => match us, hl with | [_, _], _ => rfl) (fun cdv A outer s H E hr hgd => (qs_cons (qs_expr (re_call G_require_base hr hgd rfl (ra_cons (re_var (pv 0)) ra_nil) (lim_cons lim_nil)))
  (qs_cons (qs_if (rt_w (rw_or (rt_not (rt_q (rq_ex (re_isi rfl T.isinstance (pe_bltn (v := .ty "tuple") rfl T.tuple (by decide +kernel) rfl) isg_nil (rq_sl (pv 1)))) (by intro _; rfl))) (rw_or1 (rt_cmp op2_gtI (rq_ex (re_cb1 cal_len rfl T.len (rq_sl (pv 1)))) (rq_ex (re_gint rfl T.c_MAX_DIGITS)) (nomark _))))) (qs_one (qs_raise0 rfl E_InvalidOperation rfl)) qs_nil)
  (qs_cons (qs_if (rt_not (rt_q (rq_ex (re_cb1 (cal_all rfl) rfl T.all (rq_ex (re_lc (own := [("digit", 2)]) rfl sc_place_of.nd (ri_seq (rq_ex (re_var (pv 1)))) (blkOk_by (own := [("digit", 2)]) (N := ["base", "digits", "digit"]) (sc := defScope s_place_of) (by decide +kernel)) (fun _ _ _ _ _ => (rg_nm (i := 2) sc_place_of.nd rfl (Or.inl rfl))) (fun _ _ _ _ _ => rts_nil) (fun _ _ _ _ _ => (re_call G_is_within hr hgd rfl (ra_cons (re_var (pv 2)) (ra_cons re_int (ra_cons (re_bin op2_subI (rq_sl (pv 0)) (rq_ex re_int)) ra_nil))) (lim_cons (lim_cons (lim_cons lim_nil))))))))) (by intro _; rfl))) (qs_one (qs_raise0 rfl E_InvalidOperation rfl)) qs_nil)
  (qs_one (qs_ret (re_call G_place_in hr hgd rfl (ra_cons (re_var (pv 0)) (ra_cons (re_var (pv 1)) ra_nil)) (lim_cons (lim_cons lim_nil)))))))))
theorem ok_digits_wide (D : DefIn K mg "digits_wide" s_digits_wide) (T : Fre mg)   (E_InvalidOperation : ExcO K mg "InvalidOperation") (G_require_base : FnM P w K mg base 5 "require_base" ["value"] none m_require_base) (G_require_place : FnM P w K mg base 5 "require_place" ["value"] none m_require_place) (G_require_within : FnM P w K mg base 4 "require_within" ["value", "least", "most"] none m_require_within) (G_digits_in : FnM P w K mg base 1 "digits_in" ["base", "place"] none m_digits_in) : FnM P w K mg base 6 "digits_wide" ["base", "place", "many"] none m_digits_wide :=
  Mi.DefIn.fnM (N := ["base", "place", "many", "digits"]) (ps := ["base", "place", "many"]) (io := none) (body := b_digits_wide) D sc_digits_wide (fun _ _ _ _ _ _ us hl => match us, hl with | [_, _, _], _ => rfl) (fun cdv A outer s H E hr hgd => (qs_cons (qs_expr (re_call G_require_base hr hgd rfl (ra_cons (re_var (pv 0)) ra_nil) (lim_cons lim_nil)))
  (qs_cons (qs_expr (re_call G_require_place hr hgd rfl (ra_cons (re_var (pv 1)) ra_nil) (lim_cons lim_nil)))
  (qs_cons (qs_expr (re_call G_require_within hr hgd rfl (ra_cons (re_var (pv 2)) (ra_cons re_int (ra_cons (re_gint rfl T.c_MAX_DIGITS) ra_nil))) (lim_cons (lim_cons (lim_cons lim_nil)))))
  (qs_cons (qs_set (i := 3) sc_digits_wide.nd rfl (Or.inl rfl) (re_call G_digits_in hr hgd rfl (ra_cons (re_var (pv 0)) (ra_cons (re_var (pv 1)) ra_nil)) (lim_cons (lim_cons lim_nil))))
  (qs_cons (qs_if (rt_cmp op2_gtI (rq_ex (re_cb1 cal_len rfl T.len (rq_sl (pv 3)))) (rq_sl (pv 2)) (nomark _)) (qs_one (qs_raise0 rfl E_InvalidOperation rfl)) qs_nil)
  (qs_one (qs_ret (re_bin op2_add (rq_ex (re_bin op2_mulA (rq_ex (re_tup (ra_cons re_int ra_nil) (lim_cons lim_nil))) (rq_ex (re_bin op2_subI (rq_sl (pv 2)) (rq_ex (re_cb1 cal_len rfl T.len (rq_sl (pv 3)))))))) (rq_sl (pv 3)))))))))))
theorem ok_law_right (D : DefIn K mg "_law_right" s_law_right) (T : Fre mg)   (M_met : MetOk K mg "_law_met" met_es met_l met_d) {cc ct : Addr} (LK : LamK P w K mg base "_law_right" cc ct) (G_law_one : FnM P w K mg base 3 "_law_one" ["dice", "right", "wrong"] (some 0) m_law_one) (G_law_roll : FnM P w K mg base 1 "_law_roll" ["dice", "total"] (some 0) m_law_roll) (G_law_first : FnM P w K mg base 1 "_law_first" ["rows"] none m_law_first) (G_digits_of : FnM P w K mg base 6 "digits_of" ["base", "place"] none m_digits_of) (G_digit_sum : FnM P w K mg base 7 "digit_sum" ["base", "place"] none m_digit_sum) (G_ends_with : FnM P w K mg base 6 "ends_with" ["base", "place"] none m_ends_with) (G_place_of : FnM P w K mg base 6 "place_of" ["base", "digits"] none m_place_of) (G_digits_wide : FnM P w K mg base 6 "digits_wide" ["base", "place", "many"] none m_digits_wide) : FnM P w K mg base 10 "_law_right" ["dice"] (some 0) m_law_right :=
  Mi.DefIn.fnML (N := ["dice", "no_base", "no_place", "no_digits", "no_many", "few", "first", "second", "told", "last", "due", "base", "digits", "many", "place"]) (ps := ["dice"]) (io := (some 0)) (body := b_law_right) D sc_law_right LK.co (fun _ _ _ _ _ _ us hl => match us, hl with | [_], _ => rfl) (fun A outer s H E hr hgd => (qs_cons (qs_asg (re_callIo G_law_one hr hgd rfl (rh_hole (pv 0) (rh_cons re_int (rh_cons (re_lst (ra_cons re_int (ra_cons re_int (ra_cons re_int (ra_cons (re_un op1_negI (rq_ex re_int)) (ra_cons re_bl (ra_cons re_non (ra_cons re_str (ra_cons (re_tup (ra_cons re_int ra_nil) (lim_cons lim_nil)) (ra_cons (re_bin op2_powI (rq_ex re_int) (rq_ex re_int)) ra_nil))))))))) (lim_cons (lim_cons (lim_cons (lim_cons (lim_cons (lim_cons (lim_cons (lim_cons (lim_cons lim_nil)))))))))) rh_nil))) (hlim_hole (nohole_cons (nohole_cons nohole_nil)))) (rg_tp rfl (rgs_cons (rg_nm (i := 11) sc_law_right.nd rfl (Or.inr rfl)) (rgs_cons (rg_nm (i := 1) sc_law_right.nd rfl (Or.inl rfl)) rgs_nil))))
  (qs_cons (qs_asg (re_callIo G_law_one hr hgd rfl (rh_hole (pv 0) (rh_cons re_int (rh_cons (re_lst (ra_cons (re_un op1_negI (rq_ex re_int)) (ra_cons (re_bin op2_add (rq_ex (re_bin op2_powI (rq_ex re_int) (rq_ex re_int))) (rq_ex re_int)) (ra_cons re_bl (ra_cons re_non (ra_cons re_str (ra_cons (re_tup (ra_cons re_int ra_nil) (lim_cons lim_nil)) (ra_cons (re_bin op2_powI (rq_ex re_int) (rq_ex re_int)) ra_nil))))))) (lim_cons (lim_cons (lim_cons (lim_cons (lim_cons (lim_cons (lim_cons lim_nil)))))))) rh_nil))) (hlim_hole (nohole_cons (nohole_cons nohole_nil)))) (rg_tp rfl (rgs_cons (rg_nm (i := 14) sc_law_right.nd rfl (Or.inr rfl)) (rgs_cons (rg_nm (i := 2) sc_law_right.nd rfl (Or.inl rfl)) rgs_nil))))
  (qs_cons (qs_asg (re_callIo G_law_one hr hgd rfl (rh_hole (pv 0) (rh_cons (re_tup (ra_cons re_int (ra_cons re_int (ra_cons re_int ra_nil))) (lim_cons (lim_cons (lim_cons lim_nil)))) (rh_cons (re_lst (ra_cons re_non (ra_cons (re_lst (ra_cons re_int (ra_cons re_int ra_nil)) (lim_cons (lim_cons lim_nil))) (ra_cons (re_tup (ra_cons re_int (ra_cons re_int ra_nil)) (lim_cons (lim_cons lim_nil))) (ra_cons (re_tup (ra_cons (re_un op1_negI (rq_ex re_int)) ra_nil) (lim_cons lim_nil)) (ra_cons (re_tup (ra_cons re_bl ra_nil) (lim_cons lim_nil)) (ra_cons (re_tup (ra_cons re_str ra_nil) (lim_cons lim_nil)) (ra_cons re_int (ra_cons (re_bin op2_mulA (rq_ex (re_tup (ra_cons re_int ra_nil) (lim_cons lim_nil))) (rq_ex re_int)) (ra_cons re_str ra_nil))))))))) (lim_cons (lim_cons (lim_cons (lim_cons (lim_cons (lim_cons (lim_cons (lim_cons (lim_cons lim_nil)))))))))) rh_nil))) (hlim_hole (nohole_cons (nohole_cons nohole_nil)))) (rg_tp rfl (rgs_cons (rg_nm (i := 12) sc_law_right.nd rfl (Or.inr rfl)) (rgs_cons (rg_nm (i := 3) sc_law_right.nd rfl (Or.inl rfl)) rgs_nil))))
  (qs_cons (qs_asg (re_callIo G_law_one hr hgd rfl (rh_hole (pv 0) (rh_cons re_int (rh_cons (re_lst (ra_cons (re_un op1_negI (rq_ex re_int)) (ra_cons re_int (ra_cons re_bl (ra_cons re_non (ra_cons re_str (ra_cons (re_tup (ra_cons re_int ra_nil) (lim_cons lim_nil)) (ra_cons (re_bin op2_powI (rq_ex re_int) (rq_ex re_int)) ra_nil))))))) (lim_cons (lim_cons (lim_cons (lim_cons (lim_cons (lim_cons (lim_cons lim_nil)))))))) rh_nil))) (hlim_hole (nohole_cons (nohole_cons nohole_nil)))) (rg_tp rfl (rgs_cons (rg_nm (i := 13) sc_law_right.nd rfl (Or.inr rfl)) (rgs_cons (rg_nm (i := 4) sc_law_right.nd rfl (Or.inl rfl)) rgs_nil))))
  (qs_cons (qs_set (i := 5) sc_law_right.nd rfl (Or.inl rfl) (re_and (re_not (re_var (pv 4))) (re_one (re_cmp (op2_eq (units64 hr)) (rq_ex (re_callIo G_law_roll hr hgd rfl (rh_hole (pv 0) (rh_cons re_int rh_nil)) (hlim_hole (nohole_cons nohole_nil)))) (rq_ex re_int) (nomark _)))))
  (qs_cons (qs_set (i := 13) sc_law_right.nd rfl (Or.inr rfl) (re_if (rt_q (rq_sl (pv 5)) (by intro _; rfl)) (re_callIo G_law_roll hr hgd rfl (rh_hole (pv 0) (rh_cons re_int rh_nil)) (hlim_hole (nohole_cons nohole_nil))) (re_var (pv 13))))
  (qs_cons (qs_par (i := 6) (j := 7) rfl sc_law_right.nd rfl rfl (by decide) rfl rfl (re_tup (ra_cons (re_bin op2_add (rq_ex re_str) (rq_ex (re_cb1 (cal_repr hgd (units64 hr)) rfl T.repr (rq_sl (pv 11))))) (ra_cons (re_var (pv 1)) ra_nil)) (lim_cons (lim_cons lim_nil))) (re_tup (ra_cons (re_bin op2_add (rq_ex re_str) (rq_ex (re_cb1 (cal_repr hgd (units64 hr)) rfl T.repr (rq_sl (pv 14))))) (ra_cons (re_var (pv 2)) ra_nil)) (lim_cons (lim_cons lim_nil))) (by rfl))
  (qs_cons (qs_set (i := 8) sc_law_right.nd rfl (Or.inl rfl) (re_lst (ra_cons (re_met (k := 7) M_met LK rfl rfl (hr.mono (by decide)) hgd rfl (LamX.lamS_by (sc := defScope s_law_right) (by decide +kernel)) rfl (fun _ _ _ _ _ => rfl) (fun A outer s H E _ _ hr hgd => (re_call G_digits_of hr hgd rfl (ra_cons (re_var (pv 11)) (ra_cons (re_var (pv 14)) ra_nil)) (lim_cons (lim_cons lim_nil))))) ra_nil) (lim_cons lim_nil)))
  (qs_cons (qs_expr (re_mut PySem.F.plainAttrs_list PySem.F.slot_list_append PySem.F.type_list_append mut_append (pv 8) (ra_cons (re_met (k := 7) M_met LK rfl rfl (hr.mono (by decide)) hgd rfl (LamX.lamS_by (sc := defScope s_law_right) (by decide +kernel)) rfl (fun _ _ _ _ _ => rfl) (fun A outer s H E _ _ hr hgd => (re_call G_digit_sum hr hgd rfl (ra_cons (re_var (pv 11)) (ra_cons (re_var (pv 14)) ra_nil)) (lim_cons (lim_cons lim_nil))))) ra_nil)))
  (qs_cons (qs_expr (re_mut PySem.F.plainAttrs_list PySem.F.slot_list_append PySem.F.type_list_append mut_append (pv 8) (ra_cons (re_met (k := 7) M_met LK rfl rfl (hr.mono (by decide)) hgd rfl (LamX.lamS_by (sc := defScope s_law_right) (by decide +kernel)) rfl (fun _ _ _ _ _ => rfl) (fun A outer s H E _ _ hr hgd => (re_call G_ends_with hr hgd rfl (ra_cons (re_var (pv 11)) (ra_cons (re_var (pv 14)) ra_nil)) (lim_cons (lim_cons lim_nil))))) ra_nil)))
  (qs_cons (qs_expr (re_mut PySem.F.plainAttrs_list PySem.F.slot_list_append PySem.F.type_list_append mut_append (pv 8) (ra_cons (re_met (k := 7) M_met LK rfl rfl (hr.mono (by decide)) hgd rfl (LamX.lamS_by (sc := defScope s_law_right) (by decide +kernel)) rfl (fun _ _ _ _ _ => rfl) (fun A outer s H E _ _ hr hgd => (re_call G_place_of hr hgd rfl (ra_cons (re_var (pv 11)) (ra_cons (re_var (pv 12)) ra_nil)) (lim_cons (lim_cons lim_nil))))) ra_nil)))
  (qs_cons (qs_expr (re_mut PySem.F.plainAttrs_list PySem.F.slot_list_append PySem.F.type_list_append mut_append (pv 8) (ra_cons (re_met (k := 7) M_met LK rfl rfl (hr.mono (by decide)) hgd rfl (LamX.lamS_by (sc := defScope s_law_right) (by decide +kernel)) rfl (fun _ _ _ _ _ => rfl) (fun A outer s H E _ _ hr hgd => (re_call G_digits_wide hr hgd rfl (ra_cons (re_var (pv 11)) (ra_cons (re_var (pv 14)) (ra_cons (re_var (pv 13)) ra_nil))) (lim_cons (lim_cons (lim_cons lim_nil)))))) ra_nil)))
  (qs_cons (qs_set (i := 9) sc_law_right.nd rfl (Or.inl rfl) (re_lst (ra_cons (re_tup (ra_cons (re_bin op2_add (rq_ex re_str) (rq_ex (re_cb1 (cal_repr hgd (units64 hr)) rfl T.repr (rq_sl (pv 13))))) (ra_cons (re_var (pv 4)) ra_nil)) (lim_cons (lim_cons lim_nil))) (ra_cons (re_tup (ra_cons re_str (ra_cons (re_var (pv 5)) ra_nil)) (lim_cons (lim_cons lim_nil))) ra_nil)) (lim_cons (lim_cons lim_nil))))
  (qs_cons (qs_set (i := 10) sc_law_right.nd rfl (Or.inl rfl) (re_bin op2_add (rq_ex (re_bin op2_mulA (rq_ex (re_lst (ra_cons (re_call G_law_first hr hgd rfl (ra_cons (re_lst (ra_cons (re_var (pv 6)) (ra_cons (re_var (pv 7)) ra_nil)) (lim_cons (lim_cons lim_nil))) ra_nil) (lim_cons lim_nil)) ra_nil) (lim_cons lim_nil))) (rq_ex re_int))) (rq_ex (re_lst (ra_cons (re_call G_law_first hr hgd rfl (ra_cons (re_lst (ra_cons (re_var (pv 6)) (ra_cons (re_tup (ra_cons re_str (ra_cons (re_var (pv 3)) ra_nil)) (lim_cons (lim_cons lim_nil))) ra_nil)) (lim_cons (lim_cons lim_nil))) ra_nil) (lim_cons lim_nil)) ra_nil) (lim_cons lim_nil)))))
  (qs_one (qs_ret (re_cmp (op2_eq (units64 hr)) (rq_sl (pv 8)) (rq_ex (re_bin op2_add (rq_sl (pv 10)) (rq_ex (re_lst (ra_cons (re_call G_law_first hr hgd rfl (ra_cons (re_bin op2_add (rq_ex (re_lst (ra_cons (re_var (pv 6)) (ra_cons (re_var (pv 7)) ra_nil)) (lim_cons (lim_cons lim_nil)))) (rq_sl (pv 9))) ra_nil) (lim_cons lim_nil)) ra_nil) (lim_cons lim_nil))))) (nomark _)))))))))))))))))))
theorem ok_law {fd : FuncData} (F : FunD K "law" "law" (defArgs s_law) (defBody s_law) (defScope s_law) [] [] (He.ga K "law") fd) (T : Fre mg)   (M_met : MetOk K mg "_law_met" met_es met_l met_d) {cc ct : Addr} (LK : LamK P w K mg base "law" cc ct) (G_law_dice : FnM P w K mg base 1 "_law_dice" ["script", "spot"] none m_law_dice) (G_law_right : FnM P w K mg base 10 "_law_right" ["dice"] (some 0) m_law_right) (G_digits_wide : FnM P w K mg base 6 "digits_wide" ["base", "place", "many"] none m_digits_wide) : FnG P w K mg base 13 (He.ga K "law") fd ["script"] (spM P w K 1 none m_law) :=
  fnG_lawL (N := ["script", "spot", "dice", "turn"]) (body := b_law) F sc_law LK.co (fun A outer s H E hr hgd => (qs_cons (qs_for rfl (ri_range1 rfl T.range (ra_cons (re_cb2 (cal_max2 rfl) rfl T.max (rq_ex re_int) (rq_ex (re_cb2 (cal_min2 rfl) rfl T.min (rq_ex re_int) (rq_ex (re_cb1 cal_len rfl T.len (rq_sl (pv 0))))))) ra_nil)) (rg_nm (i := 1) sc_law.nd rfl (Or.inl rfl))
  (qs_cons (qs_set (i := 2) sc_law.nd rfl (Or.inl rfl) (re_call G_law_dice hr hgd rfl (ra_cons (re_var (pv 0)) (ra_cons (re_var (pv 1)) ra_nil)) (lim_cons (lim_cons lim_nil))))
  (qs_one (qs_for rfl (ri_range1 rfl T.range (ra_cons re_int ra_nil)) (rg_nm (i := 3) sc_law.nd rfl (Or.inl rfl))
  (qs_one (qs_if (rt_not (rt_q (rq_ex (re_callIo G_law_right hr hgd rfl (rh_hole (pv 2) rh_nil) (hlim_hole nohole_nil))) (by intro _; rfl))) (qs_one (qs_ret re_bl)) qs_nil))))))
  (qs_one (qs_ret (re_and (re_cmp (op2_eq (units64 hr)) (rq_ex (re_met (k := 10) M_met LK rfl rfl (hr.mono (by decide)) hgd rfl (LamX.lamS_by (sc := defScope s_law) (by decide +kernel)) rfl (fun _ _ _ _ _ => rfl) (fun A outer s H E _ _ hr hgd => (re_call G_digits_wide hr hgd rfl (ra_cons re_int (ra_cons (re_bin op2_powI (rq_ex re_int) (rq_ex re_int)) (ra_cons re_int ra_nil))) (lim_cons (lim_cons (lim_cons lim_nil))))))) (rq_ex re_str) (nomark _)) (re_one (re_cmp (op2_eq (units64 hr)) (rq_ex (re_at (units64 hr) (rq_ex (re_call G_digits_wide hr hgd rfl (ra_cons re_int (ra_cons (re_bin op2_powI (rq_ex re_int) (rq_ex re_int)) (ra_cons re_int ra_nil))) (lim_cons (lim_cons (lim_cons lim_nil))))) (rq_ex re_int))) (rq_ex re_int) (nomark _))))))))
end
end Pf

set_option Elab.async false
set_option linter.all false
set_option maxRecDepth 100000
set_option maxHeartbeats 1000000
/-! what the laws share: dice, picks, one of right and wrong, the law's turns -/
namespace Mi
open PySem PySem.Spec PyProof.Rows L2 My
def bDice : FS := (sSeq (sSet 2 (eIf (tB (e2 ltM (.sl 1) (.ex (e1 lenM (.sl 0))))) (e1 intM (.ex (e2 atM (.sl 0) (.sl 1)))) (e2 addM (.ex (e2 mulA (.ex (eC (.int 149))) (.sl 1))) (.ex (eC (.int 53))))))
  (sSeq (sSet 3 (e2 modI (.ex (e1 intM (.ex (e1 absM (.sl 2))))) (.ex (e2 powI (.ex (e2 powI (.ex (eC (.int 10))) (.ex (eC (.int 54))))) (.ex (eC (.int 6)))))))
  (sSeq (sSet 4 (e2 addM (.ex (e2 addM (.ex (e2 addM (.ex (e2 mulA (.ex (e2 modI (.sl 3) (.ex (eC (.int 2305843009213693921))))) (.ex (eC (.int 67))))) (.ex (e2 mulA (.ex (eC (.int 743))) (.sl 1))))) (.ex (e2 mulA (.ex (eC (.int 37))) (.ex (e1 intM (.ex (e2 ltM (.sl 2) (.ex (eC (.int 0))))))))))) (.ex (eC (.int 29)))))
  (sRet (eLst (aCons (e2 maxII (.ex (eC (.int 0))) (.ex (e2 subI (.sl 3) (.ex (e2 powI (.ex (eC (.int 10))) (.ex (eC (.int 16)))))))) (aCons (eVar 4) (aCons (eC (.int 0)) aNil))))))))
def mDice : List MV → RF := runM none 5 bDice
def bRoll : FS := (sSeq (sIf (tB (e2 gtI (.ex (e2 atM (.sl 0) (.ex (eC (.int 0))))) (.ex (eC (.int 0)))))
  (sSeq (sSet 2 (e2 modI (.ex (e2 atM (.sl 0) (.ex (eC (.int 0))))) (.sl 1)))
  (sSeq (sSt 0 (.ex (eC (.int 0))) (e2 divI (.ex (e2 atM (.sl 0) (.ex (eC (.int 0))))) (.sl 1)))
  (sRet (e1 intM (.sl 2)))))
  sNil)
  (sSeq (sSt 0 (.ex (eC (.int 2))) (e2 addM (.ex (e2 atM (.sl 0) (.ex (eC (.int 2))))) (.ex (eC (.int 1)))))
  (sSeq (sSet 3 (e2 modI (.ex (e2 addM (.ex (e2 atM (.sl 0) (.ex (eC (.int 1))))) (.ex (e2 mulA (.ex (eC (.int 86028157))) (.ex (e2 atM (.sl 0) (.ex (eC (.int 2))))))))) (.ex (eC (.int 2305843009213693951)))))
  (sSeq (sSet 4 (e2 addM (.ex (e2 mulA (.ex (e2 modI (.ex (e2 addM (.ex (e2 mulA (.sl 3) (.sl 3))) (.ex (e2 mulA (.ex (eC (.int 179))) (.ex (e2 atM (.sl 0) (.ex (eC (.int 2))))))))) (.ex (eC (.int 2305843009213693907))))) (.ex (eC (.int 15485867))))) (.sl 3)))
  (sRet (e2 modI (.ex (e1 intM (.ex (e2 divI (.sl 4) (.ex (eC (.int 65579))))))) (.sl 1)))))))
def mRoll : List MV → RF := runM (some 0) 5 bRoll
def bPick : FS := (sRet (e2 atM (.sl 1) (.ex (eCallIo mRoll 0 (hHole 0 (hCons (e1 lenM (.sl 1)) hNil))))))
def mPick : List MV → RF := runM (some 0) 2 bPick
def bOne : FS := (sSeq (sIf (tB (e2 gtI (.ex (eCallIo mRoll 0 (hHole 0 (hCons (eC (.int 3)) hNil)))) (.ex (eC (.int 0)))))
  (sRet (eTup (aCons (eVar 1) (aCons (eC (.bl false)) aNil))))
  sNil)
  (sRet (eTup (aCons (eCallIo mPick 0 (hHole 0 (hCons (eVar 2) hNil))) (aCons (eC (.bl true)) aNil)))))
def mOne : List MV → RF := runM (some 0) 3 bOne
def bFirst : FS := (sSeq (sSet 1 (eComp (.tp [(.nm 2), (.nm 3)]) (fSeq (.ex (eVar 0))) (tQ (.sl 3)) (eVar 2) [2, 3]))
  (sRet (eIf (tB (e2 neM (.sl 1) (.ex (eLst aNil)))) (e2 atM (.sl 1) (.ex (eC (.int 0)))) (eC (.str "none")))))
def mFirst : List MV → RF := runM none 4 bFirst
theorem roll_ok {N : Nat} {d : MV} {n : Int} (hd : Dice N d) (hN : N < 2 ^ 64) (hn : 0 < n) (hl : n.natAbs.log2 < 9000) : ∃ r d', mRoll [d, .int n] = .rt (vI r) (some d') ∧ 0 ≤ r ∧ r < n ∧ Dice (N + 1) d' := by
  obtain ⟨a, b, c, rfl, hc⟩ := hd
  by_cases ha : 0 < a
  · refine ⟨a % n, .lst [.int (a / n), .int b, .int c], ?_, Int.emod_nonneg _ (by omega), Int.emod_lt_of_pos _ hn, a / n, b, c, rfl, by omega⟩
    simp [Mi.runM, Mi.finM, Mi.outG, Mi.initG, Mi.sSeq, Mi.sSet, Mi.sIf, Mi.sRet, Mi.sRetV, Mi.sRetN, Mi.sExpr, Mi.sNil, Mi.sPar, Mi.sPar3, Mi.put2, Mi.put3, Mi.sAug, Mi.sSt, Mi.sAsg, Mi.asgM, Mi.asgMs, Mi.sFor, Mi.sWhile, Mi.fSeq, Mi.seqM, Mi.fArgs, Mi.fEnum, Mi.fZip, Mi.walkable, Mi.sLend, Mi.sBreak, Mi.sCont, Mi.e1, Mi.e2, Mi.eC, Mi.eVar, Mi.eTup, Mi.eLst, Mi.aNil, Mi.aCons, Mi.eIf, Mi.eAn, Mi.eOr, Mi.eNt, Mi.eNew, Mi.eCall, Mi.eMeth, Mi.eProp, Mi.eMk, Mi.eMut, Mi.ePur, Mi.tB, Mi.tQ, Mi.tNt, Mi.tAn, Mi.tOrr, Mi.oEv, Mi.oGet, Mi.canSet, Mi.hasC, Mi.Kd.mine, Mi.isTy, Mi.isTyB, Mi.tbF, Mi.hNil, Mi.hCons, Mi.hHole, Mi.eCallIo, Mi.aStar, Mi.rowM, Mi.eTupD, Mi.addM, Mi.ltM, Mi.mulM, Mi.addI, Mi.subI, Mi.mulI, Mi.divI, Mi.modI, Mi.powI, Mi.ltI, Mi.leI, Mi.gtI, Mi.geI, Mi.iiM, Mi.negI, Mi.addS, Mi.addT, Mi.addL, Mi.ltT, Mi.repT, Mi.eqM_ii, Mi.neM_ii, Mi.eqM_tt, Mi.neM_tt, Mi.eqM_ll, Mi.neM_ll, Mi.isN, Mi.notN, Mi.nonB, Mi.inM, Mi.inDt, Mi.inS, Mi.inL, Mi.lenM, Mi.lenS, Mi.lenT, Mi.lenD, Mi.absM, Mi.maxII, Mi.minII, Mi.intM, Mi.boolM, Mi.intsM, Mi.blsM, Mi.sumM, Mi.allM, Mi.anyM, Mi.maxM, Mi.minM, Mi.sortM, Mi.tupM, Mi.lstM, Mi.listM, Mi.lstD, Mi.atM, Mi.ixM, atI, ixN, Mi.stM, Mi.truM, Mi.appM, Mi.popM, Mi.slLo, Mi.slHi, Mi.slM, Mi.revM, Mi.atrM, Mi.cutM, mulA, mulM, repL, mRoll, bRoll, ha, hn, CDivW, hl]
  · have h1 : CMulW 86028157 ((c : Int) + 1) := by
      unfold CMulW
      have := log2_le (n := ((c : Int) + 1).natAbs) (k := 65) (by omega) (by omega)
      have e : (86028157 : Int).natAbs.log2 = 26 := by decide +kernel
      omega
    have h2 : CMulW 179 ((c : Int) + 1) := by
      unfold CMulW
      have := log2_le (n := ((c : Int) + 1).natAbs) (k := 65) (by omega) (by omega)
      have e : (179 : Int).natAbs.log2 = 7 := by decide +kernel
      omega
    have h3 : ∀ x : Int, 0 ≤ x → x < 2305843009213693951 → CMulW x x := fun x h h' => by
      unfold CMulW
      have := log2_le (n := x.natAbs) (k := 61) (by omega) (by omega)
      omega
    have h4 : ∀ x : Int, 0 ≤ x → x < 2305843009213693951 → CMulW x 15485867 := fun x h h' => by
      unfold CMulW
      have := log2_le (n := x.natAbs) (k := 61) (by omega) (by omega)
      have e : (15485867 : Int).natAbs.log2 = 23 := by decide +kernel
      omega
    have g1 : ∀ x : Int, 0 ≤ x % 2305843009213693951 ∧ x % 2305843009213693951 < 2305843009213693951 := fun x => ⟨Int.emod_nonneg _ (by decide), Int.emod_lt_of_pos _ (by decide)⟩
    have g2 : ∀ x : Int, 0 ≤ x % 2305843009213693907 ∧ x % 2305843009213693907 < 2305843009213693951 := fun x => ⟨Int.emod_nonneg _ (by decide), by have := Int.emod_lt_of_pos x (b := 2305843009213693907) (by decide); omega⟩
    have h5 : ∀ x : Int, CDivW x 65579 := fun x => by
      unfold CDivW
      decide +kernel
    have h6 : CMulW ((b + 86028157 * ((c : Int) + 1)) % 2305843009213693951) ((b + 86028157 * ((c : Int) + 1)) % 2305843009213693951) := h3 _ (g1 _).1 (g1 _).2
    refine ⟨_, .lst [.int a, .int b, .int ((c : Int) + 1)], (?_ : _ = RF.rt (vI ((((((b + 86028157 * ((c : Int) + 1)) % 2305843009213693951) * ((b + 86028157 * ((c : Int) + 1)) % 2305843009213693951) + 179 * ((c : Int) + 1)) % 2305843009213693907 * 15485867 + (b + 86028157 * ((c : Int) + 1)) % 2305843009213693951) / 65579) % n)) _), Int.emod_nonneg _ (by omega), Int.emod_lt_of_pos _ hn, a, b, c + 1, rfl, by omega⟩
    have h7 := h4 _ (g2 (((b + 86028157 * ((c : Int) + 1)) % 2305843009213693951) * ((b + 86028157 * ((c : Int) + 1)) % 2305843009213693951) + 179 * ((c : Int) + 1))).1 (g2 _).2
    simp [Mi.runM, Mi.finM, Mi.outG, Mi.initG, Mi.sSeq, Mi.sSet, Mi.sIf, Mi.sRet, Mi.sRetV, Mi.sRetN, Mi.sExpr, Mi.sNil, Mi.sPar, Mi.sPar3, Mi.put2, Mi.put3, Mi.sAug, Mi.sSt, Mi.sAsg, Mi.asgM, Mi.asgMs, Mi.sFor, Mi.sWhile, Mi.fSeq, Mi.seqM, Mi.fArgs, Mi.fEnum, Mi.fZip, Mi.walkable, Mi.sLend, Mi.sBreak, Mi.sCont, Mi.e1, Mi.e2, Mi.eC, Mi.eVar, Mi.eTup, Mi.eLst, Mi.aNil, Mi.aCons, Mi.eIf, Mi.eAn, Mi.eOr, Mi.eNt, Mi.eNew, Mi.eCall, Mi.eMeth, Mi.eProp, Mi.eMk, Mi.eMut, Mi.ePur, Mi.tB, Mi.tQ, Mi.tNt, Mi.tAn, Mi.tOrr, Mi.oEv, Mi.oGet, Mi.canSet, Mi.hasC, Mi.Kd.mine, Mi.isTy, Mi.isTyB, Mi.tbF, Mi.hNil, Mi.hCons, Mi.hHole, Mi.eCallIo, Mi.aStar, Mi.rowM, Mi.eTupD, Mi.addM, Mi.ltM, Mi.mulM, Mi.addI, Mi.subI, Mi.mulI, Mi.divI, Mi.modI, Mi.powI, Mi.ltI, Mi.leI, Mi.gtI, Mi.geI, Mi.iiM, Mi.negI, Mi.addS, Mi.addT, Mi.addL, Mi.ltT, Mi.repT, Mi.eqM_ii, Mi.neM_ii, Mi.eqM_tt, Mi.neM_tt, Mi.eqM_ll, Mi.neM_ll, Mi.isN, Mi.notN, Mi.nonB, Mi.inM, Mi.inDt, Mi.inS, Mi.inL, Mi.lenM, Mi.lenS, Mi.lenT, Mi.lenD, Mi.absM, Mi.maxII, Mi.minII, Mi.intM, Mi.boolM, Mi.intsM, Mi.blsM, Mi.sumM, Mi.allM, Mi.anyM, Mi.maxM, Mi.minM, Mi.sortM, Mi.tupM, Mi.lstM, Mi.listM, Mi.lstD, Mi.atM, Mi.ixM, atI, ixN, Mi.stM, Mi.truM, Mi.appM, Mi.popM, Mi.slLo, Mi.slHi, Mi.slM, Mi.revM, Mi.atrM, Mi.cutM, mulA, mulM, repL, mRoll, bRoll, ha, hn, hl, h1, h2, h6, h7, h5]
theorem dice_ok (ns : List Int) (k : Nat) (hl : ns.length ≤ 63) (hk : k ≤ 63) : ∃ d, mDice [.lst (ns.map .int), .int k] = .rt ⟨.own, d⟩ none ∧ Dice 0 d := by
  have h1 : CPowW 10 54 := by decide +kernel
  have h2 : CPowW 1000000000000000000000000000000000000000000000000000000 6 := by decide +kernel
  have h3 : CPowW 10 16 := by decide +kernel
  have hm : CMulW 743 (k : Int) := by
    unfold CMulW
    have := log2_le (n := ((k : Int)).natAbs) (k := 65) (by omega) (by omega)
    have e : (743 : Int).natAbs.log2 = 9 := by decide +kernel
    omega
  have hm1 : CMulW 149 (k : Int) := by
    unfold CMulW
    have := log2_le (n := ((k : Int)).natAbs) (k := 65) (by omega) (by omega)
    have e : (149 : Int).natAbs.log2 = 7 := by decide +kernel
    omega
  have hm2 : ∀ y : Int, CMulW (y % 2305843009213693921) 67 := fun y => by
    unfold CMulW
    have := Int.emod_nonneg y (b := 2305843009213693921) (by decide)
    have := Int.emod_lt_of_pos y (b := 2305843009213693921) (by decide)
    have := log2_le (n := (y % 2305843009213693921).natAbs) (k := 61) (by omega) (by omega)
    have e : (67 : Int).natAbs.log2 = 6 := by decide +kernel
    omega
  have hm3 : ∀ b : Bool, CMulW 37 (if b = true then 1 else 0) := fun b => by cases b <;> decide +kernel
  have hm4 : ∀ x : Int, CMulW 37 (if x < 0 then 1 else 0) := fun x => by split <;> decide +kernel
  have hp : (0 : Int) < (10 ^ 54) ^ 6 := by decide +kernel
  have key : ∃ a b : Int, mDice [.lst (ns.map .int), .int k] = .rt ⟨.own, .lst [.int a, .int b, .int 0]⟩ none := by
    by_cases hlt : k < ns.length
    · simp [Mi.runM, Mi.finM, Mi.outG, Mi.initG, Mi.sSeq, Mi.sSet, Mi.sIf, Mi.sRet, Mi.sRetV, Mi.sRetN, Mi.sExpr, Mi.sNil, Mi.sPar, Mi.sPar3, Mi.put2, Mi.put3, Mi.sAug, Mi.sSt, Mi.sAsg, Mi.asgM, Mi.asgMs, Mi.sFor, Mi.sWhile, Mi.fSeq, Mi.seqM, Mi.fArgs, Mi.fEnum, Mi.fZip, Mi.walkable, Mi.sLend, Mi.sBreak, Mi.sCont, Mi.e1, Mi.e2, Mi.eC, Mi.eVar, Mi.eTup, Mi.eLst, Mi.aNil, Mi.aCons, Mi.eIf, Mi.eAn, Mi.eOr, Mi.eNt, Mi.eNew, Mi.eCall, Mi.eMeth, Mi.eProp, Mi.eMk, Mi.eMut, Mi.ePur, Mi.tB, Mi.tQ, Mi.tNt, Mi.tAn, Mi.tOrr, Mi.oEv, Mi.oGet, Mi.canSet, Mi.hasC, Mi.Kd.mine, Mi.isTy, Mi.isTyB, Mi.tbF, Mi.hNil, Mi.hCons, Mi.hHole, Mi.eCallIo, Mi.aStar, Mi.rowM, Mi.eTupD, Mi.addM, Mi.ltM, Mi.mulM, Mi.addI, Mi.subI, Mi.mulI, Mi.divI, Mi.modI, Mi.powI, Mi.ltI, Mi.leI, Mi.gtI, Mi.geI, Mi.iiM, Mi.negI, Mi.addS, Mi.addT, Mi.addL, Mi.ltT, Mi.repT, Mi.eqM_ii, Mi.neM_ii, Mi.eqM_tt, Mi.neM_tt, Mi.eqM_ll, Mi.neM_ll, Mi.isN, Mi.notN, Mi.nonB, Mi.inM, Mi.inDt, Mi.inS, Mi.inL, Mi.lenM, Mi.lenS, Mi.lenT, Mi.lenD, Mi.absM, Mi.maxII, Mi.minII, Mi.intM, Mi.boolM, Mi.intsM, Mi.blsM, Mi.sumM, Mi.allM, Mi.anyM, Mi.maxM, Mi.minM, Mi.sortM, Mi.tupM, Mi.lstM, Mi.listM, Mi.lstD, Mi.atM, Mi.ixM, atI, ixN, Mi.stM, Mi.truM, Mi.appM, Mi.popM, Mi.slLo, Mi.slHi, Mi.slM, Mi.revM, Mi.atrM, Mi.cutM, mulA, mulM, repL, mDice, bDice, hlt, h1, h2, h3, hm, hm2, hm3, hm4, hp]
    · simp [Mi.runM, Mi.finM, Mi.outG, Mi.initG, Mi.sSeq, Mi.sSet, Mi.sIf, Mi.sRet, Mi.sRetV, Mi.sRetN, Mi.sExpr, Mi.sNil, Mi.sPar, Mi.sPar3, Mi.put2, Mi.put3, Mi.sAug, Mi.sSt, Mi.sAsg, Mi.asgM, Mi.asgMs, Mi.sFor, Mi.sWhile, Mi.fSeq, Mi.seqM, Mi.fArgs, Mi.fEnum, Mi.fZip, Mi.walkable, Mi.sLend, Mi.sBreak, Mi.sCont, Mi.e1, Mi.e2, Mi.eC, Mi.eVar, Mi.eTup, Mi.eLst, Mi.aNil, Mi.aCons, Mi.eIf, Mi.eAn, Mi.eOr, Mi.eNt, Mi.eNew, Mi.eCall, Mi.eMeth, Mi.eProp, Mi.eMk, Mi.eMut, Mi.ePur, Mi.tB, Mi.tQ, Mi.tNt, Mi.tAn, Mi.tOrr, Mi.oEv, Mi.oGet, Mi.canSet, Mi.hasC, Mi.Kd.mine, Mi.isTy, Mi.isTyB, Mi.tbF, Mi.hNil, Mi.hCons, Mi.hHole, Mi.eCallIo, Mi.aStar, Mi.rowM, Mi.eTupD, Mi.addM, Mi.ltM, Mi.mulM, Mi.addI, Mi.subI, Mi.mulI, Mi.divI, Mi.modI, Mi.powI, Mi.ltI, Mi.leI, Mi.gtI, Mi.geI, Mi.iiM, Mi.negI, Mi.addS, Mi.addT, Mi.addL, Mi.ltT, Mi.repT, Mi.eqM_ii, Mi.neM_ii, Mi.eqM_tt, Mi.neM_tt, Mi.eqM_ll, Mi.neM_ll, Mi.isN, Mi.notN, Mi.nonB, Mi.inM, Mi.inDt, Mi.inS, Mi.inL, Mi.lenM, Mi.lenS, Mi.lenT, Mi.lenD, Mi.absM, Mi.maxII, Mi.minII, Mi.intM, Mi.boolM, Mi.intsM, Mi.blsM, Mi.sumM, Mi.allM, Mi.anyM, Mi.maxM, Mi.minM, Mi.sortM, Mi.tupM, Mi.lstM, Mi.listM, Mi.lstD, Mi.atM, Mi.ixM, atI, ixN, Mi.stM, Mi.truM, Mi.appM, Mi.popM, Mi.slLo, Mi.slHi, Mi.slM, Mi.revM, Mi.atrM, Mi.cutM, mulA, mulM, repL, mDice, bDice, hlt, h1, h2, h3, hm, hm1, hm2, hm3, hm4, hp]
  obtain ⟨a, b, e⟩ := key
  exact ⟨_, e, a, b, 0, rfl, by omega⟩
theorem log2_small {n : Nat} (h : n < 2 ^ 60) : n.log2 < 9000 := by
  have := log2_le (n := n) (k := 60) h (by omega)
  omega
theorem pick_ok {N : Nat} {d : MV} {ms : List MV} (hd : Dice N d) (hN : N < 2 ^ 64) (h0 : 0 < ms.length) (h1 : ms.length < 1000) : ∃ m d', m ∈ ms ∧ mPick [d, .lst ms] = .rt ⟨.val, m⟩ (some d') ∧ Dice (N + 1) d' := by
  obtain ⟨r, d', e, r0, r1, hd'⟩ := roll_ok hd hN (n := (ms.length : Int)) (by omega) (log2_small (by simp; omega))
  obtain ⟨k, rfl⟩ : ∃ k : Nat, r = (k : Int) := ⟨r.toNat, by omega⟩
  have hk : k < ms.length := by omega
  refine ⟨ms[k], d', List.getElem_mem hk, ?_, hd'⟩
  have a1 : e1 lenM (.sl 1) [some ⟨.io, d⟩, some ⟨.val, .lst ms⟩] = .ok (vI ms.length) [some ⟨.io, d⟩, some ⟨.val, .lst ms⟩] := rfl
  have a2 : eCallIo mRoll 0 (hHole 0 (hCons (e1 lenM (.sl 1)) hNil)) [some ⟨.io, d⟩, some ⟨.val, .lst ms⟩] = .ok (vI (k : Int)) [some ⟨.io, d'⟩, some ⟨.val, .lst ms⟩] := by
    have e' : mRoll [d, (vI (ms.length : Int)).v] = .rt (vI (k : Int)) (some d') := e
    simp [eCallIo, hHole, hCons, hasC, hNil, a1, Kd.mine, e']
  have a3 : atM (.lst ms) (.int (k : Int)) = some ⟨.val, ms[k]⟩ := by
    have a0 : atI ms (k : Int) = some ms[k] := by rw [atI_nat, List.getElem?_eq_getElem hk]
    show ((atI ms (k : Int)).map fun v => (⟨.val, v⟩ : Cell)).or _ = _
    rw [a0]
    rfl
  have a4 : sRet (e2 atM (.sl 1) (.ex (eCallIo mRoll 0 (hHole 0 (hCons (e1 lenM (.sl 1)) hNil))))) [some ⟨.io, d⟩, some ⟨.val, .lst ms⟩] = .rt ⟨.val, ms[k]⟩ [some ⟨.io, d'⟩, some ⟨.val, .lst ms⟩] := by
    have a5 := e2_of (g := atM) (o := .sl 1) (q := .ex (eCallIo mRoll 0 (hHole 0 (hCons (e1 lenM (.sl 1)) hNil)))) (γ := [some ⟨.io, d⟩, some ⟨.val, .lst ms⟩]) rfl (oEv_ex a2) rfl rfl a3
    simp only [sRet, a5]
  show runM (some 0) 2 bPick [d, .lst ms] = _
  unfold runM
  have a6 : bPick (initG (some 0) 2 [d, .lst ms]) = .rt ⟨.val, ms[k]⟩ [some ⟨.io, d'⟩, some ⟨.val, .lst ms⟩] := a4
  rw [a6]
  rfl
/-- right and not wrong, or one of the wrong ones -/
def RoW (right : MV) (wrong : List MV) (v : MV) (b : Bool) : Prop := (b = false ∧ v = right) ∨ (b = true ∧ v ∈ wrong)
theorem one_ok {N : Nat} {d right : MV} {wrong : List MV} (hd : Dice N d) (hN : N + 1 < 2 ^ 64) (h0 : 0 < wrong.length) (h1 : wrong.length < 1000) : ∃ v b d', RoW right wrong v b ∧ mOne [d, right, .lst wrong] = .rt (vV (.tup [v, .bl b])) (some d') ∧ Dice (N + 2) d' := by
  obtain ⟨r, d1, e, r0, r1, hd1⟩ := roll_ok hd (by omega) (n := 3) (by omega) (by decide +kernel)
  have a1 : eCallIo mRoll 0 (hHole 0 (hCons (eC (.int 3)) hNil)) [some ⟨.io, d⟩, some ⟨.val, right⟩, some ⟨.val, .lst wrong⟩] = .ok (vI r) [some ⟨.io, d1⟩, some ⟨.val, right⟩, some ⟨.val, .lst wrong⟩] := by
    simp [eCallIo, hHole, hCons, hasC, hNil, eC, Kd.mine, e]
  by_cases hr : 0 < r
  · refine ⟨right, false, d1, .inl ⟨rfl, rfl⟩, ?_, hd1.mono (by omega)⟩
    have a2 : tB (e2 gtI (.ex (eCallIo mRoll 0 (hHole 0 (hCons (eC (.int 3)) hNil)))) (.ex (eC (.int 0)))) [some ⟨.io, d⟩, some ⟨.val, right⟩, some ⟨.val, .lst wrong⟩] = .ok true [some ⟨.io, d1⟩, some ⟨.val, right⟩, some ⟨.val, .lst wrong⟩] := by
      simp [tB, e2, oEv, oGet, a1, gtI, iiM, hr, eC]
    have a3 : bOne (initG (some 0) 3 [d, right, .lst wrong]) = .rt (vV (.tup [right, .bl false])) [some ⟨.io, d1⟩, some ⟨.val, right⟩, some ⟨.val, .lst wrong⟩] := by
      show sSeq (sIf _ _ _) _ [some ⟨.io, d⟩, some ⟨.val, right⟩, some ⟨.val, .lst wrong⟩] = _
      simp only [sSeq, sIf, a2]
      rfl
    show runM (some 0) 3 bOne [d, right, .lst wrong] = _
    unfold runM
    rw [a3]
    rfl
  · obtain ⟨m, d2, hm, e2', hd2⟩ := pick_ok hd1 (by omega) h0 h1
    refine ⟨m, true, d2, .inr ⟨rfl, hm⟩, ?_, hd2.mono (by omega)⟩
    have a2 : tB (e2 gtI (.ex (eCallIo mRoll 0 (hHole 0 (hCons (eC (.int 3)) hNil)))) (.ex (eC (.int 0)))) [some ⟨.io, d⟩, some ⟨.val, right⟩, some ⟨.val, .lst wrong⟩] = .ok false [some ⟨.io, d1⟩, some ⟨.val, right⟩, some ⟨.val, .lst wrong⟩] := by
      simp [tB, e2, oEv, oGet, a1, gtI, iiM, hr, eC]
    have a4 : eCallIo mPick 0 (hHole 0 (hCons (eVar 2) hNil)) [some ⟨.io, d1⟩, some ⟨.val, right⟩, some ⟨.val, .lst wrong⟩] = .ok ⟨.val, m⟩ [some ⟨.io, d2⟩, some ⟨.val, right⟩, some ⟨.val, .lst wrong⟩] := by
      simp [eCallIo, hHole, hCons, hasC, hNil, eVar, Kd.mine, e2']
    have a3 : bOne (initG (some 0) 3 [d, right, .lst wrong]) = .rt (vV (.tup [m, .bl true])) [some ⟨.io, d2⟩, some ⟨.val, right⟩, some ⟨.val, .lst wrong⟩] := by
      show sSeq (sIf _ _ _) (sRet (eTup (aCons (eCallIo mPick 0 (hHole 0 (hCons (eVar 2) hNil))) (aCons (eC (.bl true)) aNil)))) [some ⟨.io, d⟩, some ⟨.val, right⟩, some ⟨.val, .lst wrong⟩] = _
      simp only [sSeq, sIf, a2, sNil, sRet, eTup, aCons, a4]
      rfl
    show runM (some 0) 3 bOne [d, right, .lst wrong] = _
    unfold runM
    rw [a3]
    rfl
/-! ### the law's turns -/
def lg (s : MV) (x y z : Option Cell) (r : Sg) : Sg := some ⟨.val, s⟩ :: x :: y :: z :: r
def lTurn (right : List MV → RF) : FS := sIf (tNt (tQ (.ex (eCallIo right 2 (hHole 2 hNil))))) (sRet (eC (.bl false))) sNil
def lSpot (right : List MV → RF) (T : Int) : FS := sSeq (sSet 2 (eCall mDice (aCons (eVar 0) (aCons (eVar 1) aNil)))) (sFor (.nm 3) (fArgs rangeM1 (aCons (eC (.int T)) aNil)) (lTurn right))
def lLaw (right : List MV → RF) (M T : Int) (tail : FS) : FS := sSeq (sFor (.nm 1) (fArgs rangeM1 (aCons (e2 maxII (.ex (eC (.int 1))) (.ex (e2 minII (.ex (eC (.int M))) (.ex (e1 lenM (.sl 0)))))) aNil)) (lSpot right T)) tail
/-- a turn is right -/
def RightOk (right : List MV → RF) : Prop := ∀ N d, Dice N d → N + 1000 < 2 ^ 64 → ∃ d', right [d] = .rt (vB true) (some d') ∧ Dice (N + 100) d'
section
variable {right : List MV → RF} (hr : RightOk right)
include hr
theorem turn_ok {N : Nat} {d s : MV} {x z : Option Cell} {r : Sg} (hd : Dice N d) (hN : N + 1000 < 2 ^ 64) : ∃ d', lTurn right (lg s x (some ⟨.own, d⟩) z r) = .nx (lg s x (some ⟨.own, d'⟩) z r) ∧ Dice (N + 100) d' := by
  obtain ⟨d', h1, h2⟩ := hr N d hd hN
  refine ⟨d', ?_, h2⟩
  have h3 : eCallIo right 2 (hHole 2 hNil) (lg s x (some ⟨.own, d⟩) z r) = .ok (vB true) (lg s x (some ⟨.own, d'⟩) z r) := by
    simp only [eCallIo, hHole, hasC, hNil, lg, List.getElem?_cons_succ, List.getElem?_cons_zero, Kd.mine, if_true, List.map_cons, List.map_nil, Option.getD, h1, List.set_cons_zero, List.set_cons_succ]
  unfold lTurn
  simp only [sIf, tNt, tQ, oEv, oGet, h3, truM, sNil]
  rfl
theorem turns_ok {s : MV} {x : Option Cell} {r : Sg} : ∀ (ks : List Nat) (N : Nat) (d : MV) (z : Option Cell), Dice N d → N + 1000 + 100 * ks.length < 2 ^ 64 → (z = none ∨ ∃ m, z = some ⟨.val, m⟩) → ∃ d' z', (z' = none ∨ ∃ m, z' = some ⟨.val, m⟩) ∧ Mi.forM (.nm 3) (lTurn right) (ks.map iv) (lg s x (some ⟨.own, d⟩) z r) = .nx (lg s x (some ⟨.own, d'⟩) z' r)
  | [], N, d, z, _, _, hz => ⟨d, z, hz, rfl⟩
  | k :: ks, N, d, z, hd, hN, hz => by
    rw [List.length_cons] at hN
    obtain ⟨d1, h1, hd1⟩ := turn_ok hr (s := s) (x := x) (z := some ⟨.val, iv k⟩) (r := r) hd (by omega)
    obtain ⟨d2, z', hz', h2⟩ := turns_ok (s := s) (x := x) (r := r) ks (N + 100) d1 (some ⟨.val, iv k⟩) hd1 (by omega) (.inr ⟨_, rfl⟩)
    have h4 : asgM (.nm 3) (iv k) (lg s x (some ⟨.own, d⟩) z r) = some (lg s x (some ⟨.own, d⟩) (some ⟨.val, iv k⟩) r) := by
      rcases hz with rfl | ⟨d, rfl⟩ <;> rfl
    refine ⟨d2, z', hz', ?_⟩
    simp only [List.map_cons, Mi.forM, h4, h1, h2]
theorem spot_ok {T : Nat} (hT : T ≤ 1000) (ns : List Int) (k : Nat) {r : Sg} (hl : ns.length ≤ 63) (hk : k ≤ 63) {y z : Option Cell} (hy : y = none ∨ ∃ d, y = some ⟨.own, d⟩) (hz : z = none ∨ ∃ m, z = some ⟨.val, m⟩) :
    ∃ d' z', (z' = none ∨ ∃ m, z' = some ⟨.val, m⟩) ∧ lSpot right (T : Int) (lg (.lst (ns.map .int)) (some ⟨.val, iv k⟩) y z r) = .nx (lg (.lst (ns.map .int)) (some ⟨.val, iv k⟩) (some ⟨.own, d'⟩) z' r) := by
  obtain ⟨d, h1, hd⟩ := dice_ok ns k hl hk
  obtain ⟨d', z', hz', h2⟩ := turns_ok hr (s := .lst (ns.map .int)) (x := some ⟨.val, iv k⟩) (r := r) (List.range T) 0 d z hd (by rw [List.length_range]; omega) hz
  refine ⟨d', z', hz', ?_⟩
  have e1 : sSet 2 (eCall mDice (aCons (eVar 0) (aCons (eVar 1) aNil))) (lg (.lst (ns.map .int)) (some ⟨.val, iv k⟩) y z r) = .nx (lg (.lst (ns.map .int)) (some ⟨.val, iv k⟩) (some ⟨.own, d⟩) z r) := by
    have a1 : aCons (eVar 0) (aCons (eVar 1) aNil) (lg (.lst (ns.map .int)) (some ⟨.val, iv k⟩) y z r) = .ok [.lst (ns.map .int), .int k] (lg (.lst (ns.map .int)) (some ⟨.val, iv k⟩) y z r) := rfl
    have a2 := eCall_rt (g := mDice) a1 h1
    simp only [sSet, a2]
    rcases hy with rfl | ⟨d, rfl⟩ <;> rfl
  have e2 : fArgs rangeM1 (aCons (eC (.int (T : Int))) aNil) (lg (.lst (ns.map .int)) (some ⟨.val, iv k⟩) (some ⟨.own, d⟩) z r) = .ok ((List.range T).map iv) (lg (.lst (ns.map .int)) (some ⟨.val, iv k⟩) (some ⟨.own, d⟩) z r) :=
    fArgs_of (aCons_of (f := eC (.int (T : Int))) rfl rfl) (rangeM1_nat _ (lt62 (by omega)))
  exact (sSeq_go e1).trans (sFor_nx e2 h2)
theorem spots_ok {T : Nat} (hT : T ≤ 1000) (ns : List Int) {r : Sg} (hl : ns.length ≤ 63) : ∀ (ks : List Nat) (x y z : Option Cell), (∀ k ∈ ks, k ≤ 63) → (x = none ∨ ∃ m, x = some ⟨.val, m⟩) → (y = none ∨ ∃ d, y = some ⟨.own, d⟩) → (z = none ∨ ∃ m, z = some ⟨.val, m⟩) →
    ∃ x' y' z', Mi.forM (.nm 1) (lSpot right (T : Int)) (ks.map iv) (lg (.lst (ns.map .int)) x y z r) = .nx (lg (.lst (ns.map .int)) x' y' z' r)
  | [], x, y, z, _, hx, hy, hz => ⟨x, y, z, rfl⟩
  | k :: ks, x, y, z, h, hx, hy, hz => by
    obtain ⟨d', z1, hz1, h1⟩ := spot_ok hr hT ns k (r := r) hl (h k List.mem_cons_self) hy hz
    obtain ⟨x', y', z', h2⟩ := spots_ok hT ns (r := r) hl ks (some ⟨.val, iv k⟩) (some ⟨.own, d'⟩) z1 (fun q hq => h q (List.mem_cons_of_mem _ hq)) (.inr ⟨_, rfl⟩) (.inr ⟨_, rfl⟩) hz1
    have h4 : asgM (.nm 1) (iv k) (lg (.lst (ns.map .int)) x y z r) = some (lg (.lst (ns.map .int)) (some ⟨.val, iv k⟩) y z r) := by
      rcases hx with rfl | ⟨d, rfl⟩ <;> rfl
    refine ⟨x', y', z', ?_⟩
    simp only [List.map_cons, Mi.forM, h4, h1, h2]
/-- such a law holds -/
theorem law_shell {M T : Nat} {tail : FS} {n : Nat} (hM : M ≤ 60) (hT : T ≤ 1000) (ns : List Int) (hl : ns.length ≤ 63) (ht : ∀ x y z, finM none (tail (lg (.lst (ns.map .int)) x y z (List.replicate n none))) = .rt ⟨.val, .bl true⟩ none) :
    runM none (4 + n) (lLaw right (M : Int) (T : Int) tail) [.lst (ns.map .int)] = .rt ⟨.val, .bl true⟩ none := by
  obtain ⟨x, y, z, h⟩ := spots_ok hr hT ns (r := List.replicate n none) hl (List.range (max 1 (min M ns.length))) none none none (fun k hk => by
    have := List.mem_range.mp hk
    omega) (.inl rfl) (.inl rfl) (.inl rfl)
  have h0 : initG none (4 + n) [.lst (ns.map .int)] = lg (.lst (ns.map .int)) none none none (List.replicate n none) := by
    have e : 4 + n - 1 = n + 1 + 1 + 1 := by omega
    unfold initG lg
    simp [e, List.replicate_succ]
  have h1 : fArgs rangeM1 (aCons (e2 maxII (.ex (eC (.int 1))) (.ex (e2 minII (.ex (eC (.int (M : Int)))) (.ex (e1 lenM (.sl 0)))))) aNil) (lg (.lst (ns.map .int)) none none none (List.replicate n none)) = .ok ((List.range (max 1 (min M ns.length))).map iv) (lg (.lst (ns.map .int)) none none none (List.replicate n none)) :=
    spots_fi (m := M) (n := ns.length) (s := .lst (ns.map .int)) (by omega) (by rw [← List.length_map (as := ns) MV.int]; rfl) rfl rfl
  unfold runM lLaw
  rw [h0, sSeq_go (sFor_nx h1 h)]
  exact ht x y z
end
end Mi

set_option Elab.async false
set_option linter.all false
set_option maxRecDepth 100000
set_option maxHeartbeats 1000000
/-! laws about errors -/
namespace Mi
open PySem PySem.Spec PyProof.Rows L2 My
/-! ### single steps -/
section
variable {f g : FE} {t u : FT} {s s2 : FS} {γ γ1 γ2 : Sg} {c : Cell} {b : Bool} {o : Opd} {v : MV} {i : Nat}
theorem eAn_t (h : f γ = .ok (vB true) γ1) : eAn f g γ = g γ1 := by simp only [eAn, h, vB, vV]
theorem eAn_f (h : f γ = .ok (vB false) γ1) : eAn f g γ = .ok (vB false) γ1 := by simp only [eAn, h, vB, vV]
theorem eOr_f (h : f γ = .ok (vB false) γ1) : eOr f g γ = g γ1 := by simp only [eOr, h, vB, vV]
theorem eOr_t (h : f γ = .ok (vB true) γ1) : eOr f g γ = .ok (vB true) γ1 := by simp only [eOr, h, vB, vV]
theorem eNt_of (h : f γ = .ok (vB b) γ1) : eNt f γ = .ok (vB (!b)) γ1 := by simp only [eNt, h, vB, vV]
theorem eIf_t (h : t γ = .ok true γ1) : eIf t f g γ = f γ1 := by simp only [eIf, h]
theorem eIf_f (h : t γ = .ok false γ1) : eIf t f g γ = g γ1 := by simp only [eIf, h]
theorem sIf_t (h : t γ = .ok true γ1) : sIf t s s2 γ = s γ1 := by simp only [sIf, h]
theorem sIf_f (h : t γ = .ok false γ1) : sIf t s s2 γ = s2 γ1 := by simp only [sIf, h]
theorem tQ_of (h : oEv o γ = .ok c γ1) (k : oGet o c γ1 = some v) (ht : truM v = some b) : tQ o γ = .ok b γ1 := by simp only [tQ, h, k, ht]
theorem tBo (h : f γ = .ok (vB b) γ1) : tB f γ = .ok b γ1 := by simp only [tB, h, vB, vV]
theorem tNt_of (h : t γ = .ok b γ1) : tNt t γ = .ok (!b) γ1 := by simp only [tNt, h]
theorem tAn_t (h : t γ = .ok true γ1) : tAn t u γ = u γ1 := by simp only [tAn, h]
theorem tAn_f (h : t γ = .ok false γ1) : tAn t u γ = .ok false γ1 := by simp only [tAn, h]
theorem tOrr_f (h : t γ = .ok false γ1) : tOrr t u γ = u γ1 := by simp only [tOrr, h]
theorem tOrr_t (h : t γ = .ok true γ1) : tOrr t u γ = .ok true γ1 := by simp only [tOrr, h]
theorem sSet_of (h : f γ = .ok c γ1) (hc : canSet γ1 i = true) : sSet i f γ = .nx (γ1.set i (some c)) := by simp only [sSet, h, if_pos hc]
/-- xs.append(e), xs one's own list in slot i -/
theorem app_of {xs : List MV} {γ2 : Sg} (h : f γ = .ok c γ1) (h0 : γ[i]? = some (some ⟨.own, .lst xs⟩)) (h1 : γ1[i]? = some (some ⟨.own, .lst xs⟩)) (hl : appM (.lst xs) [c.v] = some (.lst (xs ++ [c.v]), .non)) (hs : γ1.set i (some ⟨.own, .lst (xs ++ [c.v])⟩) = γ2) :
    sExpr (eMut "list" appM i (aCons f aNil)) γ = .nx γ2 := by
  have a : aCons f aNil γ = .ok [c.v] γ1 := aCons_of h rfl
  have e : isTy "list" (.lst xs) = true := rfl
  simp only [sExpr, eMut, h0, e, if_true, a, h1, Kd.mine, hl, hs]
end
/-! ### texts -/
theorem shM_strs (l : List Str) (h : ∀ s ∈ l, PyData.strOk s = true) : shM (.lst (l.map MV.str)) = some (.list (l.map .str)) := by
  have e1 : datsM (l.map MV.str) = some (l.map PyData.str) := by
    clear h
    induction l with
    | nil => rfl
    | cons n ns ih => simp only [List.map_cons, datsM, datM, Option.bind_some, ih, Option.map_some]
  have e2 : PyData.canLayAll0 (l.map PyData.str) = true := by
    clear e1
    induction l with
    | nil => rfl
    | cons n ns ih =>
      have h1 := h n List.mem_cons_self
      simp only [List.map_cons, PyData.canLayAll0, PyData.canLay0, h1, ih fun s hs => h s (List.mem_cons_of_mem _ hs), Bool.and_self]
  have e3 : PyData.depthAll (l.map PyData.str) ≤ 1 := by
    clear e1 e2 h
    induction l with
    | nil => simp [PyData.depthAll]
    | cons n ns ih => simp only [List.map_cons, PyData.depthAll, PyData.depth]; omega
  simp only [shM, datM, e1, Option.map_some, Option.bind_some, SeqAt.shaped, PyData.canLay0, e2, PyData.depth, Bool.true_and]
  exact if_pos (decide_eq_true (by omega))
theorem eqv_strs : ∀ l m : List Str, PyData.eqvAll (l.map PyData.str) (m.map PyData.str) = decide (l = m)
  | [], [] => rfl
  | [], m :: ms => by simp [PyData.eqvAll]
  | n :: ns, [] => by simp [PyData.eqvAll]
  | n :: ns, m :: ms => by
    simp only [List.map_cons, PyData.eqvAll, PyData.eqv, eqv_strs ns ms]
    by_cases h : n = m <;> by_cases h2 : ns = ms <;> simp [h, h2]
theorem eqM_strs (l m : List Str) (h : ∀ s ∈ l, PyData.strOk s = true) (h2 : ∀ s ∈ m, PyData.strOk s = true) : eqM (.lst (l.map MV.str)) (.lst (m.map MV.str)) = some (vB (decide (l = m))) := by
  simp only [eqM, shM_strs l h, shM_strs m h2, Option.bind_some, Option.map_some, PyData.eqv, eqv_strs]
theorem neM_strs (l m : List Str) (h : ∀ s ∈ l, PyData.strOk s = true) (h2 : ∀ s ∈ m, PyData.strOk s = true) : neM (.lst (l.map MV.str)) (.lst (m.map MV.str)) = some (vB (!decide (l = m))) := by
  simp only [neM, shM_strs l h, shM_strs m h2, Option.bind_some, Option.map_some, PyData.eqv, eqv_strs]
/-! ### the first that is wrong -/
def rowS (q : Str × Bool) : MV := .tup [.str q.1, .bl q.2]
def firstS (l : List (Str × Bool)) : Str := match l.filter (·.2) with
  | [] => "none"
  | q :: _ => q.1
theorem firstS_ok {l : List (Str × Bool)} (h : ∀ q ∈ l, PyData.strOk q.1 = true) : PyData.strOk (firstS l) = true := by
  unfold firstS
  split
  · decide +kernel
  · rename_i q r e
    have m : q ∈ l.filter (·.2) := by rw [e]; exact List.mem_cons_self
    exact h q (List.mem_filter.mp m).1
theorem first_ok (l : List (Str × Bool)) (h : ∀ q ∈ l, PyData.strOk q.1 = true) (hl : l.length ≤ 5000) : mFirst [.lst (l.map rowS)] = .rt (vV (.str (firstS l))) none := by
  have a1 : eComp (.tp [(.nm 2), (.nm 3)]) (fSeq (.ex (eVar 0))) (tQ (.sl 3)) (eVar 2) [2, 3] [some ⟨.val, .lst (l.map rowS)⟩, none, none, none] = .ok ⟨.own, .lst ((l.filter (·.2)).map fun q => .str q.1)⟩ [some ⟨.val, .lst (l.map rowS)⟩, none, none, none] :=
    eComp_filter rowS (fun q => .str q.1) (·.2) l rfl (small_size hl) rfl
      (fun q _ hq => ⟨[some ⟨.val, .lst (l.map rowS)⟩, none, some ⟨.val, .str q.1⟩, some ⟨.val, .bl q.2⟩], [some ⟨.val, .lst (l.map rowS)⟩, none, some ⟨.val, .str q.1⟩, some ⟨.val, .bl q.2⟩], ⟨.val, .str q.1⟩, [some ⟨.val, .lst (l.map rowS)⟩, none, some ⟨.val, .str q.1⟩, some ⟨.val, .bl q.2⟩], rfl, by rw [hq]; rfl, rfl, rfl, rfl⟩)
      (fun q _ hq => ⟨[some ⟨.val, .lst (l.map rowS)⟩, none, some ⟨.val, .str q.1⟩, some ⟨.val, .bl q.2⟩], [some ⟨.val, .lst (l.map rowS)⟩, none, some ⟨.val, .str q.1⟩, some ⟨.val, .bl q.2⟩], rfl, by rw [hq]; rfl, rfl⟩) rfl
  have hs : ∀ s ∈ (l.filter (·.2)).map (·.1), PyData.strOk s = true := fun s hs => by
    obtain ⟨q, hq, rfl⟩ := List.mem_map.mp hs
    exact h q (List.mem_filter.mp hq).1
  have a2 : (l.filter (·.2)).map (fun q => MV.str q.1) = ((l.filter (·.2)).map (·.1)).map MV.str := by rw [List.map_map]; rfl
  rw [a2] at a1
  have a3 : bFirst (initG none 4 [.lst (l.map rowS)]) = sRet (eIf (tB (e2 neM (.sl 1) (.ex (eLst aNil)))) (e2 atM (.sl 1) (.ex (eC (.int 0)))) (eC (.str "none"))) [some ⟨.val, .lst (l.map rowS)⟩, some ⟨.own, .lst (((l.filter (·.2)).map (·.1)).map MV.str)⟩, none, none] := by
    show sSeq _ _ [some ⟨.val, .lst (l.map rowS)⟩, none, none, none] = _
    refine sSeq_go ?_
    simp only [sSet, a1]
    rfl
  have a4 := neM_strs _ [] hs (fun _ h => absurd h List.not_mem_nil)
  have a5 : e2 neM (.sl 1) (.ex (eLst aNil)) [some ⟨.val, .lst (l.map rowS)⟩, some ⟨.own, .lst (((l.filter (·.2)).map (·.1)).map MV.str)⟩, none, none] = .ok _ [some ⟨.val, .lst (l.map rowS)⟩, some ⟨.own, .lst (((l.filter (·.2)).map (·.1)).map MV.str)⟩, none, none] := e2_of rfl rfl rfl rfl a4
  show runM none 4 bFirst [.lst (l.map rowS)] = _
  unfold runM
  rw [a3]
  simp only [sRet, eIf, tB, a5]
  unfold firstS
  cases l.filter (·.2) with
  | nil => rfl
  | cons q r =>
    have b1 : (!decide (List.map (fun x : Str × Bool => x.1) (q :: r) = [])) = true := by simp
    have b2 : atI (MV.str q.1 :: List.map MV.str (List.map (fun x : Str × Bool => x.1) r)) ((0 : Nat) : Int) = some (MV.str q.1) := by rw [atI_nat]; rfl
    have b3 : atM (.lst (List.map MV.str (List.map (fun x : Str × Bool => x.1) (q :: r)))) (.int 0) = some ⟨.val, .str q.1⟩ := by
      show ((atI (MV.str q.1 :: List.map MV.str (List.map (fun x : Str × Bool => x.1) r)) ((0 : Nat) : Int)).map fun v => (⟨.val, v⟩ : Cell)).or _ = _
      rw [b2]
      rfl
    have b4 : e2 atM (.sl 1) (.ex (eC (.int 0))) [some ⟨.val, .lst (l.map rowS)⟩, some ⟨.own, .lst (List.map MV.str (List.map (fun x : Str × Bool => x.1) (q :: r)))⟩, none, none] = .ok ⟨.val, .str q.1⟩ [some ⟨.val, .lst (l.map rowS)⟩, some ⟨.own, .lst (List.map MV.str (List.map (fun x : Str × Bool => x.1) (q :: r)))⟩, none, none] := e2_of rfl rfl rfl rfl b3
    simp only [b1, b4]
    rfl
/-! ### what is told -/
def tellS (es : List Str) (l : List MetH) (dflt : Str) : RF → Option Str
  | .rt _ _ => some dflt
  | .ex e _ => metM es l e
  | .no => none
theorem eMet_tell {es : List Str} {l : List MetH} {dflt z : Str} {F : List MV → RF} {fa : FA} {γ : Sg} {ms : List MV} (ha : fa γ = .ok ms γ) (h : tellS es l dflt (F ms) = some z) : eMet es l dflt (eCall F fa) γ = .ok (vV (.str z)) γ := by
  unfold eMet eCall
  simp only [ha]
  cases e : F ms with
  | rt c o => rw [e] at h; cases h; rfl
  | ex x o => rw [e] at h; simp only [tellS] at h; simp only [h]
  | no => rw [e] at h; cases h
/-! ### one of right and wrong, as a statement -/
def optsOf (right : MV) (wrong : List MV) : List (MV × Bool) := (right, false) :: wrong.map fun v => (v, true)
theorem RoW.mem {right v : MV} {wrong : List MV} {b : Bool} (h : RoW right wrong v b) : (v, b) ∈ optsOf right wrong := by
  rcases h with ⟨rfl, rfl⟩ | ⟨rfl, h⟩
  · exact List.mem_cons_self
  · exact List.mem_cons_of_mem _ (List.mem_map.mpr ⟨v, h, rfl⟩)
theorem callIo3 {F : List MV → RF} {d d' : MV} {c cr cw : Cell} {ρ : Sg} {rE wE : FE} (hr : rE (some ⟨.io, d⟩ :: ρ) = .ok cr (some ⟨.io, d⟩ :: ρ)) (hw : wE (some ⟨.io, d⟩ :: ρ) = .ok cw (some ⟨.io, d⟩ :: ρ)) (hF : F [d, cr.v, cw.v] = .rt c (some d')) :
    eCallIo F 0 (hHole 0 (hCons rE (hCons wE hNil))) (some ⟨.io, d⟩ :: ρ) = .ok c (some ⟨.io, d'⟩ :: ρ) := by
  simp [eCallIo, hHole, hCons, hasC, hNil, hr, hw, Kd.mine, hF]
theorem callIo2 {F : List MV → RF} {d d' : MV} {c cr : Cell} {ρ : Sg} {rE : FE} (hr : rE (some ⟨.io, d⟩ :: ρ) = .ok cr (some ⟨.io, d⟩ :: ρ)) (hF : F [d, cr.v] = .rt c (some d')) :
    eCallIo F 0 (hHole 0 (hCons rE hNil)) (some ⟨.io, d⟩ :: ρ) = .ok c (some ⟨.io, d'⟩ :: ρ) := by
  simp [eCallIo, hHole, hCons, hasC, hNil, hr, Kd.mine, hF]
theorem one_st {N : Nat} {d right : MV} {wrong : List MV} {cr cw : Cell} {ρ : Sg} {rE wE : FE} {i j : Nat} (hd : Dice N d) (hN : N + 1 < 2 ^ 64) (hr : ∀ d, rE (some ⟨.io, d⟩ :: ρ) = .ok cr (some ⟨.io, d⟩ :: ρ)) (hw : ∀ d, wE (some ⟨.io, d⟩ :: ρ) = .ok cw (some ⟨.io, d⟩ :: ρ)) (er : cr.v = right) (ew : cw.v = .lst wrong)
    (h0 : 0 < wrong.length := by decide) (h1 : wrong.length < 1000 := by decide) :
    ∃ v b d', RoW right wrong v b ∧ Dice (N + 2) d' ∧ ∀ γ', asgM (.tp [.nm i, .nm j]) (.tup [v, .bl b]) (some ⟨.io, d'⟩ :: ρ) = some γ' → sAsg (.tp [.nm i, .nm j]) (eCallIo mOne 0 (hHole 0 (hCons rE (hCons wE hNil)))) (some ⟨.io, d⟩ :: ρ) = .nx γ' := by
  obtain ⟨v, b, d', h, e, hd'⟩ := one_ok (right := right) (wrong := wrong) hd hN h0 h1
  refine ⟨v, b, d', h, hd', fun γ' ha => ?_⟩
  rw [← er, ← ew] at e
  have a := callIo3 (hr d) (hw d) e
  simp only [sAsg, a, ha, vV]
/-! ### 'count ' + repr(v) -/
def cnt (v : MV) : Str := match showM v with
  | some d => "count " ++ d.shown
  | none => ""
def cntB (v : MV) : Bool := PyData.strOk (cnt v) && (match reprM v with
  | some ⟨.val, z⟩ => (match addM (.str "count ") z with
    | some ⟨.val, .str y⟩ => decide (y = cnt v)
    | _ => false)
  | _ => false)
theorem cnt_ok {v : MV} (h : cntB v = true) : PyData.strOk (cnt v) = true := (Bool.and_eq_true_iff.mp h).1
theorem cnt_e {v : MV} {i : Nat} {γ : Sg} (h : cntB v = true) (hg : oEv (.sl i) γ = .ok ⟨.val, v⟩ γ) (hk : oGet (.sl i) ⟨.val, v⟩ γ = some v) : e2 addM (.ex (eC (.str "count "))) (.ex (e1 reprM (.sl i))) γ = .ok (vV (.str (cnt v))) γ := by
  obtain ⟨_, h⟩ := Bool.and_eq_true_iff.mp h
  split at h
  · rename_i z e
    split at h
    · rename_i y e2
      cases of_decide_eq_true h
      exact e2_of (o := .ex (eC (.str "count "))) rfl (oEv_ex (e1_of hg hk e)) rfl rfl e2
    · cases h
  · cases h
theorem eTup2 {f g : FE} {γ : Sg} {a b : Cell} (h : f γ = .ok a γ) (h2 : g γ = .ok b γ) : eTup (aCons f (aCons g aNil)) γ = .ok (vV (.tup [a.v, b.v])) γ := by
  simp only [eTup, aCons, aNil, h, h2]
theorem eLst1 {f : FE} {γ : Sg} {a : Cell} (h : f γ = .ok a γ) : eLst (aCons f aNil) γ = .ok ⟨.own, .lst [a.v]⟩ γ := by
  simp only [eLst, aCons, aNil, h]
theorem eLst2 {f g : FE} {γ : Sg} {a b : Cell} (h : f γ = .ok a γ) (h2 : g γ = .ok b γ) : eLst (aCons f (aCons g aNil)) γ = .ok ⟨.own, .lst [a.v, b.v]⟩ γ := by
  simp only [eLst, aCons, aNil, h, h2]
theorem eLst3 {f g e : FE} {γ : Sg} {a b c : Cell} (h : f γ = .ok a γ) (h2 : g γ = .ok b γ) (h3 : e γ = .ok c γ) : eLst (aCons f (aCons g (aCons e aNil))) γ = .ok ⟨.own, .lst [a.v, b.v, c.v]⟩ γ := by
  simp only [eLst, aCons, aNil, h, h2, h3]
theorem all2 {α β : Type} {l : List α} {m : List β} {p : α → β → Bool} (h : (l.all fun a => m.all fun b => p a b) = true) {a : α} {b : β} (ha : a ∈ l) (hb : b ∈ m) : p a b = true := List.all_eq_true.mp (List.all_eq_true.mp h a ha) b hb
theorem all3 {α β δ : Type} {l : List α} {m : List β} {n : List δ} {p : α → β → δ → Bool} (h : (l.all fun a => m.all fun b => n.all fun c => p a b c) = true) {a : α} {b : β} {c : δ} (ha : a ∈ l) (hb : b ∈ m) (hc : c ∈ n) : p a b c = true := List.all_eq_true.mp (all2 h ha hb) c hc
end Mi

set_option Elab.async false
set_option linter.all false
set_option maxRecDepth 100000
set_option maxHeartbeats 1000000
namespace Pf
open PySem PySem.Spec PyProof.Rows L2 My Mi
def rB : MV := .int 3
def wB : List MV := [.int 0, .int 1, .int 6, .int (-2), .bl true, .non, .str "2", .tup [.int 2], .int 10000000000000000000000000000000000000000000000000000000000000000]
def rP : MV := .int 77
def wP : List MV := [.int (-1), .int 1000000000000000000000000000000000000000000000000000000000001, .bl true, .non, .str "1", .tup [.int 1], .int 10000000000000000000000000000000000000000000000000000000000000000]
def rG : MV := .tup [.int 0, .int 2, .int 1]
def wG : List MV := [.non, .lst [.int 0, .int 1], .tup [.int 0, .int 3], .tup [.int (-1)], .tup [.bl true], .tup [.str "1"], .int 5, .tup (List.replicate 301 (.int 0)), .str "01"]
def rM : MV := .int 5
def wM : List MV := [.int (-1), .int 301, .bl true, .non, .str "1", .tup [.int 1], .int 10000000000000000000000000000000000000000000000000000000000000000]
theorem one_eq : m_law_one = mOne := rfl
theorem first_eq : m_law_first = mFirst := rfl
theorem roll_eq : m_law_roll = mRoll := rfl
theorem dice_eq : m_law_dice = mDice := rfl
theorem cnt_all : ((rB :: wB) ++ ((rP :: wP) ++ ((rM :: wM) ++ [MV.int 0, .int 1, .int 2, .int 3]))).all cntB = true := by kernel_rfl
def tl (r : RF) (z : Str) : Bool := decide (tellS met_es met_l met_d r = some z)
def oB := optsOf rB wB
def oP := optsOf rP wP
def oG := optsOf rG wG
def oM : List (MV × Bool × Bool) := (rM, false, false) :: (wM.map fun v => (v, true, false)) ++ [(.int 0, false, true), (.int 1, false, true), (.int 2, false, true), (.int 3, false, true)]
def t1 (b p : MV × Bool) : Str := firstS [(cnt b.1, b.2), (cnt p.1, p.2)]
theorem told123 : (oB.all fun b => oP.all fun p => tl (m_digits_of [b.1, p.1]) (t1 b p) && (tl (m_digit_sum [b.1, p.1]) (t1 b p) && tl (m_ends_with [b.1, p.1]) (t1 b p))) = true := by kernel_rfl
def t4 (b g : MV × Bool) : Str := firstS [(cnt b.1, b.2), ("operation", g.2)]
theorem told4 : (oB.all fun b => oG.all fun g => tl (m_place_of [b.1, g.1]) (t4 b g)) = true := by kernel_rfl
def t5 (b p : MV × Bool) (m : MV × Bool × Bool) : Str := firstS [(cnt b.1, b.2), (cnt p.1, p.2), (cnt m.1, m.2.1), ("operation", m.2.2)]
theorem told5 : (oB.all fun b => oP.all fun p => oM.all fun m => tl (m_digits_wide [b.1, p.1, m.1]) (t5 b p m)) = true := by kernel_rfl
end Pf

set_option Elab.async false
set_option linter.all false
set_option maxRecDepth 100000
set_option maxHeartbeats 1000000
namespace Pf
open PySem PySem.Spec PyProof.Rows L2 My Mi
def st (d : MV) (nb np ng nm few : Option Cell) (f s t l u b g m p : Option Cell) : Sg := [some ⟨.io, d⟩, nb, np, ng, nm, few, f, s, t, l, u, b, g, m, p]
abbrev sv (v : MV) : Option Cell := some ⟨.val, v⟩
abbrev sb (b : Bool) : Option Cell := some ⟨.val, .bl b⟩
theorem step1 {N : Nat} {d : MV} (hd : Dice N d) (hN : N + 100 < 2 ^ 64) : ∃ b nb d', RoW rB wB b nb ∧ Dice (N + 2) d' ∧ z_law_right_1 (st d none none none none none none none none none none none none none none) = .nx (st d' (sb nb) none none none none none none none none none (sv b) none none none) := by
  obtain ⟨v, b, d', h, hd', e⟩ := one_st (right := rB) (wrong := wB) (i := 11) (j := 1) (rE := (eC (.int 3))) (wE := (eLst (aCons (eC (.int 0)) (aCons (eC (.int 1)) (aCons (eC (.int 6)) (aCons (e1 negI (.ex (eC (.int 2)))) (aCons (eC (.bl true)) (aCons (eC .non) (aCons (eC (.str "2")) (aCons (eTup (aCons (eC (.int 2)) aNil)) (aCons (e2 powI (.ex (eC (.int 10))) (.ex (eC (.int 64)))) aNil))))))))))) (cr := ⟨.val, rB⟩) (cw := ⟨.own, .lst wB⟩) (ρ := [none, none, none, none, none, none, none, none, none, none, none, none, none, none]) hd (by omega) (fun _ => rfl) (fun _ => by kernel_rfl) rfl rfl
  exact ⟨v, b, d', h, hd', e _ rfl⟩
theorem step2 {N : Nat} {d : MV} {nb b : Option Cell} (hd : Dice N d) (hN : N + 100 < 2 ^ 64) : ∃ p np d', RoW rP wP p np ∧ Dice (N + 2) d' ∧ z_law_right_2 (st d nb none none none none none none none none none b none none none) = .nx (st d' nb (sb np) none none none none none none none none b none none (sv p)) := by
  obtain ⟨v, b, d', h, hd', e⟩ := one_st (right := rP) (wrong := wP) (i := 14) (j := 2) (rE := (eC (.int 77))) (wE := (eLst (aCons (e1 negI (.ex (eC (.int 1)))) (aCons (e2 addM (.ex (e2 powI (.ex (eC (.int 10))) (.ex (eC (.int 60))))) (.ex (eC (.int 1)))) (aCons (eC (.bl true)) (aCons (eC .non) (aCons (eC (.str "1")) (aCons (eTup (aCons (eC (.int 1)) aNil)) (aCons (e2 powI (.ex (eC (.int 10))) (.ex (eC (.int 64)))) aNil))))))))) (cr := ⟨.val, rP⟩) (cw := ⟨.own, .lst wP⟩) (ρ := [nb, none, none, none, none, none, none, none, none, none, b, none, none, none]) hd (by omega) (fun _ => rfl) (fun _ => by kernel_rfl) rfl rfl
  exact ⟨v, b, d', h, hd', e _ rfl⟩
theorem step3 {N : Nat} {d : MV} {nb np b p : Option Cell} (hd : Dice N d) (hN : N + 100 < 2 ^ 64) : ∃ g ng d', RoW rG wG g ng ∧ Dice (N + 2) d' ∧ z_law_right_3 (st d nb np none none none none none none none none b none none p) = .nx (st d' nb np (sb ng) none none none none none none none b (sv g) none p) := by
  obtain ⟨v, b, d', h, hd', e⟩ := one_st (right := rG) (wrong := wG) (i := 12) (j := 3) (rE := (eTup (aCons (eC (.int 0)) (aCons (eC (.int 2)) (aCons (eC (.int 1)) aNil))))) (wE := (eLst (aCons (eC .non) (aCons (eLst (aCons (eC (.int 0)) (aCons (eC (.int 1)) aNil))) (aCons (eTup (aCons (eC (.int 0)) (aCons (eC (.int 3)) aNil))) (aCons (eTup (aCons (e1 negI (.ex (eC (.int 1)))) aNil)) (aCons (eTup (aCons (eC (.bl true)) aNil)) (aCons (eTup (aCons (eC (.str "1")) aNil)) (aCons (eC (.int 5)) (aCons (e2 mulA (.ex (eTup (aCons (eC (.int 0)) aNil))) (.ex (eC (.int 301)))) (aCons (eC (.str "01")) aNil))))))))))) (cr := ⟨.val, rG⟩) (cw := ⟨.own, .lst wG⟩) (ρ := [nb, np, none, none, none, none, none, none, none, none, b, none, none, p]) hd (by omega) (fun _ => rfl) (fun _ => by kernel_rfl) rfl rfl
  exact ⟨v, b, d', h, hd', e _ rfl⟩
theorem step4 {N : Nat} {d : MV} {nb np ng b g p : Option Cell} (hd : Dice N d) (hN : N + 100 < 2 ^ 64) : ∃ m nm d', RoW rM wM m nm ∧ Dice (N + 2) d' ∧ z_law_right_4 (st d nb np ng none none none none none none none b g none p) = .nx (st d' nb np ng (sb nm) none none none none none none b g (sv m) p) := by
  obtain ⟨v, b, d', h, hd', e⟩ := one_st (right := rM) (wrong := wM) (i := 13) (j := 4) (rE := (eC (.int 5))) (wE := (eLst (aCons (e1 negI (.ex (eC (.int 1)))) (aCons (eC (.int 301)) (aCons (eC (.bl true)) (aCons (eC .non) (aCons (eC (.str "1")) (aCons (eTup (aCons (eC (.int 1)) aNil)) (aCons (e2 powI (.ex (eC (.int 10))) (.ex (eC (.int 64)))) aNil))))))))) (cr := ⟨.val, rM⟩) (cw := ⟨.own, .lst wM⟩) (ρ := [nb, np, ng, none, none, none, none, none, none, none, b, g, none, p]) hd (by omega) (fun _ => rfl) (fun _ => by kernel_rfl) rfl rfl
  exact ⟨v, b, d', h, hd', e _ rfl⟩
theorem step56 {N : Nat} {d m : MV} {nm : Bool} {nb np ng b g p : Option Cell} (hd : Dice N d) (hN : N + 100 < 2 ^ 64) (hm : RoW rM wM m nm) : ∃ m' few d', (m', nm, few) ∈ oM ∧ Dice (N + 2) d' ∧ ∀ k : FS, sSeq z_law_right_5 (sSeq z_law_right_6 k) (st d nb np ng (sb nm) none none none none none none b g (sv m) p) = k (st d' nb np ng (sb nm) (sb few) none none none none none b g (sv m') p) := by
  rcases hm with ⟨rfl, rfl⟩ | ⟨rfl, hm⟩
  · obtain ⟨r, d1, e, r0, r1, hd1⟩ := roll_ok hd (by omega) (n := 3) (by omega) (by decide +kernel)
    have a1 : eCallIo mRoll 0 (hHole 0 (hCons (eC (.int 3)) hNil)) (st d nb np ng (sb false) none none none none none none b g (sv rM) p) = .ok (vI r) (st d1 nb np ng (sb false) none none none none none none b g (sv rM) p) := callIo2 rfl e
    have a2 : e2 eqM (.ex (eCallIo m_law_roll 0 (hHole 0 (hCons (eC (.int 3)) hNil)))) (.ex (eC (.int 0))) (st d nb np ng (sb false) none none none none none none b g (sv rM) p) = .ok (vB (decide (r = 0))) (st d1 nb np ng (sb false) none none none none none none b g (sv rM) p) :=
      e2_of (oEv_ex (roll_eq ▸ a1)) rfl rfl rfl (eqM_ii r 0)
    have a3 : z_law_right_5 (st d nb np ng (sb false) none none none none none none b g (sv rM) p) = .nx (st d1 nb np ng (sb false) (sb (decide (r = 0))) none none none none none b g (sv rM) p) := by
      refine (sSet_of (f := eAn (eNt (eVar 4)) (e2 eqM (.ex (eCallIo m_law_roll 0 (hHole 0 (hCons (eC (.int 3)) hNil)))) (.ex (eC (.int 0))))) ((eAn_t (eNt_of (f := eVar 4) (b := false) rfl)).trans a2) rfl).trans ?_
      rfl
    by_cases h0 : r = 0
    · subst h0
      obtain ⟨q, d2, e', q0, q1, hd2⟩ := roll_ok hd1 (by omega) (n := 4) (by omega) (by decide +kernel)
      have b1 : eCallIo mRoll 0 (hHole 0 (hCons (eC (.int 4)) hNil)) (st d1 nb np ng (sb false) (sb true) none none none none none b g (sv rM) p) = .ok (vI q) (st d2 nb np ng (sb false) (sb true) none none none none none b g (sv rM) p) := callIo2 rfl e'
      have b3 : z_law_right_6 (st d1 nb np ng (sb false) (sb true) none none none none none b g (sv rM) p) = .nx (st d2 nb np ng (sb false) (sb true) none none none none none b g (sv (.int q)) p) := by
        exact sSet_of (f := eIf (tQ (.sl 5)) (eCallIo mRoll 0 (hHole 0 (hCons (eC (.int 4)) hNil))) (eVar 13)) ((eIf_t (tQ_of (b := true) rfl rfl rfl)).trans b1) rfl
      refine ⟨.int q, true, d2, ?_, hd2.mono (by omega), fun k => ?_⟩
      · rcases (by omega : q = 0 ∨ q = 1 ∨ q = 2 ∨ q = 3) with rfl | rfl | rfl | rfl <;> simp [oM]
      · exact (sSeq_go a3).trans (sSeq_go b3)
    · have hf : decide (r = 0) = false := decide_eq_false h0
      rw [hf] at a3
      exact ⟨rM, false, d1, by simp [oM], hd1.mono (by omega), fun k => (sSeq_go a3).trans (sSeq_go rfl)⟩
  · exact ⟨m, false, d, by
      unfold oM
      exact List.mem_append_left _ (List.mem_cons_of_mem _ (List.mem_map.mpr ⟨m, hm, rfl⟩)), hd.mono (by omega), fun k => (sSeq_go rfl).trans (sSeq_go rfl)⟩
end Pf

set_option Elab.async false
set_option linter.all false
set_option maxRecDepth 100000
set_option maxHeartbeats 1000000
namespace Pf
open PySem PySem.Spec PyProof.Rows L2 My Mi
abbrev ss (s : Str) : Option Cell := some ⟨.val, .str s⟩
abbrev sr (q : Str × Bool) : Option Cell := some ⟨.val, rowS q⟩
abbrev so (l : List Str) : Option Cell := some ⟨.own, .lst (l.map MV.str)⟩
theorem tl_ok {r : RF} {z : Str} (h : tl r z = true) : tellS met_es met_l met_d r = some z := of_decide_eq_true h
section
variable {d b p g m : MV} {nb np ng nm few : Bool}
theorem rest_ok (hb : (b, nb) ∈ oB) (hp : (p, np) ∈ oP) (hg : (g, ng) ∈ oG) (hm : (m, nm, few) ∈ oM) (cb : cntB b = true) (cp : cntB p = true) (cm : cntB m = true) :
    sSeq z_law_right_7 (sSeq z_law_right_8 (sSeq z_law_right_9 (sSeq z_law_right_10 (sSeq z_law_right_11 (sSeq z_law_right_12 (sSeq z_law_right_13 (sSeq z_law_right_14 z_law_right_15))))))) (st d (sb nb) (sb np) (sb ng) (sb nm) (sb few) none none none none none (sv b) (sv g) (sv m) (sv p)) =
    .rt (vB true) (st d (sb nb) (sb np) (sb ng) (sb nm) (sb few) (sr (cnt b, nb)) (sr (cnt p, np)) (so [t1 (b, nb) (p, np), t1 (b, nb) (p, np), t1 (b, nb) (p, np), t4 (b, nb) (g, ng), t5 (b, nb) (p, np) (m, nm, few)]) (some ⟨.own, .lst [rowS (cnt m, nm), rowS ("operation", few)]⟩) (so [t1 (b, nb) (p, np), t1 (b, nb) (p, np), t1 (b, nb) (p, np), t4 (b, nb) (g, ng)]) (sv b) (sv g) (sv m) (sv p)) := by
  have q1 := all2 told123 hb hp
  obtain ⟨q1, q2⟩ := Bool.and_eq_true_iff.mp q1
  obtain ⟨q2, q3⟩ := Bool.and_eq_true_iff.mp q2
  have q4 := all2 told4 hb hg
  have q5 := all3 told5 hb hp hm
  have kb := cnt_ok cb
  have kp := cnt_ok cp
  have km := cnt_ok cm
  have ko : PyData.strOk "operation" = true := by decide +kernel
  -- 7
  have s7 : z_law_right_7 (st d (sb nb) (sb np) (sb ng) (sb nm) (sb few) none none none none none (sv b) (sv g) (sv m) (sv p)) = .nx (st d (sb nb) (sb np) (sb ng) (sb nm) (sb few) (sr (cnt b, nb)) (sr (cnt p, np)) none none none (sv b) (sv g) (sv m) (sv p)) := by
    have a := eTup2 (f := e2 addM (.ex (eC (.str "count "))) (.ex (e1 reprM (.sl 11)))) (g := eVar 1) (γ := st d (sb nb) (sb np) (sb ng) (sb nm) (sb few) none none none none none (sv b) (sv g) (sv m) (sv p)) (cnt_e cb rfl rfl) rfl
    have c := eTup2 (f := e2 addM (.ex (eC (.str "count "))) (.ex (e1 reprM (.sl 14)))) (g := eVar 2) (γ := st d (sb nb) (sb np) (sb ng) (sb nm) (sb few) none none none none none (sv b) (sv g) (sv m) (sv p)) (cnt_e cp rfl rfl) rfl
    unfold z_law_right_7
    simp only [sPar, a, c]
    rfl
  generalize ht1 : t1 (b, nb) (p, np) = T1 at *
  generalize ht4 : t4 (b, nb) (g, ng) = T4 at *
  generalize ht5 : t5 (b, nb) (p, np) (m, nm, few) = T5 at *
  have s8 : z_law_right_8 (st d (sb nb) (sb np) (sb ng) (sb nm) (sb few) (sr (cnt b, nb)) (sr (cnt p, np)) none none none (sv b) (sv g) (sv m) (sv p)) = .nx (st d (sb nb) (sb np) (sb ng) (sb nm) (sb few) (sr (cnt b, nb)) (sr (cnt p, np)) (so [T1]) none none (sv b) (sv g) (sv m) (sv p)) :=
    sSet_of (f := eLst (aCons (eMet met_es met_l met_d c_law_right_8) aNil)) (eLst1 (eMet_tell (F := m_digits_of) rfl (tl_ok q1))) rfl
  have s9 : z_law_right_9 (st d (sb nb) (sb np) (sb ng) (sb nm) (sb few) (sr (cnt b, nb)) (sr (cnt p, np)) (so [T1]) none none (sv b) (sv g) (sv m) (sv p)) = .nx (st d (sb nb) (sb np) (sb ng) (sb nm) (sb few) (sr (cnt b, nb)) (sr (cnt p, np)) (so [T1, T1]) none none (sv b) (sv g) (sv m) (sv p)) :=
    app_of (f := eMet met_es met_l met_d c_law_right_10) (eMet_tell (F := m_digit_sum) rfl (tl_ok q2)) rfl rfl rfl rfl
  have s10 : z_law_right_10 (st d (sb nb) (sb np) (sb ng) (sb nm) (sb few) (sr (cnt b, nb)) (sr (cnt p, np)) (so [T1, T1]) none none (sv b) (sv g) (sv m) (sv p)) = .nx (st d (sb nb) (sb np) (sb ng) (sb nm) (sb few) (sr (cnt b, nb)) (sr (cnt p, np)) (so [T1, T1, T1]) none none (sv b) (sv g) (sv m) (sv p)) :=
    app_of (f := eMet met_es met_l met_d c_law_right_12) (eMet_tell (F := m_ends_with) rfl (tl_ok q3)) rfl rfl rfl rfl
  have s11 : z_law_right_11 (st d (sb nb) (sb np) (sb ng) (sb nm) (sb few) (sr (cnt b, nb)) (sr (cnt p, np)) (so [T1, T1, T1]) none none (sv b) (sv g) (sv m) (sv p)) = .nx (st d (sb nb) (sb np) (sb ng) (sb nm) (sb few) (sr (cnt b, nb)) (sr (cnt p, np)) (so [T1, T1, T1, T4]) none none (sv b) (sv g) (sv m) (sv p)) :=
    app_of (f := eMet met_es met_l met_d c_law_right_14) (eMet_tell (F := m_place_of) rfl (tl_ok q4)) rfl rfl rfl rfl
  have s12 : z_law_right_12 (st d (sb nb) (sb np) (sb ng) (sb nm) (sb few) (sr (cnt b, nb)) (sr (cnt p, np)) (so [T1, T1, T1, T4]) none none (sv b) (sv g) (sv m) (sv p)) = .nx (st d (sb nb) (sb np) (sb ng) (sb nm) (sb few) (sr (cnt b, nb)) (sr (cnt p, np)) (so [T1, T1, T1, T4, T5]) none none (sv b) (sv g) (sv m) (sv p)) :=
    app_of (f := eMet met_es met_l met_d c_law_right_16) (eMet_tell (F := m_digits_wide) rfl (tl_ok q5)) rfl rfl rfl rfl
  have s13 : z_law_right_13 (st d (sb nb) (sb np) (sb ng) (sb nm) (sb few) (sr (cnt b, nb)) (sr (cnt p, np)) (so [T1, T1, T1, T4, T5]) none none (sv b) (sv g) (sv m) (sv p)) = .nx (st d (sb nb) (sb np) (sb ng) (sb nm) (sb few) (sr (cnt b, nb)) (sr (cnt p, np)) (so [T1, T1, T1, T4, T5]) (some ⟨.own, .lst [rowS (cnt m, nm), rowS ("operation", few)]⟩) none (sv b) (sv g) (sv m) (sv p)) := by
    have a := eTup2 (f := e2 addM (.ex (eC (.str "count "))) (.ex (e1 reprM (.sl 13)))) (g := eVar 4) (γ := st d (sb nb) (sb np) (sb ng) (sb nm) (sb few) (sr (cnt b, nb)) (sr (cnt p, np)) (so [T1, T1, T1, T4, T5]) none none (sv b) (sv g) (sv m) (sv p)) (cnt_e cm rfl rfl) rfl
    have c : eLst (aCons (eTup (aCons (e2 addM (.ex (eC (.str "count "))) (.ex (e1 reprM (.sl 13)))) (aCons (eVar 4) aNil))) (aCons (eTup (aCons (eC (.str "operation")) (aCons (eVar 5) aNil))) aNil)) (st d (sb nb) (sb np) (sb ng) (sb nm) (sb few) (sr (cnt b, nb)) (sr (cnt p, np)) (so [T1, T1, T1, T4, T5]) none none (sv b) (sv g) (sv m) (sv p)) = .ok ⟨.own, .lst [rowS (cnt m, nm), rowS ("operation", few)]⟩ (st d (sb nb) (sb np) (sb ng) (sb nm) (sb few) (sr (cnt b, nb)) (sr (cnt p, np)) (so [T1, T1, T1, T4, T5]) none none (sv b) (sv g) (sv m) (sv p)) := by
      exact eLst2 a (eTup2 (f := eC (.str "operation")) (g := eVar 5) rfl rfl)
    exact sSet_of c rfl
  have f1 : mFirst [.lst [rowS (cnt b, nb), rowS (cnt p, np)]] = .rt (vV (.str T1)) none := by
    rw [← ht1]
    exact first_ok [(cnt b, nb), (cnt p, np)] (by simp [kb, kp]) (by simp)
  have f4 : mFirst [.lst [rowS (cnt b, nb), rowS ("operation", ng)]] = .rt (vV (.str T4)) none := by
    rw [← ht4]
    exact first_ok [(cnt b, nb), ("operation", ng)] (by simp [kb, ko]) (by simp)
  have f5 : mFirst [.lst [rowS (cnt b, nb), rowS (cnt p, np), rowS (cnt m, nm), rowS ("operation", few)]] = .rt (vV (.str T5)) none := by
    rw [← ht5]
    exact first_ok [(cnt b, nb), (cnt p, np), (cnt m, nm), ("operation", few)] (by simp [kb, kp, km, ko]) (by simp)
  have o1 : PyData.strOk T1 = true := by
    rw [← ht1]
    exact firstS_ok (by simp [kb, kp])
  have o4 : PyData.strOk T4 = true := by
    rw [← ht4]
    exact firstS_ok (by simp [kb, ko])
  have o5 : PyData.strOk T5 = true := by
    rw [← ht5]
    exact firstS_ok (by simp [kb, kp, km, ko])
  have s14 : z_law_right_14 (st d (sb nb) (sb np) (sb ng) (sb nm) (sb few) (sr (cnt b, nb)) (sr (cnt p, np)) (so [T1, T1, T1, T4, T5]) (some ⟨.own, .lst [rowS (cnt m, nm), rowS ("operation", few)]⟩) none (sv b) (sv g) (sv m) (sv p)) = .nx (st d (sb nb) (sb np) (sb ng) (sb nm) (sb few) (sr (cnt b, nb)) (sr (cnt p, np)) (so [T1, T1, T1, T4, T5]) (some ⟨.own, .lst [rowS (cnt m, nm), rowS ("operation", few)]⟩) (so [T1, T1, T1, T4]) (sv b) (sv g) (sv m) (sv p)) := by
    have a1 := eLst1 (eCall_rt (g := mFirst) (fa := aCons (eLst (aCons (eVar 6) (aCons (eVar 7) aNil))) aNil) (γ := st d (sb nb) (sb np) (sb ng) (sb nm) (sb few) (sr (cnt b, nb)) (sr (cnt p, np)) (so [T1, T1, T1, T4, T5]) (some ⟨.own, .lst [rowS (cnt m, nm), rowS ("operation", few)]⟩) none (sv b) (sv g) (sv m) (sv p)) rfl f1)
    have a2 := eLst1 (eCall_rt (g := mFirst) (fa := aCons (eLst (aCons (eVar 6) (aCons (eTup (aCons (eC (.str "operation")) (aCons (eVar 3) aNil))) aNil))) aNil) (γ := st d (sb nb) (sb np) (sb ng) (sb nm) (sb few) (sr (cnt b, nb)) (sr (cnt p, np)) (so [T1, T1, T1, T4, T5]) (some ⟨.own, .lst [rowS (cnt m, nm), rowS ("operation", few)]⟩) none (sv b) (sv g) (sv m) (sv p)) rfl f4)
    have a3 : mulA (.lst [.str T1]) (.int 3) = some ⟨.own, .lst [.str T1, .str T1, .str T1]⟩ := rfl
    have a4 : addM (.lst [.str T1, .str T1, .str T1]) (.lst [.str T4]) = some ⟨.own, .lst [.str T1, .str T1, .str T1, .str T4]⟩ := rfl
    exact sSet_of (e2_of (oEv_ex (e2_of (oEv_ex a1) rfl rfl rfl a3)) (oEv_ex a2) rfl rfl a4) rfl
  have s15 : z_law_right_15 (st d (sb nb) (sb np) (sb ng) (sb nm) (sb few) (sr (cnt b, nb)) (sr (cnt p, np)) (so [T1, T1, T1, T4, T5]) (some ⟨.own, .lst [rowS (cnt m, nm), rowS ("operation", few)]⟩) (so [T1, T1, T1, T4]) (sv b) (sv g) (sv m) (sv p)) = .rt (vB true) (st d (sb nb) (sb np) (sb ng) (sb nm) (sb few) (sr (cnt b, nb)) (sr (cnt p, np)) (so [T1, T1, T1, T4, T5]) (some ⟨.own, .lst [rowS (cnt m, nm), rowS ("operation", few)]⟩) (so [T1, T1, T1, T4]) (sv b) (sv g) (sv m) (sv p)) := by
    have a0 : addM (.lst [rowS (cnt b, nb), rowS (cnt p, np)]) (.lst [rowS (cnt m, nm), rowS ("operation", few)]) = some ⟨.own, .lst [rowS (cnt b, nb), rowS (cnt p, np), rowS (cnt m, nm), rowS ("operation", few)]⟩ := rfl
    have a1 := eLst1 (eCall_rt (g := mFirst) (aCons_of (f := e2 addM (.ex (eLst (aCons (eVar 6) (aCons (eVar 7) aNil)))) (.sl 9)) (r := aNil) (γ := st d (sb nb) (sb np) (sb ng) (sb nm) (sb few) (sr (cnt b, nb)) (sr (cnt p, np)) (so [T1, T1, T1, T4, T5]) (some ⟨.own, .lst [rowS (cnt m, nm), rowS ("operation", few)]⟩) (so [T1, T1, T1, T4]) (sv b) (sv g) (sv m) (sv p)) (e2_of rfl rfl rfl rfl a0) rfl) f5)
    have a3 : addM (.lst [.str T1, .str T1, .str T1, .str T4]) (.lst [.str T5]) = some ⟨.own, .lst [.str T1, .str T1, .str T1, .str T4, .str T5]⟩ := rfl
    have a4 := eqM_strs [T1, T1, T1, T4, T5] [T1, T1, T1, T4, T5] (by simp [o1, o4, o5]) (by simp [o1, o4, o5])
    rw [decide_eq_true rfl] at a4
    exact sRet_of (e2_of (o := .sl 8) rfl (oEv_ex (e2_of (o := .sl 10) rfl (oEv_ex a1) rfl rfl a3)) rfl rfl a4)
  exact (sSeq_go s7).trans ((sSeq_go s8).trans ((sSeq_go s9).trans ((sSeq_go s10).trans ((sSeq_go s11).trans ((sSeq_go s12).trans ((sSeq_go s13).trans ((sSeq_go s14).trans s15)))))))
end
end Pf

set_option Elab.async false
set_option linter.all false
set_option maxRecDepth 100000
set_option maxHeartbeats 1000000
namespace Pf
open PySem PySem.Spec PyProof.Rows L2 My Mi
theorem cnt_of {v : MV} (h : v ∈ (rB :: wB) ++ ((rP :: wP) ++ ((rM :: wM) ++ [MV.int 0, .int 1, .int 2, .int 3]))) : cntB v = true := List.all_eq_true.mp cnt_all v h
theorem RoW.in_ {right v : MV} {wrong : List MV} {b : Bool} (h : RoW right wrong v b) : v ∈ right :: wrong := by
  rcases h with ⟨_, rfl⟩ | ⟨_, h⟩
  · exact List.mem_cons_self
  · exact List.mem_cons_of_mem _ h
theorem oM_in {m : MV} {nm few : Bool} (h : (m, nm, few) ∈ oM) : m ∈ (rM :: wM) ++ [MV.int 0, .int 1, .int 2, .int 3] := by
  rcases List.mem_append.mp h with h | h
  · rcases List.mem_cons.mp h with h | h
    · cases h
      exact List.mem_append_left _ List.mem_cons_self
    · obtain ⟨v, hv, e⟩ := List.mem_map.mp h
      cases e
      exact List.mem_append_left _ (List.mem_cons_of_mem _ hv)
  · refine List.mem_append_right _ ?_
    simp only [List.mem_cons, List.not_mem_nil, or_false, Prod.mk.injEq] at h ⊢
    rcases h with h | h | h | h <;> simp [h.1]
theorem right_ok : RightOk m_law_right := fun N d hd hN => by
  obtain ⟨b, nb, d1, hb, hd1, e1⟩ := step1 hd (by omega)
  obtain ⟨p, np, d2, hp, hd2, e2⟩ := step2 (nb := sb nb) (b := sv b) hd1 (by omega)
  obtain ⟨g, ng, d3, hg, hd3, e3⟩ := step3 (nb := sb nb) (b := sv b) (np := sb np) (p := sv p) hd2 (by omega)
  obtain ⟨m, nm, d4, hm, hd4, e4⟩ := step4 (nb := sb nb) (b := sv b) (np := sb np) (p := sv p) (ng := sb ng) (g := sv g) hd3 (by omega)
  obtain ⟨m', few, d5, hm', hd5, e5⟩ := step56 (nb := sb nb) (b := sv b) (np := sb np) (p := sv p) (ng := sb ng) (g := sv g) hd4 (by omega) hm
  refine ⟨d5, ?_, hd5.mono (by omega)⟩
  have cb := cnt_of (List.mem_append_left _ (RoW.in_ hb))
  have cp := cnt_of (List.mem_append_right _ (List.mem_append_left _ (RoW.in_ hp)))
  have cm := cnt_of (List.mem_append_right _ (List.mem_append_right _ (oM_in hm')))
  have r := rest_ok (d := d5) hb.mem hp.mem hg.mem hm' cb cp cm
  have e : b_law_right (initG (some 0) 15 [d]) = _ := (sSeq_go e1).trans ((sSeq_go e2).trans ((sSeq_go e3).trans ((sSeq_go e4).trans ((e5 _).trans r))))
  unfold m_law_right runM
  rw [e]
  rfl
theorem tail_ok (x y z : Option Cell) (s : MV) : finM none ((sRet (eAn (e2 eqM (.ex (eMet met_es met_l met_d c_law_1)) (.ex (eC (.str "operation")))) (e2 eqM (.ex (e2 atM (.ex (eCall m_digits_wide (aCons (eC (.int 2)) (aCons (e2 powI (.ex (eC (.int 10))) (.ex (eC (.int 60)))) (aCons (eC (.int 200)) aNil))))) (.ex (eC (.int 0))))) (.ex (eC (.int 1)))))) (lg s x y z [])) = .rt ⟨.val, .bl true⟩ none := by kernel_rfl
theorem law_true (ns : List Int) (hl : ns.length ≤ 63) : m_law [.lst (ns.map .int)] = .rt ⟨.val, .bl true⟩ none :=
  law_shell (right := m_law_right) right_ok (M := 8) (T := 6) (n := 0) (by decide) (by decide) ns hl fun x y z => tail_ok x y z _
end Pf

set_option Elab.async false
set_option linter.all false
set_option maxRecDepth 100000
set_option maxHeartbeats 0
namespace Pf
open PySem PySem.Spec PyProof.Rows L2 My Mi
def dd_law_dice : He5.DefA := ⟨fun K => He.ga K "_law_dice", "_law_dice", "_law_dice", defArgs s_law_dice, defBody s_law_dice, defScope s_law_dice, [], []⟩
def dd_law_roll : He5.DefA := ⟨fun K => He.ga K "_law_roll", "_law_roll", "_law_roll", defArgs s_law_roll, defBody s_law_roll, defScope s_law_roll, [], []⟩
def dd_law_pick : He5.DefA := ⟨fun K => He.ga K "_law_pick", "_law_pick", "_law_pick", defArgs s_law_pick, defBody s_law_pick, defScope s_law_pick, [], []⟩
def dd_law_one : He5.DefA := ⟨fun K => He.ga K "_law_one", "_law_one", "_law_one", defArgs s_law_one, defBody s_law_one, defScope s_law_one, [], []⟩
def dd_law_first : He5.DefA := ⟨fun K => He.ga K "_law_first", "_law_first", "_law_first", defArgs s_law_first, defBody s_law_first, defScope s_law_first, [], []⟩
def dd_is_integer : He5.DefA := ⟨fun K => He.ga K "is_integer", "is_integer", "is_integer", defArgs s_is_integer, defBody s_is_integer, defScope s_is_integer, [], []⟩
def dd_is_within : He5.DefA := ⟨fun K => He.ga K "is_within", "is_within", "is_within", defArgs s_is_within, defBody s_is_within, defScope s_is_within, [], []⟩
def dd_require_within : He5.DefA := ⟨fun K => He.ga K "require_within", "require_within", "require_within", defArgs s_require_within, defBody s_require_within, defScope s_require_within, [], []⟩
def dd_require_base : He5.DefA := ⟨fun K => He.ga K "require_base", "require_base", "require_base", defArgs s_require_base, defBody s_require_base, defScope s_require_base, [], []⟩
def dd_require_place : He5.DefA := ⟨fun K => He.ga K "require_place", "require_place", "require_place", defArgs s_require_place, defBody s_require_place, defScope s_require_place, [], []⟩
def dd_digits_in : He5.DefA := ⟨fun K => He.ga K "digits_in", "digits_in", "digits_in", defArgs s_digits_in, defBody s_digits_in, defScope s_digits_in, [], []⟩
def dd_digits_of : He5.DefA := ⟨fun K => He.ga K "digits_of", "digits_of", "digits_of", defArgs s_digits_of, defBody s_digits_of, defScope s_digits_of, [], []⟩
def dd_digit_sum : He5.DefA := ⟨fun K => He.ga K "digit_sum", "digit_sum", "digit_sum", defArgs s_digit_sum, defBody s_digit_sum, defScope s_digit_sum, [], []⟩
def dd_noughts_behind : He5.DefA := ⟨fun K => He.ga K "noughts_behind", "noughts_behind", "noughts_behind", defArgs s_noughts_behind, defBody s_noughts_behind, defScope s_noughts_behind, [], []⟩
def dd_ends_with : He5.DefA := ⟨fun K => He.ga K "ends_with", "ends_with", "ends_with", defArgs s_ends_with, defBody s_ends_with, defScope s_ends_with, [], []⟩
def dd_place_in : He5.DefA := ⟨fun K => He.ga K "place_in", "place_in", "place_in", defArgs s_place_in, defBody s_place_in, defScope s_place_in, [], []⟩
def dd_place_of : He5.DefA := ⟨fun K => He.ga K "place_of", "place_of", "place_of", defArgs s_place_of, defBody s_place_of, defScope s_place_of, [], []⟩
def dd_digits_wide : He5.DefA := ⟨fun K => He.ga K "digits_wide", "digits_wide", "digits_wide", defArgs s_digits_wide, defBody s_digits_wide, defScope s_digits_wide, [], []⟩
def dd_law_right : He5.DefA := ⟨fun K => He.ga K "_law_right", "_law_right", "_law_right", defArgs s_law_right, defBody s_law_right, defScope s_law_right, [], []⟩
def dd_law : He5.DefA := ⟨fun K => He.ga K "law", "law", "law", defArgs s_law, defBody s_law, defScope s_law, [], []⟩
def di_InvalidCount : He5.DefA := ⟨fun K => He.ma K (He.ga K "InvalidCount") "__init__", "__init__", "InvalidCount.__init__", defArgs s_InvalidCount_init, defBody s_InvalidCount_init, defScope s_InvalidCount_init, [], []⟩
def dd_law_met : He5.DefA := ⟨fun K => He.ga K "_law_met", "_law_met", "_law_met", defArgs s_law_met, defBody s_law_met, defScope s_law_met, [], []⟩
def fn : List He5.DefA := [dd_law_dice, dd_law_roll, dd_law_pick, dd_law_one, dd_law_first, dd_is_integer, dd_is_within, dd_require_within, dd_require_base, dd_require_place, dd_digits_in, dd_digits_of, dd_digit_sum, dd_noughts_behind, dd_ends_with, dd_place_in, dd_place_of, dd_digits_wide, dd_law_right, dd_law, dd_law_met]
def xt : List FTs := [fun K => He.Fa.ok K (.free "len"),
  fun K => He.Fa.ok K (.free "int"),
  fun K => He.Fa.ok K (.free "abs"),
  fun K => He.Fa.ok K (.free "max"),
  fun K => He.Fa.ok K (.free "min"),
  fun K => He.Fa.ok K (.free "bool"),
  fun K => He.Fa.ok K (.free "tuple"),
  fun K => He.Fa.ok K (.free "list"),
  fun K => He.Fa.ok K (.free "str"),
  fun K => He.Fa.ok K (.free "dict"),
  fun K => He.Fa.ok K (.free "set"),
  fun K => He.Fa.ok K (.free "isinstance"),
  fun K => He.Fa.ok K (.free "all"),
  fun K => He.Fa.ok K (.free "any"),
  fun K => He.Fa.ok K (.free "sum"),
  fun K => He.Fa.ok K (.free "sorted"),
  fun K => He.Fa.ok K (.free "zip"),
  fun K => He.Fa.ok K (.free "enumerate"),
  fun K => He.Fa.ok K (.free "range"),
  fun K => He.Fa.ok K (.free "repr"),
  fun K => He.Fa.ok K (.free "super"),
  fun K => He.Fa.ok K (.int "MAX_BASE" 5),
  fun K => He.Fa.ok K (.int "MAX_PLACE" 1000000000000000000000000000000000000000000000000000000000000),
  fun K => He.Fa.ok K (.int "MAX_DIGITS" 300),
  excT file "InvalidCount" "given" eIndex,
  exoT "InvalidOperation" eValue,
  fun K => He.Fa.ok K (.glo "_law_met"),
  metT0 met_es met_l,
  fun K => He.Fa.ok K (.glo "law"),
  fun K => He.Fa.ok K (.glo "_law_dice"),
  fun K => He.Fa.ok K (.glo "_law_roll"),
  fun K => He.Fa.ok K (.glo "_law_pick"),
  fun K => He.Fa.ok K (.glo "_law_one"),
  fun K => He.Fa.ok K (.glo "_law_first"),
  fun K => He.Fa.ok K (.glo "is_integer"),
  fun K => He.Fa.ok K (.glo "is_within"),
  fun K => He.Fa.ok K (.glo "require_within"),
  fun K => He.Fa.ok K (.glo "require_base"),
  fun K => He.Fa.ok K (.glo "require_place"),
  fun K => He.Fa.ok K (.glo "digits_in"),
  fun K => He.Fa.ok K (.glo "digits_of"),
  fun K => He.Fa.ok K (.glo "digit_sum"),
  fun K => He.Fa.ok K (.glo "noughts_behind"),
  fun K => He.Fa.ok K (.glo "ends_with"),
  fun K => He.Fa.ok K (.glo "place_in"),
  fun K => He.Fa.ok K (.glo "place_of"),
  fun K => He.Fa.ok K (.glo "digits_wide"),
  fun K => He.Fa.ok K (.glo "_law_right")]
abbrev R : PySem.W.OpenRow := PySem.W.OpenLaw.row PySem.Challenge.rw_digitwords_k12_errors_of_digits
def ini : List He5.DefA := [di_InvalidCount]
def lam : List Str := ["place_of", "_law_right", "law"]
abbrev hk : PySem.W.Hook := hookM 5 fn xt ini lam
def ob (s : PySem.W.SharedT) : AlM := obsMG 5 fn xt ini lam (HandSHeadRun.getT s)
theorem ob_eq (s : PySem.W.SharedT) : ob s = hk.obs s.abs := obsMG_eq (HandSHeadRun.getT_eq s)
def names0 : List Str := ["DigitError", "InvalidWord", "InvalidOperation", "InvalidCount", "TooMany", "MAX_BASE", "MAX_PLACE", "MAX_DIGITS", "is_integer", "is_within", "require_within", "require_base", "require_place", "digits_in", "place_in", "noughts_behind", "digits_of", "place_of", "digits_wide", "digit_sum", "ends_with", "_law_dice", "_law_roll", "_law_pick", "_law_met", "_law_first", "_law_one", "_law_right"]
def loose : List Str := names0
def lawAt : Nat := 31
theorem run (w : World) : HandSHeadRun.RunEq R (PySem.W.view R.prog [lawAt]) hk ob 8000 loose w := by
  intro os
  kernel_rfl
theorem facts {P : Program} {w : World} {K : PySem.W.Frag} {h : Heap} {mg : Str → Option Value} {f : Addr} (X : K.In h) (G : h.Ns mainGlobals mg) (hfa : mg ("law" : Str) = some (.ref f)) (c : SaysM fn xt ini K) (l : LamAll lam K h) (hl : lamDefs P = lam) (hfile : P.main.file = file) (hsup : (P.main.scope.names.lookup ("super" : Str)).isSome = false) :
    ∃ fd : FuncData, (∀ (s : Shared) (v : Value), BindsTo s fd ⟨[v], []⟩ [("script", v)]) ∧ ∀ base : Heap, K.In base → base.Ns mainGlobals mg → (∀ p ∈ csOf K lam, LamX.TabB base mg p.1 p.2) → FnG P w K mg base 13 f fd ["script"] (spM P w K 1 none m_law) := by
  have T : Fre mg := ⟨He.free_ok X G (c.test 0 (t := fun K => He.Fa.ok K (.free "len")) rfl), He.free_ok X G (c.test 1 (t := fun K => He.Fa.ok K (.free "int")) rfl), He.free_ok X G (c.test 2 (t := fun K => He.Fa.ok K (.free "abs")) rfl), He.free_ok X G (c.test 3 (t := fun K => He.Fa.ok K (.free "max")) rfl), He.free_ok X G (c.test 4 (t := fun K => He.Fa.ok K (.free "min")) rfl), He.free_ok X G (c.test 5 (t := fun K => He.Fa.ok K (.free "bool")) rfl), He.free_ok X G (c.test 6 (t := fun K => He.Fa.ok K (.free "tuple")) rfl), He.free_ok X G (c.test 7 (t := fun K => He.Fa.ok K (.free "list")) rfl), He.free_ok X G (c.test 8 (t := fun K => He.Fa.ok K (.free "str")) rfl), He.free_ok X G (c.test 9 (t := fun K => He.Fa.ok K (.free "dict")) rfl), He.free_ok X G (c.test 10 (t := fun K => He.Fa.ok K (.free "set")) rfl), He.free_ok X G (c.test 11 (t := fun K => He.Fa.ok K (.free "isinstance")) rfl), He.free_ok X G (c.test 12 (t := fun K => He.Fa.ok K (.free "all")) rfl), He.free_ok X G (c.test 13 (t := fun K => He.Fa.ok K (.free "any")) rfl), He.free_ok X G (c.test 14 (t := fun K => He.Fa.ok K (.free "sum")) rfl), He.free_ok X G (c.test 15 (t := fun K => He.Fa.ok K (.free "sorted")) rfl), He.free_ok X G (c.test 16 (t := fun K => He.Fa.ok K (.free "zip")) rfl), He.free_ok X G (c.test 17 (t := fun K => He.Fa.ok K (.free "enumerate")) rfl), He.free_ok X G (c.test 18 (t := fun K => He.Fa.ok K (.free "range")) rfl), He.free_ok X G (c.test 19 (t := fun K => He.Fa.ok K (.free "repr")) rfl), He.free_ok X G (c.test 20 (t := fun K => He.Fa.ok K (.free "super")) rfl), He.int_ok X G (c.test 21 (t := fun K => He.Fa.ok K (.int "MAX_BASE" 5)) rfl), He.int_ok X G (c.test 22 (t := fun K => He.Fa.ok K (.int "MAX_PLACE" 1000000000000000000000000000000000000000000000000000000000000)) rfl), He.int_ok X G (c.test 23 (t := fun K => He.Fa.ok K (.int "MAX_DIGITS" 300)) rfl)⟩
  have E_InvalidCount : ExcI P K mg "InvalidCount" "given" := excI_of X G (by decide) (c.test 24 (t := excT file "InvalidCount" "given" eIndex) rfl) T.super et_InvalidCount hfile hsup (c.ini_ 0 (d := di_InvalidCount) rfl rfl)
  have E_InvalidOperation : ExcO K mg "InvalidOperation" := excO_of (Bs := eValue) X G (c.test 25 (t := exoT "InvalidOperation" eValue) rfl)
  have M_met : MetOk K mg "_law_met" met_es met_l met_d := ok_met ⟨c.def_ 20 (d := dd_law_met) rfl, He.glo_ok X G (c.test 26 (t := fun K => He.Fa.ok K (.glo "_law_met")) rfl)⟩ T (metK_of X G (c.test 27 (t := metT0 met_es met_l) rfl) (by kernel_rfl))
  obtain ⟨fd, F⟩ := c.def_ 19 (d := dd_law) rfl
  have e := hfa.symm.trans (He.glo_ok X G (c.test 28 (t := fun K => He.Fa.ok K (.glo "law")) rfl))
  cases e
  have b := FunD.bindsA (ps := ["script"]) F fun _ _ _ _ _ _ us hl => match us, hl with | [_], _ => rfl
  refine ⟨fd, fun s v => b s [v] rfl, fun base _ _ TB => ?_⟩
  have H_law_dice := ok_law_dice (P := P) (w := w) (base := base) ⟨c.def_ 0 (d := dd_law_dice) rfl, He.glo_ok X G (c.test 29 (t := fun K => He.Fa.ok K (.glo "_law_dice")) rfl)⟩ T   
  have H_law_roll := ok_law_roll (P := P) (w := w) (base := base) ⟨c.def_ 1 (d := dd_law_roll) rfl, He.glo_ok X G (c.test 30 (t := fun K => He.Fa.ok K (.glo "_law_roll")) rfl)⟩ T   
  have H_law_pick := ok_law_pick (P := P) (w := w) (base := base) ⟨c.def_ 2 (d := dd_law_pick) rfl, He.glo_ok X G (c.test 31 (t := fun K => He.Fa.ok K (.glo "_law_pick")) rfl)⟩ T   H_law_roll
  have H_law_one := ok_law_one (P := P) (w := w) (base := base) ⟨c.def_ 3 (d := dd_law_one) rfl, He.glo_ok X G (c.test 32 (t := fun K => He.Fa.ok K (.glo "_law_one")) rfl)⟩ T   H_law_roll H_law_pick
  have H_law_first := ok_law_first (P := P) (w := w) (base := base) ⟨c.def_ 4 (d := dd_law_first) rfl, He.glo_ok X G (c.test 33 (t := fun K => He.Fa.ok K (.glo "_law_first")) rfl)⟩ T   
  have H_is_integer := ok_is_integer (P := P) (w := w) (base := base) ⟨c.def_ 5 (d := dd_is_integer) rfl, He.glo_ok X G (c.test 34 (t := fun K => He.Fa.ok K (.glo "is_integer")) rfl)⟩ T   
  have H_is_within := ok_is_within (P := P) (w := w) (base := base) ⟨c.def_ 6 (d := dd_is_within) rfl, He.glo_ok X G (c.test 35 (t := fun K => He.Fa.ok K (.glo "is_within")) rfl)⟩ T   H_is_integer
  have H_require_within := ok_require_within (P := P) (w := w) (base := base) ⟨c.def_ 7 (d := dd_require_within) rfl, He.glo_ok X G (c.test 36 (t := fun K => He.Fa.ok K (.glo "require_within")) rfl)⟩ T   E_InvalidCount H_is_within
  have H_require_base := ok_require_base (P := P) (w := w) (base := base) ⟨c.def_ 8 (d := dd_require_base) rfl, He.glo_ok X G (c.test 37 (t := fun K => He.Fa.ok K (.glo "require_base")) rfl)⟩ T   H_require_within
  have H_require_place := ok_require_place (P := P) (w := w) (base := base) ⟨c.def_ 9 (d := dd_require_place) rfl, He.glo_ok X G (c.test 38 (t := fun K => He.Fa.ok K (.glo "require_place")) rfl)⟩ T   H_require_within
  have H_digits_in := ok_digits_in (P := P) (w := w) (base := base) ⟨c.def_ 10 (d := dd_digits_in) rfl, He.glo_ok X G (c.test 39 (t := fun K => He.Fa.ok K (.glo "digits_in")) rfl)⟩ T   
  have H_digits_of := ok_digits_of (P := P) (w := w) (base := base) ⟨c.def_ 11 (d := dd_digits_of) rfl, He.glo_ok X G (c.test 40 (t := fun K => He.Fa.ok K (.glo "digits_of")) rfl)⟩ T   H_require_base H_require_place H_digits_in
  have H_digit_sum := ok_digit_sum (P := P) (w := w) (base := base) ⟨c.def_ 12 (d := dd_digit_sum) rfl, He.glo_ok X G (c.test 41 (t := fun K => He.Fa.ok K (.glo "digit_sum")) rfl)⟩ T   H_digits_of
  have H_noughts_behind := ok_noughts_behind (P := P) (w := w) (base := base) ⟨c.def_ 13 (d := dd_noughts_behind) rfl, He.glo_ok X G (c.test 42 (t := fun K => He.Fa.ok K (.glo "noughts_behind")) rfl)⟩ T   
  have H_ends_with := ok_ends_with (P := P) (w := w) (base := base) ⟨c.def_ 14 (d := dd_ends_with) rfl, He.glo_ok X G (c.test 43 (t := fun K => He.Fa.ok K (.glo "ends_with")) rfl)⟩ T   H_require_base H_require_place H_noughts_behind
  have H_place_in := ok_place_in (P := P) (w := w) (base := base) ⟨c.def_ 15 (d := dd_place_in) rfl, He.glo_ok X G (c.test 44 (t := fun K => He.Fa.ok K (.glo "place_in")) rfl)⟩ T   
  have H_place_of := ok_place_of (P := P) (w := w) (base := base) ⟨c.def_ 16 (d := dd_place_of) rfl, He.glo_ok X G (c.test 45 (t := fun K => He.Fa.ok K (.glo "place_of")) rfl)⟩ T   E_InvalidOperation H_require_base H_place_in H_is_within
  have H_digits_wide := ok_digits_wide (P := P) (w := w) (base := base) ⟨c.def_ 17 (d := dd_digits_wide) rfl, He.glo_ok X G (c.test 46 (t := fun K => He.Fa.ok K (.glo "digits_wide")) rfl)⟩ T   E_InvalidOperation H_require_base H_require_place H_require_within H_digits_in
  obtain ⟨c_law_right, p_law_right, LK_law_right⟩ := lamK_of (w := w) (x := "_law_right") hl l (by decide) TB
  have H_law_right := ok_law_right (P := P) (w := w) (base := base) ⟨c.def_ 18 (d := dd_law_right) rfl, He.glo_ok X G (c.test 47 (t := fun K => He.Fa.ok K (.glo "_law_right")) rfl)⟩ T   M_met LK_law_right H_law_one H_law_roll H_law_first H_digits_of H_digit_sum H_ends_with H_place_of H_digits_wide
  obtain ⟨c_law, p_law, LK_law⟩ := lamK_of (w := w) (x := "law") hl l (by decide) TB
  exact ok_law F T   M_met LK_law H_law_dice H_law_right H_digits_wide
end Pf
open PySem PySem.W PySem.Calls PyProof.Rows
set_option maxRecDepth 100000 in
set_option maxHeartbeats 8000000 in
theorem PySem.Challenge.cw_digitwords_k12_errors_of_digits_holds : PySem.Challenge.rw_digitwords_k12_errors_of_digits.Holds := by
  w_on; o_law
  refine HandSHeadRun.head_any (r := Pf.R) (q := view Pf.R.prog [31]) (H := Pf.hk) (ob := Pf.ob) (M := 8000) (loose := Pf.loose) (d := HandSHeadRun.topDef Pf.R.prog 31) (kwd := []) Pf.ob_eq
    (by kernel_rfl) (fun s => by kernel_rfl) Pf.run (by kernel_rfl) (by kernel_rfl) (by kernel_rfl) (by rfl) (by first | assumption | decide +kernel) (by decide +kernel) ⟨rfl, rfl, rfl, rfl, rfl, by decide +kernel⟩ ?hw ?hc
  case hw => w_witness2
  case hc =>
    refine Mi.walk_mi (l := PySem.Challenge.rw_digitwords_k12_errors_of_digits) (n := 63) (k := 13) (x := "script") (m := Pf.m_law) rfl (by decide) (by kernel_rfl) ⟨rfl, by decide, by decide⟩ ?F Pf.law_true
    intro w mg fa h Y G hmg0
    obtain ⟨K, KX, c, l⟩ := Y
    have hmg : mg ("law" : PySem.Str) = some (.ref fa) := by
      have e : (HandSHeadRun.topDef Pf.R.prog 31).name = ("law" : PySem.Str) := by kernel_rfl
      rw [← e]
      exact hmg0
    have hl : Mi.lamDefs (PySem.Challenge.rw_digitwords_k12_errors_of_digits).prog = Pf.lam := by kernel_rfl
    obtain ⟨fd, hb, hF⟩ := Pf.facts (P := (PySem.Challenge.rw_digitwords_k12_errors_of_digits).prog) (w := w) KX G hmg c l hl (by kernel_rfl) (by kernel_rfl)
    obtain ⟨e1, e2⟩ := Mi.lam_end (w := w) hl l
    exact ⟨K, fd, Mi.csOf K Pf.lam, KX, hb, e1, e2, hF⟩
