import PyProof.Rows.All
import Wide.All
import OpenK.AllK
import Wide.FinOn
import KE.KStateDown
import Lean
import HandS.ForMost
import HandS.ForExc
import HandS.Flow
import HandS.Evl
import HandS.Style
import HandS.Wide
import HandS.TupMul
import HandS.TupAny
import HandS.IsInst
import HandS.Conv
import HandS.Defaults
import HandS.HeadEnd
import HandS.Head0
import HandS.Head1
import HandS.Head2
import HandS.HeadHook1
import HandS.HeadHook2
import HandS.RaiseMore
import KE.GoesEnum
import HandS.Iter
import HandS.Walk
import KE.KRevSl
import KE.KTupSum
import HandS.List
import PyProof.ListMulRoad
import PyProof.FactsAll.tuple_2
import HandS.Slots
import HandS.SlotsOwn
import HandS.Property
import HandS.NamedTupGet
import HandS.SetFor
import PyProof.AutoSeq1
import PySem.Challenge.RW_digitwords_k23_whole_states_spelled_out
set_option Elab.async false
set_option linter.all false
set_option maxRecDepth 100000
set_option maxHeartbeats 4000000
namespace My
open PySem PySem.Spec PyProof.Rows L2
section
variable {X : Cx}
/-- ** of a great base -/
def CPowW (i j : Int) : Prop := 0 ≤ j ∧ (Builtin.Int.intBits i : Int) * j ≤ 2 ^ 27
instance {i j : Int} : Decidable (CPowW i j) := inferInstanceAs (Decidable (_ ∧ _))
theorem op_powW : OpR X (binaryOp .Pow) (rI CPowW fun i j => .int (i ^ j.toNat)) := opI fun _ _ _ _ _ _ _ hc q => pow_int hc.1 hc.2 q
end
/-- all tracked things but the one at d stay -/
def But (d : Addr) (H H' : Hp) : Prop := ∀ b o, b ≠ d → H b = some o → H' b = some o
theorem But.refl (d : Addr) (H : Hp) : But d H H := fun _ _ _ h => h
theorem But.trans {d : Addr} {H H1 H2 : Hp} (a : But d H H1) (b : But d H1 H2) : But d H H2 := fun c o n h => b c o n (a c o n h)
theorem But.of {d : Addr} {H H' : Hp} (e : Same H H') : But d H H' := fun b o _ h => e b o h
theorem But.upd {d : Addr} {H : Hp} {o : HO} : But d H (upd H d o) := fun b u n h => by rw [upd_ne n]; exact h
theorem But.updT {d : Addr} {H H1 : Hp} {o : HO} (e : But d H H1) : But d H (L2.upd H1 d o) := e.trans But.upd
/-- the dice -/
def DiceAt (H : Hp) (d : Addr) : Prop := ∃ a b c : Int, H d = some (.lst [.int a, .int b, .int c])

/-- a def of the module, by its name: it keeps a promise, wherever k rooms are left -/
def Keeps (P : Program) (w : World) (K : PySem.W.Frag) (mg : Str → Option Value) (base : Heap) (CX : CXT) (k : Nat) (x : Str) (ps : List Str) (sp : Sp) : Prop :=
  ∃ fd, FnOk P w K mg base CX k (He.ga K x) fd ps sp ∧ Binds K fd ps [] ∧ PySem.W.keepIn K (.ref (He.ga K x)) = true ∧ mg x = some (.ref (He.ga K x))
section
variable {X : Cx} {CX : CXT} {k j : Nat} {x : Str} {ps : List Str} {sp : Sp} {E : XK} {p pos : Pos} {e : Expr} {es : List Expr} {t : TA}
theorem pe_doS (F : Keeps X.prog X.w X.K X.mg X.base CX k x ps sp) (hr : Room j X.A) (hk : k ≤ j) (hg : Gl X x) (hx : Passes CX X E) (ha : PA X (e :: es) t) (hdb : (x == ("__debug__" : Str)) = false := by decide)
    (he : starEach (e :: es) X.env = (false, eval e X.env) :: starEach es X.env := by rfl) (hpl : (backTo pos (starEach es X.env)).any (·.1) = false := by rfl) :
    PE X (.Call (.Name x p) (e :: es) [] pos) (tCall sp [] E t) := by
  obtain ⟨fd, G, b, kp, m⟩ := F
  exact pe_call G (hr.mono hk) hg m kp b .nil hx ha hdb he hpl
theorem pe_do (F : Keeps X.prog X.w X.K X.mg X.base CX0 k x ps sp) (hr : Room j X.A) (hg : Gl X x) (hx : Passes CX0 X E) (ha : PA X (e :: es) t) (hk : k ≤ j := by decide) (hdb : (x == ("__debug__" : Str)) = false := by decide)
    (he : starEach (e :: es) X.env = (false, eval e X.env) :: starEach es X.env := by rfl) (hpl : (backTo pos (starEach es X.env)).any (·.1) = false := by rfl) :
    PE X (.Call (.Name x p) (e :: es) [] pos) (tCall sp [] E t) := pe_doS F hr hk hg hx ha hdb he hpl
end
/-- where a def of the text stands -/
structure DefIn (K : PySem.W.Frag) (mg : Str → Option Value) (x : Str) (st : Stmt) : Prop where
  fd : ∃ fd, FunD K x x (defArgs st) (defBody st) (defScope st) [] [] (He.ga K x) fd
  gl : mg x = some (.ref (He.ga K x))
section
variable {P : Program} {w : World} {K : PySem.W.Frag} {mg : Str → Option Value} {base : Heap} {CX : CXT} {k : Nat} {x : Str} {st : Stmt} {N ps : List Str} {sp : Sp}
theorem fun_ok0 {fd : FuncData} (F : FunD K x x (defArgs st) (defBody st) (defScope st) [] [] (He.ga K x) fd) (S : FnScope N ps (defScope st)) (len : ∀ vs H Q E, sp vs H Q E → vs.length = ps.length)
    (hbody : ∀ (cdv : Value) (A : Around) (outer : List Env) (s : Shared) (H : Hp) (vs : List V) (Q : VK) (E : XK), Room k (A.deeper (envOfC x (defScope st) s.heap.objs.size (He.ga K x) cdv)) → sp vs H Q E →
      ∃ t, PSs (cxOf CX0 P w K mg base N x (defScope st) (He.ga K x) cdv A outer s H E).nox (defBody st) t ∧ t { nx := fun _ H' => Q .non H', rt := Q } (start N vs) H) : FnOk P w K mg base CX0 (k + 1) (He.ga K x) fd ps sp := by
  refine F.ok S len fun cdv A outer s H vs Q E hr hsp => ?_
  obtain ⟨t, h, q⟩ := hbody cdv A outer s H vs Q E hr hsp
  exact ⟨t, h.nox, q⟩
theorem DefIn.keeps (D : DefIn K mg x st) (S : FnScope N ps (defScope st)) (len : ∀ vs H Q E, sp vs H Q E → vs.length = ps.length)
    (hb : ∀ (kV doc pm : Value) (an : Option Addr) (cdv ct : Value) (us : List Value), us.length = ps.length → bindArgs (PySem.W.fnOf x x (defArgs st) (defBody st) (defScope st) .none kV doc pm an cdv ct) ⟨us, []⟩ = pure (ps.zip us))
    (hbody : ∀ (cdv : Value) (A : Around) (outer : List Env) (s : Shared) (H : Hp) (vs : List V) (Q : VK) (E : XK), Room k (A.deeper (envOfC x (defScope st) s.heap.objs.size (He.ga K x) cdv)) → sp vs H Q E →
      ∃ t, PSs (cxOf CX0 P w K mg base N x (defScope st) (He.ga K x) cdv A outer s H E).nox (defBody st) t ∧ t { nx := fun _ H' => Q .non H', rt := Q } (start N vs) H) : Keeps P w K mg base CX0 (k + 1) x ps sp := by
  obtain ⟨fd, F⟩ := D.fd
  refine ⟨fd, F.ok S len fun cdv A outer s H vs Q E hr hsp => ?_, F.bindsN hb, F.kp, D.gl⟩
  obtain ⟨t, h, q⟩ := hbody cdv A outer s H vs Q E hr hsp
  exact ⟨t, h.nox, q⟩
end
/-! ### readings, step by step -/
theorem iteD {p : Prop} {_ : Decidable p} {A B : Prop} (h1 : p → A) (h2 : ¬ p → B) : if decide p = true then A else B := by
  by_cases h : p
  · rw [decide_eq_true h]; exact iteT (h1 h)
  · rw [decide_eq_false h]; exact iteF (h2 h)
theorem iteN {p : Prop} {_ : Decidable p} {A B : Prop} (h1 : ¬ p → A) (h2 : p → B) : if (!decide p) = true then A else B := by
  by_cases h : p
  · rw [decide_eq_true h]; exact iteF (h2 h)
  · rw [decide_eq_false h]; exact iteT (h1 h)
theorem iteB {b : Bool} {A B : Prop} (h1 : b = true → A) (h2 : b = false → B) : if b = true then A else B := by
  cases b
  · exact iteF (h2 rfl)
  · exact iteT (h1 rfl)
theorem iteBN {b : Bool} {A B : Prop} (h1 : b = false → A) (h2 : b = true → B) : if (!b) = true then A else B := by
  cases b
  · exact iteT (h1 rfl)
  · exact iteF (h2 rfl)
theorem nodup_ixA : ∀ {l : List Addr} (_ : l.Nodup) {i j : Nat} {d : Addr} (_ : l[i]? = some d) (_ : l[j]? = some d), i = j
  | [], _, i, j, d, h, _ => by simp at h
  | a :: l, n, 0, 0, d, _, _ => rfl
  | a :: l, n, 0, j + 1, d, h1, h2 => by
    simp at h1 h2
    exact absurd (List.mem_of_getElem? h2) (by rw [← h1]; exact (List.nodup_cons.mp n).1)
  | a :: l, n, i + 1, 0, d, h1, h2 => by
    simp at h1 h2
    exact absurd (List.mem_of_getElem? h1) (by rw [← h2]; exact (List.nodup_cons.mp n).1)
  | a :: l, n, i + 1, j + 1, d, h1, h2 => by
    simp at h1 h2
    rw [nodup_ixA (List.nodup_cons.mp n).2 h1 h2]
/-- things that are tracked, at unlike places -/
def Has (H : Hp) (l : List (Addr × HO)) : Prop := (l.map (·.1)).Nodup ∧ ∀ p ∈ l, H p.1 = some p.2
theorem Has.nil {H : Hp} : Has H [] := ⟨List.nodup_nil, fun _ h => nomatch h⟩
theorem Has.one {H : Hp} {a : Addr} {o : HO} (h : H a = some o) : Has H [(a, o)] := ⟨by simp, fun p hp => by
  rw [List.mem_singleton.mp hp]; exact h⟩
theorem Has.cons {H H' : Hp} {l : List (Addr × HO)} {a : Addr} {o : HO} (W : Has H l) (e : Same H H') (n : H a = none) (h : H' a = some o) : Has H' ((a, o) :: l) := by
  refine ⟨?_, fun p hp => ?_⟩
  · rw [List.map_cons, List.nodup_cons]
    refine ⟨fun hm => ?_, W.1⟩
    obtain ⟨q, hq, e2⟩ := List.mem_map.mp hm
    have := W.2 q hq
    rw [e2, n] at this
    cases this
  · rcases List.mem_cons.mp hp with rfl | hp
    · exact h
    · exact e _ _ (W.2 p hp)
theorem Has.same {H H' : Hp} {l : List (Addr × HO)} (W : Has H l) (e : Same H H') : Has H' l := ⟨W.1, fun p hp => e _ _ (W.2 p hp)⟩
theorem Has.drop {H : Hp} {l : List (Addr × HO)} {p : Addr × HO} (W : Has H (p :: l)) : Has H l := ⟨(List.nodup_cons.mp W.1).2, fun q hq => W.2 q (List.mem_cons_of_mem _ hq)⟩
/-- the i-th one is changed -/
theorem Has.but {H H' : Hp} {l : List (Addr × HO)} {d : Addr} {o o' : HO} (i : Nat) (W : Has H l) (hi : l[i]? = some (d, o)) (e : But d H H') (h : H' d = some o') : Has H' (l.set i (d, o')) := by
  have hlt : i < l.length := by
    rcases Nat.lt_or_ge i l.length with h1 | h1
    · exact h1
    · rw [List.getElem?_eq_none h1] at hi; cases hi
  have em : (l.set i (d, o')).map (·.1) = l.map (·.1) := by
    apply List.ext_getElem?
    intro j
    rw [List.getElem?_map, List.getElem?_map, List.getElem?_set]
    by_cases hj : i = j
    · subst hj
      simp [hlt]
      rw [List.getElem?_eq_getElem hlt] at hi
      have := Option.some.inj hi
      rw [this]
    · rw [if_neg hj]
  refine ⟨by rw [em]; exact W.1, fun p hp => ?_⟩
  obtain ⟨j, hj, ej⟩ := List.getElem_of_mem hp
  rw [List.getElem_set] at ej
  by_cases hij : i = j
  · rw [if_pos hij] at ej
    rw [← ej]
    exact h
  · rw [if_neg hij] at ej
    have hj' : j < l.length := by rw [List.length_set] at hj; exact hj
    have hp' : p ∈ l := by rw [← ej]; exact List.getElem_mem hj'
    refine e _ _ (fun hd => ?_) (W.2 p hp')
    have n := W.1
    have h1 : (l.map (·.1))[i]? = some d := by rw [List.getElem?_map, hi]; rfl
    have h2 : (l.map (·.1))[j]? = some d := by rw [List.getElem?_map, List.getElem?_eq_getElem hj', ej]; simp [hd]
    exact hij (nodup_ixA n h1 h2)
theorem Has.upd {H : Hp} {l : List (Addr × HO)} {d : Addr} {o o' : HO} (i : Nat) (W : Has H l) (hi : l[i]? = some (d, o)) : Has (L2.upd H d o') (l.set i (d, o')) := W.but i hi But.upd upd_same
theorem Has.get {H : Hp} {l : List (Addr × HO)} (i : Nat) (W : Has H l) {d : Addr} {o : HO} (hi : l[i]? = some (d, o)) : H d = some o := W.2 _ (List.mem_of_getElem? hi)
/-- a new thing: the heap behind it is any that has it, and all that was -/
@[elab_as_elim] theorem new_of {H : Hp} {p : Addr} {o : HO} {motive : Hp → Prop} (n : H p = none) (h : ∀ H', Same H H' → H' p = some o → motive H') : motive (L2.upd H p o) :=
  h _ (fun b u e => by rw [upd_ne (ne_of_none e n)]; exact e) upd_same
section
variable {K : PySem.W.Frag} {H : Hp} {p : Addr} {xs : List V} {i : Int} {v : V} {Q : VK}
theorem rIxL_of (h : H p = some (.lst xs)) (hv : atI xs i = some v) (q : Q v H) : rIxL K (.ref p) (.int i) H Q := ⟨p, xs, i, v, rfl, rfl, SqL.of h, hv, q⟩
theorem rIxL_sq (h : SqL K H p xs) (hv : atI xs i = some v) (q : Q v H) : rIxL K (.ref p) (.int i) H Q := ⟨p, xs, i, v, rfl, rfl, h, hv, q⟩
theorem rIxT_of (h : H p = some (.tup xs)) (hv : atI xs i = some v) (q : Q v H) : rIxT K (.ref p) (.int i) H Q := ⟨p, xs, i, v, rfl, rfl, SqT.of h, hv, q⟩
theorem rI_of {C : Int → Int → Prop} {g : Int → Int → V} {a b : Int} (hc : C a b) (q : Q (g a b) H) : rI C g (.int a) (.int b) H Q := ⟨a, b, rfl, rfl, hc, q⟩
theorem rI0_of {g : Int → Int → V} {a b : Int} (q : Q (g a b) H) : rI0 g (.int a) (.int b) H Q := ⟨a, b, rfl, rfl, q⟩
theorem set_of {xs : List V} {v : V} {j : Nat} {Q : Hp → Prop} (h : H p = some (.lst xs)) (hj : ixN xs.length i = some j) (q : ∀ H', But p H H' → H' p = some (.lst (xs.set j v)) → Q H') : rSetL (.ref p) (.int i) v H Q :=
  ⟨p, xs, i, j, rfl, rfl, h, hj, q _ But.upd upd_same⟩
theorem cmulL {a b : Int} (h : -(2 ^ 64) < a) (h2 : a < 2 ^ 64) : CMul a b := .inl ⟨h, h2⟩
theorem cmulR {a b : Int} (h : -(2 ^ 64) < b) (h2 : b < 2 ^ 64) : CMul a b := .inr ⟨h, h2⟩
end
/-- an expression, what is known behind it said in between -/
def tMid (te : TE) : TE := fun σ H Q => ∃ R : VK, te σ H R ∧ ∀ v H', R v H' → Q v H'
theorem pe_mid {X : Cx} {e : Expr} {te : TE} (h : PE X e te) : PE X e (tMid te) := ⟨fun pins s σ H Q I ⟨R, h1, h2⟩ =>
  thn (h.run pins s σ H R I h1) fun u s1 ⟨v, H1, I1, r, q⟩ => ⟨v, H1, I1, r, h2 _ _ q⟩⟩
end My

set_option Elab.async false
set_option linter.all false
set_option maxRecDepth 100000
set_option maxHeartbeats 4000000
namespace My
open PySem PySem.Spec PyProof.Rows L2
/-! ### enumerate(tuple) -/
set_option maxHeartbeats 4000000 in
theorem meets_enum1 {v : Value} {o : Obj} {H : Heap → Prop} (B : Begins v o H) :
    Meets (Builtin.«enumerate.__new__» ⟨[.type "enumerate", v], []⟩) (fun _ R s => H s.heap ∧
      R (.ok (.ret (.ref (s.heap.push o).objs.size))) { s with heap := (s.heap.push o).push { cls := .type "enumerate", data := .fields #[.none, .bool false, .ref s.heap.objs.size, rawInt 0, .none, .none] } }) :=
  .of_wp fun prog w A R s h => by
    obtain ⟨hp, g, d, tk, os⟩ := s
    obtain ⟨h1, h⟩ := h
    have hsub := sub_enumerate
    have step : ∀ {A' : Around} {E : Value → Shared → Prop} {Q : Value → Shared → Prop}, Q (.ref hp.objs.size) ⟨hp.push o, g, d, tk, os⟩ → wpAny (model prog w) A' (pyIter v) Q E ⟨hp, g, d, tk, os⟩ :=
      fun q => B.iter prog w _ _ ⟨hp, g, d, tk, os⟩ _ h1 q
    wp_walk using step
    refine wpAny_stack_any fun st => wpAny_pure ?_
    split
    · rename_i c _ _ _ _ _
      cases (c == Value.type "enumerate")
      · wp_walk using step
        exact ⟨_, rfl, h⟩
      · wp_walk using step
        exact ⟨_, rfl, h⟩
    · wp_walk using step
      exact ⟨_, rfl, h⟩
theorem call_enum1 {prog : Program} {w : World} {A : Around} {E : Value → Shared → Prop} {s : Shared} {v : Value} {o : Obj} {G : Heap → Prop} {Q : Value → Shared → Prop} (B : Begins v o G) (h1 : G s.heap)
    (h : ∀ h', IsEnum h' (s.heap.objs.size + 1) s.heap.objs.size 0 .none → h'.get? s.heap.objs.size = some o → h'.objs.size = s.heap.objs.size + 2 →
      (∀ b u, s.heap.get? b = some u → h'.get? b = some u) → Q (.ref (s.heap.objs.size + 1)) { s with heap := h' }) :
    wpAny (model prog w) A (call (.type "enumerate") [v]) Q E s := by
  refine callType_new F.called_enumerate (by decide) (F.typeCall_enumerate_1 _) (F.newCall_enumerate_1 _) (fun obj => F.args_object_init_2 obj _) F.entry_enumerate_new (meets_enum1 B) ⟨h1, ?_⟩
  have hz : (s.heap.push o).objs.size = s.heap.objs.size + 1 := Heap.size_push ..
  show _ ∧ _
  rw [hz]
  have hn := Heap.get?_push_size (s.heap.push o) (o := { cls := .type "enumerate", data := .fields #[.none, .bool false, .ref s.heap.objs.size, rawInt 0, .none, .none] }) rfl
  rw [hz] at hn
  exact ⟨⟨_, hn, rfl⟩, h _ hn (Heap.get?_push_of_some _ (Heap.get?_push_size _ B.free)) (by rw [Heap.size_push, hz]) fun b u x => Heap.get?_push_of_some _ (Heap.get?_push_of_some _ x)⟩
/-- the items of the tuple at a, each in a new pair with its index -/
def Iet (K : PySem.W.Frag) (a : Addr) : It :=
  ⟨fun i H => ∃ (xs : List V) (x : V), SqT K H a xs ∧ xs[i]? = some x, fun i H v H' => ∃ T x, v = .ref T ∧ H T = none ∧ H' = upd H T (.tup [.int (i : Nat), x]) ∧ ∀ xs, SqT K H a xs → xs[i]? = some x, fun i H => ∃ xs : List V, SqT K H a xs ∧ xs.length = i⟩
theorem turn_enumT {P : Program} {w : World} {K : PySem.W.Frag} {elts : List Expr} {kk : Nat} {tpos : Pos} (a e it : Addr) (hne : e ≠ it) (hai : a ≠ it) (hae : a ≠ e) :
    Turn P w K (.Tuple elts kk tpos) (Iet K a) [e, it] e (fun i h => (∃ old, IsEnum h e it ((i : Nat) : Int) old) ∧ h.IsTupleIter it a i) where
  mem := by simp
  obj := fun i h st b hb => by
    obtain ⟨⟨old, he⟩, ⟨o, ho, hc, hd⟩⟩ := st
    rcases (show b = e ∨ b = it by simpa using hb) with z | z
    · rw [z]; exact ⟨_, he, fun v q => nomatch q⟩
    · rw [z]; exact ⟨o, ho, fun v q => by rw [hd] at q; cases q⟩
  keep := fun i h h' st k => let ⟨⟨old, he⟩, hi⟩ := st; ⟨⟨old, k e (by simp) _ he⟩, hi.at fun o q => k it (by simp) o q⟩
  item := by
    intro X hP hw hK hc i pins s σ H E I hf st hg
    subst hP hw hK
    obtain ⟨⟨old, he⟩, hit⟩ := st
    obtain ⟨xs, x, hq, hx⟩ := hg
    obtain ⟨its, rv, p, hz⟩ := I.tuple hq
    obtain ⟨u, hu, ru⟩ := rv.get hx
    have hel : e < s.heap.objs.size := Heap.lt_size he
    have hil : it < s.heap.objs.size := by obtain ⟨_, q, _⟩ := hit; exact Heap.lt_size q
    have hh := I.ok.hd hc
    have D := Draws.tuple (prog := X.prog) (w := X.w) (A := X.A.in1) hh it a hai its.toArray
    have hu2 : its.toArray[i]? = some u := by simpa using hu
    have hlt : i < its.toArray.size := by
      rcases Nat.lt_or_ge i its.toArray.size with z | z
      · exact z
      · rw [Array.getElem?_eq_none z] at hu2; cases hu2
    refine wpAny_pyNext_enum_itemC D he ⟨hit, show s.heap.IsTuple a its.toArray from p⟩ hlt hne (by simp [hne, Ne.symm hae]) fun y h' tk hP ho hs' hT hsz hk => ?_
    have ey : y = u := by rw [hu2] at hP; exact (Option.some.inj hP).symm
    subst ey
    refine ⟨_, rfl, wpAny_letOwnedTupleGo_enum (s := { s with heap := h', toks := tk + 1 }) ho fun h'' he' sb => ?_⟩
    have hT2 : h''.get? s.heap.objs.size = some { cls := .type "tuple", data := .seq #[.int i tk, y] } := (sb.2 _ (Nat.ne_of_gt hel)).trans hT
    have new : ObjOk X.prog X.w (upd H s.heap.objs.size (.tup [.int (i : Nat), x])) h'' s.heap.objs.size (.tup [.int (i : Nat), x]) :=
      ⟨by show 2 ≤ sizeLine; decide, [.int i tk, y], .cons ⟨_, rfl⟩ (.cons ru .nil), ⟨_, hT2, rfl, _, rfl⟩⟩
    have I1 : Inv X pins σ (upd H s.heap.objs.size (.tup [.int (i : Nat), x])) { s with heap := h'', toks := tk + 1 } :=
      I.turnedNew (ch := [e, it]) (fun b ob hb q => (sb.2 b (fun z => hb (by simp [z]))).trans (hk b ob (fun z => hb (by simp [z])) (fun z => hb (by simp [z])) q)) hf (Nat.le_refl _) new
    refine ⟨.ref s.heap.objs.size, _, I1, rfl, ⟨_, x, rfl, I.hok.fresh (Nat.le_refl _), rfl, fun ys hy => by rw [I.tuple_inj hy hq]; exact hx⟩, ⟨⟨y, ?_⟩, hs'.1.at fun o q => (sb.2 it (Ne.symm hne)).trans q⟩, fun b hb => ?_⟩
    · have e1 : ((i + 1 : Nat) : Int) = (i : Int) + 1 := by omega
      rw [e1]; exact he'
    · have hb' : b < s.heap.objs.size := by
        rcases (show b = e ∨ b = it by simpa using hb) with z | z
        · rw [z]; exact hel
        · rw [z]; exact hil
      rw [upd_ne (Nat.ne_of_lt hb')]
      exact (hf b hb).1
  done := by
    intro X hP hw hK hc i pins s σ H E I hf st hg
    subst hP hw hK
    obtain ⟨⟨old, he⟩, hit⟩ := st
    obtain ⟨xs, hq, hx⟩ := hg
    obtain ⟨its, rv, p, hz⟩ := I.tuple hq
    obtain ⟨f0, f1, f2, f3, f4, f5⟩ := hf it (by simp)
    have hl := rv.length
    have ei : i = its.toArray.size := by simp; omega
    have D := Draws.tuple (prog := X.prog) (w := X.w) (A := X.A.in1) (I.ok.hd hc) it a hai its.toArray
    rw [ei] at hit he
    exact wpAny_pyNext_enum_endD D he ⟨hit, show s.heap.IsTuple a its.toArray from p⟩ fun h' eb => ⟨rfl, I.turned (t' := s.toks) (fun b o hb q => eb b o hb q) f0 f1 f3 f4 f5⟩
  self := fun A i s Q E st h => let ⟨⟨_, he⟩, _⟩ := st; wpAny_pyIter_enum he h
def iEnT (K : PySem.W.Frag) (ta : TA) : TI := fun σ H R => ta σ H fun vs H1 => ∃ a xs, vs = [.ref a] ∧ SqT K H1 a xs ∧ R (Iet K a) H1
theorem pi_enumT {X : Cx} {e : Expr} {ta : TA} {p pos tpos : Pos} {elts : List Expr} {kk : Nat} (hg : Gl X "enumerate") (hm : X.mg "enumerate" = none) (ha : PA X [e] ta) (hs : starEach [e] X.env = [(false, eval e X.env)] := by rfl) :
    PI X (.Tuple elts kk tpos) (.Call (.Name "enumerate" p) [e] [] pos) (iEnT X.K ta) := by
  refine ⟨fun pins s σ H R I h => ?_⟩
  refine Call_ (ld_blt I hg hm boot_enumerate (PyProof.Rows.callWith_type1 (thn (ha.run pos pins s σ H _ I h) fun us s1 ⟨vs, H1, I1, r1, q1⟩ => ?_) hs rfl))
  obtain ⟨a, xs, ex, hq, q⟩ := q1
  subst ex
  cases r1 with
  | cons r rr =>
    cases rr
    cases r
    obtain ⟨its, rv, p', hz⟩ := I1.tuple hq
    have hal : a < s1.heap.objs.size := p'.lt
    refine call_enum1 (begins_tuple a its.toArray) (show s1.heap.IsTuple a its.toArray from p') fun h' he hit hsz hk => wpAny_pyIter_enum he ?_
    have I2 : Inv X pins σ H1 { s1 with heap := h' } := I1.kept (t' := s1.toks) hk
    refine ⟨s1.heap.objs.size + 1, [s1.heap.objs.size + 1, s1.heap.objs.size], _, _, H1, rfl, I2, turn_enumT a (s1.heap.objs.size + 1) s1.heap.objs.size (Nat.succ_ne_self _) (Nat.ne_of_lt hal) (Nat.ne_of_lt (Nat.lt_succ_of_lt hal)), ⟨⟨.none, he⟩, ⟨_, hit, rfl, rfl⟩⟩, fun b hb => ?_, q⟩
    have hle : s1.heap.objs.size ≤ b := by
      rcases (show b = s1.heap.objs.size + 1 ∨ b = s1.heap.objs.size by simpa using hb) with z | z
      · rw [z]; exact Nat.le_add_right _ _
      · rw [z]; exact Nat.le_refl _
    exact I1.fpOk hle (I1.hok.fresh hle)
section
variable {K : PySem.W.Frag} {a : Addr} {xs : List V}
theorem walk_enumT : Walk (Iet K a) xs.length (fun H => SqT K H a xs) (YPair (fun i => some (.int (i : Nat))) (fun i => xs[i]?)) := by
  refine ⟨fun i _ hi q => ⟨xs, xs[i], q, by simp [hi]⟩, fun _ q => ⟨xs, q, rfl⟩, fun i H v H' _ q y => ?_⟩
  obtain ⟨T, x, h1, h2, h3, h4⟩ := y
  exact ⟨T, .int (i : Nat), x, h1, h2, h3, rfl, h4 xs q⟩
end
/-! ### sum of a tuple of ints -/
def rSumT (K : PySem.W.Frag) : List V → Hp → VK → Prop := fun vs H Q => ∃ (a : Addr) (ns : List Int), vs = [V.ref a] ∧ SqT K H a (ns.map V.int) ∧ Q (.int ns.sum) H
theorem cr_sumT {X : Cx} (hc : X.calm = true) : CallR X (.builtin "sum") (rSumT X.K) := by
  intro pins s σ H vs us Q I r h
  obtain ⟨a, ns, rfl, hs, q⟩ := h
  obtain ⟨its, rv, p, _⟩ := I.tuple hs
  rw [Vals.ref1 r]
  obtain ⟨xs, e⟩ := rv.ints.allInts.items
  have hn : numsOf (intItems xs).toList = ns := by rw [← e]; exact rv.ints.numsOf
  rw [nums_intItems] at hn
  have ht : s.heap.IsTuple a its.toArray := p
  rw [e] at ht
  refine PySem.W.ktm_sumG (I.ok.hd hc) ht fun h' tk t' hk => ?_
  rw [preSum_eq, List.take_of_length_le (by simp), hn]
  exact ⟨.int _, H, I.kept hk, ⟨_, rfl⟩, q⟩
/-! ### t[::-1] of a tuple -/
section
variable {prog : Program} {w : World} {A : Around} {E : Value → Shared → Prop} {s : Shared}
theorem sliceApplied_back {sl : Addr} {tk : Tok} {n : Nat} {Q : Int × Int × Nat → Shared → Prop} (hs : s.heap.IsSliceOf sl .none .none (.int (-1) tk))
    (h : Q ((n : Int) - 1, -1, n) s) : wpAny (model prog w) A (Builtin.Slice.sliceApplied (.ref sl) (pure (n : Int))) Q E s := by
  obtain ⟨os, hos, hcs, hds⟩ := id hs
  unfold Builtin.Slice.sliceApplied Builtin.Slice.sliceFields
  refine wpAny_bind (wpAny_bind (wpAny_field hos hds (x := .none) rfl (wpAny_bind (wpAny_field hos hds (x := .none) rfl (wpAny_bind (wpAny_field hos hds (x := .int (-1) tk) rfl (wpAny_pure ?_)))))))
  refine wpAny_bind (slicePart_int ?_)
  show wpAny _ _ (if ((-1 : Int) == 0) = true then _ else _) _ _ s
  rw [if_neg (by decide)]
  refine wpAny_bind (slicePart_none (wpAny_bind (slicePart_none (wpAny_bind (wpAny_pure ?_)))))
  show wpAny _ _ (match Builtin.Slice.sliceAdjust none none (-1) (n : Int) with | (lo, hi) => pure (lo, (-1 : Int), Builtin.Slice.slicePlaces lo hi (-1))) _ _ s
  have e1 : Builtin.Slice.sliceAdjust none none (-1) (n : Int) = ((n : Int) - 1, -1) := rfl
  rw [e1]
  show wpAny _ _ (pure ((n : Int) - 1, (-1 : Int), Builtin.Slice.slicePlaces ((n : Int) - 1) (-1) (-1))) _ _ s
  have e2 : Builtin.Slice.slicePlaces ((n : Int) - 1) (-1) (-1) = n := by
    unfold Builtin.Slice.slicePlaces
    rw [if_neg (by decide)]
    split
    · rw [show (-(-1 : Int)) = 1 from rfl, Int.ediv_one]; omega
    · omega
  rw [e2]
  exact wpAny_pure h
theorem pick_back (xs : Array Value) : ((List.range xs.size).filterMap fun (k : Nat) => xs[(((xs.size : Int) - 1) + (k : Int) * (-1)).toNat]?).toArray = xs.toList.reverse.toArray := by
  have e : ((List.range xs.size).filterMap fun (k : Nat) => xs[(((xs.size : Int) - 1) + (k : Int) * (-1)).toNat]?) = ((List.range xs.size).map fun k => xs.size - 1 - k).filterMap (xs[·]?) := by
    rw [List.filterMap_map]
    congr 1
    funext k
    show xs[(((xs.size : Int) - 1) + (k : Int) * (-1)).toNat]? = xs[xs.size - 1 - k]?
    rw [show (((xs.size : Int) - 1) + (k : Int) * (-1)).toNat = xs.size - 1 - k by omega]
  rw [e, PySem.W.krv_range, List.filterMap_reverse, PySem.W.krv_all]
theorem getItem_back {t sl : Addr} {items : Array Value} {tk : Tok} {Q : Value → Shared → Prop} (ht : IsTup s.heap t items) (hs : s.heap.IsSliceOf sl .none .none (.int (-1) tk))
    (h : Q (.ref s.heap.objs.size) { s with heap := s.heap.push { cls := .type "tuple", data := .seq items.toList.reverse.toArray } })
    (hsz : items.size ≤ sizeLine) : wpAny (model prog w) A (getItem (.ref t) (.ref sl)) Q E s := by
  have htake : sizeOk (.seq items.toList.reverse.toArray) := by
    show items.toList.reverse.toArray.size ≤ sizeLine
    rw [List.size_toArray, List.length_reverse, Array.length_toList]
    exact hsz
  obtain ⟨os, hos, hcs, hds⟩ := id hs
  have hTs : s.TypeIs (.ref sl) "slice" := ⟨os, hos, hcs⟩
  unfold getItem
  try with_reducible refine wpAny_holding ?_
  first | refine wpAny_bind (wpAny_pure ?_) | skip
  refine wpAny_bind (wpAny_sequenceKey ht.typeIs (by decide) ?_)
  refine wpAny_bind (wpAny_callSpecial?_slot (name := Str.ofString "__getitem__") ht.typeIs PyProof.Rows.slot_tuple_getitem
    (wpAny_call_entry PyProof.Rows.slot_tuple_getitem ht.typeIs entry_tuple_getitem ?_ (args_tuple_getitem _ _)))
  show wpAny _ _ (Builtin.Tuple.tupleItemsOf (.ref t) >>= _) _ _ s
  refine wpAny_bind (tupleItemsOf_ ht ?_)
  refine wpAny_bind (wpAny_typeOf hTs ?_)
  rw [if_pos (by decide)]
  refine wpAny_bind (sliceApplied_back hs ?_)
  have hno : ¬ ((((items.size : Int) - 1) == 0 && (-1 : Int) == 1 && items.size == items.size) = true) := by
    intro q
    rw [Bool.and_eq_true, Bool.and_eq_true] at q
    exact absurd q.1.2 (by decide)
  show wpAny _ _ (if (((items.size : Int) - 1) == 0 && (-1 : Int) == 1 && items.size == items.size) = true then _ else _) _ _ s
  rw [if_neg hno, pick_back]
  first
    | exact wpAny_bind (m := Builtin.Tuple.tupleExact _) (wpAny_newObj_type (wpAny_pure ⟨_, rfl, wpAny_pure h⟩) htake)
    | exact wpAny_bind (m := Builtin.Tuple.tupleExact _) (wpAny_newObj_type (wpAny_bind (wpAny_pure (wpAny_pure ⟨_, rfl, wpAny_pure h⟩))) htake)
    | exact wpAny_bind (wpAny_bind (m := Builtin.Tuple.tupleExact _) (wpAny_newObj_type (wpAny_pure (wpAny_pure ⟨_, rfl, wpAny_pure h⟩)) htake))
    | exact wpAny_bind (wpAny_bind (m := Builtin.Tuple.tupleExact _) (wpAny_newObj_type (wpAny_pure ⟨_, rfl, wpAny_pure h⟩) htake))
end
def tRevT (K : PySem.W.Frag) (te : TE) : TE := fun σ H Q => te σ H fun x H1 => ∃ a xs, x = .ref a ∧ SqT K H1 a xs ∧ ∀ p, H1 p = none → Q (.ref p) (upd H1 p (.tup xs.reverse))
theorem pe_revT {X : Cx} {e : Expr} {te : TE} {k : Nat} {p1 p2 p3 pos : Pos} (he : PE X e te) : PE X (.Subscript e (.Slice none none (some (.UnaryOp .USub (.Constant (.int 1) k p1) p2)) p3) pos) (tRevT X.K te) := by
  refine ⟨fun pins s σ H Q I h => ?_⟩
  refine Subscript_ (thn (he.run pins s σ H _ I h) fun v s1 ⟨x, H1, I1, r1, q1⟩ => ?_)
  obtain ⟨a, xs, ex, hx, q⟩ := q1
  subst ex
  cases r1
  have hst : PO X (some (.UnaryOp .USub (.Constant (.int 1) k p1) p2)) (tPart (tUn (rU fun i => .int (-i)) (tC (.int 1)))) := po_some (pe_un un_neg pe_int)
  refine wpAny_Slice (thn (po_none.run pins s1 σ H1 (fun o H2 => o = none ∧ H2 = H1) I1 ⟨rfl, rfl⟩) fun vl s2 ⟨l, H2, I2, pl, el, e2⟩ => ?_)
  subst el e2
  refine thn (po_none.run pins s2 σ H2 (fun o H3 => o = none ∧ H3 = H2) I2 ⟨rfl, rfl⟩) fun vu s3 ⟨u, H3, I3, pu, eu, e3⟩ => ?_
  subst eu e3
  refine thn (hst.run pins s3 σ H3 (fun o H4 => o = some (-1) ∧ H4 = H3) I3 ⟨1, rfl, -1, rfl, rfl, rfl⟩) fun vs s4 ⟨o, H4, I4, ps, eo, e4⟩ => ?_
  subst eo e4
  cases pl
  cases pu
  cases ps with
  | int _ tk =>
  have I5 : Inv X pins σ H4 { s4 with heap := s4.heap.push { cls := .type "slice", data := .fields #[.none, .none, .int (-1) tk] } } := I4.kept (t' := s4.toks) fun b ob q => Heap.get?_push_of_some _ q
  obtain ⟨its, r, ht, hz⟩ := I5.tuple hx
  have hlen := r.length
  show wpAny (model X.prog X.w) X.A (subscriptTail e (.Slice none none (some (.UnaryOp .USub (.Constant (.int 1) k p1) p2)) p3) (.ref a) (.ref s4.heap.objs.size)) (EP X pins σ Q) X.xe { s4 with heap := s4.heap.push { cls := .type "slice", data := .fields #[.none, .none, .int (-1) tk] } }
  refine tail_any (ops := [.ref a, .ref s4.heap.objs.size]) ht.typeIs (PyProof.Rows.slot_tuple_getitem.lookup) ?_ (by with_unfolding_all rfl)
  refine getItem_back ht (Heap.IsSliceOf.new _ .none .none (.int (-1) tk)) ?_ (by rw [List.size_toArray]; omega)
  refine ⟨.ref _, _, I5.laid (t' := s4.toks) (o := .tup xs.reverse) (fun b ob q => Heap.get?_push_of_some _ q) (Nat.le_refl _) ?_, rfl, q _ (I5.hok.fresh (Nat.le_refl _))⟩
  exact ⟨by rw [List.length_reverse]; exact hz, its.reverse, r.reverse, ⟨_, Heap.get?_push_size _ rfl, rfl, _, rfl⟩⟩
end My

set_option Elab.async false
set_option linter.all false
set_option maxRecDepth 100000
set_option maxHeartbeats 4000000
namespace My
open PySem PySem.Spec PyProof.Rows L2
/-! ### tuple * int, any number of times -/
theorem tup_mul1 (l : Addr) (items : Array Value) (n : Nat) (dd : Option Addr) (sl : Array (Option Value)) (x : Int) (u : Tok) (c0 : (decide (x < -(2 ^ 63)) || decide (x ≥ 2 ^ 63)) = false) (c1 : (items.isEmpty || x == 1) = true) :
    Meets (Builtin.«tuple.__mul__» ⟨[.ref l, .int x u], []⟩) (fun _ R s => s.heap.get? l = some { cls := .type "tuple", dict := dd, data := .seq items n, slots := sl } ∧ R (.ok (.ret (Value.ref l))) s) :=
  .of_wp fun prog w A R s h => by
    obtain ⟨hp, g, d, tk, os⟩ := s
    obtain ⟨hl, h⟩ := h
    have f1 := AutoSeq1.idx_int
    wp_walk using wpAny_loadPart' hl
    repeat (first
      | (refine wpAny_ite_false (decide_eq_false (by rw [c0]; exact Bool.false_ne_true)) ?_; wp_walk using wpAny_loadPart' hl)
      | (refine wpAny_ite_true (decide_eq_true c1) ?_; wp_walk using wpAny_loadPart' hl))
    exact ⟨_, rfl, h⟩
theorem tup_mul0 (l : Addr) (items : Array Value) (n : Nat) (dd : Option Addr) (sl : Array (Option Value)) (x : Int) (u : Tok) (c0 : (decide (x < -(2 ^ 63)) || decide (x ≥ 2 ^ 63)) = false) (c1 : (items.isEmpty || x == 1) = false) (c2 : (decide (x ≤ 0) || items.isEmpty) = true) :
    Meets (Builtin.«tuple.__mul__» ⟨[.ref l, .int x u], []⟩) (fun _ R s => s.heap.get? l = some { cls := .type "tuple", dict := dd, data := .seq items n, slots := sl } ∧
      R (.ok (.ret (Value.ref s.heap.objs.size))) { s with heap := s.heap.push { cls := Value.type "tuple", data := Data.seq #[] }, toks := s.toks }) :=
  .of_wp fun prog w A R s h => by
    obtain ⟨hp, g, d, tk, os⟩ := s
    obtain ⟨hl, h⟩ := h
    have f1 := AutoSeq1.idx_int
    wp_walk using wpAny_loadPart' hl
    repeat (first
      | (refine wpAny_ite_false (decide_eq_false (by rw [c0]; exact Bool.false_ne_true)) ?_; wp_walk using wpAny_loadPart' hl)
      | (refine wpAny_ite_false (decide_eq_false (by rw [c1]; exact Bool.false_ne_true)) ?_; wp_walk using wpAny_loadPart' hl)
      | (refine wpAny_ite_true (decide_eq_true c2) ?_; wp_walk using wpAny_loadPart' hl))
    exact ⟨_, rfl, h⟩
/-- what stands behind: a tuple of these, new or that of before -/
def TupTo (K : PySem.W.Frag) (ys : List V) (H : Hp) (Q : VK) : Prop := ∀ p H', Same H H' → SqT K H' p ys → Q (.ref p) H'
theorem same_new {H : Hp} {p : Addr} {o : HO} (n : H p = none) : Same H (upd H p o) := fun b u e => by rw [upd_ne (ne_of_none e n)]; exact e
theorem TupTo.new {K : PySem.W.Frag} {ys : List V} {H : Hp} {Q : VK} (h : TupTo K ys H Q) : ∀ p, H p = none → Q (.ref p) (upd H p (.tup ys)) := fun p n => h p _ (same_new n) (.of upd_same)
theorem TupTo.old {K : PySem.W.Frag} {ys : List V} {H : Hp} {Q : VK} {p : Addr} (h : TupTo K ys H Q) (e : SqT K H p ys) : Q (.ref p) H := h p _ (Same.refl H) e
def rRepA (K : PySem.W.Frag) : R2 := fun x y H Q => ∃ l k xs, x = .ref l ∧ y = .int k ∧ SqT K H l xs ∧ -1000000 ≤ k ∧ k ≤ 1000 ∧ xs.length ≤ 1000 ∧ TupTo K (List.replicate k.toNat xs).flatten H Q
theorem op_repA {X : Cx} : OpR X (binaryOp .Mult) (rRepA X.K) := by
  intro pins s σ H x y v u Q I rx ry h
  obtain ⟨l, k, xs, rfl, rfl, hT, hlo, hhi, hz, q⟩ := h
  by_cases big : xs ≠ [] ∧ 2 ≤ k
  · exact op_repT pins s σ H _ _ v u Q I rx ry ⟨l, k, xs, rfl, rfl, hT, big.1, big.2, hhi, hz, q.new⟩
  cases rx
  obtain ⟨t, rfl⟩ := ry
  obtain ⟨its, r, ⟨⟨cls, dd, data, sl⟩, ho, hc, n, hd⟩, hs⟩ := I.tuple hT
  simp only at hc hd
  subst hc hd
  have c0 : (decide (k < -(2 ^ 63)) || decide (k ≥ 2 ^ 63)) = false := by
    rw [decide_eq_false (by omega), decide_eq_false (by omega)] <;> rfl
  have emp : its.toArray.isEmpty = true ↔ xs = [] := by
    have hl := r.length
    cases its <;> cases xs <;> simp_all
  by_cases one : xs = [] ∨ k = 1
  · have c1 : (its.toArray.isEmpty || k == 1) = true := by
      rcases one with e | e
      · rw [emp.mpr e] <;> rfl
      · rw [e]; simp
    have er : (List.replicate k.toNat xs).flatten = xs := by
      rcases one with e | e
      · rw [e]; simp
      · rw [e]; simp
    rw [er] at q
    exact wpAny_binaryOp_repeat_ref (T := "tuple") (U := "int") (by decide) ⟨_, ho, rfl⟩ (fun s' => typeIs_int s' k t) noFill_tuple_mul F.fills_int_mul F.slot_int_rmul repeat_tuple F.slot_int_index.lookup
      (call_meets F.slot_int_rmul (typeIs_int s k t) F.entry_int_rmul (F.args_int_rmul_2 _ _) (int_rmul_tuple k t l its.toArray n dd sl)
        ⟨ho, rfl, ⟨_, ho, rfl⟩, call_meets F.slot_tuple_mul ⟨_, ho, rfl⟩ F.entry_tuple_mul (F.args_tuple_mul_2 _ _) (tup_mul1 l its.toArray n dd sl k t c0 c1) ⟨ho, .ref l, H, I, rfl, q.old hT⟩⟩)
  · have hne : xs ≠ [] := fun e => one (.inl e)
    have hk : k ≤ 0 := by
      have h1 : k ≠ 1 := fun e => one (.inr e)
      have h2 : ¬ 2 ≤ k := fun e => big ⟨hne, e⟩
      omega
    have hi : its.toArray.isEmpty = false := by
      cases e : its.toArray.isEmpty with
      | false => rfl
      | true => exact absurd (emp.mp e) hne
    have c1 : (its.toArray.isEmpty || k == 1) = false := by
      rw [hi, Bool.false_or]
      exact beq_eq_false_iff_ne.mpr (by omega)
    have c2 : (decide (k ≤ 0) || its.toArray.isEmpty) = true := by rw [decide_eq_true hk] <;> rfl
    have er : (List.replicate k.toNat xs).flatten = [] := by rw [show k.toNat = 0 by omega]; rfl
    rw [er] at q
    refine wpAny_binaryOp_repeat_ref (T := "tuple") (U := "int") (by decide) ⟨_, ho, rfl⟩ (fun s' => typeIs_int s' k t) noFill_tuple_mul F.fills_int_mul F.slot_int_rmul repeat_tuple F.slot_int_index.lookup
      (call_meets F.slot_int_rmul (typeIs_int s k t) F.entry_int_rmul (F.args_int_rmul_2 _ _) (int_rmul_tuple k t l its.toArray n dd sl)
        ⟨ho, rfl, ⟨_, ho, rfl⟩, call_meets F.slot_tuple_mul ⟨_, ho, rfl⟩ F.entry_tuple_mul (F.args_tuple_mul_2 _ _) (tup_mul0 l its.toArray n dd sl k t c0 c1 c2) ⟨ho, ?_⟩⟩)
    refine ⟨.ref s.heap.objs.size, _, I.laid (t' := s.toks) (o := .tup []) (fun b ob q => Heap.get?_push_of_some _ q) (Nat.le_refl _) ?_, rfl, q.new _ (I.hok.fresh (Nat.le_refl _))⟩
    exact ⟨Nat.zero_le _, [], .nil, IsTup.new _ _⟩
/-! ### t + u of tuples, one word for both ways -/
def rCatU (K : PySem.W.Frag) : R2 := fun x y H Q => ∃ a b xs ys, x = .ref a ∧ y = .ref b ∧ SqT K H a xs ∧ SqT K H b ys ∧ xs.length + ys.length ≤ sizeLine ∧ TupTo K (xs ++ ys) H Q
theorem op_catU {X : Cx} : OpR X (binaryOp .Add) (rCatU X.K) := by
  intro pins s σ H x y v u Q I rx ry h
  obtain ⟨a, b, xs, ys, ex, ey, h1, h2, hz, q⟩ := h
  refine op_catA pins s σ H x y v u Q I rx ry ?_
  refine ⟨a, b, xs, ys, ex, ey, h1, h2, hz, fun e => ?_, fun _ e => ?_, fun _ _ => q.new⟩
  · rw [e] at q
    exact q.old h2
  · rw [e, List.append_nil] at q
    exact q.old h1
/-! ### repr of flat values -/
def reprF : V → Option Str
  | .non => some "None"
  | .bl b => some (if b then "True" else "False")
  | .int i => if i.natAbs.log2 < 1920 then some (toString i) else none
  | .str x => if (reprText x).length ≤ sizeLine then some (reprText x) else none
  | _ => none
theorem call_reprF {X : Cx} : CallR X (.builtin "repr") (fun xs H Q => ∃ x z, xs = [x] ∧ reprF x = some z ∧ Q (.str z) H) := by
  intro pins s σ H xs us Q I r h
  obtain ⟨x, z, rfl, hz, q⟩ := h
  obtain ⟨u, rfl, r1⟩ := Vals.one r
  cases x with
  | non =>
    cases (show u = Value.none from r1)
    cases hz
    exact PySem.P.repr_of_none ⟨.str _, H, I.tok _, ⟨_, rfl⟩, q⟩
  | bl b =>
    cases (show u = Value.bool b from r1)
    cases hz
    exact PySem.P.repr_of_bool ⟨.str _, H, I.tok _, ⟨_, rfl⟩, q⟩
  | int i =>
    obtain ⟨t, rfl⟩ := r1
    unfold reprF at hz
    by_cases hl : i.natAbs.log2 < 1920
    · simp only [hl, if_true, Option.some.injEq] at hz
      subst hz
      exact PySem.P.repr_of_int hl ⟨.str _, H, I.tok _, ⟨_, rfl⟩, q⟩
    · simp [hl] at hz
  | str y =>
    obtain ⟨t, rfl⟩ := r1
    unfold reprF at hz
    by_cases hl : (reprText y).length ≤ sizeLine
    · simp only [hl, if_true, Option.some.injEq] at hz
      subst hz
      exact PySem.P.repr_of_str ⟨.str _, H, I.tok _, ⟨_, rfl⟩, q⟩ hl
    · simp [hl] at hz
  | _ => cases hz
/-! ### data of ints, for == -/
theorem canInts : ∀ l : List Int, PyData.canLayAll0 (l.map PyData.int) = true
  | [] => by simp [PyData.canLayAll0]
  | a :: l => by simp [PyData.canLayAll0, PyData.canLay0, canInts l]
theorem depthInts : ∀ l : List Int, PyData.depthAll (l.map PyData.int) ≤ 1
  | [] => by simp [PyData.depthAll]
  | a :: l => by
    have := depthInts l
    simp only [List.map_cons, PyData.depthAll, PyData.depth]
    omega
theorem shapedTI (l : List Int) : SeqAt.shaped (.tuple (l.map PyData.int)) = true := by
  unfold SeqAt.shaped
  simp only [PyData.canLay0, canInts, Bool.true_and, PyData.depth]
  have := depthInts l
  exact decide_eq_true (by omega)
theorem shapedLI (l : List Int) : SeqAt.shaped (.list (l.map PyData.int)) = true := by
  unfold SeqAt.shaped
  simp only [PyData.canLay0, canInts, Bool.true_and, PyData.depth]
  have := depthInts l
  exact decide_eq_true (by omega)
theorem dpInts {K : PySem.W.Frag} {H : Hp} : ∀ l : List Int, DpAll K H (l.map V.int) (l.map PyData.int)
  | [] => .nil
  | a :: l => .cons (.int a) (dpInts l)
theorem dpTI {K : PySem.W.Frag} {H : Hp} {a : Addr} {l : List Int} (h : SqT K H a (l.map V.int)) : Dp K H (.ref a) (.tuple (l.map PyData.int)) := .tup h (dpInts l)
theorem dpLI {K : PySem.W.Frag} {H : Hp} {a : Addr} {l : List Int} (h : SqL K H a (l.map V.int)) : Dp K H (.ref a) (.list (l.map PyData.int)) := .lst h (dpInts l)
theorem eqvTI (l : List Int) : PyData.eqv (.tuple (l.map PyData.int)) (.tuple (l.map PyData.int)) = true := SeqAt.eqv_refl _ (SeqAt.canLay_of_shaped (shapedTI l))
theorem sameT {K : PySem.W.Frag} {H H' : Hp} {a : Addr} {xs : List V} (e : Same H H') (h : SqT K H a xs) : SqT K H' a xs := by
  rcases h with (h | ⟨o, h⟩) | h
  · exact .inl (.inl (e _ _ h))
  · exact .inl (.inr ⟨o, e _ _ h⟩)
  · exact .inr h
/-- a tuple stands where a list is changed -/
theorem butT {K : PySem.W.Frag} {H H' : Hp} {d a : Addr} {xs ys : List V} (hd : H d = some (.lst ys)) (e : But d H H') (h : SqT K H a xs) : SqT K H' a xs := by
  rcases h with (h | ⟨o, h⟩) | h
  · exact .inl (.inl (e _ _ (fun z => by rw [z, hd] at h; cases h) h))
  · exact .inl (.inr ⟨o, e _ _ (fun z => by rw [z, hd] at h; cases h) h⟩)
  · exact .inr h
/-- a tuple's names, the written part told -/
theorem pg_tupK (K0 : PySem.W.Frag) {X : Cx} {es : List Expr} {k : Nat} {pos : Pos} {t : TGs} {n : Nat} (hc : X.calm = true) (hK : X.K = K0) (h : PGs X es t)
    (hn : (assignEach es X.env).length = n := by rfl) (hst : (assignEach es X.env).findIdx? (·.1) = none := by rfl) : PG X (.Tuple es k pos) (gTup K0 n t) := by
  subst hK
  exact pg_tup hc h hn hst
theorem tyT {K : PySem.W.Frag} {H : Hp} {a : Addr} {xs : List V} (h : SqT K H a xs) : TyX K H (.ref a) (.type "tuple") := by
  rcases h with (h | ⟨o, h⟩) | ⟨o, its, n, h1, h2, _⟩
  · exact .base (.tup h)
  · exact .fTuple h
  · exact .kTuple h1 h2
end My

/-! digits of numbers, plain -/
namespace M11
/-- the digits of n, low ones first -/
def lows (b n : Nat) : List Nat := if h : n = 0 ∨ b < 2 then [] else (n % b) :: lows b (n / b)
termination_by n
decreasing_by
  rcases Nat.eq_zero_or_pos n with e | e
  · exact absurd (.inl e) h
  · exact Nat.div_lt_self e (by omega)
theorem lows_zero (b : Nat) : lows b 0 = [] := by unfold lows; simp
theorem lows_pos {b n : Nat} (hb : 2 ≤ b) (hn : 0 < n) : lows b n = (n % b) :: lows b (n / b) := by
  rw [lows]
  rw [dif_neg (by omega)]
def digs (b n : Nat) : List Nat := (lows b n).reverse
/-- the number that digits tell -/
def pl (b : Nat) (ds : List Nat) : Nat := ds.foldl (fun a d => a * b + d) 0
theorem lows_lt {b : Nat} (hb : 2 ≤ b) : ∀ (n : Nat), ∀ d ∈ lows b n, d < b := fun n => by
  induction n using Nat.strongRecOn with
  | _ n ih =>
    intro d hd
    rcases Nat.eq_zero_or_pos n with e | e
    · subst e; rw [lows_zero] at hd; cases hd
    · rw [lows_pos hb e] at hd
      rcases List.mem_cons.mp hd with h | h
      · rw [h]; exact Nat.mod_lt _ (by omega)
      · exact ih (n / b) (Nat.div_lt_self e (by omega)) d h
theorem lows_len {b : Nat} (hb : 2 ≤ b) : ∀ (k n : Nat), n < 2 ^ k → (lows b n).length ≤ k
  | 0, n, h => by
    have : n = 0 := by simpa using h
    subst this; rw [lows_zero]; exact Nat.le_refl _
  | k + 1, n, h => by
    rcases Nat.eq_zero_or_pos n with e | e
    · subst e; rw [lows_zero]; exact Nat.zero_le _
    · rw [lows_pos hb e, List.length_cons]
      have h2 : n / b < 2 ^ k := by
        have : n / b ≤ n / 2 := Nat.div_le_div_left hb (by omega)
        rw [Nat.pow_succ] at h
        omega
      have := lows_len hb k (n / b) h2
      omega
theorem pl_snoc (b : Nat) (ds : List Nat) (d : Nat) : pl b (ds ++ [d]) = pl b ds * b + d := by
  unfold pl; rw [List.foldl_append]; rfl
theorem pl_digs {b : Nat} (hb : 2 ≤ b) (n : Nat) : pl b (digs b n) = n := by
  induction n using Nat.strongRecOn with
  | _ n ih =>
    unfold digs
    rcases Nat.eq_zero_or_pos n with e | e
    · subst e; rw [lows_zero]; rfl
    · rw [lows_pos hb e, List.reverse_cons, pl_snoc]
      have := ih (n / b) (Nat.div_lt_self e (by omega))
      unfold digs at this
      rw [this]
      have := Nat.div_add_mod n b
      rw [Nat.mul_comm]; exact this
theorem pl_noughts (b k : Nat) (ds : List Nat) : pl b (List.replicate k 0 ++ ds) = pl b ds := by
  induction k with
  | zero => rfl
  | succ k ih =>
    rw [List.replicate_succ, List.cons_append]
    show List.foldl _ (0 * b + 0) _ = _
    rw [Nat.zero_mul]
    exact ih
theorem pl_lt {b : Nat} : ∀ (n : Nat) (ds : List Nat), ds.length = n → (∀ d ∈ ds, d < b) → pl b ds < b ^ n
  | 0, ds, h, _ => by
    have : ds = [] := List.eq_nil_of_length_eq_zero h
    subst this; exact Nat.one_pos
  | n + 1, ds, h, hd => by
    have hne : ds ≠ [] := fun e => by subst e; cases h
    have e := List.dropLast_concat_getLast hne
    have h1 : ds.dropLast.length = n := by rw [List.length_dropLast]; omega
    have h2 := pl_lt n ds.dropLast h1 fun d hm => hd d (List.dropLast_subset _ hm)
    have h3 := hd _ (List.getLast_mem hne)
    rw [← e, pl_snoc, Nat.pow_succ]
    have : (pl b ds.dropLast + 1) * b ≤ b ^ n * b := Nat.mul_le_mul_right _ h2
    rw [Nat.add_mul, Nat.one_mul] at this
    omega
/-- digits with noughts ahead are told again -/
theorem wide_again {b : Nat} (hb : 2 ≤ b) : ∀ (n : Nat) (ds : List Nat), ds.length = n → (∀ d ∈ ds, d < b) → (digs b (pl b ds)).length ≤ n ∧ List.replicate (n - (digs b (pl b ds)).length) 0 ++ digs b (pl b ds) = ds
  | 0, ds, h, _ => by
    have : ds = [] := List.eq_nil_of_length_eq_zero h
    subst this
    have e : digs b (pl b []) = [] := by unfold digs pl; rw [List.foldl_nil, lows_zero]; rfl
    rw [e]; exact ⟨Nat.le_refl _, rfl⟩
  | n + 1, ds, h, hd => by
    have hne : ds ≠ [] := fun e => by subst e; cases h
    have e := List.dropLast_concat_getLast hne
    have h1 : ds.dropLast.length = n := by rw [List.length_dropLast]; omega
    have h3 := hd _ (List.getLast_mem hne)
    have ih := wide_again hb n ds.dropLast h1 fun d hm => hd d (List.dropLast_subset _ hm)
    generalize hm : pl b ds.dropLast = m at ih
    generalize hl : ds.getLast hne = d at h3 e
    have ep : pl b ds = m * b + d := by rw [← e, pl_snoc, hm]
    rw [ep]
    rcases Nat.eq_zero_or_pos (m * b + d) with z | z
    · have hm0 : m = 0 := by
        rcases Nat.eq_zero_or_pos m with q | q
        · exact q
        · have := Nat.mul_pos q (show 0 < b by omega); omega
      subst hm0
      have hd0 : d = 0 := by omega
      subst hd0
      rw [z]
      have e0 : digs b 0 = [] := by unfold digs; rw [lows_zero]; rfl
      rw [e0] at ih ⊢
      refine ⟨Nat.zero_le _, ?_⟩
      rw [List.length_nil, Nat.sub_zero, List.append_nil] at ih ⊢
      rw [← e, ← ih.2, List.replicate_succ']
    · have ed : digs b (m * b + d) = digs b m ++ [d] := by
        unfold digs
        rw [lows_pos hb z, List.reverse_cons]
        have q1 : (m * b + d) / b = m := by
          rw [Nat.add_comm, Nat.add_mul_div_right _ _ (by omega), Nat.div_eq_of_lt h3]; omega
        have q2 : (m * b + d) % b = d := by
          rw [Nat.add_comm, Nat.add_mul_mod_self_right, Nat.mod_eq_of_lt h3]
        rw [q1, q2]
      rw [ed, List.length_append, List.length_singleton]
      refine ⟨by omega, ?_⟩
      rw [show n + 1 - ((digs b m).length + 1) = n - (digs b m).length by omega, ← List.append_assoc, ih.2]
      exact e
/-- how many noughts stand at the end -/
def tz (b n : Nat) : Nat := if h : 0 < n ∧ 2 ≤ b ∧ n % b = 0 then tz b (n / b) + 1 else 0
termination_by n
decreasing_by exact Nat.div_lt_self h.1 (by omega)
theorem tz_yes {b n : Nat} (hb : 2 ≤ b) (hn : 0 < n) (h : n % b = 0) : tz b n = tz b (n / b) + 1 := by
  rw [tz, dif_pos ⟨hn, hb, h⟩]
theorem tz_no {b n : Nat} (h : n % b ≠ 0) : tz b n = 0 := by
  rw [tz, dif_neg (by intro z; exact h z.2.2)]
theorem div_pos_of {b n : Nat} (hb : 2 ≤ b) (hn : 0 < n) (h : n % b = 0) : 0 < n / b := by
  rcases Nat.eq_zero_or_pos (n / b) with e | e
  · have := Nat.div_add_mod n b
    rw [e, h] at this
    simp at this
    omega
  · exact e
/-- below it stand noughts, at it stands none -/
theorem tz_at {b : Nat} (hb : 2 ≤ b) : ∀ n : Nat, 0 < n → (∀ i, i < tz b n → (lows b n)[i]? = some 0) ∧ ∃ d, (lows b n)[tz b n]? = some d ∧ d ≠ 0 := fun n => by
  induction n using Nat.strongRecOn with
  | _ n ih =>
    intro hn
    by_cases h : n % b = 0
    · have hp := div_pos_of hb hn h
      obtain ⟨h1, d, h2, h3⟩ := ih (n / b) (Nat.div_lt_self hn (by omega)) hp
      rw [tz_yes hb hn h, lows_pos hb hn]
      refine ⟨fun i hi => ?_, d, by simpa using h2, h3⟩
      cases i with
      | zero => simp [h]
      | succ i => simpa using h1 i (by omega)
    · rw [tz_no h, lows_pos hb hn]
      exact ⟨fun i hi => absurd hi (by omega), n % b, rfl, h⟩
/-- the indices of the digits that are not 0, below i -/
def idx (l : List Nat) (i : Nat) : List Nat := (List.range i).filter fun j => decide (l[j]? ≠ some 0)
theorem idx_succ (l : List Nat) (i : Nat) : idx l (i + 1) = if l[i]? = some 0 then idx l i else idx l i ++ [i] := by
  unfold idx
  rw [List.range_succ, List.filter_append, List.filter_cons, List.filter_nil]
  by_cases h : l[i]? = some 0
  · simp [h]
  · simp [h]
theorem idx_len (l : List Nat) (i : Nat) : (idx l i).length ≤ i := by
  have := List.length_filter_le (fun j => decide (l[j]? ≠ some 0)) (List.range i)
  rw [List.length_range] at this
  exact this
theorem tz_lt {b n : Nat} (hb : 2 ≤ b) (hn : 0 < n) : tz b n < (lows b n).length := by
  obtain ⟨_, d, h, _⟩ := tz_at hb n hn
  exact (List.getElem?_eq_some_iff.mp h).1
/-- the least of these indices is the number of noughts at the end -/
theorem idx_min {b n : Nat} (hb : 2 ≤ b) (hn : 0 < n) : tz b n ∈ idx (lows b n) (lows b n).length ∧ ∀ m ∈ idx (lows b n) (lows b n).length, tz b n ≤ m := by
  obtain ⟨h0, d, h1, h2⟩ := tz_at hb n hn
  refine ⟨List.mem_filter.mpr ⟨List.mem_range.mpr (tz_lt hb hn), decide_eq_true ?_⟩, fun m hm => ?_⟩
  · rw [h1]
    intro q
    exact h2 (Option.some.inj q)
  · have := of_decide_eq_true (List.mem_filter.mp hm).2
    rcases Nat.lt_or_ge m (tz b n) with h | h
    · exact absurd (h0 m h) this
    · exact h
end M11

/-! words told by machines, plain -/
namespace MW
open M11
structure Wd where
  b : Nat
  rows : List (List Nat)
  lets : List Nat
structure Wd.Ok (W : Wd) : Prop where
  b2 : 2 ≤ W.b
  b5 : W.b ≤ 5
  n1 : 1 ≤ W.lets.length
  n60 : W.lets.length ≤ 60
  len : W.rows.length = W.lets.length
  row : ∀ r ∈ W.rows, r.length = W.b ∧ ∀ s ∈ r, s < W.lets.length
  zero : ∃ r, W.rows[0]? = some r ∧ r[0]? = some 0
  let9 : ∀ l ∈ W.lets, l ≤ 9
def Wd.step (W : Wd) (s d : Nat) : Nat := ((W.rows[s]?).bind (·[d]?)).getD 0
def Wd.run (W : Wd) (s : Nat) (ds : List Nat) : Nat := ds.foldl W.step s
def Wd.st (W : Wd) (n : Nat) : Nat := W.run 0 (digs W.b n)
def Wd.letter (W : Wd) (s : Nat) : Nat := (W.lets[s]?).getD 0
def Wd.at_ (W : Wd) (n : Nat) : Nat := W.letter (W.st n)
def Wd.rowOf (W : Wd) (s : Nat) : List Nat := (W.rows[s]?).getD []
def Wd.expand (W : Wd) (l : List Nat) : List Nat := l.flatMap W.rowOf
def Wd.expands (W : Wd) : Nat → List Nat → List Nat
  | 0, l => l
  | n + 1, l => W.expands n (W.expand l)
section
variable {W : Wd}
theorem digs_step {b n : Nat} (hb : 2 ≤ b) (hn : 0 < n) : digs b n = digs b (n / b) ++ [n % b] := by
  unfold digs
  rw [lows_pos hb hn, List.reverse_cons]
theorem digs_zero (b : Nat) : digs b 0 = [] := by unfold digs; rw [lows_zero]; rfl
theorem digs_lt {b n d : Nat} (hb : 2 ≤ b) (h : d ∈ digs b n) : d < b := lows_lt hb n d (by unfold digs at h; exact List.mem_reverse.mp h)
theorem Wd.Ok.rowAt (O : W.Ok) {s : Nat} (h : s < W.lets.length) : ∃ r, W.rows[s]? = some r ∧ r.length = W.b ∧ ∀ x ∈ r, x < W.lets.length := by
  have hs : s < W.rows.length := by rw [O.len]; exact h
  exact ⟨W.rows[s], List.getElem?_eq_getElem hs, O.row _ (List.getElem_mem hs)⟩
theorem Wd.Ok.stepAt (O : W.Ok) {s d : Nat} (h : s < W.lets.length) (hd : d < W.b) : ∃ r, W.rows[s]? = some r ∧ r[d]? = some (W.step s d) ∧ W.step s d < W.lets.length := by
  obtain ⟨r, e, l, q⟩ := O.rowAt h
  have hd' : d < r.length := by omega
  have es : W.step s d = r[d] := by unfold Wd.step; rw [e]; simp [hd']
  exact ⟨r, e, by rw [es]; exact List.getElem?_eq_getElem hd', by rw [es]; exact q _ (List.getElem_mem hd')⟩
theorem Wd.Ok.letterAt (O : W.Ok) {s : Nat} (h : s < W.lets.length) : W.lets[s]? = some (W.letter s) ∧ W.letter s ≤ 9 := by
  have e : W.letter s = W.lets[s] := by unfold Wd.letter; simp [h]
  rw [e]
  exact ⟨List.getElem?_eq_getElem h, O.let9 _ (List.getElem_mem h)⟩
theorem Wd.Ok.run_lt (O : W.Ok) : ∀ {ds : List Nat} {s : Nat}, s < W.lets.length → (∀ d ∈ ds, d < W.b) → W.run s ds < W.lets.length
  | [], s, h, _ => h
  | d :: ds, s, h, q => by
    obtain ⟨_, _, _, l⟩ := O.stepAt h (q d (List.mem_cons_self ..))
    exact O.run_lt (ds := ds) l fun x hx => q x (List.mem_cons_of_mem _ hx)
theorem Wd.Ok.st_lt (O : W.Ok) (n : Nat) : W.st n < W.lets.length := O.run_lt (by have := O.n1; omega) fun d hd => digs_lt O.b2 hd
theorem Wd.run_snoc (W : Wd) (s : Nat) (ds : List Nat) (d : Nat) : W.run s (ds ++ [d]) = W.step (W.run s ds) d := by
  unfold Wd.run
  rw [List.foldl_append]
  rfl
theorem Wd.Ok.step00 (O : W.Ok) : W.step 0 0 = 0 := by
  obtain ⟨r, e, q⟩ := O.zero
  unfold Wd.step
  rw [e]
  simp [q]
theorem Wd.st_zero (W : Wd) : W.st 0 = 0 := by unfold Wd.st; rw [digs_zero]; rfl
/-- by the last digit -/
theorem Wd.Ok.st_eq (O : W.Ok) (n : Nat) : W.st n = W.step (W.st (n / W.b)) (n % W.b) := by
  rcases Nat.eq_zero_or_pos n with e | e
  · subst e
    rw [Nat.zero_div, Nat.zero_mod, Wd.st_zero, O.step00]
  · unfold Wd.st
    rw [digs_step O.b2 e, W.run_snoc]
theorem Wd.Ok.st_mul (O : W.Ok) (n d : Nat) (hd : d < W.b) : W.st (n * W.b + d) = W.step (W.st n) d := by
  have hb : 0 < W.b := by have := O.b2; omega
  have e := O.st_eq (n * W.b + d)
  rw [Nat.mul_comm n, Nat.mul_add_div hb, Nat.div_eq_of_lt hd, Nat.add_zero, Nat.mul_add_mod, Nat.mod_eq_of_lt hd, Nat.mul_comm] at e
  exact e
theorem Wd.Ok.rowOf (O : W.Ok) {s : Nat} (h : s < W.lets.length) : W.rowOf s = (List.range W.b).map (W.step s) := by
  obtain ⟨r, e, l, _⟩ := O.rowAt h
  have er : W.rowOf s = r := by unfold Wd.rowOf; rw [e]; rfl
  rw [er]
  apply List.ext_getElem?
  intro i
  rw [List.getElem?_map]
  by_cases hi : i < W.b
  · obtain ⟨r', e', q, _⟩ := O.stepAt h hi
    rw [e] at e'
    cases e'
    rw [q, List.getElem?_range hi]
    rfl
  · rw [List.getElem?_eq_none (by omega), List.getElem?_eq_none (by simp; omega)]
    rfl
/-- the states from a on, m of them -/
def Wd.sts (W : Wd) (a m : Nat) : List Nat := (List.range m).map fun j => W.st (a + j)
theorem Wd.sts_succ (W : Wd) (a m : Nat) : W.sts a (m + 1) = W.st a :: W.sts (a + 1) m := by
  unfold Wd.sts
  rw [List.range_succ_eq_map, List.map_cons, List.map_map]
  congr 1
  apply List.map_congr_left
  intro j _
  show W.st (a + (j + 1)) = W.st (a + 1 + j)
  congr 1
  omega
theorem Wd.sts_add (W : Wd) (a m k : Nat) : W.sts a (m + k) = W.sts a m ++ W.sts (a + m) k := by
  unfold Wd.sts
  rw [List.range_add, List.map_append, List.map_map]
  congr 1
  apply List.map_congr_left
  intro j _
  show W.st (a + (m + j)) = W.st (a + m + j)
  congr 1
  omega
theorem Wd.sts_len (W : Wd) (a m : Nat) : (W.sts a m).length = m := by unfold Wd.sts; simp
theorem Wd.expand_cons (W : Wd) (s : Nat) (l : List Nat) : W.expand (s :: l) = W.rowOf s ++ W.expand l := rfl
theorem Wd.expand_app (W : Wd) (l r : List Nat) : W.expand (l ++ r) = W.expand l ++ W.expand r := by unfold Wd.expand; rw [List.flatMap_append]
theorem Wd.Ok.expand_sts (O : W.Ok) : ∀ (m a : Nat), W.expand (W.sts a m) = W.sts (a * W.b) (m * W.b)
  | 0, a => by rw [Nat.zero_mul]; rfl
  | m + 1, a => by
    rw [W.sts_succ, W.expand_cons, O.expand_sts m (a + 1), O.rowOf (O.st_lt a)]
    have e : (m + 1) * W.b = W.b + m * W.b := by rw [Nat.succ_mul, Nat.add_comm]
    rw [e, W.sts_add]
    congr 1
    · unfold Wd.sts
      apply List.map_congr_left
      intro j hj
      exact (O.st_mul a j (List.mem_range.mp hj)).symm
    · congr 1
      rw [Nat.succ_mul]
theorem Wd.Ok.expands_sts (O : W.Ok) : ∀ (t m a : Nat), W.expands t (W.sts a m) = W.sts (a * W.b ^ t) (m * W.b ^ t)
  | 0, m, a => by rw [Nat.pow_zero, Nat.mul_one, Nat.mul_one]; rfl
  | t + 1, m, a => by
    show W.expands t (W.expand (W.sts a m)) = _
    rw [O.expand_sts, O.expands_sts t, Nat.pow_succ, Nat.mul_assoc, Nat.mul_assoc, Nat.mul_comm W.b]
theorem Wd.expands_snoc (W : Wd) : ∀ (t : Nat) (l : List Nat), W.expands (t + 1) l = W.expand (W.expands t l)
  | 0, _ => rfl
  | t + 1, l => W.expands_snoc t (W.expand l)
theorem Wd.Ok.expand_lt (O : W.Ok) {l : List Nat} (h : ∀ s ∈ l, s < W.lets.length) : (∀ s ∈ W.expand l, s < W.lets.length) ∧ (W.expand l).length = l.length * W.b := by
  induction l with
  | nil => exact ⟨fun s hs => absurd hs (by simp [Wd.expand]), by simp [Wd.expand]⟩
  | cons a l ih =>
    obtain ⟨i1, i2⟩ := ih fun s hs => h s (List.mem_cons_of_mem _ hs)
    obtain ⟨r, e, l1, q⟩ := O.rowAt (h a (List.mem_cons_self ..))
    have er : W.rowOf a = r := by unfold Wd.rowOf; rw [e]; rfl
    rw [W.expand_cons, er]
    refine ⟨fun s hs => ?_, ?_⟩
    · rcases List.mem_append.mp hs with h1 | h1
      · exact q s h1
      · exact i1 s h1
    · rw [List.length_append, l1, i2, List.length_cons, Nat.succ_mul, Nat.add_comm]
theorem Wd.Ok.expands_lt (O : W.Ok) : ∀ (t : Nat) {l : List Nat}, (∀ s ∈ l, s < W.lets.length) → (∀ s ∈ W.expands t l, s < W.lets.length) ∧ (W.expands t l).length = l.length * W.b ^ t
  | 0, l, h => ⟨h, by rw [Nat.pow_zero, Nat.mul_one]; rfl⟩
  | t + 1, l, h => by
    obtain ⟨h1, h2⟩ := O.expand_lt h
    obtain ⟨h3, h4⟩ := O.expands_lt t h1
    exact ⟨h3, by show (W.expands t (W.expand l)).length = _; rw [h4, h2, Nat.pow_succ, Nat.mul_assoc, Nat.mul_comm W.b]⟩
/-- numbers of times -/
theorem Wd.Ok.count_expand (O : W.Ok) (g : Nat) {l : List Nat} (h : ∀ s ∈ l, s < W.lets.length) : (W.expand l).count g = ((List.range W.lets.length).map fun s => l.count s * (W.rowOf s).count g).sum := by
  induction l with
  | nil => 
    have : ∀ m : Nat, ((List.range m).map fun s => ([] : List Nat).count s * (W.rowOf s).count g).sum = 0 := by
      intro m
      induction m with
      | zero => rfl
      | succ m ih => rw [List.range_succ, List.map_append, List.sum_append, ih]; simp
    rw [this]; rfl
  | cons a l ih =>
    rw [W.expand_cons, List.count_append, ih fun s hs => h s (List.mem_cons_of_mem _ hs)]
    have ha := h a (List.mem_cons_self ..)
    have key : ∀ m : Nat, ((List.range m).map fun s => (a :: l).count s * (W.rowOf s).count g).sum = (if a < m then (W.rowOf a).count g else 0) + ((List.range m).map fun s => l.count s * (W.rowOf s).count g).sum := by
      intro m
      induction m with
      | zero => rfl
      | succ m ih =>
        rw [List.range_succ, List.map_append, List.map_append, List.sum_append, List.sum_append, ih]
        simp only [List.map_cons, List.map_nil, List.sum_cons, List.sum_nil, Nat.add_zero, List.count_cons]
        by_cases e : a = m
        · subst e
          simp [Nat.add_mul]
          omega
        · have e2 : (a == m) = false := by simpa using e
          rw [e2]
          by_cases h1 : a < m
          · have h2 : a < m + 1 := by omega
            simp only [h1, h2, if_true, if_false, Bool.false_eq_true, Nat.add_zero]
            omega
          · have h2 : ¬ a < m + 1 := by omega
            simp only [h1, h2, if_false, Bool.false_eq_true, Nat.add_zero]
            omega
    rw [key, if_pos ha]
end
end MW
namespace MW
open M11
theorem Wd.Ok.block {W : Wd} (O : W.Ok) (t n : Nat) : (W.expands t [W.st n]).map W.letter = (List.range (W.b ^ t)).map fun j => W.at_ (n * W.b ^ t + j) := by
  have e : [W.st n] = W.sts n 1 := by unfold Wd.sts; simp
  rw [e, O.expands_sts, Nat.one_mul]
  unfold Wd.sts
  rw [List.map_map]
  rfl
end MW
namespace MW
open M11
theorem Wd.Ok.rowOf_len {W : Wd} (O : W.Ok) (s : Nat) : (W.rowOf s).length ≤ 5 := by
  unfold Wd.rowOf
  cases e : W.rows[s]? with
  | none => simp
  | some r =>
    have := (O.row r (List.mem_of_getElem? e)).1
    have := O.b5
    simp only [Option.getD_some]
    omega
theorem Wd.Ok.count_le {W : Wd} (O : W.Ok) (s g : Nat) : (W.rowOf s).count g ≤ 5 := Nat.le_trans List.count_le_length (O.rowOf_len s)
theorem Wd.Ok.expand_one {W : Wd} (O : W.Ok) (s : Nat) : W.expand [s] = W.rowOf s := by unfold Wd.expand; simp
theorem Wd.Ok.twice {W : Wd} (O : W.Ok) {s : Nat} (h : s < W.lets.length) (g : Nat) : (W.expands 2 [s]).count g = ((List.range W.lets.length).map fun m => (W.rowOf s).count m * (W.rowOf m).count g).sum := by
  show (W.expand (W.expand [s])).count g = _
  rw [O.count_expand g (O.expand_lt fun x hx => by rw [List.mem_singleton.mp hx]; exact h).1, O.expand_one]
theorem Wd.sts0 (W : Wd) : W.sts 0 1 = [0] := by unfold Wd.sts; simp [W.st_zero]
end MW

set_option Elab.async false
set_option linter.all false
set_option maxRecDepth 100000
set_option maxHeartbeats 4000000
namespace My
open PySem PySem.Spec PyProof.Rows L2
/-! ### slots -/
/-- o.f as a target -/
def gSlt (K : PySem.W.Frag) (ta : TE) (f : Str) : TG := fun y σ H Q => ta σ H fun x H2 => ∃ a C dx p vs i, x = .ref a ∧ SlX.Slt H2 a C dx vs ∧ SlX.SCls K C ∧ SlX.Slot1 K C f p i ∧ Q σ (SlX.slH H2 a C dx (SlX.putS i y vs))
section
variable {X : Cx} {o : Expr} {f : Str} {pos : Pos} {ta : TE}
theorem pg_slt (ha : PE X o ta) : PG X (.Attribute o f pos) (gSlt X.K ta f) := by
  refine ⟨fun pins s σ H v u Q I r h => ?_⟩
  rw [assign_Attribute]
  refine wpAny_bind (wpAny_holding (thn (ha.run pins s σ H _ I h) fun ov s1 ⟨x, H1, I1, r1, a, C, dx, p, vs, i, ex, hsl, c, t, q⟩ => ?_))
  subst ex
  obtain rfl : ov = Value.ref a := r1
  refine wpAny_bind (wpAny_standAt (wpAny_bind (wpAny_holding (SlX.setslot_ok I1 hsl c t r fun s3 I3 => ?_))))
  exact wpAny_release ⟨σ, _, I3, q⟩
end
/-! ### len(x) of an instance with slots and an own def -/
def rLenOwn (C : Addr) (sp : Sp) (E : XK) : List V → Hp → VK → Prop := fun xs H Q => ∃ a dx vs, xs = [V.ref a] ∧ SlX.Slt H a C dx vs ∧ sp [.ref a] H (fun z H' => ∃ i : Int, z = .int i ∧ 0 ≤ i ∧ i < 2 ^ 63 ∧ Q z H') E
section
variable {X : Cx} {CX : CXT} {C g : Addr} {n : Nat} {sp : Sp} {E : XK}
theorem call_lenOwn (hs : PySem.W.findIn X.K (.ref C) "__len__" = some (some (.ref g))) (hf : PySem.W.isFn X.K (.ref g) = true) (F : FnR X.prog X.w X.K X.mg X.base CX n g sp) (hr : Room (n + 1) X.A) (hx : Passes CX X E) : CallR X (.builtin "len") (rLenOwn C sp E) := by
  intro pins s σ H xs us Q I r h
  obtain ⟨a, dx, vs, rfl, hsl, q⟩ := h
  obtain ⟨u, rfl, ru⟩ := vals1 r
  cases (show u = Value.ref a from ru)
  obtain ⟨sl, od, _, J, _⟩ := SlX.slt_inst I hsl
  refine Calls.call_function_entry kind_len plain_len entry_len (args_len1 _) ?_
  unfold Builtin.«len»
  refine wpAny_bind (m := oneArg "len" _) (wpAny_pure ?_)
  refine wpAny_bind (m := callSpecial? (.ref a) (PySem.Str.ofString "__len__")) (PySem.W.special_fn I.kIn J hs (beq_iff_eq.mp hf) (wpAny_mono (wpAny_call (SlX.run_at (us := [.ref a]) (ws := [.ref a]) F hr.in1 I.env0.in1 hx I (.cons rfl .nil) q)) (fun w s' z => ?_) fun _ _ x => x))
  obtain ⟨z', H', I', rz, i, ei, hi0, hi1, qz⟩ := z
  subst ei
  obtain ⟨t, e⟩ := (show ∃ t, w = Value.int i t from rz)
  cases e
  refine wpAny_bind (wpAny_holding (wpAny_pure ?_))
  refine wpAny_bind (wpAny_letGo ?_)
  show wpAny _ _ (if i < 0 then _ else _) _ _ _
  rw [if_neg (by omega)]
  show wpAny _ _ (if i ≥ 2 ^ 63 then _ else _) _ _ _
  rw [if_neg (by omega)]
  exact wpAny_bind (wpAny_mkInt (wpAny_pure ⟨_, rfl, .int i, H', I'.tok _, ⟨_, rfl⟩, qz⟩))
end
/-! ### a head with tests of one's own -/
abbrev FT : Type := PySem.W.Frag → Bool
def obsX (fa : List He.Fa) (fn : List He.DefD) (ex : List FT) (K : PySem.W.Frag) : He.AlD := ((He.obsD fa fn K).1 && ex.all fun t => t K, (He.obsD fa fn K).2)
def SaysX (fa : List He.Fa) (fn : List He.DefD) (ex : List FT) (K : PySem.W.Frag) : Prop := obsX fa fn ex K = He.valD fn
def obsXG (n : Nat) (fa : List He.Fa) (fn : List He.DefD) (ex : List FT) (g : Addr → Option Obj) : He.AlD := obsX fa fn ex (He.frG g (He.asD g n))
def hookX (n : Nat) (fa : List He.Fa) (fn : List He.DefD) (ex : List FT) : PySem.W.Hook where
  α := He.AlD
  obs := fun s => obsXG n fa fn ex s.heap.get?
  val := fun _ => He.valD fn
  says := fun _ h => ∃ K : PySem.W.Frag, K.In h ∧ SaysX fa fn ex K
  of := fun _ _ e => ⟨_, He.frG_in, e⟩
  keeps := fun _ _ _ ⟨K, hK, c⟩ k => ⟨K, PySem.W.Frag.In.keeps hK k, c⟩
theorem obsXG_eq {n : Nat} {fa : List He.Fa} {fn : List He.DefD} {ex : List FT} {g : Addr → Option Obj} {s : Shared} (h : ∀ a, g a = s.heap.get? a) : obsXG n fa fn ex g = (hookX n fa fn ex).obs s := by
  have e : g = s.heap.get? := funext h
  rw [e] <;> rfl
section
variable {fa : List He.Fa} {fn : List He.DefD} {xt : List FT} {K : PySem.W.Frag}
theorem SaysX.both (c : SaysX fa fn xt K) : ((He.obsD fa fn K).1 = true ∧ (xt.all fun t => t K) = true) ∧ (He.obsD fa fn K).2 = (He.valD fn).2 := by
  have h1 : ((He.obsD fa fn K).1 && xt.all fun t => t K) = true := congrArg (fun z : He.AlD => z.1) (show obsX fa fn xt K = He.valD fn from c)
  have h2 : (obsX fa fn xt K).2 = (He.valD fn).2 := congrArg (fun z : He.AlD => z.2) (show obsX fa fn xt K = He.valD fn from c)
  exact ⟨He.ba h1, h2⟩
theorem SaysX.d (c : SaysX fa fn xt K) : He.SaysD fa fn K := by
  obtain ⟨⟨h1, _⟩, h2⟩ := c.both
  show He.obsD fa fn K = He.valD fn
  exact Prod.ext h1 h2
theorem SaysX.test (c : SaysX fa fn xt K) (i : Nat) {t : FT} (h : xt[i]? = some t := by rfl) : t K = true :=
  List.all_eq_true.mp c.both.1.2 t (List.mem_of_getElem? h)
end
/-! ### tests of a class with slots -/
section
variable (K : PySem.W.Frag) (C : Addr)
def sclsB : Bool := PySem.W.plainGet K C Str.empty && (PySem.W.isClsIn K C && (PySem.W.plainOver K C && He.eqO (PySem.W.findIn K (.ref C) "__setattr__") (some (some (.builtin "object.__setattr__")))))
def slotB (f : Str) (i : Nat) : Bool := He.eqO (PySem.W.findIn K (.ref C) f) (some (some (.ref (He.ma K C f)))) && (He.eqO (PySem.W.specialIn K (.ref (He.ma K C f)) "__get__") (some (some (.builtin "member_descriptor.__get__"))) &&
  (decide (PySem.W.takesIn K (.ref (He.ma K C f)) = some true) && (decide (PySem.W.typeIn K (.ref (He.ma K C f)) = some (.type "member_descriptor")) && (decide (PySem.W.slotIn K (He.ma K C f) C = some i) && decide (i < 1000)))))
def isiB : Bool := He.eqO (PySem.W.findIn K (.ref C) "__class__") (some (some (.builtin "object.__class__"))) && (He.eqO (PySem.W.specialIn K (.builtin "object.__class__") "__get__") (some (some (.builtin "getset_descriptor.__get__"))) &&
  (decide (PySem.W.takesIn K (.builtin "object.__class__") = some true) && decide (PySem.W.mroIn K C (.type "object") = some true)))
def kitB (t u : Value) (b : Bool) : Bool := decide (PySem.W.kitOne K t u = some b)
/-- a property's getter -/
def pgA (f : Str) : Addr := match PySem.W.recIn K (He.ma K C f) "property" with
  | some (.ref g :: _) => g
  | _ => 0
def propB (f : Str) : Bool := He.eqO (PySem.W.findIn K (.ref C) f) (some (some (.ref (He.ma K C f)))) && (He.eqO (PySem.W.specialIn K (.ref (He.ma K C f)) "__get__") (some (some (.builtin "property.__get__"))) &&
  (decide (PySem.W.takesIn K (.ref (He.ma K C f)) = some true) && (match PySem.W.recIn K (He.ma K C f) "property" with
  | some (.ref _ :: _) => true
  | _ => false)))
variable {K C}
theorem scls_ok (h : sclsB K C = true) : SlX.SCls K C := by
  obtain ⟨h1, h⟩ := He.ba h
  obtain ⟨h2, h⟩ := He.ba h
  obtain ⟨h3, h4⟩ := He.ba h
  exact ⟨h1, h2, h3, He.eqO_ok h4⟩
theorem slot_ok {f : Str} {i : Nat} (h : slotB K C f i = true) : SlX.Slot1 K C f (He.ma K C f) i := by
  obtain ⟨h1, h⟩ := He.ba h
  obtain ⟨h2, h⟩ := He.ba h
  obtain ⟨h3, h⟩ := He.ba h
  obtain ⟨h4, h⟩ := He.ba h
  obtain ⟨h5, h6⟩ := He.ba h
  exact ⟨He.eqO_ok h1, He.eqO_ok h2, of_decide_eq_true h3, of_decide_eq_true h4, of_decide_eq_true h5, of_decide_eq_true h6⟩
theorem isi_ok (h : isiB K C = true) : SlX.SIsi K C := by
  obtain ⟨h1, h⟩ := He.ba h
  obtain ⟨h2, h⟩ := He.ba h
  obtain ⟨h3, h4⟩ := He.ba h
  exact ⟨He.eqO_ok h1, He.eqO_ok h2, of_decide_eq_true h3, of_decide_eq_true h4⟩
theorem kit_ok {t u : Value} {b : Bool} (h : kitB K t u b = true) : PySem.W.kitOne K t u = some b := of_decide_eq_true h
theorem prop_ok {f : Str} (h : propB K C f = true) : PropOf K C f (He.ma K C f) (pgA K C f) := by
  obtain ⟨h1, h⟩ := He.ba h
  obtain ⟨h2, h⟩ := He.ba h
  obtain ⟨h3, h4⟩ := He.ba h
  refine ⟨He.eqO_ok h1, He.eqO_ok h2, of_decide_eq_true h3, ?_⟩
  unfold pgA
  cases e : PySem.W.recIn K (He.ma K C f) "property" with
  | none => rw [e] at h4; cases h4
  | some l =>
    rw [e] at h4
    cases l with
    | nil => cases h4
    | cons v r => cases v <;> first | exact ⟨_, rfl⟩ | cases h4
end
end My

set_option Elab.async false
set_option linter.all false
set_option maxRecDepth 100000
set_option maxHeartbeats 4000000
namespace My
open PySem PySem.Spec PyProof.Rows L2
/-! ### numbers as values -/
def iN (l : List Nat) : List Int := l.map fun n : Nat => (n : Int)
def vN (l : List Nat) : List V := (iN l).map V.int
theorem vN_len (l : List Nat) : (vN l).length = l.length := by unfold vN iN; simp
theorem vN_app (l r : List Nat) : vN (l ++ r) = vN l ++ vN r := by unfold vN iN; simp
theorem vN_rev (l : List Nat) : vN l.reverse = (vN l).reverse := by unfold vN iN; simp
theorem vN_get (l : List Nat) (i : Nat) : (vN l)[i]? = l[i]?.map fun n : Nat => V.int (n : Int) := by unfold vN iN; simp; rfl
theorem vN_at {l : List Nat} {i n : Nat} (h : l[i]? = some n) : (vN l)[i]? = some (.int n) := by rw [vN_get, h]; rfl
theorem vN_of {l : List Nat} {i : Nat} {x : V} (h : (vN l)[i]? = some x) : ∃ n : Nat, l[i]? = some n ∧ x = .int n := by
  rw [vN_get] at h
  cases e : l[i]? with
  | none => rw [e] at h; cases h
  | some n => rw [e] at h; cases h; exact ⟨n, rfl, rfl⟩
theorem vN_cons (a : Nat) (l : List Nat) : vN (a :: l) = V.int a :: vN l := rfl
theorem vN_rep (k n : Nat) : vN (List.replicate k n) = List.replicate k (V.int n) := by unfold vN iN; simp
theorem iN_count (l : List Nat) (n : Nat) : (iN l).count (n : Int) = l.count n := by
  unfold iN
  induction l with
  | nil => rfl
  | cons a l ih =>
    rw [List.map_cons, List.count_cons, List.count_cons, ih]
    congr 1
    by_cases h : a = n
    · simp [h]
    · simp [h]
      omega
theorem vN_inj {l r : List Nat} (h : vN l = vN r) : l = r := by
  have h1 : iN l = iN r := by
    unfold vN at h
    exact List.map_inj_right (fun a b q => V.int.inj q) |>.mp h
  unfold iN at h1
  exact List.map_inj_right (fun a b q => by omega) |>.mp h1
/-! ### tuples of tuples -/
def RowsAt (K : PySem.W.Frag) (H : Hp) (p : Addr) (rows : List (List Nat)) : Prop := ∃ ps : List Addr, SqT K H p (ps.map V.ref) ∧ Paired (fun q r => SqT K H q (vN r)) ps rows
theorem Paired.get' {α β : Type} {R : α → β → Prop} : ∀ {l : List α} {r : List β} {i : Nat} {b : β}, Paired R l r → r[i]? = some b → ∃ a, l[i]? = some a ∧ R a b
  | _, _, _, _, .nil, h => by simp at h
  | _, _, 0, _, .cons q _, h => by simp at h; subst h; exact ⟨_, rfl, q⟩
  | _, _, i + 1, _, .cons _ t, h => by simp at h; simpa using Paired.get' t h
theorem Paired.len {α β : Type} {R : α → β → Prop} : ∀ {l : List α} {r : List β}, Paired R l r → l.length = r.length
  | _, _, .nil => rfl
  | _, _, .cons _ t => by simp [Paired.len t]
theorem Paired.imp' {α β : Type} {R S : α → β → Prop} (h : ∀ a b, R a b → S a b) : ∀ {l : List α} {r : List β}, Paired R l r → Paired S l r
  | _, _, .nil => .nil
  | _, _, .cons q t => .cons (h _ _ q) (Paired.imp' h t)
theorem Paired.snoc {α β : Type} {R : α → β → Prop} {a : α} {b : β} (h : R a b) : ∀ {l : List α} {r : List β}, Paired R l r → Paired R (l ++ [a]) (r ++ [b])
  | _, _, .nil => .cons h .nil
  | _, _, .cons q t => .cons q (Paired.snoc h t)
section
variable {K : PySem.W.Frag} {H H' : Hp} {p d : Addr} {rows : List (List Nat)}
theorem RowsAt.len (h : RowsAt K H p rows) : ∃ xs, SqT K H p xs ∧ xs.length = rows.length := by
  obtain ⟨ps, h1, h2⟩ := h
  exact ⟨_, h1, by rw [List.length_map]; exact Paired.len h2⟩
theorem RowsAt.same (e : Same H H') (h : RowsAt K H p rows) : RowsAt K H' p rows := by
  obtain ⟨ps, h1, h2⟩ := h
  exact ⟨ps, sameT e h1, Paired.imp' (fun _ _ q => sameT e q) h2⟩
theorem RowsAt.but {ys : List V} (hd : H d = some (.lst ys)) (e : But d H H') (h : RowsAt K H p rows) : RowsAt K H' p rows := by
  obtain ⟨ps, h1, h2⟩ := h
  exact ⟨ps, butT hd e h1, Paired.imp' (fun _ _ q => butT hd e q) h2⟩
/-- row i, by its place -/
theorem RowsAt.row {i : Nat} {r : List Nat} (h : RowsAt K H p rows) (hi : rows[i]? = some r) : ∃ (q : Addr) (xs : List V), SqT K H p xs ∧ xs[i]? = some (.ref q) ∧ SqT K H q (vN r) := by
  obtain ⟨ps, h1, h2⟩ := h
  obtain ⟨q, h3, h4⟩ := Paired.get' h2 hi
  exact ⟨q, _, h1, by rw [List.getElem?_map, h3]; rfl, h4⟩
end
/-! ### comprehensions with two for -/
section
variable {J J1 : It} {n n1 : Nat} {G G1 : Hp → Prop} {Y Y1 : Nat → Hp → V → Hp → Prop}
theorem lc2_it (w : Walk J n G Y) {g g1 : TG} {tt tt1 : TT} {wi1 : TI} {te : TE} {vs vs1 : List Nat} {σ : L2.St} {H1 : Hp} {D : Addr} {Qd : Hp → Prop} (Pv : Nat → Hp → Prop) (h0 : Pv 0 (upd H1 D (.lst []))) (hG : ∀ i H, i ≤ n → Pv i H → G H)
    (hs : ∀ i x H H', i < n → Pv i H → Y i H x H' → g x (wipe σ vs) H' fun σ2 H2 => wipe σ2 vs = wipe σ vs ∧ tt σ2 H2 fun b H3 =>
      if b = true then wi1 σ2 H3 fun J1 H4 => ∃ W1 : Nat → Nat → Hp → Prop, (∃ m, W1 0 m H4) ∧ ∀ j k H, W1 j k H →
        (J1.stop j H ∧ Pv (i + 1) H) ∨ (J1.go j H ∧ ∃ Nx1 : Hp → Prop, (∀ H', Nx1 H' → ∃ k', k' < k ∧ W1 (j + 1) k' H') ∧ ∀ x H', J1.yld j H x H' → g1 x (wipe σ2 vs1) H' fun σ3 H5 => wipe σ3 vs1 = wipe σ2 vs1 ∧ tt1 σ3 H5 fun b H6 =>
          if b = true then te σ3 H6 fun y H7 => ∃ acc, H7 D = some (.lst acc) ∧ acc.length < sizeLine ∧ Nx1 (upd H7 D (.lst (acc ++ [y]))) else Nx1 H6)
      else Pv (i + 1) H3) (hd : ∀ H, Pv n H → Qd H) :
    ∃ W : Nat → Nat → Hp → Prop, (∃ m, W 0 m (upd H1 D (.lst []))) ∧ ∀ i m H, W i m H →
      (J.stop i H ∧ Qd H) ∨ (J.go i H ∧ ∃ Nx : Hp → Prop, (∀ H', Nx H' → ∃ m', m' < m ∧ W (i + 1) m' H') ∧ ∀ x H', J.yld i H x H' → g x (wipe σ vs) H' fun σ2 H2 => wipe σ2 vs = wipe σ vs ∧ tt σ2 H2 fun b H3 =>
        if b = true then wi1 σ2 H3 fun J1 H4 => ∃ W1 : Nat → Nat → Hp → Prop, (∃ m, W1 0 m H4) ∧ ∀ j k H, W1 j k H →
          (J1.stop j H ∧ Nx H) ∨ (J1.go j H ∧ ∃ Nx1 : Hp → Prop, (∀ H', Nx1 H' → ∃ k', k' < k ∧ W1 (j + 1) k' H') ∧ ∀ x H', J1.yld j H x H' → g1 x (wipe σ2 vs1) H' fun σ3 H5 => wipe σ3 vs1 = wipe σ2 vs1 ∧ tt1 σ3 H5 fun b H6 =>
            if b = true then te σ3 H6 fun y H7 => ∃ acc, H7 D = some (.lst acc) ∧ acc.length < sizeLine ∧ Nx1 (upd H7 D (.lst (acc ++ [y]))) else Nx1 H6)
        else Nx H3) := by
  refine ⟨fun i m H => m = n - i ∧ i ≤ n ∧ Pv i H, ⟨n, by simp, Nat.zero_le _, h0⟩, ?_⟩
  rintro i m H ⟨rfl, hi, p⟩
  have q := hG i H hi p
  by_cases hlt : i < n
  · exact .inr ⟨w.goes i H hlt q, Pv (i + 1), fun H' p' => ⟨n - (i + 1), by omega, rfl, hlt, p'⟩, fun x H' y => hs i x H H' hlt p (w.yields i H x H' hlt q y)⟩
  · have e : i = n := by omega
    subst e
    exact .inl ⟨w.stops H q, hd H p⟩
/-- the inner one -/
theorem lc_in (w : Walk J1 n1 G1 Y1) {g1 : TG} {tt1 : TT} {te : TE} {vs1 : List Nat} {σ2 : L2.St} {D : Addr} {H4 : Hp} {Nx : Hp → Prop} (Pv : Nat → Hp → Prop) (h0 : Pv 0 H4) (hG : ∀ i H, i ≤ n1 → Pv i H → G1 H)
    (hs : ∀ j x H H', j < n1 → Pv j H → Y1 j H x H' → g1 x (wipe σ2 vs1) H' fun σ3 H5 => wipe σ3 vs1 = wipe σ2 vs1 ∧ tt1 σ3 H5 fun b H6 =>
      if b = true then te σ3 H6 fun y H7 => ∃ acc, H7 D = some (.lst acc) ∧ acc.length < sizeLine ∧ Pv (j + 1) (upd H7 D (.lst (acc ++ [y]))) else Pv (j + 1) H6) (hd : ∀ H, Pv n1 H → Nx H) :
    ∃ W1 : Nat → Nat → Hp → Prop, (∃ m, W1 0 m H4) ∧ ∀ j k H, W1 j k H →
      (J1.stop j H ∧ Nx H) ∨ (J1.go j H ∧ ∃ Nx1 : Hp → Prop, (∀ H', Nx1 H' → ∃ k', k' < k ∧ W1 (j + 1) k' H') ∧ ∀ x H', J1.yld j H x H' → g1 x (wipe σ2 vs1) H' fun σ3 H5 => wipe σ3 vs1 = wipe σ2 vs1 ∧ tt1 σ3 H5 fun b H6 =>
        if b = true then te σ3 H6 fun y H7 => ∃ acc, H7 D = some (.lst acc) ∧ acc.length < sizeLine ∧ Nx1 (upd H7 D (.lst (acc ++ [y]))) else Nx1 H6) := by
  refine ⟨fun i m H => m = n1 - i ∧ i ≤ n1 ∧ Pv i H, ⟨n1, by simp, Nat.zero_le _, h0⟩, ?_⟩
  rintro i m H ⟨rfl, hi, p⟩
  have q := hG i H hi p
  by_cases hlt : i < n1
  · exact .inr ⟨w.goes i H hlt q, Pv (i + 1), fun H' p' => ⟨n1 - (i + 1), by omega, rfl, hlt, p'⟩, fun x H' y => hs i x H H' hlt p (w.yields i H x H' hlt q y)⟩
  · have e : i = n1 := by omega
    subst e
    exact .inl ⟨w.stops H q, hd H p⟩
end
/-! ### methods of tuples and lists -/
section
variable {X : Cx}
def rCntT (K : PySem.W.Frag) : V → List V → Hp → VK → Prop := fun x xs H Q => ∃ (p : Addr) (ns : List Int) (k : Int), x = .ref p ∧ xs = [.int k] ∧ SqT K H p (ns.map V.int) ∧ Q (.int (ns.count k : Nat)) H
theorem mt_tcount : MtR X "tuple.count" (rCntT X.K) := by
  intro pins s σ H x xs v us Q I rx rxs h
  obtain ⟨p, ns, k, rfl, rfl, hs, q⟩ := h
  cases rx
  obtain ⟨u, rfl, ru⟩ := rxs.one
  obtain ⟨t, rfl⟩ := ru
  obtain ⟨its, rv, ⟨⟨cls, dd, data, sl⟩, ho, hc, n, hd⟩, hlen⟩ := I.tuple hs
  simp only at hc hd
  subst hc hd
  have hi := ints_of_vals rv
  refine call_meets PySem.F.slot_tuple_count ⟨_, ho, rfl⟩ PySem.F.entry_tuple_count (PySem.F.args_tuple_count_2 _ _)
    (SeqAt.tuple_countAt p its.toArray n dd sl (.int k t) (eqk k)) ⟨ho, fun y hy => (eqk_gives hi y (by simpa using hy)).at _ _, ?_⟩
  have ec : its.toArray.toList.countP (eqk k) = ns.count k := eqk_count hi
  refine ⟨.int (ns.count k : Nat), H, I.tok _, ⟨s.toks, ?_⟩, q⟩
  show Value.int ((its.toArray.toList.countP (eqk k) : Nat) : Int) s.toks = Value.int ((ns.count k : Nat) : Int) s.toks
  rw [ec]
theorem list_extT (l : Addr) (items : Array Value) (n : Nat) (b : Addr) (items2 : Array Value) (n2 : Nat) (dd : Option Addr) (sl : Array (Option Value)) (hs0 : ¬(!items.isEmpty && Builtin.List.listTooLong (items.size + items2.size)) = true) (hs1 : items.size ≤ sizeLine) (hs2 : items.size + items2.size ≤ sizeLine + 1) :
    Meets (Builtin.«list.extend» ⟨[.ref l, .ref b], []⟩) (fun _ R s => s.heap.get? l = some { cls := .type "list", dict := none, data := .seq items n, slots := #[] } ∧ s.heap.get? b = some { cls := .type "tuple", dict := dd, data := .seq items2 n2, slots := sl } ∧
      R (.ok (.ret Value.none)) { s with heap := s.heap.update l (Obj.mapSeq fun x => x ++ items2), toks := s.toks }) :=
  .of_wp fun prog w A R s h => by
    obtain ⟨hp, g, d, tk, os⟩ := s
    obtain ⟨hl, hb, h⟩ := h
    have f4 := AutoSeq1.sub_tuple_list
    have f2 := AutoSeq1.sub_tuple_tuple
    have hz' : (items ++ items2).size ≤ sizeLine + 1 := by rw [Array.size_append]; exact hs2
    wp_walk using (wpAny_updateSeq hl rfl (hz := hs1) (_hz' := hz')), wpAny_loadPart' hl, wpAny_loadPart' hb
    exact ⟨_, rfl, h⟩
def rExtendT (K : PySem.W.Frag) : V → List V → Hp → VK → Prop := fun x vs H Q => ∃ l b xs zs, x = .ref l ∧ vs = [.ref b] ∧ H l = some (.lst xs) ∧ SqT K H b zs ∧ xs.length + zs.length ≤ sizeLine ∧ Q .non (upd H l (.lst (xs ++ zs)))
theorem mt_extendT : MtM X "list.extend" (rExtendT X.K) := by
  intro pins s σ H x vs v us Q I rx rv h
  obtain ⟨l, b, xs, zs, rfl, rfl, hH, hB, hz, q⟩ := h
  cases rx
  obtain ⟨u, rfl, ru⟩ := rv.one
  cases ru
  obtain ⟨z, its, n, r, hl, e⟩ := I.lstM hH
  obtain ⟨its2, r2, ⟨⟨cls, dd, data, sl⟩, ho, hc, n2, hd⟩, hz2⟩ := I.tuple hB
  simp only at hc hd
  subst hc hd
  have hl2 := r2.length
  have hsz : its.toArray.size + its2.toArray.size ≤ sizeLine := by rw [List.size_toArray, List.size_toArray]; omega
  have hlong : ¬ (!its.toArray.isEmpty && Builtin.List.listTooLong (its.toArray.size + its2.toArray.size)) = true := by
    rw [notLongL hsz, Bool.and_false]
    exact Bool.false_ne_true
  refine call_meets F.slot_list_extend ⟨_, e, rfl⟩ F.entry_list_extend (F.args_list_extend_2 _ _)
    (list_extT l its.toArray n b its2.toArray n2 dd sl hlong (by rw [List.size_toArray]; omega) (by omega)) ⟨e, ho, ?_⟩
  refine ⟨.non, _, I.lset (its' := its ++ its2) hH e (by simp) (r.append r2) ?_, rfl, q⟩
  rw [List.length_append]
  omega
end
end My

set_option Elab.async false
set_option linter.all false
set_option maxRecDepth 100000
set_option maxHeartbeats 4000000
namespace My
open PySem PySem.Spec PyProof.Rows L2 MW
/-! ### words in the heap -/
abbrev WC (K : PySem.W.Frag) : Addr := He.ga K "Word"
/-- the object of a word, made and filled -/
def WordAt (K : PySem.W.Frag) (H : Hp) (a : Addr) (W : Wd) : Prop := ∃ dx lt rw : Addr, H a = some (SlX.SlO a (WC K) dx [some (.int W.b), some (.ref lt), some (.ref rw)]) ∧ H dx = some (.xd []) ∧ SqT K H lt (vN W.lets) ∧ RowsAt K H rw W.rows ∧ W.Ok
section
variable {K : PySem.W.Frag} {H H' : Hp} {a d : Addr} {W : Wd}
theorem WordAt.same (e : Same H H') (h : WordAt K H a W) : WordAt K H' a W := by
  obtain ⟨dx, lt, rw, h1, h2, h3, h4, O⟩ := h
  exact ⟨dx, lt, rw, e _ _ h1, e _ _ h2, sameT e h3, h4.same e, O⟩
theorem WordAt.but {ys : List V} (hd : H d = some (.lst ys)) (e : But d H H') (h : WordAt K H a W) : WordAt K H' a W := by
  obtain ⟨dx, lt, rw, h1, h2, h3, h4, O⟩ := h
  refine ⟨dx, lt, rw, e _ _ (fun z => ?_) h1, e _ _ (fun z => ?_) h2, butT hd e h3, h4.but hd e, O⟩
  · rw [z, hd] at h1
    unfold SlX.SlO at h1
    cases h1
  · rw [z, hd] at h2
    cases h2
theorem WordAt.ok (h : WordAt K H a W) : W.Ok := by
  obtain ⟨dx, lt, rw, _, _, _, _, O⟩ := h
  exact O
theorem WordAt.slt (h : WordAt K H a W) : ∃ dx lt rw : Addr, SlX.Slt H a (WC K) dx [some (.int W.b), some (.ref lt), some (.ref rw)] ∧ SqT K H lt (vN W.lets) ∧ RowsAt K H rw W.rows := by
  obtain ⟨dx, lt, rw, h1, h2, h3, h4, O⟩ := h
  exact ⟨dx, lt, rw, .inr ⟨h1, h2⟩, h3, h4⟩
end
/-! ### what the written part says of the classes -/
structure WFacts (K : PySem.W.Frag) (mg : Str → Option Value) : Prop where
  c : SlX.SCls K (WC K)
  base : SlX.Slot1 K (WC K) "own_base" (He.ma K (WC K) "own_base") 0
  lets : SlX.Slot1 K (WC K) "own_letters" (He.ma K (WC K) "own_letters") 1
  rows : SlX.Slot1 K (WC K) "own_rows" (He.ma K (WC K) "own_rows") 2
  isi : SlX.SIsi K (WC K)
  kw : PySem.W.kitOne K (.ref (WC K)) (.ref (WC K)) = some true
  gw : mg "Word" = some (.ref (WC K))
/-- what it says of the class of machines that are known -/
structure KFacts (K : PySem.W.Frag) (mg : Str → Option Value) : Prop where
  kt : PySem.W.kitOne K (.type "tuple") (.ref (He.ga K "KnownMachine")) = some false
  gk : mg "KnownMachine" = some (.ref (He.ga K "KnownMachine"))
section
variable {K : PySem.W.Frag} {mg : Str → Option Value} {H : Hp} {a : Addr} {W : Wd} {Q : VK}
/-- w.own_base, and so on -/
theorem rd_base {te : TE} (F : WFacts K mg) {σ : L2.St} (h : te σ H fun x H1 => x = .ref a ∧ WordAt K H1 a W ∧ Q (.int W.b) H1) (m : ∀ R R' : VK, (∀ v H, R v H → R' v H) → te σ H R → te σ H R') : SlX.tSl K te "own_base" σ H Q :=
  m _ _ (fun v H1 ⟨e, hw, q⟩ => by
    obtain ⟨dx, lt, rw, h1, h2, h3⟩ := hw.slt
    exact ⟨a, _, dx, _, _, 0, _, e, h1, F.c, F.base, rfl, q⟩) h
end
/-! ### methods by their names -/
structure DefMeth (K : PySem.W.Frag) (x m : Str) (qual : Str) (st : Stmt) : Prop where
  fd : ∃ fd, FunD K m qual (defArgs st) (defBody st) (defScope st) [] [] (He.ma K (He.ga K x) m) fd
  me : Meth K (He.ga K x) m (He.ma K (He.ga K x) m)
def KeepsM (P : Program) (w : World) (K : PySem.W.Frag) (mg : Str → Option Value) (base : Heap) (CX : CXT) (k : Nat) (x m : Str) (ps : List Str) (sp : Sp) : Prop :=
  ∃ fd, FnOk P w K mg base CX k (He.ma K (He.ga K x) m) fd ps sp ∧ Binds K fd ps [] ∧ Meth K (He.ga K x) m (He.ma K (He.ga K x) m)
theorem KeepsM.fnR {P : Program} {w : World} {K : PySem.W.Frag} {mg : Str → Option Value} {base : Heap} {CX : CXT} {k : Nat} {x m : Str} {ps : List Str} {sp : Sp} (F : KeepsM P w K mg base CX k x m ps sp) : FnR P w K mg base CX k (He.ma K (He.ga K x) m) sp := by
  obtain ⟨fd, G, b, _⟩ := F
  refine (G.raw b .nil).imp fun vs H Q E h => ?_
  rw [List.append_nil]
  exact h
section
variable {P : Program} {w : World} {K : PySem.W.Frag} {mg : Str → Option Value} {base : Heap} {k : Nat} {x m qual : Str} {st : Stmt} {N ps : List Str} {sp : Sp}
theorem DefMeth.keeps (D : DefMeth K x m qual st) (S : FnScope N ps (defScope st)) (len : ∀ vs H Q E, sp vs H Q E → vs.length = ps.length)
    (hb : ∀ (kV doc pm : Value) (an : Option Addr) (cdv ct : Value) (us : List Value), us.length = ps.length → bindArgs (PySem.W.fnOf m qual (defArgs st) (defBody st) (defScope st) .none kV doc pm an cdv ct) ⟨us, []⟩ = pure (ps.zip us))
    (hbody : ∀ (cdv : Value) (A : Around) (outer : List Env) (s : Shared) (H : Hp) (vs : List V) (Q : VK) (E : XK), Room k (A.deeper (envOfC qual (defScope st) s.heap.objs.size (He.ma K (He.ga K x) m) cdv)) → sp vs H Q E →
      ∃ t, PSs (cxOf CX0 P w K mg base N qual (defScope st) (He.ma K (He.ga K x) m) cdv A outer s H E).nox (defBody st) t ∧ t { nx := fun _ H' => Q .non H', rt := Q } (start N vs) H) : KeepsM P w K mg base CX0 (k + 1) x m ps sp := by
  obtain ⟨fd, F⟩ := D.fd
  refine ⟨fd, F.ok S len fun cdv A outer s H vs Q E hr hsp => ?_, F.bindsN hb, D.me⟩
  obtain ⟨t, h, q⟩ := hbody cdv A outer s H vs Q E hr hsp
  exact ⟨t, h.nox, q⟩
end
section
variable {X : Cx} {k j : Nat} {x m : Str} {ps : List Str} {sp : Sp} {E : XK} {pos apos : Pos} {o e : Expr} {es : List Expr} {ta : TE} {t : TA} {pl : Sem Bool}
theorem pe_mdo (F : KeepsM X.prog X.w X.K X.mg X.base CX0 k x m ps sp) (c : SlX.SCls X.K (He.ga X.K x)) (hr : Room j X.A) (hx : Passes CX0 X E) (he : PE X o ta) (ha : PA X (e :: es) t) (hk : k ≤ j := by decide)
    (hst : starEach (e :: es) X.env = (false, eval e X.env) :: starEach es X.env := by rfl) (hpl : (backTo pos (starEach es X.env)).any (·.1) = false := by rfl)
    (ht : eval (.Call (.Attribute o m apos) (e :: es) [] pos) X.env = (do
      let ov ← eval o X.env
      standAt apos.atName
      let (f, first) ← holding [ov] (getMethod ov m pl)
      callWith pos f first (backTo pos (starEach (e :: es) X.env)) (backToKw pos (keywordEach [] X.env))) := by rfl) :
    PE X (.Call (.Attribute o m apos) (e :: es) [] pos) (SlX.tMethSl (He.ga X.K x) sp E ta t) := by
  have G := F.fnR
  obtain ⟨_, _, _, me⟩ := F
  exact SlX.pe_methSl he c me G (hr.mono hk) hx ha hst hpl ht
theorem pe_mdo0 (F : KeepsM X.prog X.w X.K X.mg X.base CX0 k x m ps sp) (c : SlX.SCls X.K (He.ga X.K x)) (hr : Room j X.A) (hx : Passes CX0 X E) (he : PE X o ta) (hk : k ≤ j := by decide)
    (ht : eval (.Call (.Attribute o m apos) [] [] pos) X.env = (do
      let ov ← eval o X.env
      standAt apos.atName
      let (f, first) ← holding [ov] (getMethod ov m pl)
      callWith pos f first (backTo pos (starEach [] X.env)) (backToKw pos (keywordEach [] X.env))) := by rfl) :
    PE X (.Call (.Attribute o m apos) [] [] pos) (SlX.tMethSl (He.ga X.K x) sp E ta tNil) := by
  have G := F.fnR
  obtain ⟨_, _, _, me⟩ := F
  exact SlX.pe_methSl0 he c me G (hr.mono hk) hx ht
theorem call_lenM (F : KeepsM X.prog X.w X.K X.mg X.base CX0 k x "__len__" ps sp) (hr : Room j X.A) (hx : Passes CX0 X E) (hk : k + 1 ≤ j := by decide) : CallR X (.builtin "len") (rLenOwn (He.ga X.K x) sp E) := by
  have G := F.fnR
  obtain ⟨_, _, _, me⟩ := F
  exact call_lenOwn me.at_ me.fn G (hr.mono hk) hx
end
/-! ### Word(base, rows, letters) -/
def KeepsI (P : Program) (w : World) (K : PySem.W.Frag) (mg : Str → Option Value) (base : Heap) (CX : CXT) (k : Nat) (x : Str) (ps : List Str) (dvs : List V) (sp : Sp) : Prop :=
  ∃ fd ds, FnOk P w K mg base CX k (He.ma K (He.ga K x) "__init__") fd ps sp ∧ Vals dvs ds ∧ Binds K fd ps ds ∧ Mk K (He.ga K x) (He.ma K (He.ga K x) "__init__") ∧ mg x = some (.ref (He.ga K x))
section
variable {X : Cx} {k j : Nat} {x : Str} {ps : List Str} {dvs : List V} {sp : Sp} {E : XK} {p pos : Pos} {e : Expr} {es : List Expr} {t : TA}
theorem pe_mk (F : KeepsI X.prog X.w X.K X.mg X.base CX0 k x ps dvs sp) (hr : Room j X.A) (hg : Gl X x) (hx : Passes CX0 X E) (ha : PA X (e :: es) t) (hk : k + 1 ≤ j := by decide) (hdb : (x == ("__debug__" : Str)) = false := by decide)
    (he : starEach (e :: es) X.env = (false, eval e X.env) :: starEach es X.env := by rfl) (hpl : (backTo pos (starEach es X.env)).any (·.1) = false := by rfl) :
    PE X (.Call (.Name x p) (e :: es) [] pos) (tMake (He.ga X.K x) sp dvs E t) := by
  obtain ⟨fd, ds, G, d, b, M, m⟩ := F
  exact pe_make M G (hr.mono hk) hg m b d hx ha hdb he hpl
end
/-- the promise of Word's __init__ where all three are given, rightly -/
def spWord (K : PySem.W.Frag) : Sp := fun vs H Q _ => ∃ (a rw lt dx : Addr) (W : Wd), vs = [.ref a, .int W.b, .ref rw, .ref lt] ∧ W.Ok ∧ dx ≠ a ∧ SlX.Slt H a (WC K) dx [] ∧ SqT K H lt (vN W.lets) ∧ RowsAt K H rw W.rows ∧
  ∀ H', (∀ b o, b ≠ a → b ≠ dx → H b = some o → H' b = some o) → H' a = some (SlX.SlO a (WC K) dx [some (.int W.b), some (.ref lt), some (.ref rw)]) → H' dx = some (.xd []) → Q .non H'
section
variable {K : PySem.W.Frag} {H : Hp} {rw lt : Addr} {W : Wd} {Q : VK} {E : XK}
/-- .. at a call -/
theorem mk_word (O : W.Ok) (hl : SqT K H lt (vN W.lets)) (hrw : RowsAt K H rw W.rows) {R : Addr → Hp → Prop} (q : ∀ a H', Same H H' → WordAt K H' a W → R a H') :
    ∀ x dx, H x = none → H dx = none → dx ≠ x → spWord K (.ref x :: ([V.int W.b, .ref rw, .ref lt] ++ [])) (upd (upd H dx (.own x)) x (.ins (WC K) dx [])) (fun v H2 => v = .non ∧ R x H2) E := by
  intro x dx nx ndx ne
  have e : Same H (upd (upd H dx (.own x)) x (.ins (WC K) dx [])) := fun b o h => by
    rw [upd_ne (ne_of_none h nx), upd_ne (ne_of_none h ndx)]
    exact h
  refine ⟨x, rw, lt, dx, W, rfl, O, ne, .inl ⟨upd_same, rfl⟩, sameT e hl, hrw.same e, fun H' k h1 h2 => ⟨rfl, ?_⟩⟩
  have e2 : Same H H' := fun b o h => k b o (ne_of_none h nx) (ne_of_none h ndx) (e b o h)
  exact q x H' e2 ⟨dx, lt, rw, h1, h2, sameT e2 hl, hrw.same e2, O⟩
end
end My

set_option Elab.async false
set_option linter.all false
set_option maxRecDepth 100000
set_option maxHeartbeats 4000000
/-! rules with the written part told (within comprehensions) -/
namespace My
open PySem PySem.Spec PyProof.Rows L2
theorem bi_len : bootBuiltins "len" = some (.builtin "len") := by decide +kernel
theorem bi_isinstance : bootBuiltins "isinstance" = some (.builtin "isinstance") := by decide +kernel
theorem bi_sum : bootBuiltins "sum" = some (.builtin "sum") := by decide +kernel
theorem bi_all : bootBuiltins "all" = some (.builtin "all") := by decide +kernel
theorem bi_any : bootBuiltins "any" = some (.builtin "any") := by decide +kernel
theorem bi_max : bootBuiltins "max" = some (.builtin "max") := by decide +kernel
theorem bi_min : bootBuiltins "min" = some (.builtin "min") := by decide +kernel
theorem bi_abs : bootBuiltins "abs" = some (.builtin "abs") := by decide +kernel
theorem bi_repr : bootBuiltins "repr" = some (.builtin "repr") := by decide +kernel
theorem bi_sorted : bootBuiltins "sorted" = some (.builtin "sorted") := by decide +kernel
theorem bi_int : bootBuiltins "int" = some (.type "int") := by decide +kernel
theorem bi_bool : bootBuiltins "bool" = some (.type "bool") := by decide +kernel
theorem bi_tuple : bootBuiltins "tuple" = some (.type "tuple") := by decide +kernel
theorem bi_list : bootBuiltins "list" = some (.type "list") := by decide +kernel
theorem bi_dict : bootBuiltins "dict" = some (.type "dict") := by decide +kernel
theorem bi_str : bootBuiltins "str" = some (.type "str") := by decide +kernel
theorem Paired.getL {α β : Type} {R : α → β → Prop} : ∀ {l : List α} {r : List β} {i : Nat} {a : α}, Paired R l r → l[i]? = some a → ∃ b, r[i]? = some b ∧ R a b
  | _, _, _, _, .nil, h => by simp at h
  | _, _, 0, _, .cons q _, h => by simp at h; subst h; exact ⟨_, rfl, q⟩
  | _, _, i + 1, _, .cons _ t, h => by simp at h; simpa using Paired.getL t h
theorem refs_of {ps : List Addr} {i : Nat} {x : V} (h : (ps.map V.ref)[i]? = some x) : ∃ q, ps[i]? = some q ∧ x = .ref q := by
  rw [List.getElem?_map] at h
  cases e : ps[i]? with
  | none => rw [e] at h; cases h
  | some q => rw [e] at h; cases h; exact ⟨q, rfl, rfl⟩
section
variable {X : Cx} (K : PySem.W.Frag)
theorem ix_tupK (h : X.K = K := by rfl) : IxR X (rIxT K) := h ▸ ix_tup
theorem ix_listK (h : X.K = K := by rfl) : IxR X (rIxL K) := h ▸ ix_list
theorem sl_tupAK (h : X.K = K := by rfl) : L2.SlR X (rSlA K) := h ▸ sl_tupA
theorem sl_listK (h : X.K = K := by rfl) : L2.SlR X (rSlL K) := h ▸ sl_list
theorem pi_tupK {tg l : Expr} {tl : TE} (hl : PE X l tl) (h : X.K = K := by rfl) : PI X tg l (iTup K tl) := h ▸ pi_tup hl
theorem pi_listK {tg l : Expr} {tl : TE} (hl : PE X l tl) (h : X.K = K := by rfl) : PI X tg l (iList K tl) := h ▸ pi_list hl
theorem pe_slK {e : Expr} {f : Str} {pos : Pos} {te : TE} (he : PE X e te) (h : X.K = K := by rfl) (hb : attributeBase e f X.env (eval e X.env) = eval e X.env := by rfl) : PE X (.Attribute e f pos) (SlX.tSl K te f) := h ▸ SlX.pe_sl he hb
theorem call_len_seqK (h : X.K = K := by rfl) : CallR X (.builtin "len") (fun xs H Q => ∃ p ys, xs = [.ref p] ∧ (SqL K H p ys ∨ SqT K H p ys) ∧ Q (.int ys.length) H) := h ▸ call_len_seq
theorem call_isiK' (h : X.K = K := by rfl) : CallR X (.builtin "isinstance") (rIsi K) := h ▸ call_isi
theorem call_isiSlK (u : Value) (h : X.K = K := by rfl) : CallR X (.builtin "isinstance") (SlX.rIsiSl K u) := h ▸ SlX.call_isiSl u
theorem call_tuple_ofK (h : X.K = K := by rfl) : CallR X (.type "tuple") (fun xs H Q => ∃ p ys, xs = [.ref p] ∧ ((SqL K H p ys ∧ ∀ l, H l = none → Q (.ref l) (upd H l (.tup ys))) ∨ (SqT K H p ys ∧ Q (.ref p) H))) := h ▸ call_tuple_of
theorem call_list_ofK (h : X.K = K := by rfl) : CallR X (.type "list") (fun xs H Q => ∃ p ys, xs = [.ref p] ∧ (SqL K H p ys ∨ SqT K H p ys) ∧ ∀ l, H l = none → Q (.ref l) (upd H l (.lst ys))) := h ▸ call_list_of
theorem cr_allK (hc : X.calm = true) (h : X.K = K := by rfl) : CallR X (.builtin "all") (rAll K) := h ▸ cr_all hc
theorem cr_sumK (hc : X.calm = true) (h : X.K = K := by rfl) : CallR X (.builtin "sum") (rSum K) := h ▸ cr_sum hc
theorem cr_sumTK (hc : X.calm = true) (h : X.K = K := by rfl) : CallR X (.builtin "sum") (rSumT K) := h ▸ cr_sumT hc
theorem op_eqDK (hu : X.A.units + 64 < cLine) (h : X.K = K := by rfl) : OpR X (compareOp .Eq) (rEqD K) := h ▸ op_eqD hu
theorem op_neDK (hu : X.A.units + 64 < cLine) (h : X.K = K := by rfl) : OpR X (compareOp .NotEq) (rNeD K) := h ▸ op_neD hu
theorem op_catUK (h : X.K = K := by rfl) : OpR X (binaryOp .Add) (rCatU K) := h ▸ op_catU
theorem op_repAK (h : X.K = K := by rfl) : OpR X (binaryOp .Mult) (rRepA K) := h ▸ op_repA
theorem mt_tcountK (h : X.K = K := by rfl) : MtR X "tuple.count" (rCntT K) := h ▸ mt_tcount
section
variable {o e : Expr} {es : List Expr} {to : TE} {t : TA} {T id : String} {name : Str} {r : V → List V → Hp → VK → Prop} {apos cpos : Pos}
theorem pe_bmK (pa : PlainAttrs T) (slot : Slot T name id) (hty : typeOf (.builtin id) = pure (.type "method_descriptor")) (hm : MtR X id r) (ho : PE X o to) (ha : PA X (e :: es) t) (h : X.K = K := by rfl)
    (hbase : attributeBase o name X.env (eval o X.env) = eval o X.env := by rfl)
    (hfew : ((backTo cpos (starEach (e :: es) X.env)).all (fun x => !x.1) && (backToKw cpos (keywordEach [] X.env)).all (fun x => x.1.isSome)
      && decide ((e :: es).length + ([] : List Keyword).length + (if ([] : List Keyword).isEmpty then 0 else 1) < 30)) = true := by rfl)
    (hline : (apos.endLine == cpos.line) = true := by rfl) (hs : starEach (e :: es) X.env = (false, eval e X.env) :: starEach es X.env := by rfl) (hplain : (backTo cpos (starEach es X.env)).any (·.1) = false := by rfl) :
    PE X (.Call (.Attribute o name apos) (e :: es) [] cpos) (tBM K T r to t) := h ▸ pe_bm pa slot hty hm ho ha hbase hfew hline hs hplain
end
section
variable {k j : Nat} {x m : Str} {ps : List Str} {sp : Sp} {E : XK} {pos apos : Pos} {o e : Expr} {es : List Expr} {ta : TE} {t : TA} {pl : Sem Bool}
theorem pe_mdoK (F : KeepsM X.prog X.w X.K X.mg X.base CX0 k x m ps sp) (c : SlX.SCls X.K (He.ga X.K x)) (hr : Room j X.A) (hx : Passes CX0 X E) (he : PE X o ta) (ha : PA X (e :: es) t) (hk : k ≤ j := by decide) (h : X.K = K := by rfl)
    (hst : starEach (e :: es) X.env = (false, eval e X.env) :: starEach es X.env := by rfl) (hpl : (backTo pos (starEach es X.env)).any (·.1) = false := by rfl)
    (ht : eval (.Call (.Attribute o m apos) (e :: es) [] pos) X.env = (do
      let ov ← eval o X.env
      standAt apos.atName
      let (f, first) ← holding [ov] (getMethod ov m pl)
      callWith pos f first (backTo pos (starEach (e :: es) X.env)) (backToKw pos (keywordEach [] X.env))) := by rfl) :
    PE X (.Call (.Attribute o m apos) (e :: es) [] pos) (SlX.tMethSl (He.ga K x) sp E ta t) := h ▸ pe_mdo F c hr hx he ha hk hst hpl ht
theorem call_lenMK (F : KeepsM X.prog X.w X.K X.mg X.base CX0 k x "__len__" ps sp) (hr : Room j X.A) (hx : Passes CX0 X E) (hk : k + 1 ≤ j := by decide) (h : X.K = K := by rfl) : CallR X (.builtin "len") (rLenOwn (He.ga K x) sp E) := h ▸ call_lenM F hr hx hk
end
end
end My

set_option Elab.async false
set_option linter.all false
set_option maxRecDepth 100000
set_option maxHeartbeats 4000000
/-! tuples of which it is known that they have no dict: their methods may be called -/
namespace My
open PySem PySem.Spec PyProof.Rows L2 MW
def ZT (H : Hp) (a : Addr) (xs : List V) : Prop := ∃ o, H a = some (.frz o (.tup xs)) ∧ o.dict = none
section
variable {K : PySem.W.Frag} {H H' : Hp} {a d : Addr} {xs ys : List V}
theorem ZT.sq (h : ZT H a xs) : SqT K H a xs := by
  obtain ⟨o, h, _⟩ := h
  exact .inl (.inr ⟨o, h⟩)
theorem ZT.same (e : Same H H') (h : ZT H a xs) : ZT H' a xs := by
  obtain ⟨o, h, q⟩ := h
  exact ⟨o, e _ _ h, q⟩
theorem ZT.but (hd : H d = some (.lst ys)) (e : But d H H') (h : ZT H a xs) : ZT H' a xs := by
  obtain ⟨o, h, q⟩ := h
  exact ⟨o, e _ _ (fun z => by rw [z, hd] at h; cases h) h, q⟩
end
/-- a new tuple of these -/
def TupZ (ys : List V) (H : Hp) (Q : VK) : Prop := ∀ p H', Same H H' → H p = none → ZT H' p ys → Q (.ref p) H'
section
variable {X : Cx} {pins : List (Addr × Obj)} {σ : L2.St} {H : Hp} {s : Shared}
theorem Inv.newZ {ys : List V} {its : List Value} {t' : Nat} {Q : VK} (I : L2.Inv X pins σ H s) (hz : ys.length ≤ sizeLine) (r : Vals ys its) (q : TupZ ys H Q) :
    EP X pins σ Q (.ref s.heap.objs.size) { s with heap := s.heap.push { cls := .type "tuple", data := .seq its.toArray }, toks := t' } := by
  have hn : H s.heap.objs.size = none := I.hok.fresh (Nat.le_refl _)
  have J := I.laid (t' := t') (a := s.heap.objs.size) (o := .frz { cls := .type "tuple", data := .seq its.toArray } (.tup ys)) (h' := s.heap.push { cls := .type "tuple", data := .seq its.toArray }) (fun b o e => Heap.get?_push_of_some _ e) (Nat.le_refl _)
    (show ObjOk X.prog X.w _ _ _ (.frz _ (.tup ys)) from by
      refine ⟨?_, ?_⟩
      · exact Heap.get?_push_size _ rfl
      · exact ⟨hz, its, r, IsTup.new _ _⟩)
  exact ⟨.ref s.heap.objs.size, _, J, rfl, q _ _ (same_new hn) hn ⟨_, upd_same, rfl⟩⟩
end
section
variable {X : Cx}
/-- tuple(list) -/
def rTupZ (K : PySem.W.Frag) : List V → Hp → VK → Prop := fun xs H Q => ∃ p ys, xs = [.ref p] ∧ SqL K H p ys ∧ TupZ ys H Q
theorem call_tuple_ofZ : CallR X (.type "tuple") (rTupZ X.K) := by
  intro pins s σ H xs us Q I r h
  obtain ⟨p, ys, rfl, hq, q⟩ := h
  obtain ⟨u, rfl, rx⟩ := vals1 r
  cases rx
  obtain ⟨its, r', pl, hz⟩ := I.list hq
  have hlen := r'.length
  refine call_tuple_list pl.isList (fun h' kp => ?_) (by simp only [List.size_toArray] <;> omega)
  have I1 : L2.Inv X pins σ H { s with heap := h' } := I.kept (t' := s.toks) kp
  exact Inv.newZ I1 hz r' q
/-- t + u, both not empty -/
def rCatZ (K : PySem.W.Frag) : R2 := fun x y H Q => ∃ a b xs ys, x = .ref a ∧ y = .ref b ∧ SqT K H a xs ∧ SqT K H b ys ∧ xs.length + ys.length ≤ sizeLine ∧ xs ≠ [] ∧ ys ≠ [] ∧ TupZ (xs ++ ys) H Q
theorem op_catZ : OpR X (binaryOp .Add) (rCatZ X.K) := by
  intro pins s σ H x y v u Q I rx ry h
  obtain ⟨a, b, xs, ys, rfl, rfl, ha, hb, hz, hx, hy, q⟩ := h
  cases rx
  cases ry
  obtain ⟨its, r1, p1, _⟩ := I.tuple ha
  obtain ⟨its2, r2, p2, _⟩ := I.tuple hb
  refine HT.cat_tup p1 p2 (fun z => hx (r1.nil_iff.mp z)) (fun z => absurd (r2.nil_iff.mp z) hy) (fun z => ?_) (by rw [← r1.length, ← r2.length]; exact hz)
  exact Inv.newZ I (by rw [List.length_append]; exact hz) (r1.append r2) q
/-- t[lo:hi], not the whole -/
def rSlZ (K : PySem.W.Frag) : V → Option Int → Option Int → Hp → VK → Prop := fun x lo hi H Q => ∃ a xs, x = .ref a ∧ SqT K H a xs ∧ ¬ (HT.sIx xs.length 0 lo = 0 ∧ HT.sIx xs.length xs.length hi = xs.length) ∧ TupZ (cutV xs lo hi) H Q
theorem sl_tupZ : L2.SlR X (rSlZ X.K) := by
  intro pins s σ H x v vl vu lo hi sl Q I rx hs pl pu h
  obtain ⟨a, xs, rfl, hx, hw, q⟩ := h
  cases rx
  obtain ⟨its, r, ht, hz⟩ := I.tuple hx
  have hlen : its.toArray.size = xs.length := by rw [List.size_toArray]; exact r.length.symm
  refine ⟨"tuple", _, PyProof.Rows.slot_tuple_getitem.lookup, ht.typeIs, ?_⟩
  refine HT.getItem_tuple_cut ht hs pl pu (by rw [hlen]; exact hw) ?_ (by rw [hlen]; exact hz)
  rw [hlen]
  exact Inv.newZ I (Nat.le_trans (cutV_length xs lo hi) hz) ((r.drop (HT.sIx xs.length 0 lo)).take (HT.sIx xs.length xs.length hi - HT.sIx xs.length 0 lo)) q
end
/-- t.m(e, ..), t such a tuple -/
def tZM (r : V → List V → Hp → VK → Prop) (to : TE) (t : TA) : TE := fun σ H Q => to σ H fun x H1 => (∃ a xs, x = .ref a ∧ ZT H1 a xs) ∧ t σ H1 fun xs H2 => r x xs H2 Q
section
variable {X : Cx} {o e : Expr} {es : List Expr} {to : TE} {t : TA} {id : String} {name : Str} {r : V → List V → Hp → VK → Prop} {apos cpos : Pos}
theorem pe_zm (slot : Slot "tuple" name id) (hty : typeOf (.builtin id) = pure (.type "method_descriptor")) (hm : MtR X id r) (ho : PE X o to) (ha : PA X (e :: es) t)
    (hbase : attributeBase o name X.env (eval o X.env) = eval o X.env := by rfl)
    (hfew : ((backTo cpos (starEach (e :: es) X.env)).all (fun x => !x.1) && (backToKw cpos (keywordEach [] X.env)).all (fun x => x.1.isSome)
      && decide ((e :: es).length + ([] : List Keyword).length + (if ([] : List Keyword).isEmpty then 0 else 1) < 30)) = true := by rfl)
    (hline : (apos.endLine == cpos.line) = true := by rfl) (hs : starEach (e :: es) X.env = (false, eval e X.env) :: starEach es X.env := by rfl) (hplain : (backTo cpos (starEach es X.env)).any (·.1) = false := by rfl) :
    PE X (.Call (.Attribute o name apos) (e :: es) [] cpos) (tZM r to t) := by
  refine ⟨fun pins s σ H Q I h => ?_⟩
  refine wpAny_Call_method_late hbase hfew hline rfl (thn (ho.run pins s σ H _ I h) fun v s1 ⟨x, H1, I1, r1, ⟨a, xs, ex, z⟩, q1⟩ => ?_)
  subst ex
  obtain rfl : v = Value.ref a := r1
  obtain ⟨ob, hz, hd⟩ := z
  obtain ⟨e1, q2⟩ := I1.hok a _ hz
  obtain ⟨_, its, _, ob2, e2, hc, _⟩ := q2
  refine ⟨"tuple", id, PySem.F.plainAttrs_tuple, slot, hty, ⟨ob2, e2, hc⟩, fun b eb => ?_, ?_⟩
  · cases eb
    exact ⟨ob, e1, hd⟩
  have hA := ha.run cpos pins s1 σ H1 _ I1 q1
  rw [hs] at hA ⊢
  refine Calls.callWith_builtin (by show (false || (backTo cpos (starEach es X.env)).any (·.1)) = false; rw [hplain] <;> rfl) (Calls.evalArgs_plain ?_)
  exact thn hA fun us s2 ⟨vs, H2, I2, r2, q2⟩ => hm pins s2 σ H2 (.ref a) vs (.ref a) us Q I2 rfl r2 q2
end
section
variable {X : Cx} (K : PySem.W.Frag)
theorem call_tuple_ofZK (h : X.K = K := by rfl) : CallR X (.type "tuple") (rTupZ K) := h ▸ call_tuple_ofZ
theorem op_catZK (h : X.K = K := by rfl) : OpR X (binaryOp .Add) (rCatZ K) := h ▸ op_catZ
theorem sl_tupZK (h : X.K = K := by rfl) : L2.SlR X (rSlZ K) := h ▸ sl_tupZ
end
/-! ### rows of such tuples -/
def RowsZ (K : PySem.W.Frag) (H : Hp) (p : Addr) (rows : List (List Nat)) : Prop := ∃ ps : List Addr, SqT K H p (ps.map V.ref) ∧ Paired (fun q r => ZT H q (vN r)) ps rows
section
variable {K : PySem.W.Frag} {H H' : Hp} {p d : Addr} {rows : List (List Nat)}
theorem RowsZ.at_ (h : RowsZ K H p rows) : RowsAt K H p rows := by
  obtain ⟨ps, h1, h2⟩ := h
  exact ⟨ps, h1, My.Paired.imp' (fun _ _ z => z.sq) h2⟩
theorem RowsZ.same (e : Same H H') (h : RowsZ K H p rows) : RowsZ K H' p rows := by
  obtain ⟨ps, h1, h2⟩ := h
  exact ⟨ps, sameT e h1, My.Paired.imp' (fun _ _ q => q.same e) h2⟩
theorem RowsZ.but {ys : List V} (hd : H d = some (.lst ys)) (e : But d H H') (h : RowsZ K H p rows) : RowsZ K H' p rows := by
  obtain ⟨ps, h1, h2⟩ := h
  exact ⟨ps, butT hd e h1, My.Paired.imp' (fun _ _ q => q.but hd e) h2⟩
end
/-- a word whose rows are such tuples -/
def WordZ (K : PySem.W.Frag) (H : Hp) (a : Addr) (W : Wd) : Prop := ∃ dx lt rw : Addr, H a = some (SlX.SlO a (WC K) dx [some (.int W.b), some (.ref lt), some (.ref rw)]) ∧ H dx = some (.xd []) ∧ SqT K H lt (vN W.lets) ∧ RowsZ K H rw W.rows ∧ W.Ok
section
variable {K : PySem.W.Frag} {H H' : Hp} {a d : Addr} {W : Wd}
theorem WordZ.at_ (h : WordZ K H a W) : WordAt K H a W := by
  obtain ⟨dx, lt, rw, h1, h2, h3, h4, O⟩ := h
  exact ⟨dx, lt, rw, h1, h2, h3, h4.at_, O⟩
theorem WordZ.same (e : Same H H') (h : WordZ K H a W) : WordZ K H' a W := by
  obtain ⟨dx, lt, rw, h1, h2, h3, h4, O⟩ := h
  exact ⟨dx, lt, rw, e _ _ h1, e _ _ h2, sameT e h3, h4.same e, O⟩
theorem WordZ.but {ys : List V} (hd : H d = some (.lst ys)) (e : But d H H') (h : WordZ K H a W) : WordZ K H' a W := by
  obtain ⟨dx, lt, rw, h1, h2, h3, h4, O⟩ := h
  refine ⟨dx, lt, rw, e _ _ (fun z => ?_) h1, e _ _ (fun z => ?_) h2, butT hd e h3, h4.but hd e, O⟩
  · rw [z, hd] at h1
    unfold SlX.SlO at h1
    cases h1
  · rw [z, hd] at h2
    cases h2
theorem WordZ.slt (h : WordZ K H a W) : ∃ dx lt rw : Addr, SlX.Slt H a (WC K) dx [some (.int W.b), some (.ref lt), some (.ref rw)] ∧ SqT K H lt (vN W.lets) ∧ RowsZ K H rw W.rows := by
  obtain ⟨dx, lt, rw, h1, h2, h3, h4, O⟩ := h
  exact ⟨dx, lt, rw, .inr ⟨h1, h2⟩, h3, h4⟩
/-- Word(base, rows, letters) -/
theorem mk_wordZ {rw lt : Addr} {R : Addr → Hp → Prop} {E : XK} (O : W.Ok) (hl : SqT K H lt (vN W.lets)) (hrw : RowsZ K H rw W.rows) (q : ∀ a H', Same H H' → WordZ K H' a W → R a H') :
    ∀ x dx, H x = none → H dx = none → dx ≠ x → spWord K (.ref x :: ([V.int W.b, .ref rw, .ref lt] ++ [])) (upd (upd H dx (.own x)) x (.ins (WC K) dx [])) (fun v H2 => v = .non ∧ R x H2) E := by
  intro x dx nx ndx ne
  have e : Same H (upd (upd H dx (.own x)) x (.ins (WC K) dx [])) := fun b o h => by
    rw [upd_ne (ne_of_none h nx), upd_ne (ne_of_none h ndx)]
    exact h
  refine ⟨x, rw, lt, dx, W, rfl, O, ne, .inl ⟨upd_same, rfl⟩, sameT e hl, hrw.at_.same e, fun H' k h1 h2 => ⟨rfl, ?_⟩⟩
  have e2 : Same H H' := fun b o h => k b o (ne_of_none h nx) (ne_of_none h ndx) (e b o h)
  exact q x H' e2 ⟨dx, lt, rw, h1, h2, sameT e2 hl, hrw.same e2, O⟩
end
end My

set_option Elab.async false
set_option linter.all false
set_option maxRecDepth 100000
set_option maxHeartbeats 4000000
/-! data of rows, for == -/
namespace My
open PySem PySem.Spec PyProof.Rows L2 MW
def dInts (l : List Nat) : List PyData := (iN l).map PyData.int
def dRows (rows : List (List Nat)) : List PyData := rows.map fun r => .tuple (dInts r)
theorem canRows : ∀ l : List (List Nat), PyData.canLayAll0 (dRows l) = true
  | [] => by simp [dRows, PyData.canLayAll0]
  | a :: l => by
    have h := canRows l
    have e : dRows (a :: l) = .tuple (dInts a) :: dRows l := rfl
    rw [e, PyData.canLayAll0, h, Bool.and_true, PyData.canLay0]
    exact canInts (iN a)
theorem depthRows : ∀ l : List (List Nat), PyData.depthAll (dRows l) ≤ 2
  | [] => by simp [dRows, PyData.depthAll]
  | a :: l => by
    have h := depthRows l
    have h2 : PyData.depthAll (dInts a) ≤ 1 := depthInts (iN a)
    have e : dRows (a :: l) = .tuple (dInts a) :: dRows l := rfl
    rw [e, PyData.depthAll, PyData.depth]
    omega
theorem shapedRows (l : List (List Nat)) : SeqAt.shaped (.tuple (dRows l)) = true := by
  have := depthRows l
  unfold SeqAt.shaped
  simp only [PyData.canLay0, canRows, Bool.true_and, PyData.depth]
  exact decide_eq_true (by omega)
theorem eqvRows (l : List (List Nat)) : PyData.eqv (.tuple (dRows l)) (.tuple (dRows l)) = true := SeqAt.eqv_refl _ (SeqAt.canLay_of_shaped (shapedRows l))
theorem dpRows {K : PySem.W.Frag} {H : Hp} {p : Addr} {rows : List (List Nat)} (h : RowsAt K H p rows) : Dp K H (.ref p) (.tuple (dRows rows)) := by
  obtain ⟨ps, h1, h2⟩ := h
  refine .tup h1 ?_
  clear h1
  induction h2 with
  | nil => exact .nil
  | cons q t ih => exact .cons (dpTI q) ih
theorem iN_sum (l : List Nat) : (iN l).sum = ((l.sum : Nat) : Int) := by
  induction l with
  | nil => rfl
  | cons a l ih =>
    have e : iN (a :: l) = (a : Int) :: iN l := rfl
    rw [e, List.sum_cons, List.sum_cons, ih, Int.natCast_add]
theorem dpN {K : PySem.W.Frag} {H : Hp} {a : Addr} {l : List Nat} (h : SqT K H a (vN l)) : Dp K H (.ref a) (.tuple (dInts l)) := dpTI h
end My

set_option Elab.async false
set_option linter.all false
set_option maxRecDepth 100000
set_option maxHeartbeats 4000000
namespace Pf
open PySem PySem.Spec PyProof.Rows L2 My M11 MW
def top (i : Nat) : Stmt := PySem.Challenge.pw_digitwords_k23_whole_states_spelled_out.main.body.getD i (.Pass ⟨0, 0, 0, 0⟩)
abbrev s__wall : Stmt := top 0
theorem sc__wall : FnScope ["k"] ["k"] (defScope s__wall) := ⟨rfl, rfl, rfl, by decide +kernel, rfl, by decide +kernel, by decide +kernel⟩
abbrev s_is_integer : Stmt := top 11
theorem sc_is_integer : FnScope ["value"] ["value"] (defScope s_is_integer) := ⟨rfl, rfl, rfl, by decide +kernel, rfl, by decide +kernel, by decide +kernel⟩
abbrev s_is_within : Stmt := top 12
theorem sc_is_within : FnScope ["value", "least", "most"] ["value", "least", "most"] (defScope s_is_within) := ⟨rfl, rfl, rfl, by decide +kernel, rfl, by decide +kernel, by decide +kernel⟩
abbrev s_require_within : Stmt := top 13
theorem sc_require_within : FnScope ["value", "least", "most"] ["value", "least", "most"] (defScope s_require_within) := ⟨rfl, rfl, rfl, by decide +kernel, rfl, by decide +kernel, by decide +kernel⟩
abbrev s_is_letter : Stmt := top 14
theorem sc_is_letter : FnScope ["value"] ["value"] (defScope s_is_letter) := ⟨rfl, rfl, rfl, by decide +kernel, rfl, by decide +kernel, by decide +kernel⟩
abbrev s_is_base : Stmt := top 15
theorem sc_is_base : FnScope ["value"] ["value"] (defScope s_is_base) := ⟨rfl, rfl, rfl, by decide +kernel, rfl, by decide +kernel, by decide +kernel⟩
abbrev s_require_base : Stmt := top 16
theorem sc_require_base : FnScope ["value"] ["value"] (defScope s_require_base) := ⟨rfl, rfl, rfl, by decide +kernel, rfl, by decide +kernel, by decide +kernel⟩
abbrev s_require_place : Stmt := top 17
theorem sc_require_place : FnScope ["value"] ["value"] (defScope s_require_place) := ⟨rfl, rfl, rfl, by decide +kernel, rfl, by decide +kernel, by decide +kernel⟩
abbrev s_digits_in : Stmt := top 18
theorem sc_digits_in : FnScope ["base", "place", "found", "left"] ["base", "place"] (defScope s_digits_in) := ⟨rfl, rfl, rfl, by decide +kernel, rfl, by decide +kernel, by decide +kernel⟩
abbrev s_classes_of : Stmt := top 20
theorem sc_classes_of : FnScope ["rows", "marks", "kinds", "found", "many", "seen", "later", "state", "row", "key", "at", "mark", "other"] ["rows", "marks"] (defScope s_classes_of) := ⟨rfl, rfl, rfl, by decide +kernel, rfl, by decide +kernel, by decide +kernel⟩
abbrev s_set_of : Stmt := top 21
theorem sc_set_of : FnScope ["values", "value"] ["values"] (defScope s_set_of) := ⟨rfl, rfl, rfl, by decide +kernel, rfl, by decide +kernel, by decide +kernel⟩
abbrev s_reached_from : Stmt := top 22
theorem sc_reached_from : FnScope ["start", "rows", "marks", "numbers", "order", "found", "row", "other", "state"] ["start", "rows", "marks"] (defScope s_reached_from) := ⟨rfl, rfl, rfl, by decide +kernel, rfl, by decide +kernel, by decide +kernel⟩
abbrev s_least_machine : Stmt := top 23
theorem sc_least_machine : FnScope ["rows", "marks", "some", "told", "lots", "firsts", "state", "lot", "joined", "other"] ["rows", "marks"] (defScope s_least_machine) := ⟨rfl, rfl, rfl, by decide +kernel, rfl, by decide +kernel, by decide +kernel⟩
abbrev s_power_of : Stmt := top 24
theorem sc_power_of : FnScope ["number", "many", "found", "_"] ["number", "many"] (defScope s_power_of) := ⟨rfl, rfl, rfl, by decide +kernel, rfl, by decide +kernel, by decide +kernel⟩
abbrev s_pairs_reached : Stmt := top 25
theorem sc_pairs_reached : FnScope ["one", "other", "known", "order", "at", "left", "right", "pair"] ["one", "other"] (defScope s_pairs_reached) := ⟨rfl, rfl, rfl, by decide +kernel, rfl, by decide +kernel, by decide +kernel⟩
abbrev s_are_rows : Stmt := top 30
theorem sc_are_rows : FnScope ["base", "rows", "many", "row", "state"] ["base", "rows", "many"] (defScope s_are_rows) := ⟨rfl, rfl, rfl, by decide +kernel, rfl, by decide +kernel, by decide +kernel⟩
abbrev s_are_letters : Stmt := top 31
theorem sc_are_letters : FnScope ["value", "letter"] ["value"] (defScope s_are_letters) := ⟨rfl, rfl, rfl, by decide +kernel, rfl, by decide +kernel, by decide +kernel⟩
abbrev s_is_word : Stmt := top 32
theorem sc_is_word : FnScope ["base", "rows", "letters"] ["base", "rows", "letters"] (defScope s_is_word) := ⟨rfl, rfl, rfl, by decide +kernel, rfl, by decide +kernel, by decide +kernel⟩
abbrev s_Word_init : Stmt := inClass (top 33) 1
theorem sc_Word_init : FnScope ["self", "base", "rows", "letters"] ["self", "base", "rows", "letters"] (defScope s_Word_init) := ⟨rfl, rfl, rfl, by decide +kernel, rfl, by decide +kernel, by decide +kernel⟩
abbrev s_Word_state : Stmt := inClass (top 33) 5
theorem sc_Word_state : FnScope ["self", "place"] ["self", "place"] (defScope s_Word_state) := ⟨rfl, rfl, rfl, by decide +kernel, rfl, by decide +kernel, by decide +kernel⟩
abbrev s_Word_letter : Stmt := inClass (top 33) 6
theorem sc_Word_letter : FnScope ["self", "place"] ["self", "place"] (defScope s_Word_letter) := ⟨rfl, rfl, rfl, by decide +kernel, rfl, by decide +kernel, by decide +kernel⟩
abbrev s_Word_part : Stmt := inClass (top 33) 7
theorem sc_Word_part : FnScope ["self", "place", "many"] ["self", "place", "many"] (defScope s_Word_part) := ⟨rfl, rfl, rfl, by decide +kernel, rfl, by decide +kernel, by decide +kernel⟩
abbrev s_Word_least : Stmt := inClass (top 33) 8
theorem sc_Word_least : FnScope ["self"] ["self"] (defScope s_Word_least) := ⟨rfl, rfl, rfl, by decide +kernel, rfl, by decide +kernel, by decide +kernel⟩
abbrev s_Word_used : Stmt := inClass (top 33) 9
theorem sc_Word_used : FnScope ["self"] ["self"] (defScope s_Word_used) := ⟨rfl, rfl, rfl, by decide +kernel, rfl, by decide +kernel, by decide +kernel⟩
abbrev s_Word_eq : Stmt := inClass (top 33) 10
theorem sc_Word_eq : FnScope ["self", "other"] ["self", "other"] (defScope s_Word_eq) := ⟨rfl, rfl, rfl, by decide +kernel, rfl, by decide +kernel, by decide +kernel⟩
abbrev s_Word_len : Stmt := inClass (top 33) 11
theorem sc_Word_len : FnScope ["self"] ["self"] (defScope s_Word_len) := ⟨rfl, rfl, rfl, by decide +kernel, rfl, by decide +kernel, by decide +kernel⟩
abbrev s_least_word : Stmt := top 34
theorem sc_least_word : FnScope ["base", "rows", "letters", "lean", "told"] ["base", "rows", "letters"] (defScope s_least_word) := ⟨rfl, rfl, rfl, by decide +kernel, rfl, by decide +kernel, by decide +kernel⟩
abbrev s_state_in : Stmt := top 35
theorem sc_state_in : FnScope ["word", "place", "state", "digit"] ["word", "place"] (defScope s_state_in) := ⟨rfl, rfl, rfl, by decide +kernel, rfl, by decide +kernel, by decide +kernel⟩
abbrev s_letter_in : Stmt := top 36
theorem sc_letter_in : FnScope ["word", "place"] ["word", "place"] (defScope s_letter_in) := ⟨rfl, rfl, rfl, by decide +kernel, rfl, by decide +kernel, by decide +kernel⟩
abbrev s_part_in : Stmt := top 37
theorem sc_part_in : FnScope ["word", "place", "many", "at"] ["word", "place", "many"] (defScope s_part_in) := ⟨rfl, rfl, rfl, by decide +kernel, rfl, by decide +kernel, by decide +kernel⟩
abbrev s_are_words_alike : Stmt := top 38
theorem sc_are_words_alike : FnScope ["one", "other", "pairs", "left", "right"] ["one", "other"] (defScope s_are_words_alike) := ⟨rfl, rfl, rfl, by decide +kernel, rfl, by decide +kernel, by decide +kernel⟩
abbrev s_require_word : Stmt := top 39
theorem sc_require_word : FnScope ["value"] ["value"] (defScope s_require_word) := ⟨rfl, rfl, rfl, by decide +kernel, rfl, by decide +kernel, by decide +kernel⟩
abbrev s_spelled_in : Stmt := top 43
theorem sc_spelled_in : FnScope ["word", "states", "times", "found", "_", "state", "later"] ["word", "states", "times"] (defScope s_spelled_in) := ⟨rfl, rfl, rfl, by decide +kernel, rfl, by decide +kernel, by decide +kernel⟩
abbrev s_table_in : Stmt := top 44
theorem sc_table_in : FnScope ["word", "row", "state"] ["word"] (defScope s_table_in) := ⟨rfl, rfl, rfl, by decide +kernel, rfl, by decide +kernel, by decide +kernel⟩
abbrev s_require_times : Stmt := top 45
theorem sc_require_times : FnScope ["word", "many", "times"] ["word", "many", "times"] (defScope s_require_times) := ⟨rfl, rfl, rfl, by decide +kernel, rfl, by decide +kernel, by decide +kernel⟩
abbrev s_spelled : Stmt := top 46
theorem sc_spelled : FnScope ["word", "states", "times", "state"] ["word", "states", "times"] (defScope s_spelled) := ⟨rfl, rfl, rfl, by decide +kernel, rfl, by decide +kernel, by decide +kernel⟩
abbrev s_block : Stmt := top 47
theorem sc_block : FnScope ["word", "place", "times", "state"] ["word", "place", "times"] (defScope s_block) := ⟨rfl, rfl, rfl, by decide +kernel, rfl, by decide +kernel, by decide +kernel⟩
abbrev s_spelling_table : Stmt := top 48
theorem sc_spelling_table : FnScope ["word"] ["word"] (defScope s_spelling_table) := ⟨rfl, rfl, rfl, by decide +kernel, rfl, by decide +kernel, by decide +kernel⟩
abbrev s_law_dice : Stmt := top 50
theorem sc_law_dice : FnScope ["script", "spot", "cell", "great", "seed"] ["script", "spot"] (defScope s_law_dice) := ⟨rfl, rfl, rfl, by decide +kernel, rfl, by decide +kernel, by decide +kernel⟩
abbrev s_law_roll : Stmt := top 51
theorem sc_law_roll : FnScope ["dice", "total", "found", "one", "two"] ["dice", "total"] (defScope s_law_roll) := ⟨rfl, rfl, rfl, by decide +kernel, rfl, by decide +kernel, by decide +kernel⟩
abbrev s_law_digits : Stmt := top 52
theorem sc_law_digits : FnScope ["base", "place", "found", "left"] ["base", "place"] (defScope s_law_digits) := ⟨rfl, rfl, rfl, by decide +kernel, rfl, by decide +kernel, by decide +kernel⟩
abbrev s_law_power : Stmt := top 53
theorem sc_law_power : FnScope ["base", "many", "found", "turn"] ["base", "many"] (defScope s_law_power) := ⟨rfl, rfl, rfl, by decide +kernel, rfl, by decide +kernel, by decide +kernel⟩
abbrev s_law_great : Stmt := top 54
theorem sc_law_great : FnScope ["dice", "way", "found", "turn"] ["dice"] (defScope s_law_great) := ⟨rfl, rfl, rfl, by decide +kernel, rfl, by decide +kernel, by decide +kernel⟩
abbrev s_law_wd_drawn : Stmt := top 55
theorem sc_law_wd_drawn : FnScope ["dice", "base", "most", "letters", "many", "rows", "told", "state", "digit"] ["dice", "base", "most", "letters"] (defScope s_law_wd_drawn) := ⟨rfl, rfl, rfl, by decide +kernel, rfl, by decide +kernel, by decide +kernel⟩
abbrev s_law_wd_state : Stmt := top 56
theorem sc_law_wd_state : FnScope ["word", "digits", "state", "digit"] ["word", "digits"] (defScope s_law_wd_state) := ⟨rfl, rfl, rfl, by decide +kernel, rfl, by decide +kernel, by decide +kernel⟩
abbrev s_law_wd_letter : Stmt := top 57
theorem sc_law_wd_letter : FnScope ["word", "place"] ["word", "place"] (defScope s_law_wd_letter) := ⟨rfl, rfl, rfl, by decide +kernel, rfl, by decide +kernel, by decide +kernel⟩
abbrev s_law_wd_part : Stmt := top 58
theorem sc_law_wd_part : FnScope ["word", "place", "many", "at"] ["word", "place", "many"] (defScope s_law_wd_part) := ⟨rfl, rfl, rfl, by decide +kernel, rfl, by decide +kernel, by decide +kernel⟩
abbrev s_law_spelled : Stmt := top 59
theorem sc_law_spelled : FnScope ["rows", "states", "found", "state"] ["rows", "states"] (defScope s_law_spelled) := ⟨rfl, rfl, rfl, by decide +kernel, rfl, by decide +kernel, by decide +kernel⟩
abbrev s_law_right : Stmt := top 60
theorem sc_law_right : FnScope ["dice", "base", "plain", "word", "many", "states", "times", "due", "turn", "place", "width", "told", "ahead", "state", "table", "counts", "twice", "goal", "first", "row", "at"] ["dice"] (defScope s_law_right) := ⟨rfl, rfl, rfl, by decide +kernel, rfl, by decide +kernel, by decide +kernel⟩
abbrev s_law : Stmt := top 61
theorem sc_law : FnScope ["script", "spot", "dice", "turn", "two"] ["script"] (defScope s_law) := ⟨rfl, rfl, rfl, by decide +kernel, rfl, by decide +kernel, by decide +kernel⟩
structure Fre (mg : Str → Option Value) : Prop where
  len : mg "len" = none
  int : mg "int" = none
  abs : mg "abs" = none
  max : mg "max" = none
  min : mg "min" = none
  bool : mg "bool" = none
  tuple : mg "tuple" = none
  list : mg "list" = none
  str : mg "str" = none
  dict : mg "dict" = none
  set : mg "set" = none
  isinstance : mg "isinstance" = none
  all : mg "all" = none
  any : mg "any" = none
  sum : mg "sum" = none
  sorted : mg "sorted" = none
  zip : mg "zip" = none
  enumerate : mg "enumerate" = none
  range : mg "range" = none
  repr : mg "repr" = none
  c_MAX_BASE : ∃ t, mg "MAX_BASE" = some (.int 5 t)
  c_MAX_PLACE : ∃ t, mg "MAX_PLACE" = some (.int 1000000000000000000000000000000000000000000000000000000000000 t)
  c_MAX_LETTER : ∃ t, mg "MAX_LETTER" = some (.int 9 t)
  c_MAX_STATES : ∃ t, mg "MAX_STATES" = some (.int 60 t)
  c_MAX_PART : ∃ t, mg "MAX_PART" = some (.int 5000 t)
  c_MAX_SPELLED : ∃ t, mg "MAX_SPELLED" = some (.int 5000 t)
  c_MOST_TIMES : ∃ t, mg "MOST_TIMES" = some (.int 12 t)
section
variable {P : Program} {w : World} {K : PySem.W.Frag} {mg : Str → Option Value} {base : Heap}
def spRoll : Sp := fun vs H Q _ => ∃ (d : Addr) (n : Int), vs = [.ref d, .int n] ∧ DiceAt H d ∧ 0 < n ∧ n.natAbs.log2 < 9000 ∧
  ∀ r H', 0 ≤ r → r < n → But d H H' → DiceAt H' d → Q (.int r) H'
theorem ok_roll (D : DefIn K mg "_law_roll" s_law_roll) (T : Fre mg) : Keeps P w K mg base CX0 1 "_law_roll" ["dice", "total"] spRoll := by
  refine D.keeps sc_law_roll (fun vs H Q E h => ?_) (fun _ _ _ _ _ _ us hl => match us, hl with | [_, _], _ => rfl) (fun cdv A outer s H vs Q E hr h => ?_)
  · obtain ⟨d, n, rfl, _⟩ := h
    rfl
  · refine ⟨_, (pss_cons (ps_if (pt_cmpR op_gt (pe_ix ix_list (pv 0) pe_int (fun _ _ => rfl)) pe_int (nomark _)) (pss_cons (ps_set (i := 2) sc_law_roll.nd rfl (Or.inl rfl) (pe_op op_mod (pe_ix ix_list (pv 0) pe_int (fun _ _ => rfl)) (pv 1)))
  (pss_cons (ps_asg (pe_op op_fdivW (pe_ix ix_list (pv 0) pe_int (fun _ _ => rfl)) (pv 1)) (pg_sub (pv 0) pe_int set_list))
  (pss_one (ps_ret (pe_callTy call_int1 (by rfl) T.int bi_int (pa_cons (pv 2) pa_nil)))))) pss_nil)
  (pss_cons (ps_asg (pe_op op_add (pe_ix ix_list (pv 0) pe_int (fun _ _ => rfl)) pe_int) (pg_sub (pv 0) pe_int set_list))
  (pss_cons (ps_set (i := 3) sc_law_roll.nd rfl (Or.inl rfl) (pe_op op_mod (pe_op op_add (pe_ix ix_list (pv 0) pe_int (fun _ _ => rfl)) (pe_op op_mul pe_int (pe_ix ix_list (pv 0) pe_int (fun _ _ => rfl)))) pe_int))
  (pss_cons (ps_set (i := 4) sc_law_roll.nd rfl (Or.inl rfl) (pe_op op_add (pe_op op_mul (pe_op op_mod (pe_op op_add (pe_op op_mulW (pv 3) (pv 3)) (pe_op op_mul pe_int (pe_ix ix_list (pv 0) pe_int (fun _ _ => rfl)))) pe_int) pe_int) (pv 3)))
  (pss_one (ps_ret (pe_op op_mod (pe_callTy call_int1 (by rfl) T.int bi_int (pa_cons (pe_op op_fdivW (pv 4) pe_int) pa_nil)) (pv 1)))))))), ?_⟩
    obtain ⟨d, n, rfl, ⟨a, b, c, hd⟩, hn, hl, k⟩ := h
    have W : Has H [(d, .lst [.int a, .int b, .int c])] := .one hd
    repeat (first
      | refine ⟨_, rfl, ?_⟩
      | refine ⟨_, _, rfl, rfl, ?_⟩
      | refine ⟨_, _, rfl, ?_⟩
      | refine ⟨_, _, _, _, rfl, rfl, SqL.of (W.get 0 rfl), rfl, ?_⟩
      | refine And.intro (cmulL (by decide) (by decide)) ?_
      | refine And.intro (cmulR (by decide) (by decide)) ?_
      | refine And.intro (show CPowW _ _ by decide +kernel) ?_
      | exact rfl
      | refine And.intro (show (0 : Int) < _ by decide +kernel) ?_
      | refine And.intro (show CDivW _ _ from ⟨by decide, by decide +kernel⟩) ?_
      | refine .inl ⟨_, rfl, ?_⟩
      | refine .inr ⟨_, rfl, ?_⟩)
    refine iteD (fun ha => ?_) (fun ha => ?_)
    · repeat (first
      | refine ⟨_, rfl, ?_⟩
      | refine ⟨_, _, rfl, rfl, ?_⟩
      | refine ⟨_, _, rfl, ?_⟩
      | refine ⟨_, _, _, _, rfl, rfl, SqL.of (W.get 0 rfl), rfl, ?_⟩
      | refine And.intro (cmulL (by decide) (by decide)) ?_
      | refine And.intro (cmulR (by decide) (by decide)) ?_
      | refine And.intro (show CPowW _ _ by decide +kernel) ?_
      | exact rfl
      | refine And.intro (show (0 : Int) < _ by decide +kernel) ?_
      | refine And.intro (show CDivW _ _ from ⟨by decide, by decide +kernel⟩) ?_
      | refine .inl ⟨_, rfl, ?_⟩
      | refine .inr ⟨_, rfl, ?_⟩)
      refine ⟨hn, ?_⟩
      repeat (first
      | refine ⟨_, rfl, ?_⟩
      | refine ⟨_, _, rfl, rfl, ?_⟩
      | refine ⟨_, _, rfl, ?_⟩
      | refine ⟨_, _, _, _, rfl, rfl, SqL.of (W.get 0 rfl), rfl, ?_⟩
      | refine And.intro (cmulL (by decide) (by decide)) ?_
      | refine And.intro (cmulR (by decide) (by decide)) ?_
      | refine And.intro (show CPowW _ _ by decide +kernel) ?_
      | exact rfl
      | refine And.intro (show (0 : Int) < _ by decide +kernel) ?_
      | refine And.intro (show CDivW _ _ from ⟨by decide, by decide +kernel⟩) ?_
      | refine .inl ⟨_, rfl, ?_⟩
      | refine .inr ⟨_, rfl, ?_⟩)
      refine ⟨⟨hn, hl⟩, ?_⟩
      repeat (first
      | refine ⟨_, rfl, ?_⟩
      | refine ⟨_, _, rfl, rfl, ?_⟩
      | refine ⟨_, _, rfl, ?_⟩
      | refine ⟨_, _, _, _, rfl, rfl, SqL.of (W.get 0 rfl), rfl, ?_⟩
      | refine And.intro (cmulL (by decide) (by decide)) ?_
      | refine And.intro (cmulR (by decide) (by decide)) ?_
      | refine And.intro (show CPowW _ _ by decide +kernel) ?_
      | exact rfl
      | refine And.intro (show (0 : Int) < _ by decide +kernel) ?_
      | refine And.intro (show CDivW _ _ from ⟨by decide, by decide +kernel⟩) ?_
      | refine .inl ⟨_, rfl, ?_⟩
      | refine .inr ⟨_, rfl, ?_⟩)
      refine set_of (W.get 0 rfl) rfl fun H1 b1 h1 => ?_
      repeat (first
      | refine ⟨_, rfl, ?_⟩
      | refine ⟨_, _, rfl, rfl, ?_⟩
      | refine ⟨_, _, rfl, ?_⟩
      | refine ⟨_, _, _, _, rfl, rfl, SqL.of (W.get 0 rfl), rfl, ?_⟩
      | refine And.intro (cmulL (by decide) (by decide)) ?_
      | refine And.intro (cmulR (by decide) (by decide)) ?_
      | refine And.intro (show CPowW _ _ by decide +kernel) ?_
      | exact rfl
      | refine And.intro (show (0 : Int) < _ by decide +kernel) ?_
      | refine And.intro (show CDivW _ _ from ⟨by decide, by decide +kernel⟩) ?_
      | refine .inl ⟨_, rfl, ?_⟩
      | refine .inr ⟨_, rfl, ?_⟩)
      exact k _ _ (Int.emod_nonneg _ (by omega)) (Int.emod_lt_of_pos _ hn) b1 ⟨_, _, _, h1⟩
    · repeat (first
      | refine ⟨_, rfl, ?_⟩
      | refine ⟨_, _, rfl, rfl, ?_⟩
      | refine ⟨_, _, rfl, ?_⟩
      | refine ⟨_, _, _, _, rfl, rfl, SqL.of (W.get 0 rfl), rfl, ?_⟩
      | refine And.intro (cmulL (by decide) (by decide)) ?_
      | refine And.intro (cmulR (by decide) (by decide)) ?_
      | refine And.intro (show CPowW _ _ by decide +kernel) ?_
      | exact rfl
      | refine And.intro (show (0 : Int) < _ by decide +kernel) ?_
      | refine And.intro (show CDivW _ _ from ⟨by decide, by decide +kernel⟩) ?_
      | refine .inl ⟨_, rfl, ?_⟩
      | refine .inr ⟨_, rfl, ?_⟩)
      refine set_of (W.get 0 rfl) rfl fun H1 b1 h1 => ?_
      replace W := W.but 0 rfl b1 h1
      repeat (first
      | refine ⟨_, rfl, ?_⟩
      | refine ⟨_, _, rfl, rfl, ?_⟩
      | refine ⟨_, _, rfl, ?_⟩
      | refine ⟨_, _, _, _, rfl, rfl, SqL.of (W.get 0 rfl), rfl, ?_⟩
      | refine And.intro (cmulL (by decide) (by decide)) ?_
      | refine And.intro (cmulR (by decide) (by decide)) ?_
      | refine And.intro (show CPowW _ _ by decide +kernel) ?_
      | exact rfl
      | refine And.intro (show (0 : Int) < _ by decide +kernel) ?_
      | refine And.intro (show CDivW _ _ from ⟨by decide, by decide +kernel⟩) ?_
      | refine .inl ⟨_, rfl, ?_⟩
      | refine .inr ⟨_, rfl, ?_⟩)
      have h61 : ∀ x : Int, (x % 2305843009213693951).natAbs < 2 ^ 61 := fun x => by omega
      refine And.intro (wide_mul (h61 _) (h61 _) (by decide) (by decide) (by decide)) ?_
      repeat (first
      | refine ⟨_, rfl, ?_⟩
      | refine ⟨_, _, rfl, rfl, ?_⟩
      | refine ⟨_, _, rfl, ?_⟩
      | refine ⟨_, _, _, _, rfl, rfl, SqL.of (W.get 0 rfl), rfl, ?_⟩
      | refine And.intro (cmulL (by decide) (by decide)) ?_
      | refine And.intro (cmulR (by decide) (by decide)) ?_
      | refine And.intro (show CPowW _ _ by decide +kernel) ?_
      | exact rfl
      | refine And.intro (show (0 : Int) < _ by decide +kernel) ?_
      | refine And.intro (show CDivW _ _ from ⟨by decide, by decide +kernel⟩) ?_
      | refine .inl ⟨_, rfl, ?_⟩
      | refine .inr ⟨_, rfl, ?_⟩)
      refine And.intro hn ?_
      exact k _ _ (Int.emod_nonneg _ (by omega)) (Int.emod_lt_of_pos _ hn) b1 ⟨_, _, _, h1⟩
def spDice (K : PySem.W.Frag) : Sp := fun vs H Q _ => ∃ (a : Addr) (ns : List Int) (i : Nat), vs = [.ref a, .int i] ∧ SqL K H a (ns.map V.int) ∧ i ≤ 1000 ∧
  ∀ d H', H d = none → Same H H' → DiceAt H' d → Q (.ref d) H'
theorem ok_dice (D : DefIn K mg "_law_dice" s_law_dice) (T : Fre mg) : Keeps P w K mg base CX0 1 "_law_dice" ["script", "spot"] (spDice K) := by
  refine D.keeps sc_law_dice (fun vs H Q E h => ?_) (fun _ _ _ _ _ _ us hl => match us, hl with | [_, _], _ => rfl) (fun cdv A outer s H vs Q E hr h => ?_)
  · obtain ⟨a, ns, i, rfl, _⟩ := h
    rfl
  · refine ⟨_, (Evl.pss_cut (ps_set (i := 2) sc_law_dice.nd rfl (Or.inl rfl) (pe_ifExp (pt_cmpR op_lt (pv 1) (pe_callB call_len_seq (by rfl) T.len bi_len (pa_cons (pv 0) pa_nil)) (nomark _)) (pe_callTy call_int1 (by rfl) T.int bi_int (pa_cons (pe_ix ix_list (pv 0) (pv 1) (fun _ _ => rfl)) pa_nil)) (pe_op op_add (pe_op op_mul pe_int (pv 1)) pe_int)))
  (pss_cons (ps_set (i := 3) sc_law_dice.nd rfl (Or.inl rfl) (pe_op op_mod (pe_callTy call_int1 (by rfl) T.int bi_int (pa_cons (pe_callB call_abs (by rfl) T.abs bi_abs (pa_cons (pv 2) pa_nil)) pa_nil)) (pe_op op_powW (pe_op op_powW pe_int pe_int) pe_int)))
  (pss_cons (ps_set (i := 4) sc_law_dice.nd rfl (Or.inl rfl) (pe_op op_add (pe_op op_add (pe_op op_add (pe_op op_mul (pe_op op_mod (pv 3) pe_int) pe_int) (pe_op op_mul pe_int (pv 1))) (pe_op op_mul pe_int (pe_callTy call_int1 (by rfl) T.int bi_int (pa_cons (pe_cmpR op_lt (pv 2) pe_int (nomark _)) pa_nil)))) pe_int))
  (pss_one (ps_ret (pe_lst (pa_cons (pe_callB (call_max2 rfl) (by rfl) T.max bi_max (pa_cons pe_int (pa_cons (pe_op op_sub (pv 3) (pe_op op_powW pe_int pe_int)) pa_nil))) (pa_cons (pv 4) (pa_cons pe_int pa_nil))))))))), ?_⟩
    obtain ⟨a, ns, i, rfl, hS, hi, k⟩ := h
    refine ⟨fun σ' H' => ∃ c : Int, σ' = [some (.ref a), some (.int i), some (.int c), none, none] ∧ H' = H, ?_, ?_⟩
    · repeat (first
      | refine ⟨_, rfl, ?_⟩
      | refine ⟨_, _, rfl, rfl, ?_⟩
      | refine ⟨_, _, rfl, ?_⟩
      | refine ⟨_, _, _, _, rfl, rfl, SqL.of (W.get 0 rfl), rfl, ?_⟩
      | refine And.intro (cmulL (by decide) (by decide)) ?_
      | refine And.intro (cmulR (by decide) (by decide)) ?_
      | refine And.intro (show CPowW _ _ by decide +kernel) ?_
      | exact rfl
      | refine And.intro (show (0 : Int) < _ by decide +kernel) ?_
      | refine And.intro (show CDivW _ _ from ⟨by decide, by decide +kernel⟩) ?_
      | refine .inl ⟨_, rfl, ?_⟩
      | refine .inr ⟨_, rfl, ?_⟩)
      refine ⟨_, _, rfl, Or.inl hS, ?_⟩
      repeat (first
      | refine ⟨_, rfl, ?_⟩
      | refine ⟨_, _, rfl, rfl, ?_⟩
      | refine ⟨_, _, rfl, ?_⟩
      | refine ⟨_, _, _, _, rfl, rfl, SqL.of (W.get 0 rfl), rfl, ?_⟩
      | refine And.intro (cmulL (by decide) (by decide)) ?_
      | refine And.intro (cmulR (by decide) (by decide)) ?_
      | refine And.intro (show CPowW _ _ by decide +kernel) ?_
      | exact rfl
      | refine And.intro (show (0 : Int) < _ by decide +kernel) ?_
      | refine And.intro (show CDivW _ _ from ⟨by decide, by decide +kernel⟩) ?_
      | refine .inl ⟨_, rfl, ?_⟩
      | refine .inr ⟨_, rfl, ?_⟩)
      refine iteD (fun hc => ?_) (fun hc => ?_)
      · repeat (first
      | refine ⟨_, rfl, ?_⟩
      | refine ⟨_, _, rfl, rfl, ?_⟩
      | refine ⟨_, _, rfl, ?_⟩
      | refine ⟨_, _, _, _, rfl, rfl, SqL.of (W.get 0 rfl), rfl, ?_⟩
      | refine And.intro (cmulL (by decide) (by decide)) ?_
      | refine And.intro (cmulR (by decide) (by decide)) ?_
      | refine And.intro (show CPowW _ _ by decide +kernel) ?_
      | exact rfl
      | refine And.intro (show (0 : Int) < _ by decide +kernel) ?_
      | refine And.intro (show CDivW _ _ from ⟨by decide, by decide +kernel⟩) ?_
      | refine .inl ⟨_, rfl, ?_⟩
      | refine .inr ⟨_, rfl, ?_⟩)
        rw [List.length_map] at hc
        have hx : (ns.map V.int)[i]? = some (.int ns[i]) := by simp [show i < ns.length by omega]
        refine ⟨_, _, _, _, rfl, rfl, hS, atI_nat hx, ?_⟩
        repeat (first
      | refine ⟨_, rfl, ?_⟩
      | refine ⟨_, _, rfl, rfl, ?_⟩
      | refine ⟨_, _, rfl, ?_⟩
      | refine ⟨_, _, _, _, rfl, rfl, SqL.of (W.get 0 rfl), rfl, ?_⟩
      | refine And.intro (cmulL (by decide) (by decide)) ?_
      | refine And.intro (cmulR (by decide) (by decide)) ?_
      | refine And.intro (show CPowW _ _ by decide +kernel) ?_
      | exact rfl
      | refine And.intro (show (0 : Int) < _ by decide +kernel) ?_
      | refine And.intro (show CDivW _ _ from ⟨by decide, by decide +kernel⟩) ?_
      | refine .inl ⟨_, rfl, ?_⟩
      | refine .inr ⟨_, rfl, ?_⟩)
      · repeat (first
      | refine ⟨_, rfl, ?_⟩
      | refine ⟨_, _, rfl, rfl, ?_⟩
      | refine ⟨_, _, rfl, ?_⟩
      | refine ⟨_, _, _, _, rfl, rfl, SqL.of (W.get 0 rfl), rfl, ?_⟩
      | refine And.intro (cmulL (by decide) (by decide)) ?_
      | refine And.intro (cmulR (by decide) (by decide)) ?_
      | refine And.intro (show CPowW _ _ by decide +kernel) ?_
      | exact rfl
      | refine And.intro (show (0 : Int) < _ by decide +kernel) ?_
      | refine And.intro (show CDivW _ _ from ⟨by decide, by decide +kernel⟩) ?_
      | refine .inl ⟨_, rfl, ?_⟩
      | refine .inr ⟨_, rfl, ?_⟩)
    · rintro _ _ ⟨c, rfl, rfl⟩
      repeat (first
      | refine ⟨_, rfl, ?_⟩
      | refine ⟨_, _, rfl, rfl, ?_⟩
      | refine ⟨_, _, rfl, ?_⟩
      | refine ⟨_, _, _, _, rfl, rfl, SqL.of (W.get 0 rfl), rfl, ?_⟩
      | refine And.intro (cmulL (by decide) (by decide)) ?_
      | refine And.intro (cmulR (by decide) (by decide)) ?_
      | refine And.intro (show CPowW _ _ by decide +kernel) ?_
      | exact rfl
      | refine And.intro (show (0 : Int) < _ by decide +kernel) ?_
      | refine And.intro (show CDivW _ _ from ⟨by decide, by decide +kernel⟩) ?_
      | refine .inl ⟨_, rfl, ?_⟩
      | refine .inr ⟨_, rfl, ?_⟩)
      refine And.intro (by show 3 ≤ sizeLine; decide) (fun d n => new_of n fun H' e h => ?_)
      exact k d H' n e ⟨_, _, _, h⟩
def spIsInt : Sp := fun vs H Q _ => ∃ i : Int, vs = [.int i] ∧ Q (.bl true) H
theorem ok_is_integer (D : DefIn K mg "is_integer" s_is_integer) (T : Fre mg) : Keeps P w K mg base CX0 1 "is_integer" ["value"] spIsInt := by
  refine D.keeps sc_is_integer (fun vs H Q E h => ?_) (fun _ _ _ _ _ _ us hl => match us, hl with | [_], _ => rfl) (fun cdv A outer s H vs Q E hr h => ?_)
  · obtain ⟨i, rfl, _⟩ := h
    rfl
  · refine ⟨_, (pss_one (ps_ret (pe_and (pe_callB call_isi (by rfl) T.isinstance bi_isinstance (pa_cons (pv 0) (pa_cons (pe_bltn (v := .ty "int") (by rfl) T.int (by decide +kernel) rfl) pa_nil))) (pe_one (pe_not (pe_callB call_isi (by rfl) T.isinstance bi_isinstance (pa_cons (pv 0) (pa_cons (pe_bltn (v := .ty "bool") (by rfl) T.bool (by decide +kernel) rfl) pa_nil)))))))), ?_⟩
    obtain ⟨i, rfl, k⟩ := h
    refine ⟨_, rfl, _, _, _, _, _, rfl, .ty _, .base (.int i), kit_ty (b := "int") (r := true) (by decide +kernel), _, rfl, iteT ?_⟩
    exact ⟨_, rfl, _, _, _, _, _, rfl, .ty _, .base (.int i), kit_ty (b := "bool") (r := false) (by decide +kernel), _, rfl, k⟩
def spWithin : Sp := fun vs H Q _ => ∃ i lo hi : Int, vs = [.int i, .int lo, .int hi] ∧ (lo ≤ i ∧ i ≤ hi) ∧ Q (.bl true) H
theorem ok_is_within (D : DefIn K mg "is_within" s_is_within) (G_is_integer : Keeps P w K mg base CX0 1 "is_integer" ["value"] spIsInt) : Keeps P w K mg base CX0 2 "is_within" ["value", "least", "most"] spWithin := by
  refine D.keeps sc_is_within (fun vs H Q E h => ?_) (fun _ _ _ _ _ _ us hl => match us, hl with | [_, _, _], _ => rfl) (fun cdv A outer s H vs Q E hr h => ?_)
  · obtain ⟨i, lo, hi, rfl, _⟩ := h
    rfl
  · refine ⟨_, (pss_one (ps_ret (pe_and (pe_do G_is_integer hr (by rfl) pass0 (pa_cons (pv 0) pa_nil)) (pe_one (pe_chain op_le op_le (pv 1) (pv 0) (pv 2)))))), ?_⟩
    obtain ⟨i, lo, hi, rfl, ⟨h1, h2⟩, k⟩ := h
    refine ⟨_, rfl, i, rfl, _, rfl, iteT ?_⟩
    refine ⟨_, rfl, _, rfl, _, _, rfl, rfl, _, rfl, ?_⟩
    rw [decide_eq_true h1]
    refine iteT ⟨_, rfl, _, _, rfl, rfl, ?_⟩
    dsimp only
    rw [decide_eq_true h2]
    exact k
def spReqW : Sp := fun vs H Q _ => ∃ i lo hi : Int, vs = [.int i, .int lo, .int hi] ∧ (lo ≤ i ∧ i ≤ hi) ∧ Q .non H
theorem ok_require_within (D : DefIn K mg "require_within" s_require_within) (G_is_within : Keeps P w K mg base CX0 2 "is_within" ["value", "least", "most"] spWithin) : Keeps P w K mg base CX0 3 "require_within" ["value", "least", "most"] spReqW := by
  refine D.keeps sc_require_within (fun vs H Q E h => ?_) (fun _ _ _ _ _ _ us hl => match us, hl with | [_, _, _], _ => rfl) (fun cdv A outer s H vs Q E hr h => ?_)
  · obtain ⟨i, lo, hi, rfl, _⟩ := h
    rfl
  · refine ⟨_, (pss_one (ps_if (pt_not (pt_val (pe_do G_is_within hr (by rfl) pass0 (pa_cons (pv 0) (pa_cons (pv 1) (pa_cons (pv 2) pa_nil)))))) (pss_one ps_never) pss_nil)), ?_⟩
    obtain ⟨i, lo, hi, rfl, hb, k⟩ := h
    refine ⟨_, rfl, _, rfl, _, rfl, i, lo, hi, rfl, hb, _, rfl, ?_⟩
    exact iteF k
def spIsLetter : Sp := fun vs H Q _ => ∃ i : Int, vs = [.int i] ∧ (0 ≤ i ∧ i ≤ 9) ∧ Q (.bl true) H
theorem ok_is_letter (D : DefIn K mg "is_letter" s_is_letter) (T : Fre mg) (G_is_within : Keeps P w K mg base CX0 2 "is_within" ["value", "least", "most"] spWithin) : Keeps P w K mg base CX0 3 "is_letter" ["value"] spIsLetter := by
  refine D.keeps sc_is_letter (fun vs H Q E h => ?_) (fun _ _ _ _ _ _ us hl => match us, hl with | [_], _ => rfl) (fun cdv A outer s H vs Q E hr h => ?_)
  · obtain ⟨i, rfl, _⟩ := h
    rfl
  · refine ⟨_, (pss_one (ps_ret (pe_do G_is_within hr (by rfl) pass0 (pa_cons (pv 0) (pa_cons pe_int (pa_cons (pe_glob (v := .int 9) rfl T.c_MAX_LETTER.choose_spec ⟨_, rfl⟩) pa_nil)))))), ?_⟩
    obtain ⟨i, rfl, hb, k⟩ := h
    exact ⟨_, rfl, i, 0, 9, rfl, hb, k⟩
def spIsBase : Sp := fun vs H Q _ => ∃ i : Int, vs = [.int i] ∧ (2 ≤ i ∧ i ≤ 5) ∧ Q (.bl true) H
theorem ok_is_base (D : DefIn K mg "is_base" s_is_base) (T : Fre mg) (G_is_within : Keeps P w K mg base CX0 2 "is_within" ["value", "least", "most"] spWithin) : Keeps P w K mg base CX0 3 "is_base" ["value"] spIsBase := by
  refine D.keeps sc_is_base (fun vs H Q E h => ?_) (fun _ _ _ _ _ _ us hl => match us, hl with | [_], _ => rfl) (fun cdv A outer s H vs Q E hr h => ?_)
  · obtain ⟨i, rfl, _⟩ := h
    rfl
  · refine ⟨_, (pss_one (ps_ret (pe_do G_is_within hr (by rfl) pass0 (pa_cons (pv 0) (pa_cons pe_int (pa_cons (pe_glob (v := .int 5) rfl T.c_MAX_BASE.choose_spec ⟨_, rfl⟩) pa_nil)))))), ?_⟩
    obtain ⟨i, rfl, hb, k⟩ := h
    exact ⟨_, rfl, i, 2, 5, rfl, hb, k⟩
def spReqB : Sp := fun vs H Q _ => ∃ i : Int, vs = [.int i] ∧ (2 ≤ i ∧ i ≤ 5) ∧ Q .non H
theorem ok_require_base (D : DefIn K mg "require_base" s_require_base) (T : Fre mg) (G_require_within : Keeps P w K mg base CX0 3 "require_within" ["value", "least", "most"] spReqW) : Keeps P w K mg base CX0 4 "require_base" ["value"] spReqB := by
  refine D.keeps sc_require_base (fun vs H Q E h => ?_) (fun _ _ _ _ _ _ us hl => match us, hl with | [_], _ => rfl) (fun cdv A outer s H vs Q E hr h => ?_)
  · obtain ⟨i, rfl, _⟩ := h
    rfl
  · refine ⟨_, (pss_one (ps_expr (pe_do G_require_within hr (by rfl) pass0 (pa_cons (pv 0) (pa_cons pe_int (pa_cons (pe_glob (v := .int 5) rfl T.c_MAX_BASE.choose_spec ⟨_, rfl⟩) pa_nil)))))), ?_⟩
    obtain ⟨i, rfl, hb, k⟩ := h
    exact ⟨_, rfl, i, 2, 5, rfl, hb, k⟩
def spReqP : Sp := fun vs H Q _ => ∃ i : Int, vs = [.int i] ∧ (0 ≤ i ∧ i ≤ 10 ^ 60) ∧ Q .non H
theorem ok_require_place (D : DefIn K mg "require_place" s_require_place) (T : Fre mg) (G_require_within : Keeps P w K mg base CX0 3 "require_within" ["value", "least", "most"] spReqW) : Keeps P w K mg base CX0 4 "require_place" ["value"] spReqP := by
  refine D.keeps sc_require_place (fun vs H Q E h => ?_) (fun _ _ _ _ _ _ us hl => match us, hl with | [_], _ => rfl) (fun cdv A outer s H vs Q E hr h => ?_)
  · obtain ⟨i, rfl, _⟩ := h
    rfl
  · refine ⟨_, (pss_one (ps_expr (pe_do G_require_within hr (by rfl) pass0 (pa_cons (pv 0) (pa_cons pe_int (pa_cons (pe_glob (v := .int 1000000000000000000000000000000000000000000000000000000000000) rfl T.c_MAX_PLACE.choose_spec ⟨_, rfl⟩) pa_nil)))))), ?_⟩
    obtain ⟨i, rfl, hb, k⟩ := h
    exact ⟨_, rfl, i, 0, 10 ^ 60, rfl, hb, k⟩
/-- the digits of a number, high ones first -/
def spDigIn (K : PySem.W.Frag) : Sp := fun vs H Q _ => ∃ b n : Nat, vs = [.int b, .int n] ∧ 2 ≤ b ∧ b ≤ 64 ∧ n < 2 ^ 1000 ∧ TupTo K (vN (digs b n)) H Q
theorem ok_digits_in (D : DefIn K mg "digits_in" s_digits_in) (T : Fre mg) : Keeps P w K mg base CX0 1 "digits_in" ["base", "place"] (spDigIn K) := by
  refine D.keeps sc_digits_in (fun vs H Q E h => ?_) (fun _ _ _ _ _ _ us hl => match us, hl with | [_, _], _ => rfl) (fun cdv A outer s H vs Q E hr h => ?_)
  · obtain ⟨b, n, rfl, _⟩ := h
    rfl
  · refine ⟨_, (pss_cons (ps_par (i := 2) (j := 3) (by rfl) sc_digits_in.nd rfl rfl (by decide) rfl rfl (pa_cons (pe_lst pa_nil) (pa_cons (pv 1) pa_nil)) (by rfl))
  (pss_cons (ps_while PassesOwn.never (pt_cmpR op_gt (pv 3) pe_int (nomark _)) (pss_cons (ps_expr (pe_bm PySem.F.plainAttrs_list PySem.F.slot_list_append PySem.F.type_list_append mt_append (pv 2) (pa_cons (pe_op op_mod (pv 3) (pv 0)) pa_nil)))
  (pss_one (ps_set (i := 3) sc_digits_in.nd rfl (Or.inl rfl) (pe_op op_fdivW (pv 3) (pv 0))))))
  (pss_one (ps_ret (pe_callTy call_tuple_of (by rfl) T.tuple bi_tuple (pa_cons (pe_revL (pv 2)) pa_nil)))))), ?_⟩
    obtain ⟨b, n, rfl, hb, hb2, hn, k⟩ := h
    refine And.intro (by show 0 ≤ sizeLine; decide) (fun p np => new_of np fun H1 e1 h1 => ?_)
    refine ⟨_, rfl, _, _, rfl, ?_⟩
    refine ⟨fun m σ' H' => ∃ (acc : List Nat), σ' = [some (.int b), some (.int n), some (.ref p), some (.int m)] ∧ Same H H' ∧ H' p = some (.lst (vN acc)) ∧ acc ++ lows b m = lows b n, ⟨n, [], rfl, e1, h1, rfl⟩, ?_⟩
    rintro m _ H' ⟨acc, rfl, e2, h2, hl⟩
    have W : Has H' [(p, .lst (vN acc))] := .one h2
    have hlen : (lows b n).length ≤ 1000 := lows_len hb 1000 n hn
    repeat (first
      | refine ⟨_, rfl, ?_⟩
      | refine ⟨_, _, rfl, rfl, ?_⟩
      | refine ⟨_, _, rfl, ?_⟩
      | refine ⟨_, _, _, _, rfl, rfl, SqL.of (W.get 0 rfl), rfl, ?_⟩
      | refine And.intro (cmulL (by decide) (by decide)) ?_
      | refine And.intro (cmulR (by decide) (by decide)) ?_
      | refine And.intro (show CPowW _ _ by decide +kernel) ?_
      | exact rfl
      | refine And.intro (show (0 : Int) < _ by decide +kernel) ?_
      | refine And.intro (show CDivW _ _ from ⟨by decide, by decide +kernel⟩) ?_
      | refine .inl ⟨_, rfl, ?_⟩
      | refine .inr ⟨_, rfl, ?_⟩)
    refine iteD (fun ha => ?_) (fun ha => ?_)
    · refine ⟨fun σ' H' => ∃ m', m' < m ∧ ∃ (acc : List Nat), σ' = [some (.int b), some (.int n), some (.ref p), some (.int m')] ∧ Same H H' ∧ H' p = some (.lst (vN acc)) ∧ acc ++ lows b m' = lows b n, fun _ _ h => h, ?_⟩
      refine ⟨_, rfl, Or.inl ⟨rfl, _, SqL.of h2⟩, _, rfl, _, rfl, _, _, rfl, rfl, (by omega : (0 : Int) < b), _, _, _, rfl, rfl, h2, by rw [vN_len]; have : acc.length ≤ (lows b n).length := (by rw [← hl, List.length_append]; omega); show _ < sizeLine; rw [sizeLine_eq]; omega, ?_⟩
      refine ⟨_, rfl, _, rfl, _, _, rfl, rfl, ⟨by omega, (Nat.lt_of_le_of_lt (Nat.log2_le_self _) (by omega))⟩, ?_⟩
      refine ⟨m / b, Nat.div_lt_self (by omega) (by omega), acc ++ [m % b], rfl, fun x o hx => ?_, ?_, ?_⟩
      · rw [upd_ne (ne_of_none hx np)]
        exact e2 x o hx
      · rw [vN_app]; exact upd_same
      · rw [List.append_assoc, ← hl, lows_pos (n := m) hb (by omega)]; rfl
    · have hm : m = 0 := by omega
      subst hm
      rw [lows_zero, List.append_nil] at hl
      subst hl
      refine ⟨_, rfl, p, _, rfl, SqL.of h2, fun q nq => new_of nq fun H2 e3 h3 => ?_⟩
      refine ⟨q, _, rfl, Or.inl ⟨SqL.of h3, fun t nt => new_of nt fun H3 e4 h4 => ?_⟩⟩
      rw [← vN_rev] at h4
      exact k _ _ (e2.trans (e3.trans e4)) (.of h4)
end
end Pf

set_option Elab.async false
set_option linter.all false
set_option maxRecDepth 100000
set_option maxHeartbeats 4000000
namespace Pf
open PySem PySem.Spec PyProof.Rows L2 My M11 MW
section
variable {P : Program} {w : World} {K : PySem.W.Frag} {mg : Str → Option Value} {base : Heap}
theorem allTrue (n : Nat) : (List.replicate n true).all id = true := by simp
def spAreLetters (K : PySem.W.Frag) : Sp := fun vs H Q _ => ∃ (a : Addr) (ls : List Nat), vs = [.ref a] ∧ SqT K H a (vN ls) ∧ ls.length ≤ 60 ∧ (∀ l ∈ ls, l ≤ 9) ∧ ∀ H', Same H H' → Q (.bl true) H'
theorem ok_are_letters (D : DefIn K mg "are_letters" s_are_letters) (T : Fre mg) (G_is_letter : Keeps P w K mg base CX0 3 "is_letter" ["value"] spIsLetter) : Keeps P w K mg base CX0 4 "are_letters" ["value"] (spAreLetters K) := by
  refine D.keeps sc_are_letters (fun vs H Q E h => ?_) (fun _ _ _ _ _ _ us hl => match us, hl with | [_], _ => rfl) (fun cdv A outer s H vs Q E hr h => ?_)
  · obtain ⟨a, ls, rfl, _⟩ := h
    rfl
  · refine ⟨_, (pss_one (ps_ret (pe_and (pe_callB call_isi (by rfl) T.isinstance bi_isinstance (pa_cons (pv 0) (pa_cons (pe_bltn (v := .ty "tuple") (by rfl) T.tuple (by decide +kernel) rfl) pa_nil))) (pe_one (pe_callB (cr_all rfl) (by rfl) T.all bi_all (pa_cons (pe_lc (own := [("letter", 1)]) rfl sc_are_letters.nd (pi_tup (pv 0)) (blkOk_by (own := [("letter", 1)]) (N := ["value", "letter"]) (sc := defScope s_are_letters) (by decide +kernel)) (fun _ _ _ _ _ => (pg_name (i := 1) sc_are_letters.nd rfl (Or.inl rfl))) (fun _ _ _ _ _ => pts_nil) (fun _ _ _ _ _ => (pe_do G_is_letter hr (by rfl) pass0 (pa_cons (pv 1) pa_nil)))) pa_nil)))))), ?_⟩
    obtain ⟨a, ls, rfl, ha, hz, hl, k⟩ := h
    refine ⟨_, rfl, _, _, _, _, _, rfl, .ty _, tyT ha, kit_ty (b := "tuple") (r := true) (by decide +kernel), _, rfl, iteT ?_⟩
    refine ⟨_, rfl, a, rfl, ⟨_, ha⟩, fun L nL => ?_⟩
    refine lc_tup (xs := vN ls) (fun i H' => Same H H' ∧ H' L = some (.lst (List.replicate i (V.bl true)))) ⟨same_new nL, upd_same⟩ (fun i H' _ h => sameT h.1 ha) ?_ ?_
    · rintro i x H' hx ⟨e1, h1⟩
      obtain ⟨n, hn, rfl⟩ := vN_of hx
      have h9 := hl n (List.mem_of_getElem? hn)
      have hi := (List.getElem?_eq_some_iff.mp hn).1
      refine ⟨rfl, _, rfl, n, rfl, by omega, _, h1, by rw [List.length_replicate, sizeLine_eq]; omega, fun x o hx => ?_, ?_⟩
      · rw [upd_ne (ne_of_none hx nL)]
        exact e1 x o hx
      · rw [upd_same, List.replicate_succ']
    · rintro H' ⟨e1, h1⟩
      refine ⟨L, List.replicate (vN ls).length true, rfl, .of (by rw [h1, List.map_replicate]), ?_⟩
      rw [allTrue]
      exact k _ e1
def spAreRows (K : PySem.W.Frag) : Sp := fun vs H Q _ => ∃ (a : Addr) (W : Wd), vs = [.int W.b, .ref a, .int W.lets.length] ∧ RowsAt K H a W.rows ∧ W.Ok ∧ ∀ H', Same H H' → Q (.bl true) H'
theorem ok_are_rows (D : DefIn K mg "are_rows" s_are_rows) (T : Fre mg) (G_is_within : Keeps P w K mg base CX0 2 "is_within" ["value", "least", "most"] spWithin) : Keeps P w K mg base CX0 3 "are_rows" ["base", "rows", "many"] (spAreRows K) := by
  refine D.keeps sc_are_rows (fun vs H Q E h => ?_) (fun _ _ _ _ _ _ us hl => match us, hl with | [_, _, _], _ => rfl) (fun cdv A outer s H vs Q E hr h => ?_)
  · obtain ⟨a, W, rfl, _⟩ := h
    rfl
  · refine ⟨_, (pss_cons (ps_if (PW.pt (pw_or (pt_not (pt_val (pe_callB call_isi (by rfl) T.isinstance bi_isinstance (pa_cons (pv 1) (pa_cons (pe_bltn (v := .ty "tuple") (by rfl) T.tuple (by decide +kernel) rfl) pa_nil))))) (pw_or1 (pt_cmpR op_ne (pe_callB call_len_seq (by rfl) T.len bi_len (pa_cons (pv 1) pa_nil)) (pv 2) (nomark _))))) (pss_one (ps_ret pe_bl)) pss_nil)
  (pss_cons (ps_if (pt_not (pt_val (pe_callB (cr_all rfl) (by rfl) T.all bi_all (pa_cons (pe_lc (own := [("row", 3)]) rfl sc_are_rows.nd (pi_tup (pv 1)) (blkOk_by (own := [("row", 3)]) (N := ["base", "rows", "many", "row", "state"]) (sc := defScope s_are_rows) (by decide +kernel)) (fun _ _ _ _ _ => (pg_name (i := 3) sc_are_rows.nd rfl (Or.inl rfl))) (fun _ _ _ _ _ => pts_nil) (fun _ _ _ _ _ => (pe_and (pe_callB (call_isiK' K) (by rfl) T.isinstance bi_isinstance (pa_cons (pv 3) (pa_cons (pe_bltn (v := .ty "tuple") (by rfl) T.tuple (by decide +kernel) rfl) pa_nil))) (pe_one (pe_cmpR op_eq (pe_callB (call_len_seqK K) (by rfl) T.len bi_len (pa_cons (pv 3) pa_nil)) (pv 0) (nomark _)))))) pa_nil)))) (pss_one (ps_ret pe_bl)) pss_nil)
  (pss_one (ps_ret (pe_callB (cr_all rfl) (by rfl) T.all bi_all (pa_cons (pe_lc2 (own := [("row", 3), ("state", 4)]) (vs1 := [4]) rfl sc_are_rows.nd (pi_tup (pv 1)) (blkOk_by (own := [("row", 3), ("state", 4)]) (N := ["base", "rows", "many", "row", "state"]) (sc := defScope s_are_rows) (by decide +kernel)) (by decide) (fun _ _ _ _ _ => (pg_name (i := 3) sc_are_rows.nd rfl (Or.inl rfl))) (fun _ _ _ _ _ => pts_nil) (fun _ _ _ _ _ => (pi_tupK K (pv 3))) (fun _ _ _ _ _ => (pg_name (i := 4) sc_are_rows.nd rfl (Or.inl rfl))) (fun _ _ _ _ _ => pts_nil) (fun _ _ _ _ _ => (pe_do G_is_within hr (by rfl) pass0 (pa_cons (pv 4) (pa_cons pe_int (pa_cons (pe_op op_sub (pv 2) pe_int) pa_nil)))))) pa_nil)))))), ?_⟩
    obtain ⟨a, W, rfl, ha, O, k⟩ := h
    have O' := O
    obtain ⟨ps, hps, hpr⟩ := ha
    have hlen := Paired.len hpr
    have hn := O.len
    have n60 := O.n60
    refine ⟨_, rfl, _, _, _, _, _, rfl, .ty _, tyT hps, kit_ty (b := "tuple") (r := true) (by decide +kernel), _, rfl, iteF ?_⟩
    have el : (ps.map V.ref).length = W.lets.length := by rw [List.length_map, hlen, hn]
    refine ⟨_, rfl, a, _, rfl, Or.inr hps, _, rfl, rfl, _, rfl, ?_⟩
    refine iteN (fun h => absurd (by rw [el]) h) (fun _ => ?_)
    refine ⟨_, rfl, a, rfl, ⟨_, hps⟩, fun L nL => ?_⟩
    refine lc_tup (xs := ps.map V.ref) (fun i H' => Same H H' ∧ H' L = some (.lst (List.replicate i (V.bl true)))) ⟨same_new nL, upd_same⟩ (fun i H' _ h => sameT h.1 hps) ?_ ?_
    · rintro i x H' hx ⟨e1, h1⟩
      obtain ⟨q, hq, rfl⟩ := refs_of hx
      obtain ⟨r, hr, hrt⟩ := Paired.getL hpr hq
      obtain ⟨hrl, hrs⟩ := O.row r (List.mem_of_getElem? hr)
      have hi := (List.getElem?_eq_some_iff.mp hq).1
      refine ⟨rfl, _, rfl, _, _, _, _, _, rfl, .ty _, tyT (sameT e1 hrt), kit_ty (b := "tuple") (r := true) (by decide +kernel), _, rfl, iteT ?_⟩
      refine ⟨_, rfl, q, _, rfl, Or.inr (sameT e1 hrt), _, rfl, rfl, ?_⟩
      rw [decide_eq_true (show V.int ((vN r).length : Nat) = V.int (W.b : Nat) by rw [vN_len, hrl])]
      rw [List.length_map] at *
      refine ⟨_, h1, by rw [List.length_replicate, sizeLine_eq]; omega, fun x o hx => ?_, ?_⟩
      · rw [upd_ne (ne_of_none hx nL)]
        exact e1 x o hx
      · rw [upd_same, List.replicate_succ']
    · rintro H1 ⟨e1, h1⟩
      refine ⟨L, List.replicate (ps.map V.ref).length true, rfl, .of (by rw [h1, List.map_replicate]), _, rfl, ?_⟩
      rw [allTrue]
      refine iteF ?_
      refine ⟨_, rfl, a, rfl, ⟨_, sameT e1 hps⟩, fun M nM => ?_⟩
      have hpsz : ps.length ≤ 60 := by omega
      refine lc2_it (walk_tup (K := K) (a := a) (xs := ps.map V.ref)) (fun i H' => Same H1 H' ∧ ∃ m, m ≤ i * 5 ∧ H' M = some (.lst (List.replicate m (V.bl true)))) ⟨same_new nM, 0, by omega, upd_same⟩ (fun i H' _ h => sameT (e1.trans h.1) hps) ?_ ?_
      · rintro i x H2 _ hi ⟨e2, m, hm, h2⟩ ⟨rfl, hx⟩
        obtain ⟨q, hq, rfl⟩ := refs_of hx
        obtain ⟨r, hr, hrt⟩ := Paired.getL hpr hq
        obtain ⟨hrl, hrs⟩ := O.row r (List.mem_of_getElem? hr)
        rw [List.length_map] at hi
        have b5 := O.b5
        refine ⟨rfl, _, rfl, q, rfl, ⟨_, sameT (e1.trans e2) hrt⟩, ?_⟩
        refine lc_in (walk_tup (K := K) (a := q) (xs := vN r)) (fun j H' => Same H1 H' ∧ H' M = some (.lst (List.replicate (m + j) (V.bl true)))) ⟨e2, h2⟩ (fun j H' _ h => sameT (e1.trans h.1) hrt) ?_ ?_
        · rintro j x H3 _ hj ⟨e3, h3⟩ ⟨rfl, hx⟩
          obtain ⟨s, hs, rfl⟩ := vN_of hx
          have hlt := hrs s (List.mem_of_getElem? hs)
          rw [vN_len] at hj
          refine ⟨rfl, _, rfl, _, rfl, _, _, rfl, rfl, s, 0, _, rfl, by omega, _, h3, by rw [List.length_replicate, sizeLine_eq]; omega, fun x o hx => ?_, ?_⟩
          · rw [upd_ne (ne_of_none hx nM)]
            exact e3 x o hx
          · rw [upd_same, ← List.replicate_succ']
            rfl
        · rintro H3 ⟨e3, h3⟩
          rw [vN_len] at h3
          exact ⟨e3, m + r.length, by omega, h3⟩
      · rintro H2 ⟨e2, m, hm, h2⟩
        refine ⟨M, List.replicate m true, rfl, .of (by rw [h2, List.map_replicate]), ?_⟩
        rw [allTrue]
        exact k _ (e1.trans e2)
end
end Pf

set_option Elab.async false
set_option linter.all false
set_option maxRecDepth 100000
set_option maxHeartbeats 4000000
namespace Pf
open PySem PySem.Spec PyProof.Rows L2 My M11 MW
section
variable {P : Program} {w : World} {K : PySem.W.Frag} {mg : Str → Option Value} {base : Heap}
def spIsWord (K : PySem.W.Frag) : Sp := fun vs H Q _ => ∃ (rw lt : Addr) (W : Wd), vs = [.int W.b, .ref rw, .ref lt] ∧ RowsAt K H rw W.rows ∧ SqT K H lt (vN W.lets) ∧ W.Ok ∧ ∀ H', Same H H' → Q (.bl true) H'
theorem ok_is_word (D : DefIn K mg "is_word" s_is_word) (T : Fre mg) (G_is_base : Keeps P w K mg base CX0 3 "is_base" ["value"] spIsBase) (G_are_letters : Keeps P w K mg base CX0 4 "are_letters" ["value"] (spAreLetters K)) (G_are_rows : Keeps P w K mg base CX0 3 "are_rows" ["base", "rows", "many"] (spAreRows K)) :
    Keeps P w K mg base CX0 5 "is_word" ["base", "rows", "letters"] (spIsWord K) := by
  refine D.keeps sc_is_word (fun vs H Q E h => ?_) (fun _ _ _ _ _ _ us hl => match us, hl with | [_, _, _], _ => rfl) (fun cdv A outer s H vs Q E hr h => ?_)
  · obtain ⟨rw, lt, W, rfl, _⟩ := h
    rfl
  · refine ⟨_, (pss_cons (ps_if (PW.pt (pw_or (pt_not (pt_val (pe_do G_is_base hr (by rfl) pass0 (pa_cons (pv 0) pa_nil)))) (pw_or (pt_not (pt_val (pe_do G_are_letters hr (by rfl) pass0 (pa_cons (pv 2) pa_nil)))) (pw_or1 (pt_not (pt_chain op_le op_le pe_int (pe_callB call_len_seq (by rfl) T.len bi_len (pa_cons (pv 2) pa_nil)) (pe_glob (v := .int 60) rfl T.c_MAX_STATES.choose_spec ⟨_, rfl⟩))))))) (pss_one (ps_ret pe_bl)) pss_nil)
  (pss_one (ps_ret (pe_and (pe_do G_are_rows hr (by rfl) pass0 (pa_cons (pv 0) (pa_cons (pv 1) (pa_cons (pe_callB call_len_seq (by rfl) T.len bi_len (pa_cons (pv 2) pa_nil)) pa_nil)))) (pe_one (pe_cmpR op_eq (pe_ix ix_tup (pe_ix ix_tup (pv 1) pe_int (fun _ _ => rfl)) pe_int (fun _ _ => rfl)) pe_int (nomark _))))))), ?_⟩
    obtain ⟨rw, lt, W, rfl, hrw, hl, O, k⟩ := h
    have b2 := O.b2
    have b5 := O.b5
    have n1 := O.n1
    have n60 := O.n60
    refine ⟨_, rfl, _, rfl, by omega, _, rfl, iteF ?_⟩
    refine ⟨_, rfl, lt, _, rfl, hl, n60, O.let9, fun H1 e1 => ⟨_, rfl, iteF ?_⟩⟩
    refine ⟨_, rfl, lt, _, rfl, Or.inr (sameT e1 hl), _, _, rfl, rfl, _, rfl, ?_⟩
    rw [vN_len, decide_eq_true (show (1 : Int) ≤ (W.lets.length : Int) by omega)]
    refine iteT ⟨_, _, rfl, rfl, _, rfl, ?_⟩
    rw [decide_eq_true (show (W.lets.length : Int) ≤ 60 by omega)]
    refine iteF ?_
    refine ⟨_, rfl, _, rfl, _, rfl, lt, _, rfl, Or.inr (sameT e1 hl), rw, W, by rw [vN_len]; rfl, hrw.same e1, O, fun H2 e2 => ⟨_, rfl, iteT ?_⟩⟩
    obtain ⟨r, hr0, hr1⟩ := O.zero
    obtain ⟨q, xs, g1, g2, g3⟩ := (hrw.same (e1.trans e2)).row hr0
    refine ⟨_, rfl, rw, xs, 0, _, rfl, rfl, g1, atI_nat (j := 0) g2, q, _, 0, _, rfl, rfl, g3, atI_nat (j := 0) (vN_at hr1), rfl, ?_⟩
    exact k _ (e1.trans e2)
/-- the class's facts, and its __init__ -/
theorem init_keeps {k : Nat} {sp : Sp} (F : ∃ fd, FunD K "__init__" "Word.__init__" (defArgs s_Word_init) (defBody s_Word_init) (defScope s_Word_init) [.non] [] (He.ma K (He.ga K "Word") "__init__") fd) (M : Mk K (He.ga K "Word") (He.ma K (He.ga K "Word") "__init__")) (g : mg "Word" = some (.ref (He.ga K "Word")))
    (len : ∀ vs H Q E, sp vs H Q E → vs.length = 4)
    (hbody : ∀ (cdv : Value) (A : Around) (outer : List Env) (s : Shared) (H : Hp) (vs : List V) (Q : VK) (E : XK), Room k (A.deeper (envOfC "Word.__init__" (defScope s_Word_init) s.heap.objs.size (He.ma K (He.ga K "Word") "__init__") cdv)) → sp vs H Q E →
      ∃ t, PSs (cxOf CX0 P w K mg base ["self", "base", "rows", "letters"] "Word.__init__" (defScope s_Word_init) (He.ma K (He.ga K "Word") "__init__") cdv A outer s H E).nox (defBody s_Word_init) t ∧ t { nx := fun _ H' => Q .non H', rt := Q } (start ["self", "base", "rows", "letters"] vs) H) :
    KeepsI P w K mg base CX0 (k + 1) "Word" ["self", "base", "rows", "letters"] [] sp := by
  obtain ⟨fd, F⟩ := F
  obtain ⟨ds, hv, hb⟩ := F.binds1 (ps := ["self", "base", "rows", "letters"]) 4 1 (by simp) (by rfl) (fun T kV doc pm an cdv ct us its h1 h2 => match us, its, h1, h2 with | [_, _, _, _], [_], _, _ => ⟨_, rfl, rfl⟩)
  cases hv
  refine ⟨fd, [], F.ok sc_Word_init len fun cdv A outer s H vs Q E hr hsp => ?_, .nil, hb, M, g⟩
  obtain ⟨t, h, q⟩ := hbody cdv A outer s H vs Q E hr hsp
  exact ⟨t, h.nox, q⟩
theorem ok_init (F : ∃ fd, FunD K "__init__" "Word.__init__" (defArgs s_Word_init) (defBody s_Word_init) (defScope s_Word_init) [.non] [] (He.ma K (He.ga K "Word") "__init__") fd) (M : Mk K (He.ga K "Word") (He.ma K (He.ga K "Word") "__init__")) (FW : WFacts K mg) (FK : KFacts K mg) (T : Fre mg)
    (G_require_base : Keeps P w K mg base CX0 4 "require_base" ["value"] spReqB) (G_is_word : Keeps P w K mg base CX0 5 "is_word" ["base", "rows", "letters"] (spIsWord K)) : KeepsI P w K mg base CX0 6 "Word" ["self", "base", "rows", "letters"] [] (spWord K) := by
  refine init_keeps F M FW.gw (fun vs H Q E h => ?_) (fun cdv A outer s H vs Q E hr h => ?_)
  · obtain ⟨a, rw, lt, dx, W, rfl, _⟩ := h
    rfl
  · refine ⟨_, (pss_cons (ps_if (pt_val (pe_callB call_isi (by rfl) T.isinstance bi_isinstance (pa_cons (pv 2) (pa_cons (pe_glob (v := .ref (He.ga K "KnownMachine")) rfl FK.gk rfl) pa_nil)))) (pss_cons (ps_asg (pe_tup (pa_cons (pv 1) (pa_cons (SlX.pe_sl (pv 2)) (pa_cons (SlX.pe_sl (pv 2)) pa_nil)))) (pg_tup (by rfl) (pgs_cons (pg_slt (pv 0)) (pgs_cons (pg_slt (pv 0)) (pgs_cons (pg_slt (pv 0)) pgs_nil)))))
  (pss_one ps_retN)) pss_nil)
  (pss_cons (ps_expr (pe_do G_require_base hr (by rfl) pass0 (pa_cons (pv 1) pa_nil)))
  (pss_cons (ps_if (pt_not (pt_val (pe_do G_is_word hr (by rfl) pass0 (pa_cons (pv 1) (pa_cons (pv 2) (pa_cons (pv 3) pa_nil)))))) (pss_one ps_never) pss_nil)
  (pss_one (ps_asg (pe_tup (pa_cons (pv 1) (pa_cons (pv 2) (pa_cons (pv 3) pa_nil)))) (pg_tup (by rfl) (pgs_cons (pg_slt (pv 0)) (pgs_cons (pg_slt (pv 0)) (pgs_cons (pg_slt (pv 0)) pgs_nil))))))))), ?_⟩
    obtain ⟨a, rw, lt, dx, W, rfl, O, ne, hs, hl, hrw, k⟩ := h
    have b2 := O.b2
    have b5 := O.b5
    obtain ⟨ps, hps, hpr⟩ := hrw
    refine ⟨_, rfl, _, _, _, _, _, rfl, .own _, tyT hps, FK.kt, _, rfl, iteF ?_⟩
    refine ⟨_, rfl, _, rfl, by omega, ?_⟩
    refine ⟨_, rfl, _, rfl, _, rfl, rw, lt, W, rfl, ⟨ps, hps, hpr⟩, hl, O, fun H1 e1 => ⟨_, rfl, iteF ?_⟩⟩
    refine ⟨_, rfl, _, rfl, _, rfl, by show 3 ≤ sizeLine; decide, fun t nt => new_of nt fun H2 e2 h2 => ?_⟩
    have e := e1.trans e2
    have hs' : SlX.Slt H2 a (WC K) dx [] := by
      rcases hs with ⟨h, q⟩ | ⟨h, q⟩
      · exact .inl ⟨e _ _ h, q⟩
      · exact .inr ⟨e _ _ h, e _ _ q⟩
    refine ⟨t, _, rfl, .of h2, rfl, _, _, rfl, _, rfl, a, WC K, dx, _, [], 0, rfl, hs', FW.c, FW.base, ?_⟩
    refine ⟨_, _, rfl, _, rfl, a, WC K, dx, _, _, 2, rfl, SlX.slH_slt ne, FW.c, FW.rows, ?_⟩
    refine ⟨_, _, rfl, _, rfl, a, WC K, dx, _, _, 1, rfl, SlX.slH_slt ne, FW.c, FW.lets, rfl, ?_⟩
    rw [SlX.slH_twice ne, SlX.slH_twice ne]
    refine k _ (fun b o h1 h2 h => ?_) ?_ ?_
    · rw [SlX.slH_ne h1 h2]
      exact e _ _ h
    · unfold SlX.slH
      rw [upd_same]
      rfl
    · unfold SlX.slH
      rw [upd_ne ne, upd_same]
/-- the state that digits lead to -/
def spStateIn (K : PySem.W.Frag) : Sp := fun vs H Q _ => ∃ (a : Addr) (W : Wd) (n : Nat), vs = [.ref a, .int n] ∧ WordAt K H a W ∧ n ≤ 10 ^ 61 ∧ ∀ H', Same H H' → Q (.int (W.st n : Nat)) H'
theorem ok_state_in (D : DefIn K mg "state_in" s_state_in) (FW : WFacts K mg) (T : Fre mg) (G_digits_in : Keeps P w K mg base CX0 1 "digits_in" ["base", "place"] (spDigIn K)) : Keeps P w K mg base CX0 2 "state_in" ["word", "place"] (spStateIn K) := by
  refine D.keeps sc_state_in (fun vs H Q E h => ?_) (fun _ _ _ _ _ _ us hl => match us, hl with | [_, _], _ => rfl) (fun cdv A outer s H vs Q E hr h => ?_)
  · obtain ⟨a, W, n, rfl, _⟩ := h
    rfl
  · refine ⟨_, (pss_cons (ps_set (i := 2) sc_state_in.nd rfl (Or.inl rfl) pe_int)
  (pss_cons (ps_for PassesOwn.never rfl (pi_tup (pe_do G_digits_in hr (by rfl) pass0 (pa_cons (SlX.pe_sl (pv 0)) (pa_cons (pv 1) pa_nil)))) (pg_name (i := 3) sc_state_in.nd rfl (Or.inl rfl))
  (pss_one (ps_set (i := 2) sc_state_in.nd rfl (Or.inl rfl) (pe_ix ix_tup (pe_ix ix_tup (SlX.pe_sl (pv 0)) (pv 2) (fun _ _ => rfl)) (pv 3) (fun _ _ => rfl)))))
  (pss_one (ps_ret (pv 2))))), ?_⟩
    obtain ⟨a, W, n, rfl, hw, hn, k⟩ := h
    have O := hw.ok
    have b2 := O.b2
    have b5 := O.b5
    obtain ⟨dx, lt, rw, hs, hl, hrw⟩ := hw.slt
    refine ⟨_, rfl, a, _, dx, _, _, 0, _, rfl, hs, FW.c, FW.base, rfl, _, rfl, W.b, n, rfl, b2, by omega, Nat.lt_of_le_of_lt hn (by decide +kernel), fun p H1 e1 h1 => ?_⟩
    refine ⟨p, rfl, ⟨_, h1⟩, for_tup (K := K) (a := p) (xs := vN (digs W.b n)) (fun i σ' H' => (∃ v, σ' = [some (.ref a), some (.int n), some (.int (W.run 0 ((digs W.b n).take i) : Nat)), v]) ∧ H' = H1) ⟨⟨none, rfl⟩, rfl⟩ (fun i σ' H' _ h => h.2 ▸ h1) ?_ ?_⟩
    · rintro i x _ _ hx ⟨⟨v, rfl⟩, rfl⟩
      obtain ⟨d, hd, rfl⟩ := vN_of hx
      have hdb : d < W.b := digs_lt b2 (List.mem_of_getElem? hd)
      have hlt : W.run 0 ((digs W.b n).take i) < W.lets.length := O.run_lt (by have := O.n1; omega) fun x hx => digs_lt b2 (List.mem_of_mem_take hx)
      obtain ⟨r, g1, g2, g3⟩ := O.stepAt hlt hdb
      obtain ⟨dx', lt', rw', hs', hl', hrw'⟩ := (hw.same e1).slt
      obtain ⟨q, xs, f1, f2, f3⟩ := hrw'.row g1
      refine ⟨_, rfl, a, _, dx', _, _, 2, _, rfl, hs', FW.c, FW.rows, rfl, _, rfl, _, _, _, _, rfl, rfl, f1, atI_nat f2, _, rfl, _, _, _, _, rfl, rfl, f3, atI_nat (vN_at g2), ?_⟩
      refine ⟨⟨some (.int d), ?_⟩, rfl⟩
      rw [List.take_add_one, hd, Option.toList_some, W.run_snoc]
      rfl
    · rintro _ _ ⟨⟨v, rfl⟩, rfl⟩
      rw [vN_len, List.take_length]
      exact ⟨_, rfl, k _ e1⟩
def spLetterIn (K : PySem.W.Frag) : Sp := fun vs H Q _ => ∃ (a : Addr) (W : Wd) (n : Nat), vs = [.ref a, .int n] ∧ WordAt K H a W ∧ n ≤ 10 ^ 61 ∧ ∀ H', Same H H' → Q (.int (W.at_ n : Nat)) H'
theorem ok_letter_in (D : DefIn K mg "letter_in" s_letter_in) (FW : WFacts K mg) (T : Fre mg) (G_state_in : Keeps P w K mg base CX0 2 "state_in" ["word", "place"] (spStateIn K)) : Keeps P w K mg base CX0 3 "letter_in" ["word", "place"] (spLetterIn K) := by
  refine D.keeps sc_letter_in (fun vs H Q E h => ?_) (fun _ _ _ _ _ _ us hl => match us, hl with | [_, _], _ => rfl) (fun cdv A outer s H vs Q E hr h => ?_)
  · obtain ⟨a, W, n, rfl, _⟩ := h
    rfl
  · refine ⟨_, (pss_one (ps_ret (pe_ix ix_tup (SlX.pe_sl (pv 0)) (pe_do G_state_in hr (by rfl) pass0 (pa_cons (pv 0) (pa_cons (pv 1) pa_nil))) (fun _ _ => rfl)))), ?_⟩
    obtain ⟨a, W, n, rfl, hw, hn, k⟩ := h
    have O := hw.ok
    obtain ⟨dx, lt, rw, hs, hl, hrw⟩ := hw.slt
    refine ⟨_, rfl, a, _, dx, _, _, 1, _, rfl, hs, FW.c, FW.lets, rfl, _, rfl, _, rfl, a, W, n, rfl, hw, hn, fun H1 e1 => ?_⟩
    exact ⟨_, _, _, _, rfl, rfl, sameT e1 hl, atI_nat (vN_at (O.letterAt (O.st_lt n)).1), k _ e1⟩
def spPartIn (K : PySem.W.Frag) : Sp := fun vs H Q _ => ∃ (a : Addr) (W : Wd) (n m : Nat), vs = [.ref a, .int n, .int m] ∧ WordAt K H a W ∧ n ≤ 10 ^ 60 ∧ m ≤ 5000 ∧ ∀ p H', Same H H' → H p = none → H' p = some (.tup (vN ((List.range m).map fun j => W.at_ (n + j)))) → Q (.ref p) H'
theorem ok_part_in (D : DefIn K mg "part_in" s_part_in) (FW : WFacts K mg) (T : Fre mg) (G_letter_in : Keeps P w K mg base CX0 3 "letter_in" ["word", "place"] (spLetterIn K)) : Keeps P w K mg base CX0 4 "part_in" ["word", "place", "many"] (spPartIn K) := by
  refine D.keeps sc_part_in (fun vs H Q E h => ?_) (fun _ _ _ _ _ _ us hl => match us, hl with | [_, _, _], _ => rfl) (fun cdv A outer s H vs Q E hr h => ?_)
  · obtain ⟨a, W, n, m, rfl, _⟩ := h
    rfl
  · refine ⟨_, (pss_one (ps_ret (pe_callTy call_tuple_of (by rfl) T.tuple bi_tuple (pa_cons (pe_lc (own := [("at", 3)]) rfl sc_part_in.nd (pi_range1 (by rfl) T.range (pa_cons (pv 2) pa_nil)) (blkOk_by (own := [("at", 3)]) (N := ["word", "place", "many", "at"]) (sc := defScope s_part_in) (by decide +kernel)) (fun _ _ _ _ _ => (pg_name (i := 3) sc_part_in.nd rfl (Or.inl rfl))) (fun _ _ _ _ _ => pts_nil) (fun _ _ _ _ _ => (pe_do G_letter_in hr (by rfl) pass0 (pa_cons (pv 0) (pa_cons (pe_op op_add (pv 1) (pv 3)) pa_nil))))) pa_nil)))), ?_⟩
    obtain ⟨a, W, n, m, rfl, hw, hn, hm, k⟩ := h
    refine ⟨_, rfl, _, rfl, by omega, by omega, fun L nL => ?_⟩
    refine lc_range (lo := 0) (n := m) (fun i H' => Same H H' ∧ H' L = some (.lst (vN ((List.range i).map fun j => W.at_ (n + j))))) ⟨same_new nL, upd_same⟩ ?_ ?_
    · rintro i H1 hi ⟨e1, h1⟩
      refine ⟨rfl, _, rfl, _, rfl, _, rfl, _, _, rfl, rfl, a, W, n + i, ?_, hw.same e1, by omega, fun H2 e2 => ?_⟩
      · rw [Int.zero_add]
        rfl
      · refine ⟨_, e2 _ _ h1, by rw [vN_len, List.length_map, List.length_range, sizeLine_eq]; omega, fun x o hx => ?_, ?_⟩
        · rw [upd_ne (ne_of_none hx nL)]
          exact e2 _ _ (e1 x o hx)
        · rw [upd_same, List.range_succ, List.map_append, vN_app]
          rfl
    · rintro H1 ⟨e1, h1⟩
      refine ⟨L, _, rfl, .inl ⟨.of h1, fun p np => new_of np fun H2 e2 h2 => ?_⟩⟩
      exact k p H2 (e1.trans e2) (e1.free np) h2
/-- the methods -/
def spStateM (K : PySem.W.Frag) : Sp := fun vs H Q _ => ∃ (a : Addr) (W : Wd) (n : Nat), vs = [.ref a, .int n] ∧ WordAt K H a W ∧ n ≤ 10 ^ 60 ∧ ∀ H', Same H H' → Q (.int (W.st n : Nat)) H'
theorem ok_m_state (D : DefMeth K "Word" "state" "Word.state" s_Word_state) (T : Fre mg) (G_require_place : Keeps P w K mg base CX0 4 "require_place" ["value"] spReqP) (G_state_in : Keeps P w K mg base CX0 2 "state_in" ["word", "place"] (spStateIn K)) : KeepsM P w K mg base CX0 5 "Word" "state" ["self", "place"] (spStateM K) := by
  refine D.keeps sc_Word_state (fun vs H Q E h => ?_) (fun _ _ _ _ _ _ us hl => match us, hl with | [_, _], _ => rfl) (fun cdv A outer s H vs Q E hr h => ?_)
  · obtain ⟨a, W, n, rfl, _⟩ := h
    rfl
  · refine ⟨_, (pss_cons (ps_expr (pe_do G_require_place hr (by rfl) pass0 (pa_cons (pv 1) pa_nil)))
  (pss_one (ps_ret (pe_do G_state_in hr (by rfl) pass0 (pa_cons (pv 0) (pa_cons (pv 1) pa_nil)))))), ?_⟩
    obtain ⟨a, W, n, rfl, hw, hn, k⟩ := h
    refine ⟨_, rfl, n, rfl, by omega, ?_⟩
    exact ⟨_, rfl, _, rfl, a, W, n, rfl, hw, by omega, k⟩
def spLetterM (K : PySem.W.Frag) : Sp := fun vs H Q _ => ∃ (a : Addr) (W : Wd) (n : Nat), vs = [.ref a, .int n] ∧ WordAt K H a W ∧ n ≤ 10 ^ 60 ∧ ∀ H', Same H H' → Q (.int (W.at_ n : Nat)) H'
theorem ok_m_letter (D : DefMeth K "Word" "letter" "Word.letter" s_Word_letter) (T : Fre mg) (G_require_place : Keeps P w K mg base CX0 4 "require_place" ["value"] spReqP) (G_letter_in : Keeps P w K mg base CX0 3 "letter_in" ["word", "place"] (spLetterIn K)) : KeepsM P w K mg base CX0 5 "Word" "letter" ["self", "place"] (spLetterM K) := by
  refine D.keeps sc_Word_letter (fun vs H Q E h => ?_) (fun _ _ _ _ _ _ us hl => match us, hl with | [_, _], _ => rfl) (fun cdv A outer s H vs Q E hr h => ?_)
  · obtain ⟨a, W, n, rfl, _⟩ := h
    rfl
  · refine ⟨_, (pss_cons (ps_expr (pe_do G_require_place hr (by rfl) pass0 (pa_cons (pv 1) pa_nil)))
  (pss_one (ps_ret (pe_do G_letter_in hr (by rfl) pass0 (pa_cons (pv 0) (pa_cons (pv 1) pa_nil)))))), ?_⟩
    obtain ⟨a, W, n, rfl, hw, hn, k⟩ := h
    refine ⟨_, rfl, n, rfl, by omega, ?_⟩
    exact ⟨_, rfl, _, rfl, a, W, n, rfl, hw, by omega, k⟩
def spPartM (K : PySem.W.Frag) : Sp := spPartIn K
theorem ok_m_part (D : DefMeth K "Word" "part" "Word.part" s_Word_part) (T : Fre mg) (G_require_place : Keeps P w K mg base CX0 4 "require_place" ["value"] spReqP) (G_require_within : Keeps P w K mg base CX0 3 "require_within" ["value", "least", "most"] spReqW) (G_part_in : Keeps P w K mg base CX0 4 "part_in" ["word", "place", "many"] (spPartIn K)) :
    KeepsM P w K mg base CX0 5 "Word" "part" ["self", "place", "many"] (spPartM K) := by
  refine D.keeps sc_Word_part (fun vs H Q E h => ?_) (fun _ _ _ _ _ _ us hl => match us, hl with | [_, _, _], _ => rfl) (fun cdv A outer s H vs Q E hr h => ?_)
  · obtain ⟨a, W, n, m, rfl, _⟩ := h
    rfl
  · refine ⟨_, (pss_cons (ps_expr (pe_do G_require_place hr (by rfl) pass0 (pa_cons (pv 1) pa_nil)))
  (pss_cons (ps_expr (pe_do G_require_within hr (by rfl) pass0 (pa_cons (pv 2) (pa_cons pe_int (pa_cons (pe_glob (v := .int 5000) rfl T.c_MAX_PART.choose_spec ⟨_, rfl⟩) pa_nil)))))
  (pss_one (ps_ret (pe_do G_part_in hr (by rfl) pass0 (pa_cons (pv 0) (pa_cons (pv 1) (pa_cons (pv 2) pa_nil)))))))), ?_⟩
    obtain ⟨a, W, n, m, rfl, hw, hn, hm, k⟩ := h
    refine ⟨_, rfl, n, rfl, by omega, ?_⟩
    refine ⟨_, rfl, m, 0, 5000, rfl, by omega, ?_⟩
    exact ⟨_, rfl, _, rfl, _, rfl, a, W, n, m, rfl, hw, hn, hm, k⟩
def spLenM (K : PySem.W.Frag) : Sp := fun vs H Q _ => ∃ (a : Addr) (W : Wd), vs = [.ref a] ∧ WordAt K H a W ∧ Q (.int W.lets.length) H
theorem ok_m_len (D : DefMeth K "Word" "__len__" "Word.__len__" s_Word_len) (FW : WFacts K mg) (T : Fre mg) : KeepsM P w K mg base CX0 1 "Word" "__len__" ["self"] (spLenM K) := by
  refine D.keeps sc_Word_len (fun vs H Q E h => ?_) (fun _ _ _ _ _ _ us hl => match us, hl with | [_], _ => rfl) (fun cdv A outer s H vs Q E hr h => ?_)
  · obtain ⟨a, W, rfl, _⟩ := h
    rfl
  · refine ⟨_, (pss_one (ps_ret (pe_callB call_len_seq (by rfl) T.len bi_len (pa_cons (SlX.pe_sl (pv 0)) pa_nil)))), ?_⟩
    obtain ⟨a, W, rfl, hw, k⟩ := h
    obtain ⟨dx, lt, rw, hs, hl, hrw⟩ := hw.slt
    obtain ⟨xs, h1, h2⟩ := hrw.len
    refine ⟨_, rfl, a, _, dx, _, _, 2, _, rfl, hs, FW.c, FW.rows, rfl, rw, xs, rfl, Or.inr h1, ?_⟩
    rw [h2, hw.ok.len]
    exact k
def spReqWord (K : PySem.W.Frag) : Sp := fun vs H Q _ => ∃ (a : Addr) (W : Wd), vs = [.ref a] ∧ WordAt K H a W ∧ Q .non H
theorem ok_require_word (D : DefIn K mg "require_word" s_require_word) (FW : WFacts K mg) (T : Fre mg) : Keeps P w K mg base CX0 1 "require_word" ["value"] (spReqWord K) := by
  refine D.keeps sc_require_word (fun vs H Q E h => ?_) (fun _ _ _ _ _ _ us hl => match us, hl with | [_], _ => rfl) (fun cdv A outer s H vs Q E hr h => ?_)
  · obtain ⟨a, W, rfl, _⟩ := h
    rfl
  · refine ⟨_, (pss_one (ps_if (pt_not (pt_val (pe_callB (SlX.call_isiSl (.ref (He.ga K "Word"))) (by rfl) T.isinstance bi_isinstance (pa_cons (pv 0) (pa_cons (pe_glob (v := .ref (He.ga K "Word")) rfl FW.gw rfl) pa_nil))))) (pss_one ps_never) pss_nil)), ?_⟩
    obtain ⟨a, W, rfl, hw, k⟩ := h
    obtain ⟨dx, lt, rw, hs, hl, hrw⟩ := hw.slt
    refine ⟨_, rfl, a, WC K, dx, _, _, true, rfl, rfl, fun _ h => h, hs, FW.c, FW.isi, FW.kw, _, rfl, iteF k⟩
end
end Pf

set_option Elab.async false
set_option linter.all false
set_option maxRecDepth 100000
set_option maxHeartbeats 4000000
namespace Pf
open PySem PySem.Spec PyProof.Rows L2 My M11 MW
section
variable {P : Program} {w : World} {K : PySem.W.Frag} {mg : Str → Option Value} {base : Heap}
def spPower : Sp := fun vs H Q _ => ∃ n m : Nat, vs = [.int n, .int m] ∧ n < 2 ^ 60 ∧ m ≤ 10000 ∧ Q (.int (n ^ m : Nat)) H
theorem ok_power_of (D : DefIn K mg "power_of" s_power_of) (T : Fre mg) : Keeps P w K mg base CX0 1 "power_of" ["number", "many"] spPower := by
  refine D.keeps sc_power_of (fun vs H Q E h => ?_) (fun _ _ _ _ _ _ us hl => match us, hl with | [_, _], _ => rfl) (fun cdv A outer s H vs Q E hr h => ?_)
  · obtain ⟨n, m, rfl, _⟩ := h
    rfl
  · refine ⟨_, (pss_cons (ps_set (i := 2) sc_power_of.nd rfl (Or.inl rfl) pe_int)
  (pss_cons (ps_for PassesOwn.never rfl (pi_range1 (by rfl) T.range (pa_cons (pv 1) pa_nil)) (pg_name (i := 3) sc_power_of.nd rfl (Or.inl rfl))
  (pss_one (ps_set (i := 2) sc_power_of.nd rfl (Or.inl rfl) (pe_op op_mul (pv 2) (pv 0)))))
  (pss_one (ps_ret (pv 2))))), ?_⟩
    obtain ⟨n, m, rfl, hn, hm, k⟩ := h
    refine ⟨_, rfl, _, rfl, by omega, by omega, for_range (lo := 0) (n := m) (fun i σ' H' => (∃ v, σ' = [some (.int n), some (.int m), some (.int (n ^ i : Nat)), v]) ∧ H' = H) ⟨⟨none, rfl⟩, rfl⟩ ?_ ?_⟩
    · rintro i _ _ hi ⟨⟨v, rfl⟩, rfl⟩
      refine ⟨_, rfl, _, rfl, _, _, rfl, rfl, .inr ⟨by omega, by omega⟩, ⟨some (.int (0 + (i : Nat))), ?_⟩, rfl⟩
      rw [Nat.pow_succ]
      rfl
    · rintro _ _ ⟨⟨v, rfl⟩, rfl⟩
      exact ⟨_, rfl, k⟩
/-- a tuple of these; a new one where it was spelled -/
def TupS (K : PySem.W.Frag) (t : Nat) (ys : List V) (H : Hp) (Q : VK) : Prop := ∀ p H', Same H H' → SqT K H' p ys → (1 ≤ t → ZT H' p ys) → Q (.ref p) H'
def spSpelledIn (K : PySem.W.Frag) : Sp := fun vs H Q _ => ∃ (a p : Addr) (W : Wd) (ss : List Nat) (t : Nat), vs = [.ref a, .ref p, .int t] ∧ WordAt K H a W ∧ SqT K H p (vN ss) ∧ (∀ s ∈ ss, s < W.lets.length) ∧ t ≤ 12 ∧ ss.length * W.b ^ t ≤ 5000 ∧ TupS K t (vN (W.expands t ss)) H Q
theorem expands_le {W : Wd} (O : W.Ok) {ss : List Nat} (h : ∀ s ∈ ss, s < W.lets.length) {t i : Nat} (hi : i ≤ t) (hz : ss.length * W.b ^ t ≤ 5000) : (W.expands i ss).length ≤ 5000 := by
  rw [(O.expands_lt i h).2]
  refine Nat.le_trans (Nat.mul_le_mul_left _ (Nat.pow_le_pow_right ?_ hi)) hz
  have := O.b2
  omega
theorem flat_take {α β : Type} (f : α → List β) {l : List α} {i : Nat} {x : α} (h : l[i]? = some x) : (l.take (i + 1)).flatMap f = (l.take i).flatMap f ++ f x := by
  rw [List.take_add_one, h, Option.toList_some, List.flatMap_append]
  simp
theorem ok_spelled_in (D : DefIn K mg "spelled_in" s_spelled_in) (FW : WFacts K mg) (T : Fre mg) : Keeps P w K mg base CX0 1 "spelled_in" ["word", "states", "times"] (spSpelledIn K) := by
  refine D.keeps sc_spelled_in (fun vs H Q E h => ?_) (fun _ _ _ _ _ _ us hl => match us, hl with | [_, _, _], _ => rfl) (fun cdv A outer s H vs Q E hr h => ?_)
  · obtain ⟨a, p, W, ss, t, rfl, _⟩ := h
    rfl
  · refine ⟨_, (pss_cons (ps_set (i := 3) sc_spelled_in.nd rfl (Or.inl rfl) (pe_callTy call_tuple_of (by rfl) T.tuple bi_tuple (pa_cons (pv 1) pa_nil)))
  (pss_cons (ps_for PassesOwn.never rfl (pi_range1 (by rfl) T.range (pa_cons (pv 2) pa_nil)) (pg_name (i := 4) sc_spelled_in.nd rfl (Or.inl rfl))
  (pss_one (ps_set (i := 3) sc_spelled_in.nd rfl (Or.inl rfl) (pe_callTy call_tuple_ofZ (by rfl) T.tuple bi_tuple (pa_cons (pe_lc2 (own := [("state", 5), ("later", 6)]) (vs1 := [6]) rfl sc_spelled_in.nd (pi_tup (pv 3)) (blkOk_by (own := [("state", 5), ("later", 6)]) (N := ["word", "states", "times", "found", "_", "state", "later"]) (sc := defScope s_spelled_in) (by decide +kernel)) (by decide) (fun _ _ _ _ _ => (pg_name (i := 5) sc_spelled_in.nd rfl (Or.inl rfl))) (fun _ _ _ _ _ => pts_nil) (fun _ _ _ _ _ => (pi_tupK K (pe_ix (ix_tupK K) (pe_slK K (pv 0)) (pv 5) (fun _ _ => rfl)))) (fun _ _ _ _ _ => (pg_name (i := 6) sc_spelled_in.nd rfl (Or.inl rfl))) (fun _ _ _ _ _ => pts_nil) (fun _ _ _ _ _ => (pv 6))) pa_nil)))))
  (pss_one (ps_ret (pv 3))))), ?_⟩
    obtain ⟨a, p, W, ss, t, rfl, hw, hp, hss, ht, hz, k⟩ := h
    have O := hw.ok
    refine ⟨_, rfl, p, _, rfl, .inr ⟨hp, ?_⟩⟩
    refine ⟨_, rfl, _, rfl, by omega, by omega, for_range (lo := 0) (n := t) (fun i σ' H' => ∃ (q : Addr) (v : Option V), σ' = [some (.ref a), some (.ref p), some (.int t), some (.ref q), v, none, none] ∧ Same H H' ∧ SqT K H' q (vN (W.expands i ss)) ∧ (1 ≤ i → ZT H' q (vN (W.expands i ss)))) ⟨p, none, rfl, Same.refl _, hp, fun h => absurd h (by decide)⟩ ?_ ?_⟩
    · rintro i _ H1 hi ⟨q, v, rfl, e1, hq, _⟩
      have hlt := (O.expands_lt i hss).1
      have hle : (W.expands i ss).length ≤ 5000 := expands_le O hss (Nat.le_of_lt (by omega)) hz
      have hle2 : (W.expands (i + 1) ss).length ≤ 5000 := expands_le O hss (by omega) hz
      rw [W.expands_snoc] at hle2
      refine ⟨_, rfl, q, rfl, ⟨_, hq⟩, fun L nL => ?_⟩
      refine lc2_it (walk_tup (K := K) (a := q) (xs := vN (W.expands i ss))) (fun i' H' => Same H1 H' ∧ H' L = some (.lst (vN (W.expand ((W.expands i ss).take i'))))) ⟨same_new nL, upd_same⟩ (fun i' H' _ h => sameT h.1 hq) ?_ ?_
      · rintro j x _ H2 hj ⟨e2, h2⟩ ⟨rfl, hx⟩
        obtain ⟨st, hst, rfl⟩ := vN_of hx
        have hst' := hlt st (List.mem_of_getElem? hst)
        obtain ⟨r, g1, g2, g3⟩ := O.rowAt hst'
        obtain ⟨dx, lt, rw, hs, hl, hrw⟩ := (hw.same (e1.trans e2)).slt
        obtain ⟨z, xs, f1, f2, f3⟩ := hrw.row g1
        have er : W.rowOf st = r := by unfold Wd.rowOf; rw [g1]; rfl
        have ht2 : W.expand ((W.expands i ss).take (j + 1)) = W.expand ((W.expands i ss).take j) ++ r := by rw [← er]; exact flat_take W.rowOf hst
        have hzz : (W.expand ((W.expands i ss).take j)).length + r.length ≤ 5000 := by
          rw [← List.length_append, ← ht2]
          have : W.expands i ss = (W.expands i ss).take (j + 1) ++ (W.expands i ss).drop (j + 1) := (List.take_append_drop _ _).symm
          rw [this, W.expand_app, List.length_append] at hle2
          omega
        refine ⟨rfl, _, rfl, a, _, dx, _, _, 2, _, rfl, hs, FW.c, FW.rows, rfl, _, rfl, _, _, _, _, rfl, rfl, f1, atI_nat f2, z, rfl, ⟨_, f3⟩, ?_⟩
        refine lc_in (walk_tup (K := K) (a := z) (xs := vN r)) (fun m H' => Same H1 H' ∧ (∀ b o, b ≠ L → H2 b = some o → H' b = some o) ∧ H' L = some (.lst (vN (W.expand ((W.expands i ss).take j) ++ r.take m)))) ⟨e2, fun _ _ _ h => h, by rw [List.take_zero, List.append_nil]; exact h2⟩ (fun m H' _ h => butT h2 h.2.1 f3) ?_ ?_
        · rintro m x H3 _ hm ⟨e3, b3, h3⟩ ⟨rfl, hx⟩
          obtain ⟨y, hy, rfl⟩ := vN_of hx
          refine ⟨rfl, _, rfl, _, h3, ?_, fun x o hx => ?_, fun x o hn hx => ?_, ?_⟩
          · rw [vN_len, List.length_append, List.length_take, sizeLine_eq]
            omega
          · rw [upd_ne (ne_of_none hx nL)]
            exact e3 x o hx
          · rw [upd_ne hn]
            exact b3 x o hn hx
          · rw [upd_same, List.take_add_one, hy, ← List.append_assoc, vN_app _ (some y).toList]
            rfl
        · rintro H3 ⟨e3, b3, h3⟩
          refine ⟨e3, ?_⟩
          rw [vN_len, List.take_length, ← ht2] at h3
          exact h3
      · rintro H2 ⟨e2, h2⟩
        rw [vN_len, List.take_length, ← W.expands_snoc] at h2
        refine ⟨L, _, rfl, .of h2, fun p H3 e3 _ h3 => ?_⟩
        exact ⟨p, some (.int (0 + (i : Nat))), rfl, e1.trans (e2.trans e3), h3.sq, fun _ => h3⟩
    · rintro _ H1 ⟨q, v, rfl, e1, hq, hz'⟩
      exact ⟨_, rfl, k _ _ e1 hq hz'⟩
def Wd.table (W : Wd) : List (List Nat) := W.rows.map fun r => (List.range W.lets.length).map fun s => r.count s
def spTableIn (K : PySem.W.Frag) : Sp := fun vs H Q _ => ∃ (a : Addr) (W : Wd), vs = [.ref a] ∧ WordZ K H a W ∧ ∀ p H', Same H H' → RowsAt K H' p (Wd.table W) → Q (.ref p) H'
theorem ok_table_in (D : DefIn K mg "table_in" s_table_in) (FW : WFacts K mg) (T : Fre mg) (G_Word_len : KeepsM P w K mg base CX0 1 "Word" "__len__" ["self"] (spLenM K)) : Keeps P w K mg base CX0 3 "table_in" ["word"] (spTableIn K) := by
  refine D.keeps sc_table_in (fun vs H Q E h => ?_) (fun _ _ _ _ _ _ us hl => match us, hl with | [_], _ => rfl) (fun cdv A outer s H vs Q E hr h => ?_)
  · obtain ⟨a, W, rfl, _⟩ := h
    rfl
  · refine ⟨_, (pss_one (ps_ret (pe_callTy call_tuple_of (by rfl) T.tuple bi_tuple (pa_cons (pe_lc (own := [("row", 1)]) rfl sc_table_in.nd (pi_tup (SlX.pe_sl (pv 0))) (blkOk_by (own := [("row", 1)]) (N := ["word", "row", "state"]) (sc := defScope s_table_in) (by decide +kernel)) (fun _ _ _ _ _ => (pg_name (i := 1) sc_table_in.nd rfl (Or.inr rfl))) (fun _ _ _ _ _ => pts_nil) (fun _ _ _ _ _ => (pe_callTy (call_tuple_ofK K) (by rfl) T.tuple bi_tuple (pa_cons (pe_lc (own := [("state", 2)]) rfl sc_table_in.nd (pi_range1 (by rfl) T.range (pa_cons (pe_callB (call_lenMK K G_Word_len hr pass0) (by rfl) T.len bi_len (pa_cons (pv 0) pa_nil)) pa_nil)) (blkOk_by (own := [("state", 2)]) (N := ["word", "row", "state"]) (by kernel_rfl)) (fun _ _ _ _ _ => (pg_name (i := 2) sc_table_in.nd rfl (Or.inl rfl))) (fun _ _ _ _ _ => pts_nil) (fun _ _ _ _ _ => (pe_zm PySem.F.slot_tuple_count PySem.F.type_tuple_count (mt_tcountK K) (pv 1) (pa_cons (pv 2) pa_nil)))) pa_nil)))) pa_nil)))), ?_⟩
    obtain ⟨a, W, rfl, hw, k⟩ := h
    have O := hw.at_.ok
    have n60 := O.n60
    have hlen := O.len
    obtain ⟨dx, lt, rw, hs, hl, hrw⟩ := hw.slt
    obtain ⟨ps, hps, hpr⟩ := hrw
    have hpl := Paired.len hpr
    refine ⟨_, rfl, a, _, dx, _, _, 2, _, rfl, hs, FW.c, FW.rows, rfl, rw, rfl, ⟨_, hps⟩, fun L nL => ?_⟩
    refine lc_tup (xs := ps.map V.ref) (fun i H' => Same H H' ∧ ∃ qs : List Addr, H' L = some (.lst (qs.map V.ref)) ∧ Paired (fun q r => SqT K H' q (vN r)) qs ((Wd.table W).take i)) ⟨same_new nL, [], upd_same, .nil⟩ (fun i H' _ h => sameT h.1 hps) ?_ ?_
    · rintro i x H1 hx ⟨e1, qs, h1, hqs⟩
      obtain ⟨q, hq, rfl⟩ := refs_of hx
      obtain ⟨r, hr', hrt⟩ := Paired.getL hpr hq
      obtain ⟨hrl, hrs⟩ := O.row r (List.mem_of_getElem? hr')
      have hi := (List.getElem?_eq_some_iff.mp hq).1
      have hw1 := hw.at_.same e1
      obtain ⟨dx1, lt1, rw1, hs1, hl1, hrw1⟩ := hw1.slt
      refine ⟨rfl, _, rfl, a, dx1, _, rfl, hs1, a, W, rfl, hw1, _, rfl, by omega, by omega, _, rfl, by omega, by omega, fun M nM => ?_⟩
      refine lc_range (lo := 0) (n := W.lets.length) (fun j H' => Same H1 H' ∧ H' M = some (.lst (vN ((List.range j).map fun s => r.count s)))) ⟨same_new nM, upd_same⟩ ?_ ?_
      · rintro j H2 hj ⟨e2, h2⟩
        refine ⟨rfl, _, rfl, ⟨q, _, rfl, hrt.same (e1.trans e2)⟩, _, rfl, q, iN r, j, rfl, by rw [Int.zero_add], (hrt.same (e1.trans e2)).sq, _, h2, by rw [vN_len, List.length_map, List.length_range, sizeLine_eq]; omega, fun x o hx => ?_, ?_⟩
        · rw [upd_ne (ne_of_none hx nM)]
          exact e2 x o hx
        · rw [upd_same, List.range_succ, List.map_append, vN_app, iN_count]
          rfl
      · rintro H2 ⟨e2, h2⟩
        refine ⟨M, _, rfl, .inl ⟨.of h2, fun p np => new_of np fun H3 e3 h3 => ?_⟩⟩
        have e23 := e2.trans e3
        refine ⟨_, e23 _ _ h1, ?_, fun x o hx => ?_, qs ++ [p], ?_, ?_⟩
        · rw [List.length_map, Paired.len hqs, List.length_take, sizeLine_eq]
          unfold Wd.table
          rw [List.length_map]
          omega
        · rw [upd_ne (ne_of_none hx nL)]
          exact e23 _ _ (e1 x o hx)
        · rw [upd_same, List.map_append]
          rfl
        · have ht : (Wd.table W)[i]? = some ((List.range W.lets.length).map fun s => r.count s) := by
            unfold Wd.table
            rw [List.getElem?_map, hr']
            rfl
          have hL : H3 L = some (.lst (qs.map V.ref)) := e23 _ _ h1
          rw [List.take_add_one, ht]
          refine My.Paired.snoc (R := fun q r => SqT K (upd H3 L (HO.lst (qs.map V.ref ++ [V.ref p]))) q (vN r)) (butT hL But.upd (.of h3)) (My.Paired.imp' (R := fun q r => SqT K H1 q (vN r)) (fun _ r z => butT (xs := vN r) hL But.upd (sameT e23 z)) hqs)
    · rintro H1 ⟨e1, qs, h1, hqs⟩
      refine ⟨L, _, rfl, .inl ⟨.of h1, fun p np => new_of np fun H3 e3 h3 => ?_⟩⟩
      refine k p _ (e1.trans e3) ⟨qs, .of h3, ?_⟩
      rw [List.take_of_length_le (by unfold Wd.table; rw [List.length_map, List.length_map]; omega)] at hqs
      exact My.Paired.imp' (R := fun q r => SqT K H1 q (vN r)) (fun _ r z => sameT (xs := vN r) e3 z) hqs
def spReqTimes (K : PySem.W.Frag) : Sp := fun vs H Q _ => ∃ (a : Addr) (W : Wd) (m t : Nat), vs = [.ref a, .int m, .int t] ∧ WordAt K H a W ∧ t ≤ 12 ∧ m ≤ 5000 ∧ m * W.b ^ t ≤ 5000 ∧ Q .non H
theorem ok_require_times (D : DefIn K mg "require_times" s_require_times) (FW : WFacts K mg) (T : Fre mg) (G_require_within : Keeps P w K mg base CX0 3 "require_within" ["value", "least", "most"] spReqW) (G_power_of : Keeps P w K mg base CX0 1 "power_of" ["number", "many"] spPower) :
    Keeps P w K mg base CX0 4 "require_times" ["word", "many", "times"] (spReqTimes K) := by
  refine D.keeps sc_require_times (fun vs H Q E h => ?_) (fun _ _ _ _ _ _ us hl => match us, hl with | [_, _, _], _ => rfl) (fun cdv A outer s H vs Q E hr h => ?_)
  · obtain ⟨a, W, m, t, rfl, _⟩ := h
    rfl
  · refine ⟨_, (pss_cons (ps_expr (pe_do G_require_within hr (by rfl) pass0 (pa_cons (pv 2) (pa_cons pe_int (pa_cons (pe_glob (v := .int 12) rfl T.c_MOST_TIMES.choose_spec ⟨_, rfl⟩) pa_nil)))))
  (pss_one (ps_if (pt_cmpR op_gt (pe_op op_mul (pv 1) (pe_do G_power_of hr (by rfl) pass0 (pa_cons (SlX.pe_sl (pv 0)) (pa_cons (pv 2) pa_nil)))) (pe_glob (v := .int 5000) rfl T.c_MAX_SPELLED.choose_spec ⟨_, rfl⟩) (nomark _)) (pss_one ps_never) pss_nil))), ?_⟩
    obtain ⟨a, W, m, t, rfl, hw, ht, hm, hz, k⟩ := h
    have b5 := hw.ok.b5
    obtain ⟨dx, lt, rw, hs, hl, hrw⟩ := hw.slt
    refine ⟨_, rfl, t, 0, 12, rfl, by omega, ?_⟩
    refine ⟨_, rfl, _, rfl, a, _, dx, _, _, 0, _, rfl, hs, FW.c, FW.base, rfl, _, rfl, W.b, t, rfl, by omega, by omega, ?_⟩
    refine ⟨_, _, rfl, rfl, .inl ⟨by omega, by omega⟩, _, _, rfl, rfl, ?_⟩
    refine ⟨_, rfl, iteD (fun h => ?_) (fun _ => k)⟩
    rw [← Int.natCast_mul] at h
    omega
def spSpelled (K : PySem.W.Frag) : Sp := fun vs H Q _ => ∃ (a p : Addr) (W : Wd) (ss : List Nat) (t : Nat), vs = [.ref a, .ref p, .int t] ∧ WordAt K H a W ∧ SqT K H p (vN ss) ∧ (∀ s ∈ ss, s < W.lets.length) ∧ t ≤ 12 ∧ ss.length ≤ 5000 ∧ ss.length * W.b ^ t ≤ 5000 ∧ TupS K t (vN (W.expands t ss)) H Q
theorem ok_spelled (D : DefIn K mg "spelled" s_spelled) (FW : WFacts K mg) (T : Fre mg) (G_require_word : Keeps P w K mg base CX0 1 "require_word" ["value"] (spReqWord K)) (G_is_within : Keeps P w K mg base CX0 2 "is_within" ["value", "least", "most"] spWithin) (G_Word_len : KeepsM P w K mg base CX0 1 "Word" "__len__" ["self"] (spLenM K))
    (G_require_times : Keeps P w K mg base CX0 4 "require_times" ["word", "many", "times"] (spReqTimes K)) (G_spelled_in : Keeps P w K mg base CX0 1 "spelled_in" ["word", "states", "times"] (spSpelledIn K)) : Keeps P w K mg base CX0 5 "spelled" ["word", "states", "times"] (spSpelled K) := by
  refine D.keeps sc_spelled (fun vs H Q E h => ?_) (fun _ _ _ _ _ _ us hl => match us, hl with | [_, _, _], _ => rfl) (fun cdv A outer s H vs Q E hr h => ?_)
  · obtain ⟨a, p, W, ss, t, rfl, _⟩ := h
    rfl
  · refine ⟨_, (pss_cons (ps_expr (pe_do G_require_word hr (by rfl) pass0 (pa_cons (pv 0) pa_nil)))
  (pss_cons (ps_if (PW.pt (pw_or (pt_not (pt_val (pe_callB call_isi (by rfl) T.isinstance bi_isinstance (pa_cons (pv 1) (pa_cons (pe_bltn (v := .ty "tuple") (by rfl) T.tuple (by decide +kernel) rfl) pa_nil))))) (pw_or1 (pt_not (pt_val (pe_callB (cr_all rfl) (by rfl) T.all bi_all (pa_cons (pe_lc (own := [("state", 3)]) rfl sc_spelled.nd (pi_tup (pv 1)) (blkOk_by (own := [("state", 3)]) (N := ["word", "states", "times", "state"]) (sc := defScope s_spelled) (by decide +kernel)) (fun _ _ _ _ _ => (pg_name (i := 3) sc_spelled.nd rfl (Or.inl rfl))) (fun _ _ _ _ _ => pts_nil) (fun _ _ _ _ _ => (pe_do G_is_within hr (by rfl) pass0 (pa_cons (pv 3) (pa_cons pe_int (pa_cons (pe_op op_sub (pe_callB (call_lenMK K G_Word_len hr pass0) (by rfl) T.len bi_len (pa_cons (pv 0) pa_nil)) pe_int) pa_nil)))))) pa_nil))))))) (pss_one ps_never) pss_nil)
  (pss_cons (ps_expr (pe_do G_require_times hr (by rfl) pass0 (pa_cons (pv 0) (pa_cons (pe_callB call_len_seq (by rfl) T.len bi_len (pa_cons (pv 1) pa_nil)) (pa_cons (pv 2) pa_nil)))))
  (pss_one (ps_ret (pe_do G_spelled_in hr (by rfl) pass0 (pa_cons (pv 0) (pa_cons (pv 1) (pa_cons (pv 2) pa_nil))))))))), ?_⟩
    obtain ⟨a, p, W, ss, t, rfl, hw, hp, hss, ht, hz0, hz, k⟩ := h
    have n60 := hw.ok.n60
    refine ⟨_, rfl, a, W, rfl, hw, ?_⟩
    refine ⟨_, rfl, _, _, _, _, _, rfl, .ty _, tyT hp, kit_ty (b := "tuple") (r := true) (by decide +kernel), _, rfl, iteF ?_⟩
    refine ⟨_, rfl, p, rfl, ⟨_, hp⟩, fun L nL => ?_⟩
    refine lc_tup (xs := vN ss) (fun i H' => Same H H' ∧ H' L = some (.lst (List.replicate i (V.bl true)))) ⟨same_new nL, upd_same⟩ (fun i H' _ h => sameT h.1 hp) ?_ ?_
    · rintro i x H1 hx ⟨e1, h1⟩
      obtain ⟨n, hn, rfl⟩ := vN_of hx
      have hlt := hss n (List.mem_of_getElem? hn)
      have hi := (List.getElem?_eq_some_iff.mp hn).1
      have hw1 := hw.same e1
      obtain ⟨dx1, lt1, rw1, hs1, hl1, hrw1⟩ := hw1.slt
      refine ⟨rfl, _, rfl, _, rfl, a, dx1, _, rfl, hs1, a, W, rfl, hw1, _, rfl, by omega, by omega, _, _, rfl, rfl, n, 0, _, rfl, by omega, _, h1, by rw [List.length_replicate, sizeLine_eq]; omega, fun x o hx => ?_, ?_⟩
      · rw [upd_ne (ne_of_none hx nL)]
        exact e1 x o hx
      · rw [upd_same, List.replicate_succ']
    · rintro H1 ⟨e1, h1⟩
      refine ⟨L, List.replicate (vN ss).length true, rfl, .of (by rw [h1, List.map_replicate]), _, rfl, ?_⟩
      rw [allTrue]
      refine iteF ?_
      refine ⟨_, rfl, _, rfl, p, _, rfl, Or.inr (sameT e1 hp), _, rfl, a, W, ss.length, t, by rw [vN_len]; rfl, hw.same e1, ht, hz0, hz, ?_⟩
      exact ⟨_, rfl, _, rfl, _, rfl, a, p, W, ss, t, rfl, hw.same e1, sameT e1 hp, hss, ht, hz, fun q H' e' h' hz' => k q H' (e1.trans e') h' hz'⟩
def spBlock (K : PySem.W.Frag) : Sp := fun vs H Q _ => ∃ (a : Addr) (W : Wd) (n t : Nat), vs = [.ref a, .int n, .int t] ∧ WordAt K H a W ∧ n ≤ 10 ^ 60 ∧ t ≤ 12 ∧ W.b ^ t ≤ 5000 ∧ ∀ p H', Same H H' → H' p = some (.tup (vN ((W.expands t [W.st n]).map W.letter))) → Q (.ref p) H'
theorem ok_block (D : DefIn K mg "block" s_block) (FW : WFacts K mg) (T : Fre mg) (G_require_word : Keeps P w K mg base CX0 1 "require_word" ["value"] (spReqWord K)) (G_require_place : Keeps P w K mg base CX0 4 "require_place" ["value"] spReqP) (G_state_in : Keeps P w K mg base CX0 2 "state_in" ["word", "place"] (spStateIn K))
    (G_require_times : Keeps P w K mg base CX0 4 "require_times" ["word", "many", "times"] (spReqTimes K)) (G_spelled_in : Keeps P w K mg base CX0 1 "spelled_in" ["word", "states", "times"] (spSpelledIn K)) : Keeps P w K mg base CX0 5 "block" ["word", "place", "times"] (spBlock K) := by
  refine D.keeps sc_block (fun vs H Q E h => ?_) (fun _ _ _ _ _ _ us hl => match us, hl with | [_, _, _], _ => rfl) (fun cdv A outer s H vs Q E hr h => ?_)
  · obtain ⟨a, W, n, t, rfl, _⟩ := h
    rfl
  · refine ⟨_, (pss_cons (ps_expr (pe_do G_require_word hr (by rfl) pass0 (pa_cons (pv 0) pa_nil)))
  (pss_cons (ps_expr (pe_do G_require_place hr (by rfl) pass0 (pa_cons (pv 1) pa_nil)))
  (pss_cons (ps_expr (pe_do G_require_times hr (by rfl) pass0 (pa_cons (pv 0) (pa_cons pe_int (pa_cons (pv 2) pa_nil)))))
  (pss_one (ps_ret (pe_callTy call_tuple_of (by rfl) T.tuple bi_tuple (pa_cons (pe_lc (own := [("state", 3)]) rfl sc_block.nd (pi_tup (pe_do G_spelled_in hr (by rfl) pass0 (pa_cons (pv 0) (pa_cons (pe_tup (pa_cons (pe_do G_state_in hr (by rfl) pass0 (pa_cons (pv 0) (pa_cons (pv 1) pa_nil))) pa_nil)) (pa_cons (pv 2) pa_nil))))) (blkOk_by (own := [("state", 3)]) (N := ["word", "place", "times", "state"]) (sc := defScope s_block) (by decide +kernel)) (fun _ _ _ _ _ => (pg_name (i := 3) sc_block.nd rfl (Or.inl rfl))) (fun _ _ _ _ _ => pts_nil) (fun _ _ _ _ _ => (pe_ix (ix_tupK K) (pe_slK K (pv 0)) (pv 3) (fun _ _ => rfl)))) pa_nil))))))), ?_⟩
    obtain ⟨a, W, n, t, rfl, hw, hn, ht, hz, k⟩ := h
    have O := hw.ok
    refine ⟨_, rfl, a, W, rfl, hw, ?_⟩
    refine ⟨_, rfl, n, rfl, by omega, ?_⟩
    refine ⟨_, rfl, _, rfl, a, W, 1, t, rfl, hw, ht, by omega, by omega, ?_⟩
    refine ⟨_, rfl, _, rfl, _, rfl, a, W, n, rfl, hw, by omega, fun H1 e1 => ?_⟩
    refine ⟨by show 1 ≤ sizeLine; decide, fun p np => new_of np fun H2 e2 h2 => ?_⟩
    have hlt : ∀ s ∈ [W.st n], s < W.lets.length := fun s hs => by rw [List.mem_singleton.mp hs]; exact O.st_lt n
    refine ⟨_, rfl, a, p, W, [W.st n], t, rfl, hw.same (e1.trans e2), .of h2, hlt, ht, by rw [List.length_singleton]; omega, fun q H3 e3 h3 _ => ?_⟩
    have e := e1.trans (e2.trans e3)
    refine ⟨q, rfl, ⟨_, h3⟩, fun L nL => ?_⟩
    have hle : (W.expands t [W.st n]).length ≤ 5000 := by rw [(O.expands_lt t hlt).2, List.length_singleton]; omega
    refine lc_tup (xs := vN (W.expands t [W.st n])) (fun i H' => Same H3 H' ∧ H' L = some (.lst (vN (((W.expands t [W.st n]).take i).map W.letter)))) ⟨same_new nL, upd_same⟩ (fun i H' _ h => sameT h.1 h3) ?_ ?_
    · rintro i x H4 hx ⟨e4, h4⟩
      obtain ⟨s, hs, rfl⟩ := vN_of hx
      have hs2 := (O.expands_lt t hlt).1 s (List.mem_of_getElem? hs)
      obtain ⟨dx, lt, rw, hs', hl, hrw⟩ := (hw.same (e.trans e4)).slt
      refine ⟨rfl, _, rfl, a, _, dx, _, _, 1, _, rfl, hs', FW.c, FW.lets, rfl, _, rfl, _, _, _, _, rfl, rfl, hl, atI_nat (vN_at (O.letterAt hs2).1), _, h4, by rw [vN_len, List.length_map, List.length_take, sizeLine_eq]; omega, fun x o hx => ?_, ?_⟩
      · rw [upd_ne (ne_of_none hx nL)]
        exact e4 x o hx
      · rw [upd_same, List.take_add_one, hs, Option.toList_some, List.map_append, vN_app]
        rfl
    · rintro H4 ⟨e4, h4⟩
      rw [vN_len, List.take_length] at h4
      refine ⟨L, _, rfl, .inl ⟨.of h4, fun p np => new_of np fun H5 e5 h5 => ?_⟩⟩
      exact k p H5 (e.trans (e4.trans e5)) h5
theorem ok_spelling_table (D : DefIn K mg "spelling_table" s_spelling_table) (FW : WFacts K mg) (T : Fre mg) (G_require_word : Keeps P w K mg base CX0 1 "require_word" ["value"] (spReqWord K)) (G_table_in : Keeps P w K mg base CX0 3 "table_in" ["word"] (spTableIn K)) : Keeps P w K mg base CX0 4 "spelling_table" ["word"] (spTableIn K) := by
  refine D.keeps sc_spelling_table (fun vs H Q E h => ?_) (fun _ _ _ _ _ _ us hl => match us, hl with | [_], _ => rfl) (fun cdv A outer s H vs Q E hr h => ?_)
  · obtain ⟨a, W, rfl, _⟩ := h
    rfl
  · refine ⟨_, (pss_cons (ps_expr (pe_do G_require_word hr (by rfl) pass0 (pa_cons (pv 0) pa_nil)))
  (pss_one (ps_ret (pe_do G_table_in hr (by rfl) pass0 (pa_cons (pv 0) pa_nil))))), ?_⟩
    obtain ⟨a, W, rfl, hw, k⟩ := h
    refine ⟨_, rfl, a, W, rfl, hw.at_, ?_⟩
    exact ⟨_, rfl, a, W, rfl, hw, k⟩
end
end Pf

set_option Elab.async false
set_option linter.all false
set_option maxRecDepth 100000
set_option maxHeartbeats 4000000
namespace Pf
open PySem PySem.Spec PyProof.Rows L2 My M11 MW
section
variable {P : Program} {w : World} {K : PySem.W.Frag} {mg : Str → Option Value} {base : Heap}
theorem ok_law_digits (D : DefIn K mg "_law_digits" s_law_digits) (T : Fre mg) : Keeps P w K mg base CX0 1 "_law_digits" ["base", "place"] (spDigIn K) := by
  refine D.keeps sc_law_digits (fun vs H Q E h => ?_) (fun _ _ _ _ _ _ us hl => match us, hl with | [_, _], _ => rfl) (fun cdv A outer s H vs Q E hr h => ?_)
  · obtain ⟨b, n, rfl, _⟩ := h
    rfl
  · refine ⟨_, (pss_cons (ps_par (i := 2) (j := 3) (by rfl) sc_law_digits.nd rfl rfl (by decide) rfl rfl (pa_cons (pe_lst pa_nil) (pa_cons (pv 1) pa_nil)) (by rfl))
  (pss_cons (ps_while PassesOwn.never (pt_cmpR op_gt (pv 3) pe_int (nomark _)) (pss_cons (ps_expr (pe_bm PySem.F.plainAttrs_list PySem.F.slot_list_append PySem.F.type_list_append mt_append (pv 2) (pa_cons (pe_op op_mod (pv 3) (pv 0)) pa_nil)))
  (pss_one (ps_set (i := 3) sc_law_digits.nd rfl (Or.inl rfl) (pe_op op_fdivW (pv 3) (pv 0))))))
  (pss_one (ps_ret (pe_callTy call_tuple_of (by rfl) T.tuple bi_tuple (pa_cons (pe_revL (pv 2)) pa_nil)))))), ?_⟩
    obtain ⟨b, n, rfl, hb, hb2, hn, k⟩ := h
    refine And.intro (by show 0 ≤ sizeLine; decide) (fun p np => new_of np fun H1 e1 h1 => ?_)
    refine ⟨_, rfl, _, _, rfl, ?_⟩
    refine ⟨fun m σ' H' => ∃ (acc : List Nat), σ' = [some (.int b), some (.int n), some (.ref p), some (.int m)] ∧ Same H H' ∧ H' p = some (.lst (vN acc)) ∧ acc ++ lows b m = lows b n, ⟨n, [], rfl, e1, h1, rfl⟩, ?_⟩
    rintro m _ H' ⟨acc, rfl, e2, h2, hl⟩
    have W : Has H' [(p, .lst (vN acc))] := .one h2
    have hlen : (lows b n).length ≤ 1000 := lows_len hb 1000 n hn
    repeat (first
      | refine ⟨_, rfl, ?_⟩
      | refine ⟨_, _, rfl, rfl, ?_⟩
      | refine ⟨_, _, rfl, ?_⟩
      | refine ⟨_, _, _, _, rfl, rfl, SqL.of (W.get 0 rfl), rfl, ?_⟩
      | refine And.intro (cmulL (by decide) (by decide)) ?_
      | refine And.intro (cmulR (by decide) (by decide)) ?_
      | refine And.intro (show CPowW _ _ by decide +kernel) ?_
      | exact rfl
      | refine And.intro (show (0 : Int) < _ by decide +kernel) ?_
      | refine And.intro (show CDivW _ _ from ⟨by decide, by decide +kernel⟩) ?_
      | refine .inl ⟨_, rfl, ?_⟩
      | refine .inr ⟨_, rfl, ?_⟩)
    refine iteD (fun ha => ?_) (fun ha => ?_)
    · refine ⟨fun σ' H' => ∃ m', m' < m ∧ ∃ (acc : List Nat), σ' = [some (.int b), some (.int n), some (.ref p), some (.int m')] ∧ Same H H' ∧ H' p = some (.lst (vN acc)) ∧ acc ++ lows b m' = lows b n, fun _ _ h => h, ?_⟩
      refine ⟨_, rfl, Or.inl ⟨rfl, _, SqL.of h2⟩, _, rfl, _, rfl, _, _, rfl, rfl, (by omega : (0 : Int) < b), _, _, _, rfl, rfl, h2, by rw [vN_len]; have : acc.length ≤ (lows b n).length := (by rw [← hl, List.length_append]; omega); show _ < sizeLine; rw [sizeLine_eq]; omega, ?_⟩
      refine ⟨_, rfl, _, rfl, _, _, rfl, rfl, ⟨by omega, (Nat.lt_of_le_of_lt (Nat.log2_le_self _) (by omega))⟩, ?_⟩
      refine ⟨m / b, Nat.div_lt_self (by omega) (by omega), acc ++ [m % b], rfl, fun x o hx => ?_, ?_, ?_⟩
      · rw [upd_ne (ne_of_none hx np)]
        exact e2 x o hx
      · rw [vN_app]; exact upd_same
      · rw [List.append_assoc, ← hl, lows_pos (n := m) hb (by omega)]; rfl
    · have hm : m = 0 := by omega
      subst hm
      rw [lows_zero, List.append_nil] at hl
      subst hl
      refine ⟨_, rfl, p, _, rfl, SqL.of h2, fun q nq => new_of nq fun H2 e3 h3 => ?_⟩
      refine ⟨q, _, rfl, Or.inl ⟨SqL.of h3, fun t nt => new_of nt fun H3 e4 h4 => ?_⟩⟩
      rw [← vN_rev] at h4
      exact k _ _ (e2.trans (e3.trans e4)) (.of h4)
def spGreat : Sp := fun vs H Q _ => ∃ d : Addr, vs = [.ref d] ∧ DiceAt H d ∧ ∀ (n : Nat) H', n < 10 ^ 54 → But d H H' → DiceAt H' d → Q (.int n) H'
theorem ok_law_great (D : DefIn K mg "_law_great" s_law_great) (T : Fre mg) (G_law_roll : Keeps P w K mg base CX0 1 "_law_roll" ["dice", "total"] spRoll) : Keeps P w K mg base CX0 2 "_law_great" ["dice"] spGreat := by
  refine D.keeps sc_law_great (fun vs H Q E h => ?_) (fun _ _ _ _ _ _ us hl => match us, hl with | [_], _ => rfl) (fun cdv A outer s H vs Q E hr h => ?_)
  · obtain ⟨d, rfl, _⟩ := h
    rfl
  · refine ⟨_, (pss_cons (ps_set (i := 1) sc_law_great.nd rfl (Or.inl rfl) (pe_do G_law_roll hr (by rfl) pass0 (pa_cons (pv 0) (pa_cons pe_int pa_nil))))
  (pss_cons (ps_if (pt_cmpR op_lt (pv 1) pe_int (nomark _)) (pss_one (ps_ret (pe_do G_law_roll hr (by rfl) pass0 (pa_cons (pv 0) (pa_cons pe_int pa_nil))))) pss_nil)
  (pss_cons (ps_if (pt_cmpR op_eq (pv 1) pe_int (nomark _)) (pss_one (ps_ret (pe_do G_law_roll hr (by rfl) pass0 (pa_cons (pv 0) (pa_cons (pe_op op_powW pe_int pe_int) pa_nil))))) pss_nil)
  (pss_cons (ps_set (i := 2) sc_law_great.nd rfl (Or.inl rfl) pe_int)
  (pss_cons (ps_for PassesOwn.never rfl (pi_range1 (by rfl) T.range (pa_cons pe_int pa_nil)) (pg_name (i := 3) sc_law_great.nd rfl (Or.inl rfl))
  (pss_one (ps_set (i := 2) sc_law_great.nd rfl (Or.inl rfl) (pe_op op_add (pe_op op_mul (pv 2) (pe_op op_powW pe_int pe_int)) (pe_do G_law_roll hr (by rfl) pass0 (pa_cons (pv 0) (pa_cons (pe_op op_powW pe_int pe_int) pa_nil)))))))
  (pss_one (ps_ret (pv 2)))))))), ?_⟩
    obtain ⟨d, rfl, hd, k⟩ := h
    refine ⟨_, rfl, d, 4, rfl, hd, by decide, by decide +kernel, fun r H1 h0 h4 b1 d1 => ?_⟩
    refine ⟨_, rfl, _, _, rfl, rfl, _, rfl, ?_⟩
    refine iteD (fun hc => ?_) (fun hc => ?_)
    · refine ⟨_, rfl, d, 40, rfl, d1, by decide, by decide +kernel, fun r2 H2 g0 g4 b2 d2 => ?_⟩
      obtain ⟨n, rfl⟩ : ∃ n : Nat, r2 = n := ⟨r2.toNat, by omega⟩
      exact k n H2 (by omega) (b1.trans b2) d2
    · refine ⟨_, rfl, rfl, _, rfl, ?_⟩
      refine iteD (fun hc2 => ?_) (fun hc2 => ?_)
      · refine ⟨_, rfl, _, _, rfl, rfl, by decide +kernel, d, 10 ^ 6, rfl, d1, by decide, by decide +kernel, fun r2 H2 g0 g4 b2 d2 => ?_⟩
        obtain ⟨n, rfl⟩ : ∃ n : Nat, r2 = n := ⟨r2.toNat, by omega⟩
        exact k n H2 (by omega) (b1.trans b2) d2
      · refine ⟨9, rfl, by decide, by decide, for_range (fun i σ' H' => ∃ (f : Nat) (v : Option V), σ' = [some (.ref d), some (.int r), some (.int f), v] ∧ f < 1000000 ^ i ∧ But d H1 H' ∧ DiceAt H' d) ⟨0, none, rfl, by decide, But.refl _ _, d1⟩ ?_ ?_⟩
        · rintro i _ H2 hi ⟨f, v, rfl, hf, b2, d2⟩
          refine ⟨_, rfl, _, _, rfl, rfl, by decide +kernel, _, _, rfl, rfl, .inr ⟨by decide, by decide⟩, ?_⟩
          refine ⟨_, rfl, _, _, rfl, rfl, by decide +kernel, d, 10 ^ 6, rfl, d2, by decide, by decide +kernel, fun r2 H3 g0 g4 b3 d3 => ?_⟩
          obtain ⟨n, rfl⟩ : ∃ n : Nat, r2 = n := ⟨r2.toNat, by omega⟩
          refine ⟨_, _, rfl, rfl, f * 1000000 + n, some (.int (0 + (i : Nat))), ?_, ?_, b2.trans b3, d3⟩
          · have e6 : (10 : Int) ^ Int.toNat 6 = 1000000 := by decide
            have e : ((f * 1000000 + n : Nat) : Int) = (f : Int) * 10 ^ Int.toNat 6 + n := by
              rw [e6]; omega
            rw [e]
            exact rfl
          · rw [Nat.pow_succ]
            have := Nat.mul_le_mul_right 1000000 hf
            rw [Nat.succ_mul] at this
            omega
        · rintro _ H2 ⟨f, v, rfl, hf, b2, d2⟩
          have e9 : 1000000 ^ (Int.toNat 9) = 10 ^ 54 := by decide +kernel
          rw [e9] at hf
          exact ⟨_, rfl, k f H2 (by omega) (b1.trans b2) d2⟩
/-- the law's own word: base, rows, letters -/
def PlainZ (K : PySem.W.Frag) (H : Hp) (p : Addr) (W : Wd) : Prop := ∃ rw lt : Addr, SqT K H p [.int W.b, .ref rw, .ref lt] ∧ RowsZ K H rw W.rows ∧ SqT K H lt (vN W.lets)
theorem PlainZ.same {H H' : Hp} {p : Addr} {W : Wd} (e : Same H H') (h : PlainZ K H p W) : PlainZ K H' p W := by
  obtain ⟨rw, lt, h1, h2, h3⟩ := h
  exact ⟨rw, lt, sameT e h1, h2.same e, sameT e h3⟩
theorem PlainZ.but {H H' : Hp} {p d : Addr} {ys : List V} {W : Wd} (hd : H d = some (.lst ys)) (e : But d H H') (h : PlainZ K H p W) : PlainZ K H' p W := by
  obtain ⟨rw, lt, h1, h2, h3⟩ := h
  exact ⟨rw, lt, butT hd e h1, h2.but hd e, butT hd e h3⟩
theorem ixN0 {n : Nat} (h : 0 < n) : ixN n 0 = some 0 := by
  unfold ixN
  rw [if_pos (Int.le_refl 0), if_pos (by omega)]
  rfl
theorem cut1 (x : V) (xs : List V) : cutV (x :: xs) (some 1) none = xs := by
  unfold cutV
  rw [HT.sIx_none, show HT.sIx (x :: xs).length 0 (some 1) = 1 from by
    have := HT.sIx_nat (x :: xs).length 0 1
    rw [show ((1 : Nat) : Int) = 1 from rfl] at this
    rw [this, List.length_cons]
    omega]
  simp
def spDrawn (K : PySem.W.Frag) : Sp := fun vs H Q _ => ∃ (d : Addr) (b m l : Nat), vs = [.ref d, .int b, .int m, .int l] ∧ DiceAt H d ∧ 2 ≤ b ∧ b ≤ 5 ∧ 1 ≤ m ∧ m ≤ 60 ∧ 1 ≤ l ∧ l ≤ 10 ∧
  ∀ p H' W, But d H H' → DiceAt H' d → W.Ok → W.b = b → W.lets.length ≤ m → (∀ x ∈ W.lets, x < l) → PlainZ K H' p W → Q (.ref p) H'
/-- what stands while rows and letters are drawn -/
def Drw (K : PySem.W.Frag) (H0 : Hp) (d L T : Addr) (b n l i : Nat) (H : Hp) : Prop := ∃ (ps : List Addr) (rows : List (List Nat)) (told : List Nat), H L = some (.lst (ps.map V.ref)) ∧ H T = some (.lst (vN told)) ∧ Paired (fun q r => ZT H q (vN r)) ps rows ∧ rows.length = i ∧ told.length = i ∧
  (∀ r ∈ rows, r.length = b ∧ ∀ s ∈ r, s < n) ∧ (∀ x ∈ told, x < l) ∧ But d H0 H ∧ DiceAt H d
theorem ok_law_wd_drawn (D : DefIn K mg "_law_wd_drawn" s_law_wd_drawn) (T : Fre mg) (G_law_roll : Keeps P w K mg base CX0 1 "_law_roll" ["dice", "total"] spRoll) : Keeps P w K mg base CX0 2 "_law_wd_drawn" ["dice", "base", "most", "letters"] (spDrawn K) := by
  refine D.keeps sc_law_wd_drawn (fun vs H Q E h => ?_) (fun _ _ _ _ _ _ us hl => match us, hl with | [_, _, _, _], _ => rfl) (fun cdv A outer s H vs Q E hr h => ?_)
  · obtain ⟨d, b, m, l, rfl, _⟩ := h
    rfl
  · refine ⟨_, (pss_cons (ps_asg (pe_tup (pa_cons (pe_op op_add pe_int (pe_do G_law_roll hr (by rfl) pass0 (pa_cons (pv 0) (pa_cons (pv 2) pa_nil)))) (pa_cons (pe_lst pa_nil) (pa_cons (pe_lst pa_nil) pa_nil)))) (pg_tup (by rfl) (pgs_cons (pg_name (i := 4) sc_law_wd_drawn.nd rfl (Or.inr rfl)) (pgs_cons (pg_name (i := 5) sc_law_wd_drawn.nd rfl (Or.inl rfl)) (pgs_cons (pg_name (i := 6) sc_law_wd_drawn.nd rfl (Or.inl rfl)) pgs_nil)))))
  (pss_cons (ps_for PassesOwn.never rfl (pi_range1 (by rfl) T.range (pa_cons (pv 4) pa_nil)) (pg_name (i := 7) sc_law_wd_drawn.nd rfl (Or.inl rfl))
  (pss_cons (ps_expr (pe_bm PySem.F.plainAttrs_list PySem.F.slot_list_append PySem.F.type_list_append mt_append (pv 5) (pa_cons (pe_callTy call_tuple_ofZ (by rfl) T.tuple bi_tuple (pa_cons (pe_lc (own := [("digit", 8)]) rfl sc_law_wd_drawn.nd (pi_range1 (by rfl) T.range (pa_cons (pv 1) pa_nil)) (blkOk_by (own := [("digit", 8)]) (N := ["dice", "base", "most", "letters", "many", "rows", "told", "state", "digit"]) (sc := defScope s_law_wd_drawn) (by decide +kernel)) (fun _ _ _ _ _ => (pg_name (i := 8) sc_law_wd_drawn.nd rfl (Or.inl rfl))) (fun _ _ _ _ _ => pts_nil) (fun _ _ _ _ _ => (pe_do G_law_roll hr (by rfl) pass0 (pa_cons (pv 0) (pa_cons (pv 4) pa_nil))))) pa_nil)) pa_nil)))
  (pss_one (ps_expr (pe_bm PySem.F.plainAttrs_list PySem.F.slot_list_append PySem.F.type_list_append mt_append (pv 6) (pa_cons (pe_do G_law_roll hr (by rfl) pass0 (pa_cons (pv 0) (pa_cons (pv 3) pa_nil))) pa_nil))))))
  (pss_cons (ps_asg (pe_op op_catZ (pe_tup (pa_cons pe_int pa_nil)) (pe_slice sl_tupA (pe_ix ix_list (pv 5) pe_int (fun _ _ => rfl)) (po_some pe_int) po_none)) (pg_sub (pv 5) pe_int set_list))
  (pss_one (ps_ret (pe_tup (pa_cons (pv 1) (pa_cons (pe_callTy call_tuple_of (by rfl) T.tuple bi_tuple (pa_cons (pv 5) pa_nil)) (pa_cons (pe_callTy call_tuple_of (by rfl) T.tuple bi_tuple (pa_cons (pv 6) pa_nil)) pa_nil))))))))), ?_⟩
    obtain ⟨d, b, m, l, rfl, hd, hb, hb2, hm, hm2, hl, hl2, k⟩ := h
    have small : ∀ x : Nat, x < 512 → ((x : Int).natAbs).log2 < 9000 := fun x hx => by
      rw [Int.natAbs_natCast]
      exact Nat.lt_of_le_of_lt (Nat.log2_le_self _) (by omega)
    refine ⟨_, rfl, _, rfl, d, m, rfl, hd, by omega, small m (by omega), fun r H1 r0 r1 b1 d1 => ?_⟩
    obtain ⟨n, hn⟩ : ∃ n : Nat, 1 + r = n := ⟨(1 + r).toNat, by omega⟩
    refine ⟨_, _, rfl, rfl, by show 0 ≤ sizeLine; decide, fun L nL => new_of nL fun H2 e2 h2 => ?_⟩
    refine ⟨by show 0 ≤ sizeLine; decide, fun U nU => new_of nU fun H3 e3 h3 => ?_⟩
    obtain ⟨x1, x2, x3, hd1⟩ := d1
    have hd3 := e3 _ _ (e2 _ _ hd1)
    have Ld : L ≠ d := fun z => by rw [z, hd1] at nL; cases nL
    have Ud : U ≠ d := fun z => by rw [z, e2 _ _ hd1] at nU; cases nU
    have LU : L ≠ U := fun z => by rw [← z, h2] at nU; cases nU
    have nL0 : H L = none := by
      cases q : H L with
      | none => rfl
      | some o => rw [b1 _ _ Ld q] at nL; cases nL
    have nU0 : H U = none := by
      cases q : H U with
      | none => rfl
      | some o => rw [e2 _ _ (b1 _ _ Ud q)] at nU; cases nU
    refine ⟨by show 3 ≤ sizeLine; decide, fun t nt => new_of nt fun H5 e5 h5 => ?_⟩
    have L3 := e5 _ _ (e3 _ _ h2)
    have U3 := e5 _ _ h3
    replace hd3 := e5 _ _ hd3
    replace h5 : H5 t = some (.tup [.int n, .ref L, .ref U]) := by rw [← hn]; exact h5
    refine ⟨t, _, rfl, .of h5, rfl, _, _, rfl, _, _, rfl, _, _, rfl, rfl, ?_⟩
    have hn1 : 1 ≤ n := by omega
    have hn2 : n ≤ m := by omega
    refine ⟨_, rfl, _, rfl, by omega, by omega, for_range (lo := 0) (n := n) (fun i σ' H' => (∃ v, σ' = [some (.ref d), some (.int b), some (.int m), some (.int l), some (.int n), some (.ref L), some (.ref U), v, none]) ∧ Drw K H d L U b n l i H') ⟨⟨none, rfl⟩, [], [], [], L3, U3, .nil, rfl, rfl, fun _ h => absurd h (List.not_mem_nil), fun _ h => absurd h (List.not_mem_nil), b1.trans ((But.of e2).trans ((But.of e3).trans (.of e5))), ⟨_, _, _, hd3⟩⟩ ?_ ?_⟩
    · rintro i _ H4 hi ⟨⟨v, rfl⟩, ps, rows, told, hL, hU, hps, hrl, htl, hrows, htold, b4, d4⟩
      have hpl := Paired.len hps
      obtain ⟨y1, y2, y3, hd4⟩ := d4
      refine ⟨_, rfl, Or.inl ⟨rfl, _, SqL.of hL⟩, _, rfl, _, rfl, by omega, by omega, fun M nM => ?_⟩
      have Md : M ≠ d := fun z => by rw [z, hd4] at nM; cases nM
      refine lc_range (lo := 0) (n := b) (fun j H' => ∃ acc : List Nat, H' M = some (.lst (vN acc)) ∧ acc.length = j ∧ (∀ s ∈ acc, s < n) ∧ But d H4 H' ∧ DiceAt H' d) ⟨[], upd_same, rfl, fun _ h => absurd h (List.not_mem_nil), .of (same_new nM), _, _, _, same_new nM _ _ hd4⟩ ?_ ?_
      · rintro j H5 hj ⟨acc, hM, ha1, ha2, b5, d5⟩
        refine ⟨rfl, _, rfl, _, rfl, d, n, rfl, d5, by omega, small n (by omega), fun r H6 r0 r1 b6 d6 => ?_⟩
        obtain ⟨r', rfl⟩ : ∃ r' : Nat, r = r' := ⟨r.toNat, by omega⟩
        refine ⟨_, b6 _ _ Md hM, by rw [vN_len, ha1, sizeLine_eq]; omega, acc ++ [r'], ?_, by rw [List.length_append, ha1]; rfl, fun s hs => ?_, fun x o hx h => ?_, ?_⟩
        · rw [upd_same, vN_app]
          rfl
        · rcases List.mem_append.mp hs with h | h
          · exact ha2 s h
          · rw [List.mem_singleton.mp h]
            omega
        · rw [upd_ne (ne_of_none h nM)]
          exact b6 _ _ hx (b5 _ _ hx h)
        · obtain ⟨z1, z2, z3, hz⟩ := d6
          exact ⟨z1, z2, z3, by rw [upd_ne (Ne.symm Md)]; exact hz⟩
      · rintro H5 ⟨acc, hM, ha1, ha2, b5, d5⟩
        have ha1' : acc.length = b := ha1
        refine ⟨M, _, rfl, .of hM, fun q H6 e6 nq hq => ?_⟩
        have hL6 := e6 _ _ (b5 _ _ Ld hL)
        have hU6 := e6 _ _ (b5 _ _ (by exact Ud) hU)
        obtain ⟨z1, z2, z3, hd5⟩ := d5
        have hd6 := e6 _ _ hd5
        refine ⟨L, _, _, rfl, rfl, hL6, by rw [List.length_map, sizeLine_eq]; omega, ?_⟩
        have hU7 : upd H6 L (.lst (ps.map V.ref ++ [V.ref q])) U = some (.lst (vN told)) := by rw [upd_ne (Ne.symm LU)]; exact hU6
        have hd7 : upd H6 L (.lst (ps.map V.ref ++ [V.ref q])) d = some (.lst [.int z1, .int z2, .int z3]) := by rw [upd_ne (Ne.symm Ld)]; exact hd6
        refine ⟨_, rfl, Or.inl ⟨rfl, _, SqL.of hU7⟩, _, rfl, _, rfl, d, l, rfl, ⟨_, _, _, hd7⟩, by omega, small l (by omega), fun r2 H8 g0 g1 b8 d8 => ?_⟩
        obtain ⟨r', rfl⟩ : ∃ r' : Nat, r2 = r' := ⟨r2.toNat, by omega⟩
        refine ⟨U, _, _, rfl, rfl, b8 _ _ Ud hU7, by rw [vN_len, sizeLine_eq]; omega, ?_⟩
        have hL8 : H8 L = some (.lst (ps.map V.ref ++ [V.ref q])) := b8 _ _ Ld upd_same
        have hU8 : H8 U = some (.lst (vN told)) := b8 _ _ Ud hU7
        have key : ∀ {p : Addr} {xs : List V}, ZT H6 p xs → ZT (upd H8 U (.lst (vN told ++ [V.int r']))) p xs := fun z => ((z.but hL6 But.upd).but hd7 b8).but hU8 But.upd
        refine ⟨⟨some (.int (0 + (i : Nat))), rfl⟩, ps ++ [q], rows ++ [acc], told ++ [r'], ?_, ?_, ?_, ?_, ?_, ?_, ?_, ?_, ?_⟩
        · rw [upd_ne LU, hL8, List.map_append]
          rfl
        · rw [upd_same, vN_app]
          rfl
        · exact My.Paired.snoc (R := fun q r => ZT (upd H8 U (.lst (vN told ++ [V.int r']))) q (vN r)) (key hq) (My.Paired.imp' (R := fun q r => ZT H4 q (vN r)) (fun _ r z => key ((z.but hd4 b5).same e6)) hps)
        · rw [List.length_append, hrl]; rfl
        · rw [List.length_append, htl]; rfl
        · intro r hr
          rcases List.mem_append.mp hr with h | h
          · exact hrows r h
          · rw [List.mem_singleton.mp h]
            exact ⟨ha1', ha2⟩
        · intro x hx
          rcases List.mem_append.mp hx with h | h
          · exact htold x h
          · rw [List.mem_singleton.mp h]
            omega
        · intro x o hx h
          rw [upd_ne (ne_of_none h nU0)]
          exact b8 _ _ hx (by rw [upd_ne (ne_of_none h nL0)]; exact e6 _ _ (b5 _ _ hx (b4 _ _ hx h)))
        · obtain ⟨w1, w2, w3, hw⟩ := d8
          exact ⟨w1, w2, w3, by rw [upd_ne (Ne.symm Ud)]; exact hw⟩
    · rintro _ H4 ⟨⟨v, rfl⟩, ps, rows, told, hL, hU, hps, hrl, htl, hrows, htold, b4, d4⟩
      have hrl' : rows.length = n := hrl
      have htl' : told.length = n := htl
      obtain ⟨y1, y2, y3, hd4⟩ := d4
      cases rows with
      | nil => rw [List.length_nil] at hrl'; omega
      | cons r0 rest =>
        cases hps with
        | @cons p0 _ ps' _ hp0 hps' =>
          obtain ⟨hr0l, hr0s⟩ := hrows r0 (List.mem_cons_self ..)
          cases r0 with
          | nil => rw [List.length_nil] at hr0l; omega
          | cons c0 cs =>
            rw [List.length_cons] at hr0l
            refine ⟨by show 1 ≤ sizeLine; decide, fun t1 nt1 => new_of nt1 fun H5 e5 h5 => ?_⟩
            refine ⟨_, rfl, L, _, 0, _, rfl, rfl, SqL.of (e5 _ _ hL), atI_nat (j := 0) rfl, ?_⟩
            have hp5 := (hp0.same e5).sq (K := K)
            refine ⟨_, rfl, p0, _, rfl, hp5, fun hw => ?_, fun _ p2 np2 => new_of np2 fun H6 e6 h6 => ?_⟩
            · exfalso
              have := hw.1
              rw [vN_cons] at this
              have h1 := HT.sIx_nat (V.int (c0 : Nat) :: vN cs).length 0 1
              rw [show ((1 : Nat) : Int) = 1 from rfl] at h1
              rw [h1, List.length_cons] at this
              omega
            rw [vN_cons, cut1] at h6
            refine ⟨t1, p2, _, _, rfl, rfl, .of (e6 _ _ h5), .of h6, by rw [vN_len, sizeLine_eq]; show 1 + _ ≤ _; omega, List.cons_ne_nil _ _, fun z => ?_, fun q H7 e7 nq hq => ?_⟩
            · have := congrArg List.length z
              rw [vN_len, List.length_nil] at this
              omega
            have e := e5.trans (e6.trans e7)
            refine ⟨_, rfl, L, _, 0, 0, rfl, rfl, e _ _ hL, ixN0 (by simp), ?_⟩
            have hL7 := e _ _ hL
            have hU7 := e _ _ hU
            have hd7 := e _ _ hd4
            have hb7 : But d H H7 := b4.trans (.of e)
            have es : (List.map V.ref (p0 :: ps')).set 0 (.ref q) = (q :: ps').map V.ref := rfl
            rw [es]
            have key : ∀ {p : Addr} {xs : List V}, ZT H7 p xs → ZT (upd H7 L (.lst ((q :: ps').map V.ref))) p xs := fun z => z.but hL7 But.upd
            have hps7 : Paired (fun q' r => ZT (upd H7 L (.lst ((q :: ps').map V.ref))) q' (vN r)) (q :: ps') ((0 :: cs) :: rest) :=
              .cons (key hq) (My.Paired.imp' (R := fun q r => ZT H4 q (vN r)) (fun _ r z => key (z.same e)) hps')
            have hU8 : upd H7 L (.lst ((q :: ps').map V.ref)) U = some (.lst (vN told)) := by rw [upd_ne (Ne.symm LU)]; exact hU7
            have hd8 : upd H7 L (.lst ((q :: ps').map V.ref)) d = some (.lst [.int y1, .int y2, .int y3]) := by rw [upd_ne (Ne.symm Ld)]; exact hd7
            refine ⟨_, rfl, _, rfl, L, _, rfl, .inl ⟨.of upd_same, fun rp nrp => new_of nrp fun H8 e8 h8 => ?_⟩⟩
            refine ⟨_, rfl, U, _, rfl, .inl ⟨.of (e8 _ _ hU8), fun lp nlp => new_of nlp fun H9 e9 h9 => ?_⟩⟩
            refine ⟨by show 3 ≤ sizeLine; decide, fun z nz => new_of nz fun H10 e10 h10 => ?_⟩
            have e80 := e8.trans (e9.trans e10)
            refine k z H10 ⟨b, (0 :: cs) :: rest, told⟩ ?_ ⟨_, _, _, e80 _ _ hd8⟩ ?_ rfl ?_ htold ⟨rp, lp, .of h10, ⟨q :: ps', .of (e10 _ _ (e9 _ _ h8)), ?_⟩, .of (e10 _ _ h9)⟩
            · intro x o hx h
              exact e80 _ _ (by rw [upd_ne (ne_of_none h nL0)]; exact hb7 _ _ hx h)
            · refine ⟨hb, hb2, by show 1 ≤ told.length; omega, by show told.length ≤ 60; omega, by show (_ :: rest).length = told.length; rw [List.length_cons] at hrl' ⊢; omega, fun r hr => ?_, ⟨_, rfl, rfl⟩, fun x hx => by have := htold x hx; omega⟩
              show r.length = b ∧ ∀ s ∈ r, s < told.length
              rw [htl']
              rcases List.mem_cons.mp hr with h | h
              · rw [h]
                refine ⟨by rw [List.length_cons]; omega, fun s hs => ?_⟩
                rcases List.mem_cons.mp hs with h2 | h2
                · omega
                · exact hr0s s (List.mem_cons_of_mem _ h2)
              · exact hrows r (List.mem_cons_of_mem _ h)
            · show told.length ≤ m
              omega
            · exact My.Paired.imp' (R := fun q' r => ZT (upd H7 L (.lst ((q :: ps').map V.ref))) q' (vN r)) (S := fun q r => ZT H10 q (vN r)) (fun _ r z => z.same e80) hps7
def spLawPower : Sp := fun vs H Q _ => ∃ n m : Nat, vs = [.int n, .int m] ∧ n < 2 ^ 60 ∧ m ≤ 10000 ∧ Q (.int (n ^ m : Nat)) H
theorem ok_law_power (D : DefIn K mg "_law_power" s_law_power) (T : Fre mg) : Keeps P w K mg base CX0 1 "_law_power" ["base", "many"] spLawPower := by
  refine D.keeps sc_law_power (fun vs H Q E h => ?_) (fun _ _ _ _ _ _ us hl => match us, hl with | [_, _], _ => rfl) (fun cdv A outer s H vs Q E hr h => ?_)
  · obtain ⟨n, m, rfl, _⟩ := h
    rfl
  · refine ⟨_, (pss_cons (ps_set (i := 2) sc_law_power.nd rfl (Or.inl rfl) pe_int)
  (pss_cons (ps_for PassesOwn.never rfl (pi_range1 (by rfl) T.range (pa_cons (pv 1) pa_nil)) (pg_name (i := 3) sc_law_power.nd rfl (Or.inl rfl))
  (pss_one (ps_set (i := 2) sc_law_power.nd rfl (Or.inl rfl) (pe_op op_mul (pv 2) (pv 0)))))
  (pss_one (ps_ret (pv 2))))), ?_⟩
    obtain ⟨n, m, rfl, hn, hm, k⟩ := h
    refine ⟨_, rfl, _, rfl, by omega, by omega, for_range (lo := 0) (n := m) (fun i σ' H' => (∃ v, σ' = [some (.int n), some (.int m), some (.int (n ^ i : Nat)), v]) ∧ H' = H) ⟨⟨none, rfl⟩, rfl⟩ ?_ ?_⟩
    · rintro i _ _ hi ⟨⟨v, rfl⟩, rfl⟩
      refine ⟨_, rfl, _, rfl, _, _, rfl, rfl, .inr ⟨by omega, by omega⟩, ⟨some (.int (0 + (i : Nat))), ?_⟩, rfl⟩
      rw [Nat.pow_succ]
      rfl
    · rintro _ _ ⟨⟨v, rfl⟩, rfl⟩
      exact ⟨_, rfl, k⟩
def spWdState (K : PySem.W.Frag) : Sp := fun vs H Q _ => ∃ (p q : Addr) (W : Wd) (ds : List Nat), vs = [.ref p, .ref q] ∧ PlainZ K H p W ∧ W.Ok ∧ SqT K H q (vN ds) ∧ (∀ d ∈ ds, d < W.b) ∧ Q (.int (W.run 0 ds : Nat)) H
theorem ok_law_wd_state (D : DefIn K mg "_law_wd_state" s_law_wd_state) (T : Fre mg) : Keeps P w K mg base CX0 1 "_law_wd_state" ["word", "digits"] (spWdState K) := by
  refine D.keeps sc_law_wd_state (fun vs H Q E h => ?_) (fun _ _ _ _ _ _ us hl => match us, hl with | [_, _], _ => rfl) (fun cdv A outer s H vs Q E hr h => ?_)
  · obtain ⟨p, q, W, ds, rfl, _⟩ := h
    rfl
  · refine ⟨_, (pss_cons (ps_set (i := 2) sc_law_wd_state.nd rfl (Or.inl rfl) pe_int)
  (pss_cons (ps_for PassesOwn.never rfl (pi_tup (pv 1)) (pg_name (i := 3) sc_law_wd_state.nd rfl (Or.inl rfl))
  (pss_one (ps_set (i := 2) sc_law_wd_state.nd rfl (Or.inl rfl) (pe_ix ix_tup (pe_ix ix_tup (pe_ix ix_tup (pv 0) pe_int (fun _ _ => rfl)) (pv 2) (fun _ _ => rfl)) (pv 3) (fun _ _ => rfl)))))
  (pss_one (ps_ret (pv 2))))), ?_⟩
    obtain ⟨p, q, W, ds, rfl, ⟨rw, lt, hp, hrw, hl⟩, O, hq, hds, k⟩ := h
    refine ⟨_, rfl, q, rfl, ⟨_, hq⟩, for_tup (K := K) (a := q) (xs := vN ds) (fun i σ' H' => (∃ v, σ' = [some (.ref p), some (.ref q), some (.int (W.run 0 (ds.take i) : Nat)), v]) ∧ H' = H) ⟨⟨none, rfl⟩, rfl⟩ (fun i σ' H' _ h => h.2 ▸ hq) ?_ ?_⟩
    · rintro i x _ _ hx ⟨⟨v, rfl⟩, rfl⟩
      obtain ⟨d, hd, rfl⟩ := vN_of hx
      have hdb : d < W.b := hds d (List.mem_of_getElem? hd)
      have hlt : W.run 0 (ds.take i) < W.lets.length := O.run_lt (by have := O.n1; omega) fun x hx => hds x (List.mem_of_mem_take hx)
      obtain ⟨r, g1, g2, g3⟩ := O.stepAt hlt hdb
      obtain ⟨z, xs, f1, f2, f3⟩ := hrw.at_.row g1
      refine ⟨_, rfl, _, _, 1, _, rfl, rfl, hp, atI_nat (j := 1) rfl, _, rfl, _, _, _, _, rfl, rfl, f1, atI_nat f2, _, rfl, _, _, _, _, rfl, rfl, f3, atI_nat (vN_at g2), ?_⟩
      refine ⟨⟨some (.int d), ?_⟩, rfl⟩
      rw [List.take_add_one, hd, Option.toList_some, W.run_snoc]
      rfl
    · rintro _ _ ⟨⟨v, rfl⟩, rfl⟩
      rw [vN_len, List.take_length]
      exact ⟨_, rfl, k⟩
def spWdLetter (K : PySem.W.Frag) : Sp := fun vs H Q _ => ∃ (p : Addr) (W : Wd) (n : Nat), vs = [.ref p, .int n] ∧ PlainZ K H p W ∧ W.Ok ∧ n ≤ 10 ^ 61 ∧ ∀ H', Same H H' → Q (.int (W.at_ n : Nat)) H'
theorem ok_law_wd_letter (D : DefIn K mg "_law_wd_letter" s_law_wd_letter) (T : Fre mg) (G_law_digits : Keeps P w K mg base CX0 1 "_law_digits" ["base", "place"] (spDigIn K)) (G_law_wd_state : Keeps P w K mg base CX0 1 "_law_wd_state" ["word", "digits"] (spWdState K)) : Keeps P w K mg base CX0 2 "_law_wd_letter" ["word", "place"] (spWdLetter K) := by
  refine D.keeps sc_law_wd_letter (fun vs H Q E h => ?_) (fun _ _ _ _ _ _ us hl => match us, hl with | [_, _], _ => rfl) (fun cdv A outer s H vs Q E hr h => ?_)
  · obtain ⟨p, W, n, rfl, _⟩ := h
    rfl
  · refine ⟨_, (pss_one (ps_ret (pe_ix ix_tup (pe_ix ix_tup (pv 0) pe_int (fun _ _ => rfl)) (pe_do G_law_wd_state hr (by rfl) pass0 (pa_cons (pv 0) (pa_cons (pe_do G_law_digits hr (by rfl) pass0 (pa_cons (pe_ix ix_tup (pv 0) pe_int (fun _ _ => rfl)) (pa_cons (pv 1) pa_nil))) pa_nil))) (fun _ _ => rfl)))), ?_⟩
    obtain ⟨p, W, n, rfl, hp, O, hn, k⟩ := h
    have b2 := O.b2
    have b5 := O.b5
    have hp' := hp
    obtain ⟨rw, lt, h1, h2, h3⟩ := hp'
    refine ⟨_, rfl, _, _, 2, _, rfl, rfl, h1, atI_nat (j := 2) rfl, _, rfl, _, rfl, _, _, 0, _, rfl, rfl, h1, atI_nat (j := 0) rfl, _, rfl, W.b, n, rfl, b2, by omega, Nat.lt_of_le_of_lt hn (by decide +kernel), fun q H1 e1 hq => ?_⟩
    refine ⟨p, q, W, _, rfl, hp.same e1, O, hq, fun d hd => digs_lt b2 hd, ?_⟩
    exact ⟨_, _, _, _, rfl, rfl, sameT e1 h3, atI_nat (vN_at (O.letterAt (O.st_lt n)).1), k _ e1⟩
def spWdPart (K : PySem.W.Frag) : Sp := fun vs H Q _ => ∃ (p : Addr) (W : Wd) (n m : Nat), vs = [.ref p, .int n, .int m] ∧ PlainZ K H p W ∧ W.Ok ∧ n ≤ 10 ^ 60 ∧ m ≤ 5000 ∧ ∀ q H', Same H H' → H' q = some (.tup (vN ((List.range m).map fun j => W.at_ (n + j)))) → Q (.ref q) H'
theorem ok_law_wd_part (D : DefIn K mg "_law_wd_part" s_law_wd_part) (T : Fre mg) (G_law_wd_letter : Keeps P w K mg base CX0 2 "_law_wd_letter" ["word", "place"] (spWdLetter K)) : Keeps P w K mg base CX0 3 "_law_wd_part" ["word", "place", "many"] (spWdPart K) := by
  refine D.keeps sc_law_wd_part (fun vs H Q E h => ?_) (fun _ _ _ _ _ _ us hl => match us, hl with | [_, _, _], _ => rfl) (fun cdv A outer s H vs Q E hr h => ?_)
  · obtain ⟨p, W, n, m, rfl, _⟩ := h
    rfl
  · refine ⟨_, (pss_one (ps_ret (pe_callTy call_tuple_of (by rfl) T.tuple bi_tuple (pa_cons (pe_lc (own := [("at", 3)]) rfl sc_law_wd_part.nd (pi_range1 (by rfl) T.range (pa_cons (pv 2) pa_nil)) (blkOk_by (own := [("at", 3)]) (N := ["word", "place", "many", "at"]) (sc := defScope s_law_wd_part) (by decide +kernel)) (fun _ _ _ _ _ => (pg_name (i := 3) sc_law_wd_part.nd rfl (Or.inl rfl))) (fun _ _ _ _ _ => pts_nil) (fun _ _ _ _ _ => (pe_do G_law_wd_letter hr (by rfl) pass0 (pa_cons (pv 0) (pa_cons (pe_op op_add (pv 1) (pv 3)) pa_nil))))) pa_nil)))), ?_⟩
    obtain ⟨p, W, n, m, rfl, hp, O, hn, hm, k⟩ := h
    refine ⟨_, rfl, _, rfl, by omega, by omega, fun L nL => ?_⟩
    refine lc_range (lo := 0) (n := m) (fun i H' => Same H H' ∧ H' L = some (.lst (vN ((List.range i).map fun j => W.at_ (n + j))))) ⟨same_new nL, upd_same⟩ ?_ ?_
    · rintro i H1 hi ⟨e1, h1⟩
      refine ⟨rfl, _, rfl, _, rfl, _, rfl, _, _, rfl, rfl, p, W, n + i, ?_, hp.same e1, O, by omega, fun H2 e2 => ?_⟩
      · rw [Int.zero_add]
        rfl
      · refine ⟨_, e2 _ _ h1, by rw [vN_len, List.length_map, List.length_range, sizeLine_eq]; omega, fun x o hx => ?_, ?_⟩
        · rw [upd_ne (ne_of_none hx nL)]
          exact e2 _ _ (e1 x o hx)
        · rw [upd_same, List.range_succ, List.map_append, vN_app]
          rfl
    · rintro H1 ⟨e1, h1⟩
      refine ⟨L, _, rfl, .inl ⟨.of h1, fun p np => new_of np fun H2 e2 h2 => ?_⟩⟩
      exact k p H2 (e1.trans e2) h2
end
end Pf

set_option Elab.async false
set_option linter.all false
set_option maxRecDepth 100000
set_option maxHeartbeats 4000000
namespace Pf
open PySem PySem.Spec PyProof.Rows L2 My M11 MW
section
variable {P : Program} {w : World} {K : PySem.W.Frag} {mg : Str → Option Value} {base : Heap}
def spLawSpelled (K : PySem.W.Frag) : Sp := fun vs H Q _ => ∃ (rw p : Addr) (W : Wd) (ss : List Nat), vs = [.ref rw, .ref p] ∧ RowsZ K H rw W.rows ∧ W.Ok ∧ SqT K H p (vN ss) ∧ (∀ s ∈ ss, s < W.lets.length) ∧ ss.length ≤ 5000 ∧ ∀ q H', Same H H' → H' q = some (.tup (vN (W.expand ss))) → Q (.ref q) H'
theorem ok_law_spelled (D : DefIn K mg "_law_spelled" s_law_spelled) (T : Fre mg) : Keeps P w K mg base CX0 1 "_law_spelled" ["rows", "states"] (spLawSpelled K) := by
  refine D.keeps sc_law_spelled (fun vs H Q E h => ?_) (fun _ _ _ _ _ _ us hl => match us, hl with | [_, _], _ => rfl) (fun cdv A outer s H vs Q E hr h => ?_)
  · obtain ⟨rw, p, W, ss, rfl, _⟩ := h
    rfl
  · refine ⟨_, (pss_cons (ps_set (i := 2) sc_law_spelled.nd rfl (Or.inl rfl) (pe_lst pa_nil))
  (pss_cons (ps_for PassesOwn.never rfl (pi_tup (pv 1)) (pg_name (i := 3) sc_law_spelled.nd rfl (Or.inl rfl))
  (pss_one (ps_expr (pe_bm PySem.F.plainAttrs_list PySem.F.slot_list_extend PySem.F.type_list_extend mt_extendT (pv 2) (pa_cons (pe_ix ix_tup (pv 0) (pv 3) (fun _ _ => rfl)) pa_nil)))))
  (pss_one (ps_ret (pe_callTy call_tuple_of (by rfl) T.tuple bi_tuple (pa_cons (pv 2) pa_nil)))))), ?_⟩
    obtain ⟨rw, p, W, ss, rfl, hrw, O, hp, hss, hz, k⟩ := h
    have b5 := O.b5
    refine ⟨by show 0 ≤ sizeLine; decide, fun L nL => new_of nL fun H1 e1 h1 => ?_⟩
    refine ⟨_, rfl, p, rfl, ⟨_, sameT e1 hp⟩, for_tup (K := K) (a := p) (xs := vN ss) (fun i σ' H' => (∃ v, σ' = [some (.ref rw), some (.ref p), some (.ref L), v]) ∧ Same H H' ∧ H' L = some (.lst (vN (W.expand (ss.take i))))) ⟨⟨none, rfl⟩, e1, h1⟩ (fun i σ' H' _ h => sameT h.2.1 hp) ?_ ?_⟩
    · rintro i x _ H2 hx ⟨⟨v, rfl⟩, e2, h2⟩
      obtain ⟨s, hs, rfl⟩ := vN_of hx
      have hlt := hss s (List.mem_of_getElem? hs)
      obtain ⟨r, g1, g2, g3⟩ := O.rowAt hlt
      obtain ⟨z, xs, f1, f2, f3⟩ := (hrw.at_.same e2).row g1
      have er : W.rowOf s = r := by unfold Wd.rowOf; rw [g1]; rfl
      have ht : W.expand (ss.take (i + 1)) = W.expand (ss.take i) ++ r := by rw [← er]; exact flat_take W.rowOf hs
      have hle : (W.expand (ss.take i)).length ≤ 25000 := by
        rw [(O.expand_lt fun x hx => hss x (List.mem_of_mem_take hx)).2, List.length_take]
        have h1 : min i ss.length * W.b ≤ 5000 * 5 := Nat.mul_le_mul (by omega) b5
        omega
      refine ⟨_, rfl, Or.inl ⟨rfl, _, SqL.of h2⟩, _, rfl, _, rfl, _, _, _, _, rfl, rfl, f1, atI_nat f2, L, z, _, _, rfl, rfl, h2, f3, by rw [vN_len, vN_len, sizeLine_eq]; omega, ⟨some (.int s), rfl⟩, fun x o hx => ?_, ?_⟩
      · rw [upd_ne (ne_of_none hx nL)]
        exact e2 x o hx
      · rw [upd_same, ht, vN_app]
    · rintro _ H2 ⟨⟨v, rfl⟩, e2, h2⟩
      rw [vN_len, List.take_length] at h2
      refine ⟨_, rfl, L, _, rfl, .inl ⟨.of h2, fun q nq => new_of nq fun H3 e3 h3 => ?_⟩⟩
      exact k q H3 (e2.trans e3) h3
theorem table_at {W : Wd} (O : W.Ok) {s : Nat} (h : s < W.lets.length) : (Wd.table W)[s]? = some ((List.range W.lets.length).map fun g => (W.rowOf s).count g) := by
  obtain ⟨r, e, _⟩ := O.rowAt h
  have er : W.rowOf s = r := by unfold Wd.rowOf; rw [e]; rfl
  unfold Wd.table
  rw [List.getElem?_map, e, er]
  rfl
def spRight : Sp := fun vs H Q _ => ∃ d : Addr, vs = [.ref d] ∧ DiceAt H d ∧ ∀ H', But d H H' → DiceAt H' d → Q (.bl true) H'
theorem ok_law_right (D : DefIn K mg "_law_right" s_law_right) (T : Fre mg) (FW : WFacts K mg) (G_law_roll : Keeps P w K mg base CX0 1 "_law_roll" ["dice", "total"] spRoll) (G_law_wd_drawn : Keeps P w K mg base CX0 2 "_law_wd_drawn" ["dice", "base", "most", "letters"] (spDrawn K))
    (G_Word3 : KeepsI P w K mg base CX0 6 "Word" ["self", "base", "rows", "letters"] [] (spWord K)) (G_law_spelled : Keeps P w K mg base CX0 1 "_law_spelled" ["rows", "states"] (spLawSpelled K)) (G_spelled : Keeps P w K mg base CX0 5 "spelled" ["word", "states", "times"] (spSpelled K))
    (G_law_great : Keeps P w K mg base CX0 2 "_law_great" ["dice"] spGreat) (G_law_power : Keeps P w K mg base CX0 1 "_law_power" ["base", "many"] spLawPower) (G_block : Keeps P w K mg base CX0 5 "block" ["word", "place", "times"] (spBlock K)) (G_law_wd_part : Keeps P w K mg base CX0 3 "_law_wd_part" ["word", "place", "many"] (spWdPart K))
    (G_Word_part : KeepsM P w K mg base CX0 5 "Word" "part" ["self", "place", "many"] (spPartM K)) (G_Word_state : KeepsM P w K mg base CX0 5 "Word" "state" ["self", "place"] (spStateM K)) (G_Word_letter : KeepsM P w K mg base CX0 5 "Word" "letter" ["self", "place"] (spLetterM K))
    (G_spelling_table : Keeps P w K mg base CX0 4 "spelling_table" ["word"] (spTableIn K)) (G_law_wd_state : Keeps P w K mg base CX0 1 "_law_wd_state" ["word", "digits"] (spWdState K)) (G_law_digits : Keeps P w K mg base CX0 1 "_law_digits" ["base", "place"] (spDigIn K)) :
    Keeps P w K mg base CX0 8 "_law_right" ["dice"] spRight := by
  refine D.keeps sc_law_right (fun vs H Q E h => ?_) (fun _ _ _ _ _ _ us hl => match us, hl with | [_], _ => rfl) (fun cdv A outer s H vs Q E hr h => ?_)
  · obtain ⟨d, rfl, _⟩ := h
    rfl
  · refine ⟨_, (Evl.pss_cut (ps_set (i := 1) sc_law_right.nd rfl (Or.inr rfl) (pe_op op_add pe_int (pe_do G_law_roll hr (by rfl) pass0 (pa_cons (pv 0) (pa_cons pe_int pa_nil)))))
  (pss_cons (ps_set (i := 2) sc_law_right.nd rfl (Or.inr rfl) (pe_do G_law_wd_drawn hr (by rfl) pass0 (pa_cons (pv 0) (pa_cons (pv 1) (pa_cons pe_int (pa_cons pe_int pa_nil))))))
  (pss_cons (ps_asg (pe_tup (pa_cons (pe_mk G_Word3 hr (by rfl) pass0 (pa_cons (pv 1) (pa_cons (pe_ix ix_tup (pv 2) pe_int (fun _ _ => rfl)) (pa_cons (pe_ix ix_tup (pv 2) pe_int (fun _ _ => rfl)) pa_nil)))) (pa_cons (pe_callB call_len_seq (by rfl) T.len bi_len (pa_cons (pe_ix ix_tup (pv 2) pe_int (fun _ _ => rfl)) pa_nil)) pa_nil))) (pg_tup (by rfl) (pgs_cons (pg_name (i := 3) sc_law_right.nd rfl (Or.inl rfl)) (pgs_cons (pg_name (i := 4) sc_law_right.nd rfl (Or.inr rfl)) pgs_nil))))
  (Evl.pss_cut (ps_par (i := 5) (j := 6) (by rfl) sc_law_right.nd rfl rfl (by decide) rfl rfl (pa_cons (pe_callTy call_tuple_of (by rfl) T.tuple bi_tuple (pa_cons (pe_lc (own := [("at", 20)]) rfl sc_law_right.nd (pi_range1 (by rfl) T.range (pa_cons (pe_do G_law_roll hr (by rfl) pass0 (pa_cons (pv 0) (pa_cons pe_int pa_nil))) pa_nil)) (blkOk_by (own := [("at", 20)]) (N := ["dice", "base", "plain", "word", "many", "states", "times", "due", "turn", "place", "width", "told", "ahead", "state", "table", "counts", "twice", "goal", "first", "row", "at"]) (sc := defScope s_law_right) (by decide +kernel)) (fun _ _ _ _ _ => (pg_name (i := 20) sc_law_right.nd rfl (Or.inl rfl))) (fun _ _ _ _ _ => pts_nil) (fun _ _ _ _ _ => (pe_do G_law_roll hr (by rfl) pass0 (pa_cons (pv 0) (pa_cons (pv 4) pa_nil))))) pa_nil)) (pa_cons (pe_do G_law_roll hr (by rfl) pass0 (pa_cons (pv 0) (pa_cons pe_int pa_nil))) pa_nil)) (by rfl))
  (pss_cons (ps_set (i := 7) sc_law_right.nd rfl (Or.inl rfl) (pv 5))
  (pss_cons (ps_for PassesOwn.never rfl (pi_range1 (by rfl) T.range (pa_cons (pv 6) pa_nil)) (pg_name (i := 8) sc_law_right.nd rfl (Or.inl rfl))
  (pss_one (ps_set (i := 7) sc_law_right.nd rfl (Or.inl rfl) (pe_do G_law_spelled hr (by rfl) pass0 (pa_cons (pe_ix ix_tup (pv 2) pe_int (fun _ _ => rfl)) (pa_cons (pv 7) pa_nil))))))
  (pss_cons (ps_if (PW.pt (pw_or (pt_cmpR (op_neD hr.units) (pe_do G_spelled hr (by rfl) pass0 (pa_cons (pv 3) (pa_cons (pv 5) (pa_cons (pv 6) pa_nil)))) (pv 7) (nomark _)) (pw_or1 (pt_cmpR (op_neD hr.units) (pe_do G_spelled hr (by rfl) pass0 (pa_cons (pv 3) (pa_cons (pe_do G_spelled hr (by rfl) pass0 (pa_cons (pv 3) (pa_cons (pv 5) (pa_cons pe_int pa_nil)))) (pa_cons pe_int pa_nil)))) (pe_do G_spelled hr (by rfl) pass0 (pa_cons (pv 3) (pa_cons (pv 5) (pa_cons pe_int pa_nil)))) (nomark _))))) (pss_one (ps_ret pe_bl)) pss_nil)
  (Evl.pss_cut (ps_par (i := 9) (j := 10) (by rfl) sc_law_right.nd rfl rfl (by decide) rfl rfl (pa_cons (pe_op op_fdivW (pe_do G_law_great hr (by rfl) pass0 (pa_cons (pv 0) pa_nil)) pe_int) (pa_cons (pe_do G_law_power hr (by rfl) pass0 (pa_cons (pv 1) (pa_cons (pv 6) pa_nil))) pa_nil)) (by rfl))
  (pss_cons (ps_set (i := 11) sc_law_right.nd rfl (Or.inl rfl) (pe_do G_block hr (by rfl) pass0 (pa_cons (pv 3) (pa_cons (pv 9) (pa_cons (pv 6) pa_nil)))))
  (pss_cons (ps_if (PW.pt (pw_or (pt_cmpR (op_neD hr.units) (pv 11) (pe_do G_law_wd_part hr (by rfl) pass0 (pa_cons (pv 2) (pa_cons (pe_op op_mul (pv 9) (pv 10)) (pa_cons (pv 10) pa_nil)))) (nomark _)) (pw_or1 (pt_cmpR (op_neD hr.units) (pv 11) (pe_mdo G_Word_part FW.c hr pass0 (pv 3) (pa_cons (pe_op op_mul (pv 9) (pv 10)) (pa_cons (pv 10) pa_nil))) (nomark _))))) (pss_one (ps_ret pe_bl)) pss_nil)
  (pss_cons (ps_set (i := 12) sc_law_right.nd rfl (Or.inl rfl) (pe_do G_spelled hr (by rfl) pass0 (pa_cons (pv 3) (pa_cons (pe_tup (pa_cons (pe_mdo G_Word_state FW.c hr pass0 (pv 3) (pa_cons (pv 9) pa_nil)) pa_nil)) (pa_cons (pv 6) pa_nil)))))
  (pss_cons (ps_if (PW.pt (pw_or (pt_cmpR (op_neD hr.units) (pv 11) (pe_callTy call_tuple_of (by rfl) T.tuple bi_tuple (pa_cons (pe_lc (own := [("state", 13)]) rfl sc_law_right.nd (pi_tup (pv 12)) (blkOk_by (own := [("state", 13)]) (N := ["dice", "base", "plain", "word", "many", "states", "times", "due", "turn", "place", "width", "told", "ahead", "state", "table", "counts", "twice", "goal", "first", "row", "at"]) (sc := defScope s_law_right) (by decide +kernel)) (fun _ _ _ _ _ => (pg_name (i := 13) sc_law_right.nd rfl (Or.inl rfl))) (fun _ _ _ _ _ => pts_nil) (fun _ _ _ _ _ => (pe_ix (ix_tupK K) (pe_ix (ix_tupK K) (pv 2) pe_int (fun _ _ => rfl)) (pv 13) (fun _ _ => rfl)))) pa_nil)) (nomark _)) (pw_or1 (pt_cmpR (op_neD hr.units) (pe_do G_block hr (by rfl) pass0 (pa_cons (pv 3) (pa_cons (pv 9) (pa_cons pe_int pa_nil)))) (pe_tup (pa_cons (pe_mdo G_Word_letter FW.c hr pass0 (pv 3) (pa_cons (pv 9) pa_nil)) pa_nil)) (nomark _))))) (pss_one (ps_ret pe_bl)) pss_nil)
  (pss_cons (ps_set (i := 14) sc_law_right.nd rfl (Or.inr rfl) (pe_do G_spelling_table hr (by rfl) pass0 (pa_cons (pv 3) pa_nil)))
  (pss_cons (ps_set (i := 15) sc_law_right.nd rfl (Or.inl rfl) (pe_callTy call_tuple_of (by rfl) T.tuple bi_tuple (pa_cons (pe_lc (own := [("row", 19)]) rfl sc_law_right.nd (pi_tup (pe_ix ix_tup (pv 2) pe_int (fun _ _ => rfl))) (blkOk_by (own := [("row", 19)]) (N := ["dice", "base", "plain", "word", "many", "states", "times", "due", "turn", "place", "width", "told", "ahead", "state", "table", "counts", "twice", "goal", "first", "row", "at"]) (sc := defScope s_law_right) (by decide +kernel)) (fun _ _ _ _ _ => (pg_name (i := 19) sc_law_right.nd rfl (Or.inr rfl))) (fun _ _ _ _ _ => pts_nil) (fun _ _ _ _ _ => (pe_callTy (call_tuple_ofK K) (by rfl) T.tuple bi_tuple (pa_cons (pe_lc (own := [("state", 13)]) rfl sc_law_right.nd (pi_range1 (by rfl) T.range (pa_cons (pv 4) pa_nil)) (blkOk_by (own := [("state", 13)]) (N := ["dice", "base", "plain", "word", "many", "states", "times", "due", "turn", "place", "width", "told", "ahead", "state", "table", "counts", "twice", "goal", "first", "row", "at"]) (by kernel_rfl)) (fun _ _ _ _ _ => (pg_name (i := 13) sc_law_right.nd rfl (Or.inl rfl))) (fun _ _ _ _ _ => pts_nil) (fun _ _ _ _ _ => (pe_zm PySem.F.slot_tuple_count PySem.F.type_tuple_count (mt_tcountK K) (pv 19) (pa_cons (pv 13) pa_nil)))) pa_nil)))) pa_nil)))
  (pss_cons (ps_if (pt_cmpR (op_neD hr.units) (pv 14) (pv 15) (nomark _)) (pss_one (ps_ret pe_bl)) pss_nil)
  (pss_cons (ps_for PassesOwn.never rfl (pi_range1 (by rfl) T.range (pa_cons (pv 4) pa_nil)) (pg_name (i := 13) sc_law_right.nd rfl (Or.inr rfl))
  (pss_cons (ps_set (i := 16) sc_law_right.nd rfl (Or.inl rfl) (pe_do G_spelled hr (by rfl) pass0 (pa_cons (pv 3) (pa_cons (pe_tup (pa_cons (pv 13) pa_nil)) (pa_cons pe_int pa_nil)))))
  (pss_one (ps_for PassesOwn.never rfl (pi_range1 (by rfl) T.range (pa_cons (pv 4) pa_nil)) (pg_name (i := 17) sc_law_right.nd rfl (Or.inr rfl))
  (pss_one (ps_if (pt_cmpR op_ne (pe_zm PySem.F.slot_tuple_count PySem.F.type_tuple_count mt_tcount (pv 16) (pa_cons (pv 17) pa_nil)) (pe_callB (cr_sum rfl) (by rfl) T.sum bi_sum (pa_cons (pe_lc (own := [("at", 20)]) rfl sc_law_right.nd (pi_range1 (by rfl) T.range (pa_cons (pv 4) pa_nil)) (blkOk_by (own := [("at", 20)]) (N := ["dice", "base", "plain", "word", "many", "states", "times", "due", "turn", "place", "width", "told", "ahead", "state", "table", "counts", "twice", "goal", "first", "row", "at"]) (sc := defScope s_law_right) (by decide +kernel)) (fun _ _ _ _ _ => (pg_name (i := 20) sc_law_right.nd rfl (Or.inl rfl))) (fun _ _ _ _ _ => pts_nil) (fun _ _ _ _ _ => (pe_op op_mul (pe_ix (ix_tupK K) (pe_ix (ix_tupK K) (pv 14) (pv 13) (fun _ _ => rfl)) (pv 20) (fun _ _ => rfl)) (pe_ix (ix_tupK K) (pe_ix (ix_tupK K) (pv 14) (pv 20) (fun _ _ => rfl)) (pv 17) (fun _ _ => rfl))))) pa_nil)) (nomark _)) (pss_one (ps_ret pe_bl)) pss_nil))))))
  (pss_cons (ps_set (i := 18) sc_law_right.nd rfl (Or.inl rfl) (pe_do G_spelled hr (by rfl) pass0 (pa_cons (pv 3) (pa_cons (pe_tup (pa_cons pe_int pa_nil)) (pa_cons pe_int pa_nil)))))
  (pss_one (ps_ret (pe_cmpR (op_eqD hr.units) (pv 18) (pe_callTy call_tuple_of (by rfl) T.tuple bi_tuple (pa_cons (pe_lc (own := [("at", 20)]) rfl sc_law_right.nd (pi_range1 (by rfl) T.range (pa_cons (pe_do G_law_power hr (by rfl) pass0 (pa_cons (pv 1) (pa_cons pe_int pa_nil))) pa_nil)) (blkOk_by (own := [("at", 20)]) (N := ["dice", "base", "plain", "word", "many", "states", "times", "due", "turn", "place", "width", "told", "ahead", "state", "table", "counts", "twice", "goal", "first", "row", "at"]) (sc := defScope s_law_right) (by decide +kernel)) (fun _ _ _ _ _ => (pg_name (i := 20) sc_law_right.nd rfl (Or.inl rfl))) (fun _ _ _ _ _ => pts_nil) (fun _ _ _ _ _ => (pe_do G_law_wd_state hr (by rfl) pass0 (pa_cons (pv 2) (pa_cons (pe_do G_law_digits hr (by rfl) pass0 (pa_cons (pv 1) (pa_cons (pv 20) pa_nil))) pa_nil))))) pa_nil)) (nomark _))))))))))))))))))))), ?_⟩
    obtain ⟨d, rfl, hd, k⟩ := h
    have small : ∀ x : Nat, x < 512 → ((x : Int).natAbs).log2 < 9000 := fun x hx => by
      rw [Int.natAbs_natCast]
      exact Nat.lt_of_le_of_lt (Nat.log2_le_self _) (by omega)
    -- the base
    refine ⟨fun σ' H' => ∃ b : Nat, σ' = [some (.ref d), some (.int b), none, none, none, none, none, none, none, none, none, none, none, none, none, none, none, none, none, none, none] ∧ 2 ≤ b ∧ b ≤ 5 ∧ But d H H' ∧ DiceAt H' d, ?_, ?_⟩
    · refine ⟨_, rfl, d, 4, rfl, hd, by decide, by decide +kernel, fun r H1 r0 r1 b1 d1 => ?_⟩
      obtain ⟨r', rfl⟩ : ∃ r' : Nat, r = r' := ⟨r.toNat, by omega⟩
      exact ⟨_, _, rfl, rfl, 2 + r', rfl, by omega, by omega, b1, d1⟩
    rintro _ H1 ⟨b, rfl, hb, hb2, b1, d1⟩
    -- the word
    refine ⟨_, rfl, _, rfl, d, b, 8, 4, rfl, d1, hb, hb2, by decide, by decide, by decide, by decide, fun p H2 W b2 d2 O eb hn hl4 hp => ?_⟩
    subst eb
    have n1 := O.n1
    obtain ⟨rw, lt, p1, p2, p3⟩ := hp
    refine ⟨_, rfl, _, rfl, _, _, 1, _, rfl, rfl, p1, atI_nat (j := 1) rfl, _, rfl, _, _, 2, _, rfl, rfl, p1, atI_nat (j := 2) rfl, ?_⟩
    refine mk_wordZ O p3 p2 fun a H3 e3 hw => ?_
    obtain ⟨xs, q1, q2⟩ := p2.at_.len
    refine ⟨_, rfl, _, _, 1, _, rfl, rfl, sameT e3 p1, atI_nat (j := 1) rfl, rw, xs, rfl, Or.inr (sameT e3 q1), ?_⟩
    refine ⟨by show 2 ≤ sizeLine; decide, fun t nt => new_of nt fun H4 e4 h4 => ?_⟩
    have hN : xs.length = W.lets.length := by rw [q2, O.len]
    rw [hN] at h4
    refine ⟨t, _, rfl, .of h4, rfl, _, _, rfl, _, _, rfl, rfl, ?_⟩
    have e34 := e3.trans e4
    replace hw := hw.same e4
    have hp : PlainZ K H4 p W := ⟨rw, lt, sameT e34 p1, p2.same e34, sameT e34 p3⟩
    obtain ⟨y1, y2, y3, hd2⟩ := d2
    have hd4 := e34 _ _ hd2
    have b4 : But d H H4 := b1.trans (b2.trans (.of e34))
    -- states, times
    refine ⟨fun σ' H' => ∃ (ss : List Nat) (tm : Nat) (sp : Addr), σ' = [some (.ref d), some (.int W.b), some (.ref p), some (.ref a), some (.int W.lets.length), some (.ref sp), some (.int tm), none, none, none, none, none, none, none, none, none, none, none, none, none, none] ∧ SqT K H' sp (vN ss) ∧ (∀ s ∈ ss, s < W.lets.length) ∧ ss.length ≤ 4 ∧ tm ≤ 3 ∧
      But d H H' ∧ DiceAt H' d ∧ WordZ K H' a W ∧ PlainZ K H' p W, ?_, ?_⟩
    · refine ⟨_, rfl, d, 5, rfl, ⟨_, _, _, hd4⟩, by decide, by decide +kernel, fun r H5 r0 r1 b5 d5 => ?_⟩
      obtain ⟨r', rfl⟩ : ∃ r' : Nat, r = r' := ⟨r.toNat, by omega⟩
      refine ⟨_, rfl, by omega, by omega, fun M nM => ?_⟩
      obtain ⟨z1, z2, z3, hd5⟩ := d5
      have Md : M ≠ d := fun z => by rw [z, hd5] at nM; cases nM
      refine lc_range (lo := 0) (n := r') (fun j H' => ∃ acc : List Nat, H' M = some (.lst (vN acc)) ∧ acc.length = j ∧ (∀ s ∈ acc, s < W.lets.length) ∧ But d H5 H' ∧ DiceAt H' d) ⟨[], upd_same, rfl, fun _ h => absurd h (List.not_mem_nil), .of (same_new nM), _, _, _, same_new nM _ _ hd5⟩ ?_ ?_
      · rintro j H6 hj ⟨acc, hM, ha1, ha2, b6, d6⟩
        refine ⟨rfl, _, rfl, _, rfl, d, W.lets.length, rfl, d6, by omega, small _ (by omega), fun r H7 r0 r1 b7 d7 => ?_⟩
        obtain ⟨r'', rfl⟩ : ∃ r' : Nat, r = r' := ⟨r.toNat, by omega⟩
        refine ⟨_, b7 _ _ Md hM, by rw [vN_len, ha1, sizeLine_eq]; omega, acc ++ [r''], ?_, by rw [List.length_append, ha1]; rfl, fun s hs => ?_, fun x o hx h => ?_, ?_⟩
        · rw [upd_same, vN_app]
          rfl
        · rcases List.mem_append.mp hs with h | h
          · exact ha2 s h
          · rw [List.mem_singleton.mp h]
            omega
        · rw [upd_ne (ne_of_none h nM)]
          exact b7 _ _ hx (b6 _ _ hx h)
        · obtain ⟨z1, z2, z3, hz⟩ := d7
          exact ⟨z1, z2, z3, by rw [upd_ne (Ne.symm Md)]; exact hz⟩
      · rintro H6 ⟨acc, hM, ha1, ha2, b6, d6⟩
        have ha1' : acc.length = r' := ha1
        refine ⟨M, _, rfl, .inl ⟨.of hM, fun sp nsp => new_of nsp fun H7 e7 h7 => ?_⟩⟩
        obtain ⟨w1, w2, w3, hd6⟩ := d6
        refine ⟨_, rfl, d, 4, rfl, ⟨_, _, _, e7 _ _ hd6⟩, by decide, by decide +kernel, fun r H8 g0 g1 b8 d8 => ?_⟩
        obtain ⟨tm, rfl⟩ : ∃ tm : Nat, r = tm := ⟨r.toNat, by omega⟩
        refine ⟨_, _, rfl, acc, tm, sp, rfl, butT (e7 _ _ hd6) b8 (.of h7), ha2, by omega, by omega, ?_, d8, ?_, ?_⟩
        · exact b4.trans (b5.trans (b6.trans ((But.of e7).trans b8)))
        · exact (((hw.but hd4 b5).but hd5 b6).same e7).but (e7 _ _ hd6) b8
        · exact (((hp.but hd4 b5).but hd5 b6).same e7).but (e7 _ _ hd6) b8
    rintro _ H5 ⟨ss, tm, sp, rfl, hsp, hss, hsl, htm, b5, d5, hw5, hp5⟩
    have w5 := O.b5
    have hpow : ∀ t, t ≤ 4 → W.b ^ t ≤ 625 := fun t ht => by
      have h1 : W.b ^ t ≤ 5 ^ t := Nat.pow_le_pow_left w5 t
      have h2 : 5 ^ t ≤ 5 ^ 4 := Nat.pow_le_pow_right (by decide) ht
      omega
    have hsz : ∀ t, t ≤ 3 → ss.length * W.b ^ t ≤ 2500 := fun t ht => by
      have := hpow t (by omega)
      have h3 : ss.length * W.b ^ t ≤ 4 * 625 := Nat.mul_le_mul hsl this
      omega
    -- due
    refine ⟨_, rfl, ?_⟩
    refine ⟨_, rfl, _, rfl, by omega, by omega, for_range (lo := 0) (n := tm) (fun i σ' H' => (∃ (q : Addr) (v : Option V), σ' = [some (.ref d), some (.int W.b), some (.ref p), some (.ref a), some (.int W.lets.length), some (.ref sp), some (.int tm), some (.ref q), v, none, none, none, none, none, none, none, none, none, none, none, none] ∧
      SqT K H' q (vN (W.expands i ss))) ∧ Same H5 H') ⟨⟨sp, none, rfl, hsp⟩, Same.refl _⟩ ?_ ?_⟩
    · rintro i _ H6 hi ⟨⟨q, v, rfl, hq⟩, e6⟩
      obtain ⟨rw', lt', f1, f2, f3⟩ := hp5.same e6
      obtain ⟨x1, x2⟩ := O.expands_lt i hss
      have := hsz i (by omega)
      refine ⟨_, rfl, _, _, 1, _, rfl, rfl, f1, atI_nat (j := 1) rfl, _, rfl, rw', q, W, W.expands i ss, rfl, f2, O, hq, x1, by omega, fun q' H7 e7 hq' => ?_⟩
      refine ⟨⟨q', some (.int (0 + (i : Nat))), rfl, ?_⟩, e6.trans e7⟩
      rw [W.expands_snoc]
      exact .of hq'
    rintro _ H6 ⟨⟨q, v, rfl, hq⟩, e6⟩
    have hq : SqT K H6 q (vN (W.expands tm ss)) := hq
    replace hw5 := hw5.same e6
    replace hp5 := hp5.same e6
    replace hsp := sameT e6 hsp
    have z1 := hsz 1 (by omega)
    have z2 := hsz 2 (by omega)
    have z3 := hsz tm (by omega)
    refine ⟨_, rfl, _, rfl, _, rfl, a, sp, W, ss, tm, rfl, hw5.at_, hsp, hss, by omega, by omega, by omega, fun u1 H7 e7 hu1 _ => ?_⟩
    refine ⟨_, rfl, _, _, dpTI hu1, dpTI (sameT e7 hq), shapedTI _, shapedTI _, _, rfl, ?_⟩
    rw [eqvTI]
    refine iteF ?_
    obtain ⟨x1, x2⟩ := O.expands_lt 1 hss
    refine ⟨_, rfl, _, rfl, _, rfl, a, sp, W, ss, 1, rfl, (hw5.same e7).at_, sameT e7 hsp, hss, by omega, by omega, by omega, fun u2 H8 e8 hu2 _ => ?_⟩
    have e78 := e7.trans e8
    refine ⟨a, u2, W, _, 1, rfl, (hw5.same e78).at_, hu2, x1, by omega, by omega, by rw [x2, Nat.mul_assoc, ← Nat.pow_add]; show ss.length * W.b ^ 2 ≤ 5000; omega, fun u3 H9 e9 hu3 _ => ?_⟩
    have e79 := e78.trans e9
    refine ⟨_, rfl, _, rfl, a, sp, W, ss, 2, rfl, (hw5.same e79).at_, sameT e79 hsp, hss, by omega, by omega, by omega, fun u4 H10 e10 hu4 _ => ?_⟩
    refine ⟨_, _, dpTI (sameT e10 hu3), dpTI hu4, shapedTI _, shapedTI _, _, rfl, ?_⟩
    rw [show W.expands 1 (W.expands 1 ss) = W.expands 2 ss from rfl, eqvTI]
    refine iteF ?_
    have e10' := e79.trans e10
    replace hw5 := hw5.same e10'
    replace hp5 := hp5.same e10'
    replace hsp := sameT e10' hsp
    have b10 : But d H H10 := b5.trans (.of (e6.trans e10'))
    obtain ⟨y1, y2, y3, hd5⟩ := d5
    have hd10 := e10' _ _ (e6 _ _ hd5)
    -- place, width
    refine ⟨fun σ' H' => ∃ n : Nat, σ' = [some (.ref d), some (.int W.b), some (.ref p), some (.ref a), some (.int W.lets.length), some (.ref sp), some (.int tm), some (.ref q), v, some (.int n), some (.int (W.b ^ tm : Nat)), none, none, none, none, none, none, none, none, none, none] ∧ n ≤ 10 ^ 55 ∧
      But d H H' ∧ DiceAt H' d ∧ WordZ K H' a W ∧ PlainZ K H' p W, ?_, ?_⟩
    · refine ⟨_, rfl, d, rfl, ⟨_, _, _, hd10⟩, fun n0 H11 hn0 b11 d11 => ?_⟩
      refine ⟨_, _, rfl, rfl, ⟨by decide, by decide +kernel⟩, _, rfl, _, rfl, W.b, tm, rfl, by omega, by omega, _, _, rfl, n0 / 1000, rfl, by omega, b10.trans b11, d11, hw5.but hd10 b11, hp5.but hd10 b11⟩
    rintro _ H11 ⟨n, rfl, hn, b11, d11, hw11, hp11⟩
    obtain ⟨y1, y2, y3, hd11⟩ := d11
    have ptm := hpow tm (by omega)
    have hmul : n * W.b ^ tm ≤ 10 ^ 55 * 625 := Nat.mul_le_mul hn ptm
    -- told
    refine ⟨_, rfl, _, rfl, _, rfl, a, W, n, tm, rfl, hw11.at_, by omega, by omega, by omega, fun tp H12 e12 ht => ?_⟩
    rw [O.block] at ht
    have ht' : ∀ {H' : Hp}, Same H12 H' → SqT K H' tp (vN ((List.range (W.b ^ tm)).map fun j => W.at_ (n * W.b ^ tm + j))) := fun e => .of (e _ _ ht)
    refine ⟨_, rfl, _, rfl, _, rfl, _, rfl, _, _, rfl, rfl, .inr ⟨by omega, by omega⟩, _, rfl, p, W, n * W.b ^ tm, W.b ^ tm, rfl, hp11.same e12, O, by omega, by omega, fun u5 H13 e13 hu5 => ?_⟩
    refine ⟨_, _, dpTI (ht' e13), dpTI (.of hu5), shapedTI _, shapedTI _, _, rfl, ?_⟩
    rw [eqvTI]
    refine iteF ?_
    have e123 := e12.trans e13
    obtain ⟨dx, lt2, rw2, hs2, _, _⟩ := (hw11.same e123).slt
    refine ⟨_, rfl, _, rfl, a, dx, _, rfl, hs2, _, rfl, _, rfl, _, _, rfl, rfl, .inr ⟨by omega, by omega⟩, _, rfl, a, W, n * W.b ^ tm, W.b ^ tm, rfl, (hw11.same e123).at_, by omega, by omega, fun u6 H14 e14 _ hu6 => ?_⟩
    refine ⟨_, _, dpTI (ht' (e13.trans e14)), dpTI (.of hu6), shapedTI _, shapedTI _, _, rfl, ?_⟩
    rw [eqvTI]
    refine iteF ?_
    have e14' := e123.trans e14
    -- ahead
    obtain ⟨dx3, lt3, rw3, hs3, _, _⟩ := (hw11.same e14').slt
    have hst : ∀ s ∈ [W.st n], s < W.lets.length := fun s hs => by rw [List.mem_singleton.mp hs]; exact O.st_lt n
    refine ⟨_, rfl, _, rfl, a, dx3, _, rfl, hs3, _, rfl, a, W, n, rfl, (hw11.same e14').at_, by omega, fun H15 e15 => ?_⟩
    refine ⟨by show 1 ≤ sizeLine; decide, fun t1 nt1 => new_of nt1 fun H16 e16 h16 => ?_⟩
    have e16' := e14'.trans (e15.trans e16)
    refine ⟨_, rfl, a, t1, W, [W.st n], tm, rfl, (hw11.same e16').at_, .of h16, hst, by omega, by rw [List.length_singleton]; omega, by rw [List.length_singleton]; omega, fun u7 H17 e17 hu7 _ => ?_⟩
    -- told != tuple(..)
    obtain ⟨rw4, lt4, f1, f2, f3⟩ := hp11.same (e16'.trans e17)
    refine ⟨_, rfl, _, rfl, u7, rfl, ⟨_, hu7⟩, fun M nM => ?_⟩
    have hxl := (O.expands_lt tm hst).1
    have hxn : (W.expands tm [W.st n]).length ≤ 625 := by rw [(O.expands_lt tm hst).2, List.length_singleton]; omega
    refine lc_tup (xs := vN (W.expands tm [W.st n])) (fun i H' => Same H17 H' ∧ H' M = some (.lst (vN (((W.expands tm [W.st n]).take i).map W.letter)))) ⟨same_new nM, upd_same⟩ (fun i H' _ h => sameT h.1 hu7) ?_ ?_
    · rintro i x H18 hx ⟨e18, h18⟩
      obtain ⟨s, hs, rfl⟩ := vN_of hx
      have hs2 := hxl s (List.mem_of_getElem? hs)
      refine ⟨rfl, _, rfl, _, _, 2, _, rfl, rfl, sameT e18 f1, atI_nat (j := 2) rfl, _, rfl, _, _, _, _, rfl, rfl, sameT e18 f3, atI_nat (vN_at (O.letterAt hs2).1), _, h18, by rw [vN_len, List.length_map, List.length_take, sizeLine_eq]; omega, fun x o hx => ?_, ?_⟩
      · rw [upd_ne (ne_of_none hx nM)]
        exact e18 x o hx
      · rw [upd_same, List.take_add_one, hs, Option.toList_some, List.map_append, vN_app]
        rfl
    rintro H18 ⟨e18, h18⟩
    rw [vN_len, List.take_length, O.block] at h18
    refine ⟨M, _, rfl, .inl ⟨.of h18, fun u8 nu8 => new_of nu8 fun H19 e19 h19 => ?_⟩⟩
    have e19' := e16'.trans (e17.trans (e18.trans e19))
    refine ⟨_, _, dpTI (ht' (e13.trans (e14.trans (e15.trans (e16.trans (e17.trans (e18.trans e19))))))), dpTI (.of h19), shapedTI _, shapedTI _, _, rfl, ?_⟩
    rw [eqvTI]
    refine iteF ?_
    refine ⟨_, rfl, _, rfl, a, W, n, 0, rfl, (hw11.same e19').at_, by omega, by decide, by rw [Nat.pow_zero]; decide, fun u9 H20 e20 h20 => ?_⟩
    have e20' := e19'.trans e20
    obtain ⟨dx5, lt5, rw5, hs5, _, _⟩ := (hw11.same e20').slt
    refine ⟨_, rfl, a, dx5, _, rfl, hs5, _, rfl, a, W, n, rfl, (hw11.same e20').at_, by omega, fun H21 e21 => ?_⟩
    refine ⟨by show 1 ≤ sizeLine; decide, fun t2 nt2 => new_of nt2 fun H22 e22 h22 => ?_⟩
    have h20' : SqT K H22 u9 (vN [W.at_ n]) := .of (e22 _ _ (e21 _ _ h20))
    have h22' : SqT K H22 t2 (vN [W.at_ n]) := .of h22
    refine ⟨_, _, dpTI h20', dpTI h22', shapedTI _, shapedTI _, _, rfl, ?_⟩
    rw [eqvTI]
    refine iteF ?_
    have e22' := e20'.trans (e21.trans e22)
    -- table
    refine ⟨_, rfl, a, W, rfl, hw11.same e22', fun tb H23 e23 htb => ?_⟩
    have e23' := e22'.trans e23
    obtain ⟨rw6, lt6, g1, g2, g3⟩ := hp11.same e23'
    have hlen := O.len
    obtain ⟨ps, hps, hpr⟩ := g2
    have hpl := Paired.len hpr
    refine ⟨_, rfl, _, _, 1, _, rfl, rfl, g1, atI_nat (j := 1) rfl, rw6, rfl, ⟨_, hps⟩, fun L nL => ?_⟩
    refine lc_tup (xs := ps.map V.ref) (fun i H' => Same H23 H' ∧ ∃ qs : List Addr, H' L = some (.lst (qs.map V.ref)) ∧ Paired (fun q r => SqT K H' q (vN r)) qs ((Wd.table W).take i)) ⟨same_new nL, [], upd_same, .nil⟩ (fun i H' _ h => sameT h.1 hps) ?_ ?_
    · rintro i x H24 hx ⟨e24, qs, h24, hqs⟩
      obtain ⟨q, hq, rfl⟩ := refs_of hx
      obtain ⟨r, hr', hrt⟩ := Paired.getL hpr hq
      have hi := (List.getElem?_eq_some_iff.mp hq).1
      refine ⟨rfl, _, rfl, _, rfl, by omega, by omega, fun M nM => ?_⟩
      refine lc_range (lo := 0) (n := W.lets.length) (fun j H' => Same H24 H' ∧ H' M = some (.lst (vN ((List.range j).map fun s => r.count s)))) ⟨same_new nM, upd_same⟩ ?_ ?_
      · rintro j H25 hj ⟨e25, h25⟩
        refine ⟨rfl, _, rfl, ⟨q, _, rfl, hrt.same (e24.trans e25)⟩, _, rfl, q, iN r, j, rfl, by rw [Int.zero_add], (hrt.same (e24.trans e25)).sq, _, h25, by rw [vN_len, List.length_map, List.length_range, sizeLine_eq]; omega, fun x o hx => ?_, ?_⟩
        · rw [upd_ne (ne_of_none hx nM)]
          exact e25 x o hx
        · rw [upd_same, List.range_succ, List.map_append, vN_app, iN_count]
          rfl
      · rintro H25 ⟨e25, h25⟩
        refine ⟨M, _, rfl, .inl ⟨.of h25, fun p np => new_of np fun H26 e26 h26 => ?_⟩⟩
        have e256 := e25.trans e26
        refine ⟨_, e256 _ _ h24, ?_, fun x o hx => ?_, qs ++ [p], ?_, ?_⟩
        · rw [List.length_map, Paired.len hqs, List.length_take, sizeLine_eq]
          unfold Wd.table
          rw [List.length_map]
          omega
        · rw [upd_ne (ne_of_none hx nL)]
          exact e256 _ _ (e24 x o hx)
        · rw [upd_same, List.map_append]
          rfl
        · have ht : (Wd.table W)[i]? = some ((List.range W.lets.length).map fun s => r.count s) := by
            unfold Wd.table
            rw [List.getElem?_map, hr']
            rfl
          have hL : H26 L = some (.lst (qs.map V.ref)) := e256 _ _ h24
          rw [List.take_add_one, ht]
          refine My.Paired.snoc (R := fun q r => SqT K (upd H26 L (HO.lst (qs.map V.ref ++ [V.ref p]))) q (vN r)) (butT hL But.upd (.of h26)) (My.Paired.imp' (R := fun q r => SqT K H24 q (vN r)) (fun _ r z => butT (xs := vN r) hL But.upd (sameT e256 z)) hqs)
    rintro H24 ⟨e24, qs, h24, hqs⟩
    refine ⟨L, _, rfl, .inl ⟨.of h24, fun ct nct => new_of nct fun H25 e25 h25 => ?_⟩⟩
    rw [List.take_of_length_le (by unfold Wd.table; rw [List.length_map, List.length_map]; omega)] at hqs
    have hct : RowsAt K H25 ct (Wd.table W) := ⟨qs, .of h25, My.Paired.imp' (R := fun q r => SqT K H24 q (vN r)) (fun _ r z => sameT (xs := vN r) e25 z) hqs⟩
    have e25' := e23'.trans (e24.trans e25)
    replace htb := htb.same (e24.trans e25)
    refine ⟨_, rfl, _, rfl, _, _, dpRows htb, dpRows hct, shapedRows _, shapedRows _, _, rfl, ?_⟩
    rw [eqvRows]
    refine iteF ?_
    -- twice
    refine ⟨_, rfl, _, rfl, by omega, by omega, for_range (lo := 0) (n := W.lets.length) (fun i σ' H' => (∃ (v13 v16 v17 : Option V), σ' = [some (.ref d), some (.int W.b), some (.ref p), some (.ref a), some (.int W.lets.length), some (.ref sp), some (.int tm), some (.ref q), v, some (.int n), some (.int (W.b ^ tm : Nat)), some (.ref tp), some (.ref u7), v13, some (.ref tb), some (.ref ct), v16, v17, none, none, none]) ∧ Same H25 H') ⟨⟨none, none, none, rfl⟩, Same.refl _⟩ ?_ ?_⟩
    · rintro i _ H26 hi ⟨⟨v13, v16, v17, rfl⟩, e26⟩
      refine ⟨_, rfl, _, rfl, by show 1 ≤ sizeLine; decide, fun t3 nt3 => new_of nt3 fun H27 e27 h27 => ?_⟩
      have e27' := e25'.trans (e26.trans e27)
      replace h27 : H27 t3 = some (.tup (vN [i])) := by rw [Int.zero_add] at h27; exact h27
      have hsi : ∀ s ∈ [i], s < W.lets.length := fun s hs => by rw [List.mem_singleton.mp hs]; exact hi
      have p2 := hpow 2 (by decide)
      refine ⟨a, t3, W, [i], 2, rfl, (hw11.same e27').at_,   .of h27, hsi, by decide, by rw [List.length_singleton]; decide, by rw [List.length_singleton]; omega, fun u H28 e28 hu hz => ?_⟩
      replace hz := hz (by decide)
      refine ⟨_, rfl, _, rfl, by omega, by omega, for_range (lo := 0) (n := W.lets.length) (fun j σ' H' => (∃ (v17 : Option V), σ' = [some (.ref d), some (.int W.b), some (.ref p), some (.ref a), some (.int W.lets.length), some (.ref sp), some (.int tm), some (.ref q), v, some (.int n), some (.int (W.b ^ tm : Nat)), some (.ref tp), some (.ref u7), some (.int (0 + (i : Nat))), some (.ref tb), some (.ref ct), some (.ref u), v17, none, none, none]) ∧ Same H28 H') ⟨⟨v17, rfl⟩, Same.refl _⟩ ?_ ?_⟩
      · rintro j _ H29 hj ⟨⟨v17, rfl⟩, e29⟩
        refine ⟨_, rfl, ⟨u, _, rfl, hz.same e29⟩, _, rfl, u, iN (W.expands 2 [i]), j, rfl, by rw [Int.zero_add], sameT e29 hu, ?_⟩
        refine ⟨_, rfl, _, rfl, by omega, by omega, fun M nM => ?_⟩
        have e29' := e26.trans (e27.trans (e28.trans e29))
        refine lc_range (lo := 0) (n := W.lets.length) (fun m H' => Same H29 H' ∧ H' M = some (.lst (vN ((List.range m).map fun s => (W.rowOf i).count s * (W.rowOf s).count j)))) ⟨same_new nM, upd_same⟩ ?_ ?_
        · rintro m H30 hm ⟨e30, h30⟩
          have htbl := htb.same (e29'.trans e30)
          obtain ⟨y1, xs1, f1, f2, f3⟩ := htbl.row (table_at O hi)
          obtain ⟨y2, xs2, f4, f5, f6⟩ := htbl.row (table_at O (s := m) hm)
          have cb := O.count_le m j
          have i1 : ((List.range W.lets.length).map fun s => (W.rowOf i).count s)[m]? = some ((W.rowOf i).count m) := by rw [List.getElem?_map, List.getElem?_range hm]; rfl
          have i2 : ((List.range W.lets.length).map fun s => (W.rowOf m).count s)[j]? = some ((W.rowOf m).count j) := by rw [List.getElem?_map, List.getElem?_range hj]; rfl
          refine ⟨rfl, _, rfl, _, rfl, _, _, _, _, rfl, rfl, f1, by rw [Int.zero_add]; exact atI_nat f2, _, rfl, _, _, _, _, rfl, rfl, f3, by rw [Int.zero_add]; exact atI_nat (vN_at i1), ?_⟩
          refine ⟨_, rfl, _, rfl, _, _, _, _, rfl, rfl, f4, by rw [Int.zero_add]; exact atI_nat f5, _, rfl, _, _, _, _, rfl, rfl, f6, by rw [Int.zero_add]; exact atI_nat (vN_at i2), ?_⟩
          refine ⟨_, _, rfl, rfl, .inr ⟨by omega, by omega⟩, _, h30, by rw [vN_len, List.length_map, List.length_range, sizeLine_eq]; omega, fun x o hx => ?_, ?_⟩
          · rw [upd_ne (ne_of_none hx nM)]
            exact e30 x o hx
          · rw [upd_same, List.range_succ, List.map_append, vN_app]
            rfl
        · rintro H30 ⟨e30, h30⟩
          refine ⟨M, _, rfl, SqL.of h30, rfl, _, rfl, ?_⟩
          have eq : V.int ((iN (W.expands 2 [i])).count (j : Int) : Nat) = V.int (iN ((List.range W.lets.length).map fun s => (W.rowOf i).count s * (W.rowOf s).count j)).sum := by
            rw [iN_count, iN_sum, O.twice hi]
          refine iteN (fun h => absurd eq h) (fun _ => ?_)
          exact ⟨⟨some (.int (0 + (j : Nat))), rfl⟩, e29.trans e30⟩
      · rintro _ H29 ⟨⟨v17, rfl⟩, e29⟩
        exact ⟨⟨_, _, _, rfl⟩, e26.trans (e27.trans (e28.trans e29))⟩
    rintro _ H26 ⟨⟨v13, v16, v17, rfl⟩, e26⟩
    -- first
    have e26' := e25'.trans e26
    have p4 := hpow 4 (by decide)
    have h0 : ∀ s ∈ [0], s < W.lets.length := fun s hs => by rw [List.mem_singleton.mp hs]; omega
    refine ⟨_, rfl, by show 1 ≤ sizeLine; decide, fun t4 nt4 => new_of nt4 fun H27 e27 h27 => ?_⟩
    have e27' := e26'.trans e27
    refine ⟨a, t4, W, [0], 4, rfl, (hw11.same e27').at_, .of h27, h0, by decide, by decide, by rw [List.length_singleton]; omega, fun fs H28 e28 hfs _ => ?_⟩
    have e28' := e27'.trans e28
    refine ⟨_, rfl, _, rfl, W.b, 4, rfl, by omega, by decide, _, rfl, by omega, by omega, fun M nM => ?_⟩
    refine lc_range (lo := 0) (n := W.b ^ 4) (fun m H' => Same H28 H' ∧ H' M = some (.lst (vN ((List.range m).map fun j => W.st j)))) ⟨same_new nM, upd_same⟩ ?_ ?_
    · rintro m H29 hm ⟨e29, h29⟩
      refine ⟨rfl, _, rfl, _, rfl, _, rfl, W.b, m, by rw [Int.zero_add]; rfl, by omega, by omega, Nat.lt_of_lt_of_le (Nat.lt_of_lt_of_le hm p4) (by decide +kernel), fun q2 H30 e30 hq2 => ?_⟩
      refine ⟨p, q2, W, digs W.b m, rfl, hp11.same (e28'.trans (e29.trans e30)), O, hq2, fun x hx => digs_lt O.b2 hx, _, e30 _ _ h29, by rw [vN_len, List.length_map, List.length_range, sizeLine_eq]; omega, fun x o hx => ?_, ?_⟩
      · rw [upd_ne (ne_of_none hx nM)]
        exact e30 _ _ (e29 x o hx)
      · rw [upd_same, List.range_succ, List.map_append, vN_app]
        rfl
    · rintro H29 ⟨e29, h29⟩
      refine ⟨M, _, rfl, .inl ⟨.of h29, fun u10 nu10 => new_of nu10 fun H30 e30 h30 => ?_⟩⟩
      have hfs' : SqT K H30 fs (vN ((List.range (W.b ^ 4)).map fun j => W.st j)) := by
        have := sameT (e29.trans e30) hfs
        rw [← W.sts0, O.expands_sts, Nat.zero_mul, Nat.one_mul] at this
        have es : W.sts 0 (W.b ^ 4) = (List.range (W.b ^ 4)).map fun j => W.st j := by
          unfold Wd.sts
          apply List.map_congr_left
          intro j _
          rw [Nat.zero_add]
        rw [es] at this
        exact this
      refine ⟨_, _, dpTI hfs', dpTI (.of h30), shapedTI _, shapedTI _, ?_⟩
      rw [eqvTI]
      have eF := e28'.trans (e29.trans e30)
      exact k _ (b11.trans (.of eF)) ⟨_, _, _, eF _ _ hd11⟩
end
end Pf

set_option Elab.async false
set_option linter.all false
set_option maxRecDepth 100000
set_option maxHeartbeats 4000000
namespace Pf
open PySem PySem.Spec PyProof.Rows L2 My M11 MW
section
variable {P : Program} {w : World} {K : PySem.W.Frag} {mg : Str → Option Value} {base : Heap}
def two : Wd := ⟨2, [[0, 1], [1, 0]], [0, 1]⟩
theorem two_ok : two.Ok := ⟨by decide, by decide, by decide, by decide, rfl, by decide, ⟨[0, 1], rfl, rfl⟩, by decide⟩
theorem two_nil : ∀ t, two.expands t [] = []
  | 0 => rfl
  | t + 1 => two_nil t
theorem two_st3 : two.st 3 = 0 := by
  have e : digs 2 3 = [1, 1] := by
    unfold digs
    rw [lows_pos (b := 2) (n := 3) (by decide) (by decide), show 3 / 2 = 1 from rfl, lows_pos (n := 1) (by decide) (by decide), show 1 / 2 = 0 from rfl, lows_zero]
    rfl
  unfold Wd.st
  show two.run 0 (digs 2 3) = 0
  rw [e]
  rfl
theorem two_block : (two.expands 1 [two.st 3]).map two.letter = [0, 1] := by
  rw [two_st3]
  rfl
def spLaw (K : PySem.W.Frag) : Sp := fun vs H Q _ => ∃ (a : Addr) (ns : List Int), vs = [.ref a] ∧ SqL K H a (ns.map V.int) ∧ ∀ H', Q (.bl true) H'
theorem ok_law {fd : FuncData} (F : FunD K "law" "law" (defArgs s_law) (defBody s_law) (defScope s_law) [] [] (He.ga K "law") fd) (T : Fre mg) (FW : WFacts K mg) (G_law_dice : Keeps P w K mg base CX0 1 "_law_dice" ["script", "spot"] (spDice K)) (G_law_right : Keeps P w K mg base CX0 8 "_law_right" ["dice"] spRight)
    (G_Word3 : KeepsI P w K mg base CX0 6 "Word" ["self", "base", "rows", "letters"] [] (spWord K)) (G_spelled : Keeps P w K mg base CX0 5 "spelled" ["word", "states", "times"] (spSpelled K)) (G_block : Keeps P w K mg base CX0 5 "block" ["word", "place", "times"] (spBlock K)) :
    FnOk P w K mg base CX0 9 (He.ga K "law") fd ["script"] (spLaw K) := by
  refine fun_ok0 F sc_law (fun vs H Q E h => ?_) (fun cdv A outer s H vs Q E hr h => ?_)
  · obtain ⟨a, ns, rfl, _⟩ := h
    rfl
  · refine ⟨_, (pss_cons (ps_for PassesOwn.never rfl (pi_range1 (by rfl) T.range (pa_cons (pe_callB (call_max2 rfl) (by rfl) T.max bi_max (pa_cons pe_int (pa_cons (pe_callB (call_min2 rfl) (by rfl) T.min bi_min (pa_cons pe_int (pa_cons (pe_callB call_len_seq (by rfl) T.len bi_len (pa_cons (pv 0) pa_nil)) pa_nil))) pa_nil))) pa_nil)) (pg_name (i := 1) sc_law.nd rfl (Or.inl rfl))
  (pss_cons (ps_set (i := 2) sc_law.nd rfl (Or.inl rfl) (pe_do G_law_dice hr (by rfl) pass0 (pa_cons (pv 0) (pa_cons (pv 1) pa_nil))))
  (pss_one (ps_for PassesOwn.never rfl (pi_range1 (by rfl) T.range (pa_cons pe_int pa_nil)) (pg_name (i := 3) sc_law.nd rfl (Or.inl rfl))
  (pss_one (ps_if (pt_not (pt_val (pe_do G_law_right hr (by rfl) pass0 (pa_cons (pv 2) pa_nil)))) (pss_one (ps_ret pe_bl)) pss_nil))))))
  (pss_cons (ps_set (i := 4) sc_law.nd rfl (Or.inl rfl) (pe_mk G_Word3 hr (by rfl) pass0 (pa_cons pe_int (pa_cons (pe_tup (pa_cons (pe_tup (pa_cons pe_int (pa_cons pe_int pa_nil))) (pa_cons (pe_tup (pa_cons pe_int (pa_cons pe_int pa_nil))) pa_nil))) (pa_cons (pe_tup (pa_cons pe_int (pa_cons pe_int pa_nil))) pa_nil)))))
  (pss_one (ps_ret (pe_cmpR (op_eqD hr.units) (pe_lst (pa_cons (pe_do G_spelled hr (by rfl) pass0 (pa_cons (pv 4) (pa_cons (pe_tup pa_nil) (pa_cons pe_int pa_nil)))) (pa_cons (pe_callB call_len_seq (by rfl) T.len bi_len (pa_cons (pe_do G_spelled hr (by rfl) pass0 (pa_cons (pv 4) (pa_cons (pe_tup (pa_cons pe_int pa_nil)) (pa_cons pe_int pa_nil)))) pa_nil)) (pa_cons (pe_do G_block hr (by rfl) pass0 (pa_cons (pv 4) (pa_cons pe_int (pa_cons pe_int pa_nil)))) pa_nil)))) (pe_lst (pa_cons (pe_tup pa_nil) (pa_cons pe_int (pa_cons (pe_tup (pa_cons pe_int (pa_cons pe_int pa_nil))) pa_nil)))) (nomark _)))))), ?_⟩
    obtain ⟨a, ns, rfl, hS, k⟩ := h
    refine ⟨_, rfl, _, _, rfl, Or.inl hS, ?_⟩
    refine ⟨_, _, rfl, ?_⟩
    refine ⟨_, _, rfl, ?_⟩
    have hm : ∀ l : Int, 1 ≤ (if (if l < 6 then l else 6) > 1 then (if l < 6 then l else 6) else 1) ∧ (if (if l < 6 then l else 6) > 1 then (if l < 6 then l else 6) else 1) ≤ 6 := fun l => by
      split <;> split at * <;> omega
    obtain ⟨m1, m2⟩ := hm ((ns.map V.int).length : Int)
    refine ⟨_, rfl, by omega, by omega, for_range (fun i σ' H' => ∃ u v w, σ' = [some (.ref a), u, v, w, none] ∧ Same H H') ⟨none, none, none, rfl, Same.refl _⟩ ?_ ?_⟩
    · rintro i _ H1 hi ⟨u, v, w, rfl, e1⟩
      have hi8 : i ≤ 1000 := by omega
      refine ⟨_, rfl, _, rfl, a, ns, i, by rw [Int.zero_add]; rfl, e1.seq hS, hi8, fun d H2 nd e2 d2 => ?_⟩
      have nd0 : H d = none := e1.free nd
      refine ⟨3, rfl, by decide, by decide, for_range (fun j σ' H' => ∃ w, σ' = [some (.ref a), some (.int (0 + (i : Nat))), some (.ref d), w, none] ∧ Same H H' ∧ DiceAt H' d) ⟨w, rfl, e1.trans e2, d2⟩ ?_ ?_⟩
      · rintro j _ H3 hj ⟨w', rfl, e3, d3⟩
        refine ⟨_, rfl, d, rfl, d3, fun H4 b4 d4 => ⟨_, rfl, ?_⟩⟩
        refine iteF ⟨_, rfl, fun x o hx => b4 x o (ne_of_none hx nd0) (e3 x o hx), d4⟩
      · rintro _ H3 ⟨w', rfl, e3, d3⟩
        exact ⟨_, _, _, rfl, e3⟩
    · rintro _ H1 ⟨u, v, w, rfl, e1⟩
      refine ⟨by show 2 ≤ sizeLine; decide, fun t1 n1 => new_of n1 fun H2 e2 h2 => ?_⟩
      refine ⟨by show 2 ≤ sizeLine; decide, fun t2 n2 => new_of n2 fun H3 e3 h3 => ?_⟩
      refine ⟨by show 2 ≤ sizeLine; decide, fun t3 n3 => new_of n3 fun H4 e4 h4 => ?_⟩
      refine ⟨by show 2 ≤ sizeLine; decide, fun t4 n4 => new_of n4 fun H5 e5 h5 => ?_⟩
      have r1 : RowsAt K H5 t3 two.rows := ⟨[t1, t2], .of (e5 _ _ h4), .cons (.of (e5 _ _ (e4 _ _ (e3 _ _ h2)))) (.cons (.of (e5 _ _ (e4 _ _ h3))) .nil)⟩
      have r2 : SqT K H5 t4 (vN two.lets) := .of h5
      refine mk_word (W := two) two_ok r2 r1 fun a2 H6 e6 hw => ?_
      refine ⟨_, rfl, by show 0 ≤ sizeLine; decide, fun t5 n5 => new_of n5 fun H7 e7 h7 => ?_⟩
      refine ⟨a2, t5, two, [], 12, rfl, hw.same e7, .of h7, fun _ h => absurd h (List.not_mem_nil), by decide, by decide, by decide, fun q1 H8 e8 hq1 _ => ?_⟩
      rw [two_nil] at hq1
      refine ⟨_, rfl, by show 1 ≤ sizeLine; decide, fun t6 n6 => new_of n6 fun H9 e9 h9 => ?_⟩
      have h1 : ∀ s ∈ [1], s < two.lets.length := by decide
      refine ⟨a2, t6, two, [1], 12, rfl, hw.same (e7.trans (e8.trans e9)), .of h9, h1, by decide, by decide, by decide, fun q2 H10 e10 hq2 _ => ?_⟩
      refine ⟨q2, _, rfl, Or.inr hq2, ?_⟩
      have el : ((vN (two.expands 12 [1])).length : Int) = 4096 := by
        rw [vN_len, (two_ok.expands_lt 12 h1).2]
        decide
      rw [el]
      have e10' := e7.trans (e8.trans (e9.trans e10))
      refine ⟨_, rfl, a2, two, 3, 1, rfl, hw.same e10', by decide, by decide, by decide, fun q3 H11 e11 h11 => ?_⟩
      rw [two_block] at h11
      refine ⟨by show 3 ≤ sizeLine; decide, fun l1 m1 => new_of m1 fun H12 e12 h12 => ?_⟩
      refine ⟨by show 0 ≤ sizeLine; decide, fun x1 k1 => new_of k1 fun H13 e13 h13 => ?_⟩
      refine ⟨by show 2 ≤ sizeLine; decide, fun x2 k2 => new_of k2 fun H14 e14 h14 => ?_⟩
      refine ⟨by show 3 ≤ sizeLine; decide, fun l2 m2 => new_of m2 fun H15 e15 h15 => ?_⟩
      have f1 : SqT K H15 q1 [] := sameT (e9.trans (e10.trans (e11.trans (e12.trans (e13.trans (e14.trans e15)))))) hq1
      have f3 : SqT K H15 q3 [.int 0, .int 1] := sameT (e12.trans (e13.trans (e14.trans e15))) (.of h11)
      refine ⟨.list [.tuple [], .int 4096, .tuple [.int 0, .int 1]], .list [.tuple [], .int 4096, .tuple [.int 0, .int 1]], .lst (.of (e15 _ _ (e14 _ _ (e13 _ _ h12)))) (.cons (.tup f1 .nil) (.cons (.int _) (.cons (.tup f3 (.cons (.int _) (.cons (.int _) .nil))) .nil))),
        .lst (.of h15) (.cons (.tup (.of (e15 _ _ (e14 _ _ h13))) .nil) (.cons (.int _) (.cons (.tup (.of (e15 _ _ h14)) (.cons (.int _) (.cons (.int _) .nil))) .nil))), by decide +kernel, by decide +kernel, ?_⟩
      rw [show PyData.eqv (.list [.tuple [], .int 4096, .tuple [.int 0, .int 1]]) (.list [.tuple [], .int 4096, .tuple [.int 0, .int 1]]) = true by decide +kernel]
      exact k _
end
end Pf

set_option Elab.async false
set_option linter.all false
set_option maxRecDepth 100000
set_option maxHeartbeats 0
namespace Pf
open PySem PySem.Spec PyProof.Rows L2 My M11 MW
def dd_is_integer : He.DefD := ⟨("is_integer", none), "is_integer", "is_integer", defArgs s_is_integer, defBody s_is_integer, defScope s_is_integer, [], []⟩
def dd_is_within : He.DefD := ⟨("is_within", none), "is_within", "is_within", defArgs s_is_within, defBody s_is_within, defScope s_is_within, [], []⟩
def dd_require_within : He.DefD := ⟨("require_within", none), "require_within", "require_within", defArgs s_require_within, defBody s_require_within, defScope s_require_within, [], []⟩
def dd_is_letter : He.DefD := ⟨("is_letter", none), "is_letter", "is_letter", defArgs s_is_letter, defBody s_is_letter, defScope s_is_letter, [], []⟩
def dd_is_base : He.DefD := ⟨("is_base", none), "is_base", "is_base", defArgs s_is_base, defBody s_is_base, defScope s_is_base, [], []⟩
def dd_require_base : He.DefD := ⟨("require_base", none), "require_base", "require_base", defArgs s_require_base, defBody s_require_base, defScope s_require_base, [], []⟩
def dd_require_place : He.DefD := ⟨("require_place", none), "require_place", "require_place", defArgs s_require_place, defBody s_require_place, defScope s_require_place, [], []⟩
def dd_digits_in : He.DefD := ⟨("digits_in", none), "digits_in", "digits_in", defArgs s_digits_in, defBody s_digits_in, defScope s_digits_in, [], []⟩
def dd_are_rows : He.DefD := ⟨("are_rows", none), "are_rows", "are_rows", defArgs s_are_rows, defBody s_are_rows, defScope s_are_rows, [], []⟩
def dd_are_letters : He.DefD := ⟨("are_letters", none), "are_letters", "are_letters", defArgs s_are_letters, defBody s_are_letters, defScope s_are_letters, [], []⟩
def dd_is_word : He.DefD := ⟨("is_word", none), "is_word", "is_word", defArgs s_is_word, defBody s_is_word, defScope s_is_word, [], []⟩
def dd_power_of : He.DefD := ⟨("power_of", none), "power_of", "power_of", defArgs s_power_of, defBody s_power_of, defScope s_power_of, [], []⟩
def dd_state_in : He.DefD := ⟨("state_in", none), "state_in", "state_in", defArgs s_state_in, defBody s_state_in, defScope s_state_in, [], []⟩
def dd_letter_in : He.DefD := ⟨("letter_in", none), "letter_in", "letter_in", defArgs s_letter_in, defBody s_letter_in, defScope s_letter_in, [], []⟩
def dd_part_in : He.DefD := ⟨("part_in", none), "part_in", "part_in", defArgs s_part_in, defBody s_part_in, defScope s_part_in, [], []⟩
def dd_require_word : He.DefD := ⟨("require_word", none), "require_word", "require_word", defArgs s_require_word, defBody s_require_word, defScope s_require_word, [], []⟩
def dd_spelled_in : He.DefD := ⟨("spelled_in", none), "spelled_in", "spelled_in", defArgs s_spelled_in, defBody s_spelled_in, defScope s_spelled_in, [], []⟩
def dd_table_in : He.DefD := ⟨("table_in", none), "table_in", "table_in", defArgs s_table_in, defBody s_table_in, defScope s_table_in, [], []⟩
def dd_require_times : He.DefD := ⟨("require_times", none), "require_times", "require_times", defArgs s_require_times, defBody s_require_times, defScope s_require_times, [], []⟩
def dd_spelled : He.DefD := ⟨("spelled", none), "spelled", "spelled", defArgs s_spelled, defBody s_spelled, defScope s_spelled, [], []⟩
def dd_block : He.DefD := ⟨("block", none), "block", "block", defArgs s_block, defBody s_block, defScope s_block, [], []⟩
def dd_spelling_table : He.DefD := ⟨("spelling_table", none), "spelling_table", "spelling_table", defArgs s_spelling_table, defBody s_spelling_table, defScope s_spelling_table, [], []⟩
def dd_Word_init : He.DefD := ⟨("Word", some "__init__"), "__init__", "Word.__init__", defArgs s_Word_init, defBody s_Word_init, defScope s_Word_init, [.non], []⟩
def dd_Word_state : He.DefD := ⟨("Word", some "state"), "state", "Word.state", defArgs s_Word_state, defBody s_Word_state, defScope s_Word_state, [], []⟩
def dd_Word_letter : He.DefD := ⟨("Word", some "letter"), "letter", "Word.letter", defArgs s_Word_letter, defBody s_Word_letter, defScope s_Word_letter, [], []⟩
def dd_Word_part : He.DefD := ⟨("Word", some "part"), "part", "Word.part", defArgs s_Word_part, defBody s_Word_part, defScope s_Word_part, [], []⟩
def dd_Word_len : He.DefD := ⟨("Word", some "__len__"), "__len__", "Word.__len__", defArgs s_Word_len, defBody s_Word_len, defScope s_Word_len, [], []⟩
def dd_law_dice : He.DefD := ⟨("_law_dice", none), "_law_dice", "_law_dice", defArgs s_law_dice, defBody s_law_dice, defScope s_law_dice, [], []⟩
def dd_law_roll : He.DefD := ⟨("_law_roll", none), "_law_roll", "_law_roll", defArgs s_law_roll, defBody s_law_roll, defScope s_law_roll, [], []⟩
def dd_law_digits : He.DefD := ⟨("_law_digits", none), "_law_digits", "_law_digits", defArgs s_law_digits, defBody s_law_digits, defScope s_law_digits, [], []⟩
def dd_law_power : He.DefD := ⟨("_law_power", none), "_law_power", "_law_power", defArgs s_law_power, defBody s_law_power, defScope s_law_power, [], []⟩
def dd_law_great : He.DefD := ⟨("_law_great", none), "_law_great", "_law_great", defArgs s_law_great, defBody s_law_great, defScope s_law_great, [], []⟩
def dd_law_wd_drawn : He.DefD := ⟨("_law_wd_drawn", none), "_law_wd_drawn", "_law_wd_drawn", defArgs s_law_wd_drawn, defBody s_law_wd_drawn, defScope s_law_wd_drawn, [], []⟩
def dd_law_wd_state : He.DefD := ⟨("_law_wd_state", none), "_law_wd_state", "_law_wd_state", defArgs s_law_wd_state, defBody s_law_wd_state, defScope s_law_wd_state, [], []⟩
def dd_law_wd_letter : He.DefD := ⟨("_law_wd_letter", none), "_law_wd_letter", "_law_wd_letter", defArgs s_law_wd_letter, defBody s_law_wd_letter, defScope s_law_wd_letter, [], []⟩
def dd_law_wd_part : He.DefD := ⟨("_law_wd_part", none), "_law_wd_part", "_law_wd_part", defArgs s_law_wd_part, defBody s_law_wd_part, defScope s_law_wd_part, [], []⟩
def dd_law_spelled : He.DefD := ⟨("_law_spelled", none), "_law_spelled", "_law_spelled", defArgs s_law_spelled, defBody s_law_spelled, defScope s_law_spelled, [], []⟩
def dd_law_right : He.DefD := ⟨("_law_right", none), "_law_right", "_law_right", defArgs s_law_right, defBody s_law_right, defScope s_law_right, [], []⟩
def dd_law : He.DefD := ⟨("law", none), "law", "law", defArgs s_law, defBody s_law, defScope s_law, [], []⟩
def fn : List He.DefD := [dd_is_integer, dd_is_within, dd_require_within, dd_is_letter, dd_is_base, dd_require_base, dd_require_place, dd_digits_in, dd_are_rows, dd_are_letters, dd_is_word, dd_power_of, dd_state_in, dd_letter_in, dd_part_in, dd_require_word, dd_spelled_in, dd_table_in, dd_require_times, dd_spelled, dd_block, dd_spelling_table, dd_Word_init, dd_Word_state, dd_Word_letter, dd_Word_part, dd_Word_len, dd_law_dice, dd_law_roll, dd_law_digits, dd_law_power, dd_law_great, dd_law_wd_drawn, dd_law_wd_state, dd_law_wd_letter, dd_law_wd_part, dd_law_spelled, dd_law_right, dd_law]
def fa : List He.Fa := [.glo "is_integer", .glo "is_within", .glo "require_within", .glo "is_letter", .glo "is_base", .glo "require_base", .glo "require_place", .glo "digits_in", .glo "are_rows", .glo "are_letters", .glo "is_word", .glo "power_of", .glo "state_in", .glo "letter_in", .glo "part_in", .glo "require_word", .glo "spelled_in", .glo "table_in", .glo "require_times", .glo "spelled", .glo "block", .glo "spelling_table", .mkr "Word", .meth "Word" "state", .meth "Word" "letter", .meth "Word" "part", .meth "Word" "__len__", .glo "_law_dice", .glo "_law_roll", .glo "_law_digits", .glo "_law_power", .glo "_law_great", .glo "_law_wd_drawn", .glo "_law_wd_state", .glo "_law_wd_letter", .glo "_law_wd_part", .glo "_law_spelled", .glo "_law_right", .glo "law", .free "len", .free "int", .free "abs", .free "max", .free "min", .free "bool", .free "tuple", .free "list", .free "str", .free "dict", .free "set", .free "isinstance", .free "all", .free "any", .free "sum", .free "sorted", .free "zip", .free "enumerate", .free "range", .free "repr", .int "MAX_BASE" (5), .int "MAX_PLACE" (1000000000000000000000000000000000000000000000000000000000000), .int "MAX_LETTER" (9), .int "MAX_STATES" (60), .int "MAX_PART" (5000), .int "MAX_SPELLED" (5000), .int "MOST_TIMES" (12), .glo "Word", .glo "KnownMachine"]
abbrev R : PySem.W.OpenRow := PySem.W.OpenLaw.row PySem.Challenge.rw_digitwords_k23_whole_states_spelled_out
def xt : List FT := [fun K => sclsB K (He.ga K "Word"),
  fun K => slotB K (He.ga K "Word") "own_base" 0,
  fun K => slotB K (He.ga K "Word") "own_letters" 1,
  fun K => slotB K (He.ga K "Word") "own_rows" 2,
  fun K => isiB K (He.ga K "Word"),
  fun K => kitB K (.ref (He.ga K "Word")) (.ref (He.ga K "Word")) true,
  fun K => kitB K (.type "tuple") (.ref (He.ga K "KnownMachine")) false]
abbrev hk : PySem.W.Hook := hookX 5 fa fn xt
def ob (s : PySem.W.SharedT) : He.AlD := obsXG 5 fa fn xt (HandSHeadRun.getT s)
theorem ob_eq (s : PySem.W.SharedT) : ob s = hk.obs s.abs := obsXG_eq (HandSHeadRun.getT_eq s)
def names0 : List Str := ["_wall", "DigitError", "InvalidWord", "InvalidOperation", "InvalidCount", "TooMany", "MAX_BASE", "MAX_PLACE", "MAX_LETTER", "is_integer", "is_within", "require_within", "is_letter", "is_base", "require_base", "require_place", "digits_in", "classes_of", "set_of", "reached_from", "least_machine", "power_of", "pairs_reached", "MAX_STATES", "MAX_PART", "KnownMachine", "are_rows", "are_letters", "is_word", "Word"]
def names1 : List Str := ["least_word", "state_in", "letter_in", "part_in", "are_words_alike", "require_word", "MAX_SPELLED", "MOST_TIMES", "spelled_in", "table_in", "require_times", "spelled", "block", "spelling_table", "_law_dice", "_law_roll", "_law_digits", "_law_power", "_law_great", "_law_wd_drawn", "_law_wd_state", "_law_wd_letter", "_law_wd_part", "_law_spelled", "_law_right"]
def loose : List Str := names0 ++ names1
def lawAt : Nat := 61
theorem run (w : World) : HandSHeadRun.RunEq R (PySem.W.view R.prog [lawAt]) hk ob 6000 loose w := by
  intro os
  kernel_rfl
theorem facts {P : Program} {w : World} {K : PySem.W.Frag} {h : Heap} {mg : Str → Option Value} {f : Addr} (X : K.In h) (G : h.Ns mainGlobals mg) (hfa : mg ("law" : Str) = some (.ref f)) (c : SaysX fa fn xt K) :
    ∃ fd : FuncData, (∀ (s : Shared) (v : Value), BindsTo s fd ⟨[v], []⟩ [("script", v)]) ∧ ∀ base : Heap, K.In base → base.Ns mainGlobals mg → FnOk P w K mg base CX0 9 f fd ["script"] (spLaw K) := by
  have T : Fre mg := ⟨He.free_ok X G (c.d.fact 39 (f := .free "len") rfl), He.free_ok X G (c.d.fact 40 (f := .free "int") rfl), He.free_ok X G (c.d.fact 41 (f := .free "abs") rfl), He.free_ok X G (c.d.fact 42 (f := .free "max") rfl), He.free_ok X G (c.d.fact 43 (f := .free "min") rfl), He.free_ok X G (c.d.fact 44 (f := .free "bool") rfl), He.free_ok X G (c.d.fact 45 (f := .free "tuple") rfl), He.free_ok X G (c.d.fact 46 (f := .free "list") rfl), He.free_ok X G (c.d.fact 47 (f := .free "str") rfl), He.free_ok X G (c.d.fact 48 (f := .free "dict") rfl), He.free_ok X G (c.d.fact 49 (f := .free "set") rfl), He.free_ok X G (c.d.fact 50 (f := .free "isinstance") rfl), He.free_ok X G (c.d.fact 51 (f := .free "all") rfl), He.free_ok X G (c.d.fact 52 (f := .free "any") rfl), He.free_ok X G (c.d.fact 53 (f := .free "sum") rfl), He.free_ok X G (c.d.fact 54 (f := .free "sorted") rfl), He.free_ok X G (c.d.fact 55 (f := .free "zip") rfl), He.free_ok X G (c.d.fact 56 (f := .free "enumerate") rfl), He.free_ok X G (c.d.fact 57 (f := .free "range") rfl), He.free_ok X G (c.d.fact 58 (f := .free "repr") rfl), He.int_ok X G (c.d.fact 59 (f := .int "MAX_BASE" _) rfl), He.int_ok X G (c.d.fact 60 (f := .int "MAX_PLACE" _) rfl), He.int_ok X G (c.d.fact 61 (f := .int "MAX_LETTER" _) rfl), He.int_ok X G (c.d.fact 62 (f := .int "MAX_STATES" _) rfl), He.int_ok X G (c.d.fact 63 (f := .int "MAX_PART" _) rfl), He.int_ok X G (c.d.fact 64 (f := .int "MAX_SPELLED" _) rfl), He.int_ok X G (c.d.fact 65 (f := .int "MOST_TIMES" _) rfl)⟩
  have D_is_integer : DefIn K mg "is_integer" s_is_integer := ⟨c.d.def_ 0 (d := dd_is_integer) rfl, He.glo_ok X G (c.d.fact 0 (f := .glo "is_integer") rfl)⟩
  have D_is_within : DefIn K mg "is_within" s_is_within := ⟨c.d.def_ 1 (d := dd_is_within) rfl, He.glo_ok X G (c.d.fact 1 (f := .glo "is_within") rfl)⟩
  have D_require_within : DefIn K mg "require_within" s_require_within := ⟨c.d.def_ 2 (d := dd_require_within) rfl, He.glo_ok X G (c.d.fact 2 (f := .glo "require_within") rfl)⟩
  have D_is_letter : DefIn K mg "is_letter" s_is_letter := ⟨c.d.def_ 3 (d := dd_is_letter) rfl, He.glo_ok X G (c.d.fact 3 (f := .glo "is_letter") rfl)⟩
  have D_is_base : DefIn K mg "is_base" s_is_base := ⟨c.d.def_ 4 (d := dd_is_base) rfl, He.glo_ok X G (c.d.fact 4 (f := .glo "is_base") rfl)⟩
  have D_require_base : DefIn K mg "require_base" s_require_base := ⟨c.d.def_ 5 (d := dd_require_base) rfl, He.glo_ok X G (c.d.fact 5 (f := .glo "require_base") rfl)⟩
  have D_require_place : DefIn K mg "require_place" s_require_place := ⟨c.d.def_ 6 (d := dd_require_place) rfl, He.glo_ok X G (c.d.fact 6 (f := .glo "require_place") rfl)⟩
  have D_digits_in : DefIn K mg "digits_in" s_digits_in := ⟨c.d.def_ 7 (d := dd_digits_in) rfl, He.glo_ok X G (c.d.fact 7 (f := .glo "digits_in") rfl)⟩
  have D_are_rows : DefIn K mg "are_rows" s_are_rows := ⟨c.d.def_ 8 (d := dd_are_rows) rfl, He.glo_ok X G (c.d.fact 8 (f := .glo "are_rows") rfl)⟩
  have D_are_letters : DefIn K mg "are_letters" s_are_letters := ⟨c.d.def_ 9 (d := dd_are_letters) rfl, He.glo_ok X G (c.d.fact 9 (f := .glo "are_letters") rfl)⟩
  have D_is_word : DefIn K mg "is_word" s_is_word := ⟨c.d.def_ 10 (d := dd_is_word) rfl, He.glo_ok X G (c.d.fact 10 (f := .glo "is_word") rfl)⟩
  have D_power_of : DefIn K mg "power_of" s_power_of := ⟨c.d.def_ 11 (d := dd_power_of) rfl, He.glo_ok X G (c.d.fact 11 (f := .glo "power_of") rfl)⟩
  have D_state_in : DefIn K mg "state_in" s_state_in := ⟨c.d.def_ 12 (d := dd_state_in) rfl, He.glo_ok X G (c.d.fact 12 (f := .glo "state_in") rfl)⟩
  have D_letter_in : DefIn K mg "letter_in" s_letter_in := ⟨c.d.def_ 13 (d := dd_letter_in) rfl, He.glo_ok X G (c.d.fact 13 (f := .glo "letter_in") rfl)⟩
  have D_part_in : DefIn K mg "part_in" s_part_in := ⟨c.d.def_ 14 (d := dd_part_in) rfl, He.glo_ok X G (c.d.fact 14 (f := .glo "part_in") rfl)⟩
  have D_require_word : DefIn K mg "require_word" s_require_word := ⟨c.d.def_ 15 (d := dd_require_word) rfl, He.glo_ok X G (c.d.fact 15 (f := .glo "require_word") rfl)⟩
  have D_spelled_in : DefIn K mg "spelled_in" s_spelled_in := ⟨c.d.def_ 16 (d := dd_spelled_in) rfl, He.glo_ok X G (c.d.fact 16 (f := .glo "spelled_in") rfl)⟩
  have D_table_in : DefIn K mg "table_in" s_table_in := ⟨c.d.def_ 17 (d := dd_table_in) rfl, He.glo_ok X G (c.d.fact 17 (f := .glo "table_in") rfl)⟩
  have D_require_times : DefIn K mg "require_times" s_require_times := ⟨c.d.def_ 18 (d := dd_require_times) rfl, He.glo_ok X G (c.d.fact 18 (f := .glo "require_times") rfl)⟩
  have D_spelled : DefIn K mg "spelled" s_spelled := ⟨c.d.def_ 19 (d := dd_spelled) rfl, He.glo_ok X G (c.d.fact 19 (f := .glo "spelled") rfl)⟩
  have D_block : DefIn K mg "block" s_block := ⟨c.d.def_ 20 (d := dd_block) rfl, He.glo_ok X G (c.d.fact 20 (f := .glo "block") rfl)⟩
  have D_spelling_table : DefIn K mg "spelling_table" s_spelling_table := ⟨c.d.def_ 21 (d := dd_spelling_table) rfl, He.glo_ok X G (c.d.fact 21 (f := .glo "spelling_table") rfl)⟩
  have D_Word_init := c.d.def_ 22 (d := dd_Word_init) rfl
  have M_Word_init := He.mkr_ok (c.d.fact 22 (f := .mkr "Word") rfl)
  have D_Word_state : DefMeth K "Word" "state" "Word.state" s_Word_state := ⟨c.d.def_ 23 (d := dd_Word_state) rfl, He.meth_ok (c.d.fact 23 (f := .meth "Word" "state") rfl)⟩
  have D_Word_letter : DefMeth K "Word" "letter" "Word.letter" s_Word_letter := ⟨c.d.def_ 24 (d := dd_Word_letter) rfl, He.meth_ok (c.d.fact 24 (f := .meth "Word" "letter") rfl)⟩
  have D_Word_part : DefMeth K "Word" "part" "Word.part" s_Word_part := ⟨c.d.def_ 25 (d := dd_Word_part) rfl, He.meth_ok (c.d.fact 25 (f := .meth "Word" "part") rfl)⟩
  have D_Word_len : DefMeth K "Word" "__len__" "Word.__len__" s_Word_len := ⟨c.d.def_ 26 (d := dd_Word_len) rfl, He.meth_ok (c.d.fact 26 (f := .meth "Word" "__len__") rfl)⟩
  have D_law_dice : DefIn K mg "_law_dice" s_law_dice := ⟨c.d.def_ 27 (d := dd_law_dice) rfl, He.glo_ok X G (c.d.fact 27 (f := .glo "_law_dice") rfl)⟩
  have D_law_roll : DefIn K mg "_law_roll" s_law_roll := ⟨c.d.def_ 28 (d := dd_law_roll) rfl, He.glo_ok X G (c.d.fact 28 (f := .glo "_law_roll") rfl)⟩
  have D_law_digits : DefIn K mg "_law_digits" s_law_digits := ⟨c.d.def_ 29 (d := dd_law_digits) rfl, He.glo_ok X G (c.d.fact 29 (f := .glo "_law_digits") rfl)⟩
  have D_law_power : DefIn K mg "_law_power" s_law_power := ⟨c.d.def_ 30 (d := dd_law_power) rfl, He.glo_ok X G (c.d.fact 30 (f := .glo "_law_power") rfl)⟩
  have D_law_great : DefIn K mg "_law_great" s_law_great := ⟨c.d.def_ 31 (d := dd_law_great) rfl, He.glo_ok X G (c.d.fact 31 (f := .glo "_law_great") rfl)⟩
  have D_law_wd_drawn : DefIn K mg "_law_wd_drawn" s_law_wd_drawn := ⟨c.d.def_ 32 (d := dd_law_wd_drawn) rfl, He.glo_ok X G (c.d.fact 32 (f := .glo "_law_wd_drawn") rfl)⟩
  have D_law_wd_state : DefIn K mg "_law_wd_state" s_law_wd_state := ⟨c.d.def_ 33 (d := dd_law_wd_state) rfl, He.glo_ok X G (c.d.fact 33 (f := .glo "_law_wd_state") rfl)⟩
  have D_law_wd_letter : DefIn K mg "_law_wd_letter" s_law_wd_letter := ⟨c.d.def_ 34 (d := dd_law_wd_letter) rfl, He.glo_ok X G (c.d.fact 34 (f := .glo "_law_wd_letter") rfl)⟩
  have D_law_wd_part : DefIn K mg "_law_wd_part" s_law_wd_part := ⟨c.d.def_ 35 (d := dd_law_wd_part) rfl, He.glo_ok X G (c.d.fact 35 (f := .glo "_law_wd_part") rfl)⟩
  have D_law_spelled : DefIn K mg "_law_spelled" s_law_spelled := ⟨c.d.def_ 36 (d := dd_law_spelled) rfl, He.glo_ok X G (c.d.fact 36 (f := .glo "_law_spelled") rfl)⟩
  have D_law_right : DefIn K mg "_law_right" s_law_right := ⟨c.d.def_ 37 (d := dd_law_right) rfl, He.glo_ok X G (c.d.fact 37 (f := .glo "_law_right") rfl)⟩
  obtain ⟨fd, F⟩ := c.d.def_ 38 (d := dd_law) rfl
  have e := hfa.symm.trans (He.glo_ok X G (c.d.fact 38 (f := .glo "law") rfl))
  cases e
  have b := FunD.bindsA (ps := ["script"]) F fun _ _ _ _ _ _ us hl => match us, hl with | [_], _ => rfl
  refine ⟨fd, fun s v => b s [v] rfl, fun base _ _ => ?_⟩
  have FW : WFacts K mg := ⟨scls_ok (c.test 0 (t := fun K => sclsB K (He.ga K "Word")) rfl), slot_ok (c.test 1 (t := fun K => slotB K (He.ga K "Word") "own_base" 0) rfl), slot_ok (c.test 2 (t := fun K => slotB K (He.ga K "Word") "own_letters" 1) rfl), slot_ok (c.test 3 (t := fun K => slotB K (He.ga K "Word") "own_rows" 2) rfl), isi_ok (c.test 4 (t := fun K => isiB K (He.ga K "Word")) rfl), kit_ok (c.test 5 (t := fun K => kitB K (.ref (He.ga K "Word")) (.ref (He.ga K "Word")) true) rfl), He.glo_ok X G (c.d.fact 66 (f := .glo "Word") rfl)⟩
  have FK : KFacts K mg := ⟨kit_ok (c.test 6 (t := fun K => kitB K (.type "tuple") (.ref (He.ga K "KnownMachine")) false) rfl), He.glo_ok X G (c.d.fact 67 (f := .glo "KnownMachine") rfl)⟩
  have G_is_integer : Keeps P w K mg base CX0 1 "is_integer" ["value"] spIsInt := ok_is_integer D_is_integer T
  have G_is_within : Keeps P w K mg base CX0 2 "is_within" ["value", "least", "most"] spWithin := ok_is_within D_is_within G_is_integer
  have G_require_within : Keeps P w K mg base CX0 3 "require_within" ["value", "least", "most"] spReqW := ok_require_within D_require_within G_is_within
  have G_is_letter : Keeps P w K mg base CX0 3 "is_letter" ["value"] spIsLetter := ok_is_letter D_is_letter T G_is_within
  have G_is_base : Keeps P w K mg base CX0 3 "is_base" ["value"] spIsBase := ok_is_base D_is_base T G_is_within
  have G_require_base : Keeps P w K mg base CX0 4 "require_base" ["value"] spReqB := ok_require_base D_require_base T G_require_within
  have G_require_place : Keeps P w K mg base CX0 4 "require_place" ["value"] spReqP := ok_require_place D_require_place T G_require_within
  have G_digits_in : Keeps P w K mg base CX0 1 "digits_in" ["base", "place"] (spDigIn K) := ok_digits_in D_digits_in T
  have G_are_rows : Keeps P w K mg base CX0 3 "are_rows" ["base", "rows", "many"] (spAreRows K) := ok_are_rows D_are_rows T G_is_within
  have G_are_letters : Keeps P w K mg base CX0 4 "are_letters" ["value"] (spAreLetters K) := ok_are_letters D_are_letters T G_is_letter
  have G_is_word : Keeps P w K mg base CX0 5 "is_word" ["base", "rows", "letters"] (spIsWord K) := ok_is_word D_is_word T G_is_base G_are_letters G_are_rows
  have G_Word3 : KeepsI P w K mg base CX0 6 "Word" ["self", "base", "rows", "letters"] [] (spWord K) := ok_init D_Word_init M_Word_init FW FK T G_require_base G_is_word
  have G_power_of : Keeps P w K mg base CX0 1 "power_of" ["number", "many"] spPower := ok_power_of D_power_of T
  have G_state_in : Keeps P w K mg base CX0 2 "state_in" ["word", "place"] (spStateIn K) := ok_state_in D_state_in FW T G_digits_in
  have G_letter_in : Keeps P w K mg base CX0 3 "letter_in" ["word", "place"] (spLetterIn K) := ok_letter_in D_letter_in FW T G_state_in
  have G_part_in : Keeps P w K mg base CX0 4 "part_in" ["word", "place", "many"] (spPartIn K) := ok_part_in D_part_in FW T G_letter_in
  have G_Word_state : KeepsM P w K mg base CX0 5 "Word" "state" ["self", "place"] (spStateM K) := ok_m_state D_Word_state T G_require_place G_state_in
  have G_Word_letter : KeepsM P w K mg base CX0 5 "Word" "letter" ["self", "place"] (spLetterM K) := ok_m_letter D_Word_letter T G_require_place G_letter_in
  have G_Word_part : KeepsM P w K mg base CX0 5 "Word" "part" ["self", "place", "many"] (spPartM K) := ok_m_part D_Word_part T G_require_place G_require_within G_part_in
  have G_Word_len : KeepsM P w K mg base CX0 1 "Word" "__len__" ["self"] (spLenM K) := ok_m_len D_Word_len FW T
  have G_require_word : Keeps P w K mg base CX0 1 "require_word" ["value"] (spReqWord K) := ok_require_word D_require_word FW T
  have G_spelled_in : Keeps P w K mg base CX0 1 "spelled_in" ["word", "states", "times"] (spSpelledIn K) := ok_spelled_in D_spelled_in FW T
  have G_table_in : Keeps P w K mg base CX0 3 "table_in" ["word"] (spTableIn K) := ok_table_in D_table_in FW T G_Word_len
  have G_require_times : Keeps P w K mg base CX0 4 "require_times" ["word", "many", "times"] (spReqTimes K) := ok_require_times D_require_times FW T G_require_within G_power_of
  have G_spelled : Keeps P w K mg base CX0 5 "spelled" ["word", "states", "times"] (spSpelled K) := ok_spelled D_spelled FW T G_require_word G_is_within G_Word_len G_require_times G_spelled_in
  have G_block : Keeps P w K mg base CX0 5 "block" ["word", "place", "times"] (spBlock K) := ok_block D_block FW T G_require_word G_require_place G_state_in G_require_times G_spelled_in
  have G_spelling_table : Keeps P w K mg base CX0 4 "spelling_table" ["word"] (spTableIn K) := ok_spelling_table D_spelling_table FW T G_require_word G_table_in
  have G_law_dice : Keeps P w K mg base CX0 1 "_law_dice" ["script", "spot"] (spDice K) := ok_dice D_law_dice T
  have G_law_roll : Keeps P w K mg base CX0 1 "_law_roll" ["dice", "total"] spRoll := ok_roll D_law_roll T
  have G_law_digits : Keeps P w K mg base CX0 1 "_law_digits" ["base", "place"] (spDigIn K) := ok_law_digits D_law_digits T
  have G_law_power : Keeps P w K mg base CX0 1 "_law_power" ["base", "many"] spLawPower := ok_law_power D_law_power T
  have G_law_great : Keeps P w K mg base CX0 2 "_law_great" ["dice"] spGreat := ok_law_great D_law_great T G_law_roll
  have G_law_wd_drawn : Keeps P w K mg base CX0 2 "_law_wd_drawn" ["dice", "base", "most", "letters"] (spDrawn K) := ok_law_wd_drawn D_law_wd_drawn T G_law_roll
  have G_law_wd_state : Keeps P w K mg base CX0 1 "_law_wd_state" ["word", "digits"] (spWdState K) := ok_law_wd_state D_law_wd_state T
  have G_law_wd_letter : Keeps P w K mg base CX0 2 "_law_wd_letter" ["word", "place"] (spWdLetter K) := ok_law_wd_letter D_law_wd_letter T G_law_digits G_law_wd_state
  have G_law_wd_part : Keeps P w K mg base CX0 3 "_law_wd_part" ["word", "place", "many"] (spWdPart K) := ok_law_wd_part D_law_wd_part T G_law_wd_letter
  have G_law_spelled : Keeps P w K mg base CX0 1 "_law_spelled" ["rows", "states"] (spLawSpelled K) := ok_law_spelled D_law_spelled T
  have G_law_right : Keeps P w K mg base CX0 8 "_law_right" ["dice"] spRight := ok_law_right D_law_right T FW G_law_roll G_law_wd_drawn G_Word3 G_law_spelled G_spelled G_law_great G_law_power G_block G_law_wd_part G_Word_part G_Word_state G_Word_letter G_spelling_table G_law_wd_state G_law_digits
  exact ok_law F T FW G_law_dice G_law_right G_Word3 G_spelled G_block
end Pf
open PySem PySem.W PySem.Calls PyProof.Rows
set_option maxRecDepth 100000 in
set_option maxHeartbeats 8000000 in
theorem PySem.Challenge.cw_digitwords_k23_whole_states_spelled_out_holds : PySem.Challenge.rw_digitwords_k23_whole_states_spelled_out.Holds := by
  w_on; o_law
  refine HandSHeadRun.head_any (r := Pf.R) (q := view Pf.R.prog [61]) (H := Pf.hk) (ob := Pf.ob) (M := 6000) (loose := Pf.loose) (d := HandSHeadRun.topDef Pf.R.prog 61) (kwd := []) Pf.ob_eq
    (by kernel_rfl) (fun s => by kernel_rfl) Pf.run (by kernel_rfl) (by kernel_rfl) (by kernel_rfl) (by rfl) (by first | assumption | decide +kernel) (by decide +kernel) ⟨rfl, rfl, rfl, rfl, rfl, by decide +kernel⟩ ?hw ?hc
  case hw => w_witness2
  case hc =>
    refine L2.walk_ofE (l := PySem.Challenge.rw_digitwords_k23_whole_states_spelled_out) (n := 63) (k := 9) (x := "script") (CX := L2.CX0) rfl (by decide) (by kernel_rfl) ⟨rfl, by decide, by decide⟩ ?F (fun _ _ _ _ z => z)
    intro w mg fa h Y G hmg0
    obtain ⟨K, KX, c⟩ := Y
    have hmg : mg ("law" : PySem.Str) = some (.ref fa) := by
      have e : (HandSHeadRun.topDef Pf.R.prog 61).name = ("law" : PySem.Str) := by kernel_rfl
      rw [← e]
      exact hmg0
    obtain ⟨fd, hb, hF⟩ := Pf.facts (P := (PySem.Challenge.rw_digitwords_k23_whole_states_spelled_out).prog) (w := w) KX G hmg c
    exact ⟨K, fd, Pf.spLaw K, KX, hb, fun H a ns hl _ hS => ⟨a, ns, rfl, hS, fun _ => rfl⟩, hF⟩
