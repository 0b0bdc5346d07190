import PyProof.Rows.All
import Wide.All
import OpenK.AllK
import Wide.FinOn
import KE.KStateDown
import Lean
import HandS.ForMost
import HandS.ForExc
import HandS.Flow
import HandS.Evl
import HandS.Style
import HandS.Wide
import HandS.TupMul
import HandS.TupAny
import HandS.IsInst
import HandS.Conv
import HandS.Defaults
import HandS.HeadEnd
import HandS.Head0
import HandS.Head1
import HandS.Head2
import HandS.HeadHook1
import HandS.HeadHook2
import HandS.RaiseMore
import KE.GoesEnum
import HandS.Iter
import HandS.Walk
import KE.KRevSl
import KE.KTupSum
import HandS.List
import PyProof.ListMulRoad
import PyProof.FactsAll.tuple_2
import PySem.Challenge.RW_digitwords_k11_whole_digits
set_option Elab.async false
set_option linter.all false
set_option maxRecDepth 100000
set_option maxHeartbeats 4000000
namespace My
open PySem PySem.Spec PyProof.Rows L2
section
variable {X : Cx}
/-- ** of a great base -/
def CPowW (i j : Int) : Prop := 0 ≤ j ∧ (Builtin.Int.intBits i : Int) * j ≤ 2 ^ 27
instance {i j : Int} : Decidable (CPowW i j) := inferInstanceAs (Decidable (_ ∧ _))
theorem op_powW : OpR X (binaryOp .Pow) (rI CPowW fun i j => .int (i ^ j.toNat)) := opI fun _ _ _ _ _ _ _ hc q => pow_int hc.1 hc.2 q
end
/-- all tracked things but the one at d stay -/
def But (d : Addr) (H H' : Hp) : Prop := ∀ b o, b ≠ d → H b = some o → H' b = some o
theorem But.refl (d : Addr) (H : Hp) : But d H H := fun _ _ _ h => h
theorem But.trans {d : Addr} {H H1 H2 : Hp} (a : But d H H1) (b : But d H1 H2) : But d H H2 := fun c o n h => b c o n (a c o n h)
theorem But.of {d : Addr} {H H' : Hp} (e : Same H H') : But d H H' := fun b o _ h => e b o h
theorem But.upd {d : Addr} {H : Hp} {o : HO} : But d H (upd H d o) := fun b u n h => by rw [upd_ne n]; exact h
theorem But.updT {d : Addr} {H H1 : Hp} {o : HO} (e : But d H H1) : But d H (L2.upd H1 d o) := e.trans But.upd
/-- the dice -/
def DiceAt (H : Hp) (d : Addr) : Prop := ∃ a b c : Int, H d = some (.lst [.int a, .int b, .int c])

/-- a def of the module, by its name: it keeps a promise, wherever k rooms are left -/
def Keeps (P : Program) (w : World) (K : PySem.W.Frag) (mg : Str → Option Value) (base : Heap) (CX : CXT) (k : Nat) (x : Str) (ps : List Str) (sp : Sp) : Prop :=
  ∃ fd, FnOk P w K mg base CX k (He.ga K x) fd ps sp ∧ Binds K fd ps [] ∧ PySem.W.keepIn K (.ref (He.ga K x)) = true ∧ mg x = some (.ref (He.ga K x))
section
variable {X : Cx} {CX : CXT} {k j : Nat} {x : Str} {ps : List Str} {sp : Sp} {E : XK} {p pos : Pos} {e : Expr} {es : List Expr} {t : TA}
theorem pe_doS (F : Keeps X.prog X.w X.K X.mg X.base CX k x ps sp) (hr : Room j X.A) (hk : k ≤ j) (hg : Gl X x) (hx : Passes CX X E) (ha : PA X (e :: es) t) (hdb : (x == ("__debug__" : Str)) = false := by decide)
    (he : starEach (e :: es) X.env = (false, eval e X.env) :: starEach es X.env := by rfl) (hpl : (backTo pos (starEach es X.env)).any (·.1) = false := by rfl) :
    PE X (.Call (.Name x p) (e :: es) [] pos) (tCall sp [] E t) := by
  obtain ⟨fd, G, b, kp, m⟩ := F
  exact pe_call G (hr.mono hk) hg m kp b .nil hx ha hdb he hpl
theorem pe_do (F : Keeps X.prog X.w X.K X.mg X.base CX0 k x ps sp) (hr : Room j X.A) (hg : Gl X x) (hx : Passes CX0 X E) (ha : PA X (e :: es) t) (hk : k ≤ j := by decide) (hdb : (x == ("__debug__" : Str)) = false := by decide)
    (he : starEach (e :: es) X.env = (false, eval e X.env) :: starEach es X.env := by rfl) (hpl : (backTo pos (starEach es X.env)).any (·.1) = false := by rfl) :
    PE X (.Call (.Name x p) (e :: es) [] pos) (tCall sp [] E t) := pe_doS F hr hk hg hx ha hdb he hpl
end
/-- where a def of the text stands -/
structure DefIn (K : PySem.W.Frag) (mg : Str → Option Value) (x : Str) (st : Stmt) : Prop where
  fd : ∃ fd, FunD K x x (defArgs st) (defBody st) (defScope st) [] [] (He.ga K x) fd
  gl : mg x = some (.ref (He.ga K x))
section
variable {P : Program} {w : World} {K : PySem.W.Frag} {mg : Str → Option Value} {base : Heap} {CX : CXT} {k : Nat} {x : Str} {st : Stmt} {N ps : List Str} {sp : Sp}
theorem fun_ok0 {fd : FuncData} (F : FunD K x x (defArgs st) (defBody st) (defScope st) [] [] (He.ga K x) fd) (S : FnScope N ps (defScope st)) (len : ∀ vs H Q E, sp vs H Q E → vs.length = ps.length)
    (hbody : ∀ (cdv : Value) (A : Around) (outer : List Env) (s : Shared) (H : Hp) (vs : List V) (Q : VK) (E : XK), Room k (A.deeper (envOfC x (defScope st) s.heap.objs.size (He.ga K x) cdv)) → sp vs H Q E →
      ∃ t, PSs (cxOf CX0 P w K mg base N x (defScope st) (He.ga K x) cdv A outer s H E).nox (defBody st) t ∧ t { nx := fun _ H' => Q .non H', rt := Q } (start N vs) H) : FnOk P w K mg base CX0 (k + 1) (He.ga K x) fd ps sp := by
  refine F.ok S len fun cdv A outer s H vs Q E hr hsp => ?_
  obtain ⟨t, h, q⟩ := hbody cdv A outer s H vs Q E hr hsp
  exact ⟨t, h.nox, q⟩
theorem DefIn.keeps (D : DefIn K mg x st) (S : FnScope N ps (defScope st)) (len : ∀ vs H Q E, sp vs H Q E → vs.length = ps.length)
    (hb : ∀ (kV doc pm : Value) (an : Option Addr) (cdv ct : Value) (us : List Value), us.length = ps.length → bindArgs (PySem.W.fnOf x x (defArgs st) (defBody st) (defScope st) .none kV doc pm an cdv ct) ⟨us, []⟩ = pure (ps.zip us))
    (hbody : ∀ (cdv : Value) (A : Around) (outer : List Env) (s : Shared) (H : Hp) (vs : List V) (Q : VK) (E : XK), Room k (A.deeper (envOfC x (defScope st) s.heap.objs.size (He.ga K x) cdv)) → sp vs H Q E →
      ∃ t, PSs (cxOf CX0 P w K mg base N x (defScope st) (He.ga K x) cdv A outer s H E).nox (defBody st) t ∧ t { nx := fun _ H' => Q .non H', rt := Q } (start N vs) H) : Keeps P w K mg base CX0 (k + 1) x ps sp := by
  obtain ⟨fd, F⟩ := D.fd
  refine ⟨fd, F.ok S len fun cdv A outer s H vs Q E hr hsp => ?_, F.bindsN hb, F.kp, D.gl⟩
  obtain ⟨t, h, q⟩ := hbody cdv A outer s H vs Q E hr hsp
  exact ⟨t, h.nox, q⟩
end
/-! ### readings, step by step -/
theorem iteD {p : Prop} {_ : Decidable p} {A B : Prop} (h1 : p → A) (h2 : ¬ p → B) : if decide p = true then A else B := by
  by_cases h : p
  · rw [decide_eq_true h]; exact iteT (h1 h)
  · rw [decide_eq_false h]; exact iteF (h2 h)
theorem iteN {p : Prop} {_ : Decidable p} {A B : Prop} (h1 : ¬ p → A) (h2 : p → B) : if (!decide p) = true then A else B := by
  by_cases h : p
  · rw [decide_eq_true h]; exact iteF (h2 h)
  · rw [decide_eq_false h]; exact iteT (h1 h)
theorem iteB {b : Bool} {A B : Prop} (h1 : b = true → A) (h2 : b = false → B) : if b = true then A else B := by
  cases b
  · exact iteF (h2 rfl)
  · exact iteT (h1 rfl)
theorem iteBN {b : Bool} {A B : Prop} (h1 : b = false → A) (h2 : b = true → B) : if (!b) = true then A else B := by
  cases b
  · exact iteT (h1 rfl)
  · exact iteF (h2 rfl)
theorem nodup_ixA : ∀ {l : List Addr} (_ : l.Nodup) {i j : Nat} {d : Addr} (_ : l[i]? = some d) (_ : l[j]? = some d), i = j
  | [], _, i, j, d, h, _ => by simp at h
  | a :: l, n, 0, 0, d, _, _ => rfl
  | a :: l, n, 0, j + 1, d, h1, h2 => by
    simp at h1 h2
    exact absurd (List.mem_of_getElem? h2) (by rw [← h1]; exact (List.nodup_cons.mp n).1)
  | a :: l, n, i + 1, 0, d, h1, h2 => by
    simp at h1 h2
    exact absurd (List.mem_of_getElem? h1) (by rw [← h2]; exact (List.nodup_cons.mp n).1)
  | a :: l, n, i + 1, j + 1, d, h1, h2 => by
    simp at h1 h2
    rw [nodup_ixA (List.nodup_cons.mp n).2 h1 h2]
/-- things that are tracked, at unlike places -/
def Has (H : Hp) (l : List (Addr × HO)) : Prop := (l.map (·.1)).Nodup ∧ ∀ p ∈ l, H p.1 = some p.2
theorem Has.nil {H : Hp} : Has H [] := ⟨List.nodup_nil, fun _ h => nomatch h⟩
theorem Has.one {H : Hp} {a : Addr} {o : HO} (h : H a = some o) : Has H [(a, o)] := ⟨by simp, fun p hp => by
  rw [List.mem_singleton.mp hp]; exact h⟩
theorem Has.cons {H H' : Hp} {l : List (Addr × HO)} {a : Addr} {o : HO} (W : Has H l) (e : Same H H') (n : H a = none) (h : H' a = some o) : Has H' ((a, o) :: l) := by
  refine ⟨?_, fun p hp => ?_⟩
  · rw [List.map_cons, List.nodup_cons]
    refine ⟨fun hm => ?_, W.1⟩
    obtain ⟨q, hq, e2⟩ := List.mem_map.mp hm
    have := W.2 q hq
    rw [e2, n] at this
    cases this
  · rcases List.mem_cons.mp hp with rfl | hp
    · exact h
    · exact e _ _ (W.2 p hp)
theorem Has.same {H H' : Hp} {l : List (Addr × HO)} (W : Has H l) (e : Same H H') : Has H' l := ⟨W.1, fun p hp => e _ _ (W.2 p hp)⟩
theorem Has.drop {H : Hp} {l : List (Addr × HO)} {p : Addr × HO} (W : Has H (p :: l)) : Has H l := ⟨(List.nodup_cons.mp W.1).2, fun q hq => W.2 q (List.mem_cons_of_mem _ hq)⟩
/-- the i-th one is changed -/
theorem Has.but {H H' : Hp} {l : List (Addr × HO)} {d : Addr} {o o' : HO} (i : Nat) (W : Has H l) (hi : l[i]? = some (d, o)) (e : But d H H') (h : H' d = some o') : Has H' (l.set i (d, o')) := by
  have hlt : i < l.length := by
    rcases Nat.lt_or_ge i l.length with h1 | h1
    · exact h1
    · rw [List.getElem?_eq_none h1] at hi; cases hi
  have em : (l.set i (d, o')).map (·.1) = l.map (·.1) := by
    apply List.ext_getElem?
    intro j
    rw [List.getElem?_map, List.getElem?_map, List.getElem?_set]
    by_cases hj : i = j
    · subst hj
      simp [hlt]
      rw [List.getElem?_eq_getElem hlt] at hi
      have := Option.some.inj hi
      rw [this]
    · rw [if_neg hj]
  refine ⟨by rw [em]; exact W.1, fun p hp => ?_⟩
  obtain ⟨j, hj, ej⟩ := List.getElem_of_mem hp
  rw [List.getElem_set] at ej
  by_cases hij : i = j
  · rw [if_pos hij] at ej
    rw [← ej]
    exact h
  · rw [if_neg hij] at ej
    have hj' : j < l.length := by rw [List.length_set] at hj; exact hj
    have hp' : p ∈ l := by rw [← ej]; exact List.getElem_mem hj'
    refine e _ _ (fun hd => ?_) (W.2 p hp')
    have n := W.1
    have h1 : (l.map (·.1))[i]? = some d := by rw [List.getElem?_map, hi]; rfl
    have h2 : (l.map (·.1))[j]? = some d := by rw [List.getElem?_map, List.getElem?_eq_getElem hj', ej]; simp [hd]
    exact hij (nodup_ixA n h1 h2)
theorem Has.upd {H : Hp} {l : List (Addr × HO)} {d : Addr} {o o' : HO} (i : Nat) (W : Has H l) (hi : l[i]? = some (d, o)) : Has (L2.upd H d o') (l.set i (d, o')) := W.but i hi But.upd upd_same
theorem Has.get {H : Hp} {l : List (Addr × HO)} (i : Nat) (W : Has H l) {d : Addr} {o : HO} (hi : l[i]? = some (d, o)) : H d = some o := W.2 _ (List.mem_of_getElem? hi)
/-- a new thing: the heap behind it is any that has it, and all that was -/
@[elab_as_elim] theorem new_of {H : Hp} {p : Addr} {o : HO} {motive : Hp → Prop} (n : H p = none) (h : ∀ H', Same H H' → H' p = some o → motive H') : motive (L2.upd H p o) :=
  h _ (fun b u e => by rw [upd_ne (ne_of_none e n)]; exact e) upd_same
section
variable {K : PySem.W.Frag} {H : Hp} {p : Addr} {xs : List V} {i : Int} {v : V} {Q : VK}
theorem rIxL_of (h : H p = some (.lst xs)) (hv : atI xs i = some v) (q : Q v H) : rIxL K (.ref p) (.int i) H Q := ⟨p, xs, i, v, rfl, rfl, SqL.of h, hv, q⟩
theorem rIxL_sq (h : SqL K H p xs) (hv : atI xs i = some v) (q : Q v H) : rIxL K (.ref p) (.int i) H Q := ⟨p, xs, i, v, rfl, rfl, h, hv, q⟩
theorem rIxT_of (h : H p = some (.tup xs)) (hv : atI xs i = some v) (q : Q v H) : rIxT K (.ref p) (.int i) H Q := ⟨p, xs, i, v, rfl, rfl, SqT.of h, hv, q⟩
theorem rI_of {C : Int → Int → Prop} {g : Int → Int → V} {a b : Int} (hc : C a b) (q : Q (g a b) H) : rI C g (.int a) (.int b) H Q := ⟨a, b, rfl, rfl, hc, q⟩
theorem rI0_of {g : Int → Int → V} {a b : Int} (q : Q (g a b) H) : rI0 g (.int a) (.int b) H Q := ⟨a, b, rfl, rfl, q⟩
theorem set_of {xs : List V} {v : V} {j : Nat} {Q : Hp → Prop} (h : H p = some (.lst xs)) (hj : ixN xs.length i = some j) (q : ∀ H', But p H H' → H' p = some (.lst (xs.set j v)) → Q H') : rSetL (.ref p) (.int i) v H Q :=
  ⟨p, xs, i, j, rfl, rfl, h, hj, q _ But.upd upd_same⟩
theorem cmulL {a b : Int} (h : -(2 ^ 64) < a) (h2 : a < 2 ^ 64) : CMul a b := .inl ⟨h, h2⟩
theorem cmulR {a b : Int} (h : -(2 ^ 64) < b) (h2 : b < 2 ^ 64) : CMul a b := .inr ⟨h, h2⟩
end
/-- an expression, what is known behind it said in between -/
def tMid (te : TE) : TE := fun σ H Q => ∃ R : VK, te σ H R ∧ ∀ v H', R v H' → Q v H'
theorem pe_mid {X : Cx} {e : Expr} {te : TE} (h : PE X e te) : PE X e (tMid te) := ⟨fun pins s σ H Q I ⟨R, h1, h2⟩ =>
  thn (h.run pins s σ H R I h1) fun u s1 ⟨v, H1, I1, r, q⟩ => ⟨v, H1, I1, r, h2 _ _ q⟩⟩
end My

set_option Elab.async false
set_option linter.all false
set_option maxRecDepth 100000
set_option maxHeartbeats 4000000
namespace My
open PySem PySem.Spec PyProof.Rows L2
/-! ### enumerate(tuple) -/
set_option maxHeartbeats 4000000 in
theorem meets_enum1 {v : Value} {o : Obj} {H : Heap → Prop} (B : Begins v o H) :
    Meets (Builtin.«enumerate.__new__» ⟨[.type "enumerate", v], []⟩) (fun _ R s => H s.heap ∧
      R (.ok (.ret (.ref (s.heap.push o).objs.size))) { s with heap := (s.heap.push o).push { cls := .type "enumerate", data := .fields #[.none, .bool false, .ref s.heap.objs.size, rawInt 0, .none, .none] } }) :=
  .of_wp fun prog w A R s h => by
    obtain ⟨hp, g, d, tk, os⟩ := s
    obtain ⟨h1, h⟩ := h
    have hsub := sub_enumerate
    have step : ∀ {A' : Around} {E : Value → Shared → Prop} {Q : Value → Shared → Prop}, Q (.ref hp.objs.size) ⟨hp.push o, g, d, tk, os⟩ → wpAny (model prog w) A' (pyIter v) Q E ⟨hp, g, d, tk, os⟩ :=
      fun q => B.iter prog w _ _ ⟨hp, g, d, tk, os⟩ _ h1 q
    wp_walk using step
    refine wpAny_stack_any fun st => wpAny_pure ?_
    split
    · rename_i c _ _ _ _ _
      cases (c == Value.type "enumerate")
      · wp_walk using step
        exact ⟨_, rfl, h⟩
      · wp_walk using step
        exact ⟨_, rfl, h⟩
    · wp_walk using step
      exact ⟨_, rfl, h⟩
theorem call_enum1 {prog : Program} {w : World} {A : Around} {E : Value → Shared → Prop} {s : Shared} {v : Value} {o : Obj} {G : Heap → Prop} {Q : Value → Shared → Prop} (B : Begins v o G) (h1 : G s.heap)
    (h : ∀ h', IsEnum h' (s.heap.objs.size + 1) s.heap.objs.size 0 .none → h'.get? s.heap.objs.size = some o → h'.objs.size = s.heap.objs.size + 2 →
      (∀ b u, s.heap.get? b = some u → h'.get? b = some u) → Q (.ref (s.heap.objs.size + 1)) { s with heap := h' }) :
    wpAny (model prog w) A (call (.type "enumerate") [v]) Q E s := by
  refine callType_new F.called_enumerate (by decide) (F.typeCall_enumerate_1 _) (F.newCall_enumerate_1 _) (fun obj => F.args_object_init_2 obj _) F.entry_enumerate_new (meets_enum1 B) ⟨h1, ?_⟩
  have hz : (s.heap.push o).objs.size = s.heap.objs.size + 1 := Heap.size_push ..
  show _ ∧ _
  rw [hz]
  have hn := Heap.get?_push_size (s.heap.push o) (o := { cls := .type "enumerate", data := .fields #[.none, .bool false, .ref s.heap.objs.size, rawInt 0, .none, .none] }) rfl
  rw [hz] at hn
  exact ⟨⟨_, hn, rfl⟩, h _ hn (Heap.get?_push_of_some _ (Heap.get?_push_size _ B.free)) (by rw [Heap.size_push, hz]) fun b u x => Heap.get?_push_of_some _ (Heap.get?_push_of_some _ x)⟩
/-- the items of the tuple at a, each in a new pair with its index -/
def Iet (K : PySem.W.Frag) (a : Addr) : It :=
  ⟨fun i H => ∃ (xs : List V) (x : V), SqT K H a xs ∧ xs[i]? = some x, fun i H v H' => ∃ T x, v = .ref T ∧ H T = none ∧ H' = upd H T (.tup [.int (i : Nat), x]) ∧ ∀ xs, SqT K H a xs → xs[i]? = some x, fun i H => ∃ xs : List V, SqT K H a xs ∧ xs.length = i⟩
theorem turn_enumT {P : Program} {w : World} {K : PySem.W.Frag} {elts : List Expr} {kk : Nat} {tpos : Pos} (a e it : Addr) (hne : e ≠ it) (hai : a ≠ it) (hae : a ≠ e) :
    Turn P w K (.Tuple elts kk tpos) (Iet K a) [e, it] e (fun i h => (∃ old, IsEnum h e it ((i : Nat) : Int) old) ∧ h.IsTupleIter it a i) where
  mem := by simp
  obj := fun i h st b hb => by
    obtain ⟨⟨old, he⟩, ⟨o, ho, hc, hd⟩⟩ := st
    rcases (show b = e ∨ b = it by simpa using hb) with z | z
    · rw [z]; exact ⟨_, he, fun v q => nomatch q⟩
    · rw [z]; exact ⟨o, ho, fun v q => by rw [hd] at q; cases q⟩
  keep := fun i h h' st k => let ⟨⟨old, he⟩, hi⟩ := st; ⟨⟨old, k e (by simp) _ he⟩, hi.at fun o q => k it (by simp) o q⟩
  item := by
    intro X hP hw hK hc i pins s σ H E I hf st hg
    subst hP hw hK
    obtain ⟨⟨old, he⟩, hit⟩ := st
    obtain ⟨xs, x, hq, hx⟩ := hg
    obtain ⟨its, rv, p, hz⟩ := I.tuple hq
    obtain ⟨u, hu, ru⟩ := rv.get hx
    have hel : e < s.heap.objs.size := Heap.lt_size he
    have hil : it < s.heap.objs.size := by obtain ⟨_, q, _⟩ := hit; exact Heap.lt_size q
    have hh := I.ok.hd hc
    have D := Draws.tuple (prog := X.prog) (w := X.w) (A := X.A.in1) hh it a hai its.toArray
    have hu2 : its.toArray[i]? = some u := by simpa using hu
    have hlt : i < its.toArray.size := by
      rcases Nat.lt_or_ge i its.toArray.size with z | z
      · exact z
      · rw [Array.getElem?_eq_none z] at hu2; cases hu2
    refine wpAny_pyNext_enum_itemC D he ⟨hit, show s.heap.IsTuple a its.toArray from p⟩ hlt hne (by simp [hne, Ne.symm hae]) fun y h' tk hP ho hs' hT hsz hk => ?_
    have ey : y = u := by rw [hu2] at hP; exact (Option.some.inj hP).symm
    subst ey
    refine ⟨_, rfl, wpAny_letOwnedTupleGo_enum (s := { s with heap := h', toks := tk + 1 }) ho fun h'' he' sb => ?_⟩
    have hT2 : h''.get? s.heap.objs.size = some { cls := .type "tuple", data := .seq #[.int i tk, y] } := (sb.2 _ (Nat.ne_of_gt hel)).trans hT
    have new : ObjOk X.prog X.w (upd H s.heap.objs.size (.tup [.int (i : Nat), x])) h'' s.heap.objs.size (.tup [.int (i : Nat), x]) :=
      ⟨by show 2 ≤ sizeLine; decide, [.int i tk, y], .cons ⟨_, rfl⟩ (.cons ru .nil), ⟨_, hT2, rfl, _, rfl⟩⟩
    have I1 : Inv X pins σ (upd H s.heap.objs.size (.tup [.int (i : Nat), x])) { s with heap := h'', toks := tk + 1 } :=
      I.turnedNew (ch := [e, it]) (fun b ob hb q => (sb.2 b (fun z => hb (by simp [z]))).trans (hk b ob (fun z => hb (by simp [z])) (fun z => hb (by simp [z])) q)) hf (Nat.le_refl _) new
    refine ⟨.ref s.heap.objs.size, _, I1, rfl, ⟨_, x, rfl, I.hok.fresh (Nat.le_refl _), rfl, fun ys hy => by rw [I.tuple_inj hy hq]; exact hx⟩, ⟨⟨y, ?_⟩, hs'.1.at fun o q => (sb.2 it (Ne.symm hne)).trans q⟩, fun b hb => ?_⟩
    · have e1 : ((i + 1 : Nat) : Int) = (i : Int) + 1 := by omega
      rw [e1]; exact he'
    · have hb' : b < s.heap.objs.size := by
        rcases (show b = e ∨ b = it by simpa using hb) with z | z
        · rw [z]; exact hel
        · rw [z]; exact hil
      rw [upd_ne (Nat.ne_of_lt hb')]
      exact (hf b hb).1
  done := by
    intro X hP hw hK hc i pins s σ H E I hf st hg
    subst hP hw hK
    obtain ⟨⟨old, he⟩, hit⟩ := st
    obtain ⟨xs, hq, hx⟩ := hg
    obtain ⟨its, rv, p, hz⟩ := I.tuple hq
    obtain ⟨f0, f1, f2, f3, f4, f5⟩ := hf it (by simp)
    have hl := rv.length
    have ei : i = its.toArray.size := by simp; omega
    have D := Draws.tuple (prog := X.prog) (w := X.w) (A := X.A.in1) (I.ok.hd hc) it a hai its.toArray
    rw [ei] at hit he
    exact wpAny_pyNext_enum_endD D he ⟨hit, show s.heap.IsTuple a its.toArray from p⟩ fun h' eb => ⟨rfl, I.turned (t' := s.toks) (fun b o hb q => eb b o hb q) f0 f1 f3 f4 f5⟩
  self := fun A i s Q E st h => let ⟨⟨_, he⟩, _⟩ := st; wpAny_pyIter_enum he h
def iEnT (K : PySem.W.Frag) (ta : TA) : TI := fun σ H R => ta σ H fun vs H1 => ∃ a xs, vs = [.ref a] ∧ SqT K H1 a xs ∧ R (Iet K a) H1
theorem pi_enumT {X : Cx} {e : Expr} {ta : TA} {p pos tpos : Pos} {elts : List Expr} {kk : Nat} (hg : Gl X "enumerate") (hm : X.mg "enumerate" = none) (ha : PA X [e] ta) (hs : starEach [e] X.env = [(false, eval e X.env)] := by rfl) :
    PI X (.Tuple elts kk tpos) (.Call (.Name "enumerate" p) [e] [] pos) (iEnT X.K ta) := by
  refine ⟨fun pins s σ H R I h => ?_⟩
  refine Call_ (ld_blt I hg hm boot_enumerate (PyProof.Rows.callWith_type1 (thn (ha.run pos pins s σ H _ I h) fun us s1 ⟨vs, H1, I1, r1, q1⟩ => ?_) hs rfl))
  obtain ⟨a, xs, ex, hq, q⟩ := q1
  subst ex
  cases r1 with
  | cons r rr =>
    cases rr
    cases r
    obtain ⟨its, rv, p', hz⟩ := I1.tuple hq
    have hal : a < s1.heap.objs.size := p'.lt
    refine call_enum1 (begins_tuple a its.toArray) (show s1.heap.IsTuple a its.toArray from p') fun h' he hit hsz hk => wpAny_pyIter_enum he ?_
    have I2 : Inv X pins σ H1 { s1 with heap := h' } := I1.kept (t' := s1.toks) hk
    refine ⟨s1.heap.objs.size + 1, [s1.heap.objs.size + 1, s1.heap.objs.size], _, _, H1, rfl, I2, turn_enumT a (s1.heap.objs.size + 1) s1.heap.objs.size (Nat.succ_ne_self _) (Nat.ne_of_lt hal) (Nat.ne_of_lt (Nat.lt_succ_of_lt hal)), ⟨⟨.none, he⟩, ⟨_, hit, rfl, rfl⟩⟩, fun b hb => ?_, q⟩
    have hle : s1.heap.objs.size ≤ b := by
      rcases (show b = s1.heap.objs.size + 1 ∨ b = s1.heap.objs.size by simpa using hb) with z | z
      · rw [z]; exact Nat.le_add_right _ _
      · rw [z]; exact Nat.le_refl _
    exact I1.fpOk hle (I1.hok.fresh hle)
section
variable {K : PySem.W.Frag} {a : Addr} {xs : List V}
theorem walk_enumT : Walk (Iet K a) xs.length (fun H => SqT K H a xs) (YPair (fun i => some (.int (i : Nat))) (fun i => xs[i]?)) := by
  refine ⟨fun i _ hi q => ⟨xs, xs[i], q, by simp [hi]⟩, fun _ q => ⟨xs, q, rfl⟩, fun i H v H' _ q y => ?_⟩
  obtain ⟨T, x, h1, h2, h3, h4⟩ := y
  exact ⟨T, .int (i : Nat), x, h1, h2, h3, rfl, h4 xs q⟩
end
/-! ### sum of a tuple of ints -/
def rSumT (K : PySem.W.Frag) : List V → Hp → VK → Prop := fun vs H Q => ∃ (a : Addr) (ns : List Int), vs = [V.ref a] ∧ SqT K H a (ns.map V.int) ∧ Q (.int ns.sum) H
theorem cr_sumT {X : Cx} (hc : X.calm = true) : CallR X (.builtin "sum") (rSumT X.K) := by
  intro pins s σ H vs us Q I r h
  obtain ⟨a, ns, rfl, hs, q⟩ := h
  obtain ⟨its, rv, p, _⟩ := I.tuple hs
  rw [Vals.ref1 r]
  obtain ⟨xs, e⟩ := rv.ints.allInts.items
  have hn : numsOf (intItems xs).toList = ns := by rw [← e]; exact rv.ints.numsOf
  rw [nums_intItems] at hn
  have ht : s.heap.IsTuple a its.toArray := p
  rw [e] at ht
  refine PySem.W.ktm_sumG (I.ok.hd hc) ht fun h' tk t' hk => ?_
  rw [preSum_eq, List.take_of_length_le (by simp), hn]
  exact ⟨.int _, H, I.kept hk, ⟨_, rfl⟩, q⟩
/-! ### t[::-1] of a tuple -/
section
variable {prog : Program} {w : World} {A : Around} {E : Value → Shared → Prop} {s : Shared}
theorem sliceApplied_back {sl : Addr} {tk : Tok} {n : Nat} {Q : Int × Int × Nat → Shared → Prop} (hs : s.heap.IsSliceOf sl .none .none (.int (-1) tk))
    (h : Q ((n : Int) - 1, -1, n) s) : wpAny (model prog w) A (Builtin.Slice.sliceApplied (.ref sl) (pure (n : Int))) Q E s := by
  obtain ⟨os, hos, hcs, hds⟩ := id hs
  unfold Builtin.Slice.sliceApplied Builtin.Slice.sliceFields
  refine wpAny_bind (wpAny_bind (wpAny_field hos hds (x := .none) rfl (wpAny_bind (wpAny_field hos hds (x := .none) rfl (wpAny_bind (wpAny_field hos hds (x := .int (-1) tk) rfl (wpAny_pure ?_)))))))
  refine wpAny_bind (slicePart_int ?_)
  show wpAny _ _ (if ((-1 : Int) == 0) = true then _ else _) _ _ s
  rw [if_neg (by decide)]
  refine wpAny_bind (slicePart_none (wpAny_bind (slicePart_none (wpAny_bind (wpAny_pure ?_)))))
  show wpAny _ _ (match Builtin.Slice.sliceAdjust none none (-1) (n : Int) with | (lo, hi) => pure (lo, (-1 : Int), Builtin.Slice.slicePlaces lo hi (-1))) _ _ s
  have e1 : Builtin.Slice.sliceAdjust none none (-1) (n : Int) = ((n : Int) - 1, -1) := rfl
  rw [e1]
  show wpAny _ _ (pure ((n : Int) - 1, (-1 : Int), Builtin.Slice.slicePlaces ((n : Int) - 1) (-1) (-1))) _ _ s
  have e2 : Builtin.Slice.slicePlaces ((n : Int) - 1) (-1) (-1) = n := by
    unfold Builtin.Slice.slicePlaces
    rw [if_neg (by decide)]
    split
    · rw [show (-(-1 : Int)) = 1 from rfl, Int.ediv_one]; omega
    · omega
  rw [e2]
  exact wpAny_pure h
theorem pick_back (xs : Array Value) : ((List.range xs.size).filterMap fun (k : Nat) => xs[(((xs.size : Int) - 1) + (k : Int) * (-1)).toNat]?).toArray = xs.toList.reverse.toArray := by
  have e : ((List.range xs.size).filterMap fun (k : Nat) => xs[(((xs.size : Int) - 1) + (k : Int) * (-1)).toNat]?) = ((List.range xs.size).map fun k => xs.size - 1 - k).filterMap (xs[·]?) := by
    rw [List.filterMap_map]
    congr 1
    funext k
    show xs[(((xs.size : Int) - 1) + (k : Int) * (-1)).toNat]? = xs[xs.size - 1 - k]?
    rw [show (((xs.size : Int) - 1) + (k : Int) * (-1)).toNat = xs.size - 1 - k by omega]
  rw [e, PySem.W.krv_range, List.filterMap_reverse, PySem.W.krv_all]
theorem getItem_back {t sl : Addr} {items : Array Value} {tk : Tok} {Q : Value → Shared → Prop} (ht : IsTup s.heap t items) (hs : s.heap.IsSliceOf sl .none .none (.int (-1) tk))
    (h : Q (.ref s.heap.objs.size) { s with heap := s.heap.push { cls := .type "tuple", data := .seq items.toList.reverse.toArray } })
    (hsz : items.size ≤ sizeLine) : wpAny (model prog w) A (getItem (.ref t) (.ref sl)) Q E s := by
  have htake : sizeOk (.seq items.toList.reverse.toArray) := by
    show items.toList.reverse.toArray.size ≤ sizeLine
    rw [List.size_toArray, List.length_reverse, Array.length_toList]
    exact hsz
  obtain ⟨os, hos, hcs, hds⟩ := id hs
  have hTs : s.TypeIs (.ref sl) "slice" := ⟨os, hos, hcs⟩
  unfold getItem
  try with_reducible refine wpAny_holding ?_
  first | refine wpAny_bind (wpAny_pure ?_) | skip
  refine wpAny_bind (wpAny_sequenceKey ht.typeIs (by decide) ?_)
  refine wpAny_bind (wpAny_callSpecial?_slot (name := Str.ofString "__getitem__") ht.typeIs PyProof.Rows.slot_tuple_getitem
    (wpAny_call_entry PyProof.Rows.slot_tuple_getitem ht.typeIs entry_tuple_getitem ?_ (args_tuple_getitem _ _)))
  show wpAny _ _ (Builtin.Tuple.tupleItemsOf (.ref t) >>= _) _ _ s
  refine wpAny_bind (tupleItemsOf_ ht ?_)
  refine wpAny_bind (wpAny_typeOf hTs ?_)
  rw [if_pos (by decide)]
  refine wpAny_bind (sliceApplied_back hs ?_)
  have hno : ¬ ((((items.size : Int) - 1) == 0 && (-1 : Int) == 1 && items.size == items.size) = true) := by
    intro q
    rw [Bool.and_eq_true, Bool.and_eq_true] at q
    exact absurd q.1.2 (by decide)
  show wpAny _ _ (if (((items.size : Int) - 1) == 0 && (-1 : Int) == 1 && items.size == items.size) = true then _ else _) _ _ s
  rw [if_neg hno, pick_back]
  first
    | exact wpAny_bind (m := Builtin.Tuple.tupleExact _) (wpAny_newObj_type (wpAny_pure ⟨_, rfl, wpAny_pure h⟩) htake)
    | exact wpAny_bind (m := Builtin.Tuple.tupleExact _) (wpAny_newObj_type (wpAny_bind (wpAny_pure (wpAny_pure ⟨_, rfl, wpAny_pure h⟩))) htake)
    | exact wpAny_bind (wpAny_bind (m := Builtin.Tuple.tupleExact _) (wpAny_newObj_type (wpAny_pure (wpAny_pure ⟨_, rfl, wpAny_pure h⟩)) htake))
    | exact wpAny_bind (wpAny_bind (m := Builtin.Tuple.tupleExact _) (wpAny_newObj_type (wpAny_pure ⟨_, rfl, wpAny_pure h⟩) htake))
end
def tRevT (K : PySem.W.Frag) (te : TE) : TE := fun σ H Q => te σ H fun x H1 => ∃ a xs, x = .ref a ∧ SqT K H1 a xs ∧ ∀ p, H1 p = none → Q (.ref p) (upd H1 p (.tup xs.reverse))
theorem pe_revT {X : Cx} {e : Expr} {te : TE} {k : Nat} {p1 p2 p3 pos : Pos} (he : PE X e te) : PE X (.Subscript e (.Slice none none (some (.UnaryOp .USub (.Constant (.int 1) k p1) p2)) p3) pos) (tRevT X.K te) := by
  refine ⟨fun pins s σ H Q I h => ?_⟩
  refine Subscript_ (thn (he.run pins s σ H _ I h) fun v s1 ⟨x, H1, I1, r1, q1⟩ => ?_)
  obtain ⟨a, xs, ex, hx, q⟩ := q1
  subst ex
  cases r1
  have hst : PO X (some (.UnaryOp .USub (.Constant (.int 1) k p1) p2)) (tPart (tUn (rU fun i => .int (-i)) (tC (.int 1)))) := po_some (pe_un un_neg pe_int)
  refine wpAny_Slice (thn (po_none.run pins s1 σ H1 (fun o H2 => o = none ∧ H2 = H1) I1 ⟨rfl, rfl⟩) fun vl s2 ⟨l, H2, I2, pl, el, e2⟩ => ?_)
  subst el e2
  refine thn (po_none.run pins s2 σ H2 (fun o H3 => o = none ∧ H3 = H2) I2 ⟨rfl, rfl⟩) fun vu s3 ⟨u, H3, I3, pu, eu, e3⟩ => ?_
  subst eu e3
  refine thn (hst.run pins s3 σ H3 (fun o H4 => o = some (-1) ∧ H4 = H3) I3 ⟨1, rfl, -1, rfl, rfl, rfl⟩) fun vs s4 ⟨o, H4, I4, ps, eo, e4⟩ => ?_
  subst eo e4
  cases pl
  cases pu
  cases ps with
  | int _ tk =>
  have I5 : Inv X pins σ H4 { s4 with heap := s4.heap.push { cls := .type "slice", data := .fields #[.none, .none, .int (-1) tk] } } := I4.kept (t' := s4.toks) fun b ob q => Heap.get?_push_of_some _ q
  obtain ⟨its, r, ht, hz⟩ := I5.tuple hx
  have hlen := r.length
  show wpAny (model X.prog X.w) X.A (subscriptTail e (.Slice none none (some (.UnaryOp .USub (.Constant (.int 1) k p1) p2)) p3) (.ref a) (.ref s4.heap.objs.size)) (EP X pins σ Q) X.xe { s4 with heap := s4.heap.push { cls := .type "slice", data := .fields #[.none, .none, .int (-1) tk] } }
  refine tail_any (ops := [.ref a, .ref s4.heap.objs.size]) ht.typeIs (PyProof.Rows.slot_tuple_getitem.lookup) ?_ (by with_unfolding_all rfl)
  refine getItem_back ht (Heap.IsSliceOf.new _ .none .none (.int (-1) tk)) ?_ (by rw [List.size_toArray]; omega)
  refine ⟨.ref _, _, I5.laid (t' := s4.toks) (o := .tup xs.reverse) (fun b ob q => Heap.get?_push_of_some _ q) (Nat.le_refl _) ?_, rfl, q _ (I5.hok.fresh (Nat.le_refl _))⟩
  exact ⟨by rw [List.length_reverse]; exact hz, its.reverse, r.reverse, ⟨_, Heap.get?_push_size _ rfl, rfl, _, rfl⟩⟩
end My

set_option Elab.async false
set_option linter.all false
set_option maxRecDepth 100000
set_option maxHeartbeats 4000000
namespace My
open PySem PySem.Spec PyProof.Rows L2
/-! ### tuple * int, any number of times -/
theorem tup_mul1 (l : Addr) (items : Array Value) (n : Nat) (dd : Option Addr) (sl : Array (Option Value)) (x : Int) (u : Tok) (c0 : (decide (x < -(2 ^ 63)) || decide (x ≥ 2 ^ 63)) = false) (c1 : (items.isEmpty || x == 1) = true) :
    Meets (Builtin.«tuple.__mul__» ⟨[.ref l, .int x u], []⟩) (fun _ R s => s.heap.get? l = some { cls := .type "tuple", dict := dd, data := .seq items n, slots := sl } ∧ R (.ok (.ret (Value.ref l))) s) :=
  .of_wp fun prog w A R s h => by
    obtain ⟨hp, g, d, tk, os⟩ := s
    obtain ⟨hl, h⟩ := h
    have f1 := AutoSeq1.idx_int
    wp_walk using wpAny_loadPart' hl
    repeat (first
      | (refine wpAny_ite_false (decide_eq_false (by rw [c0]; exact Bool.false_ne_true)) ?_; wp_walk using wpAny_loadPart' hl)
      | (refine wpAny_ite_true (decide_eq_true c1) ?_; wp_walk using wpAny_loadPart' hl))
    exact ⟨_, rfl, h⟩
theorem tup_mul0 (l : Addr) (items : Array Value) (n : Nat) (dd : Option Addr) (sl : Array (Option Value)) (x : Int) (u : Tok) (c0 : (decide (x < -(2 ^ 63)) || decide (x ≥ 2 ^ 63)) = false) (c1 : (items.isEmpty || x == 1) = false) (c2 : (decide (x ≤ 0) || items.isEmpty) = true) :
    Meets (Builtin.«tuple.__mul__» ⟨[.ref l, .int x u], []⟩) (fun _ R s => s.heap.get? l = some { cls := .type "tuple", dict := dd, data := .seq items n, slots := sl } ∧
      R (.ok (.ret (Value.ref s.heap.objs.size))) { s with heap := s.heap.push { cls := Value.type "tuple", data := Data.seq #[] }, toks := s.toks }) :=
  .of_wp fun prog w A R s h => by
    obtain ⟨hp, g, d, tk, os⟩ := s
    obtain ⟨hl, h⟩ := h
    have f1 := AutoSeq1.idx_int
    wp_walk using wpAny_loadPart' hl
    repeat (first
      | (refine wpAny_ite_false (decide_eq_false (by rw [c0]; exact Bool.false_ne_true)) ?_; wp_walk using wpAny_loadPart' hl)
      | (refine wpAny_ite_false (decide_eq_false (by rw [c1]; exact Bool.false_ne_true)) ?_; wp_walk using wpAny_loadPart' hl)
      | (refine wpAny_ite_true (decide_eq_true c2) ?_; wp_walk using wpAny_loadPart' hl))
    exact ⟨_, rfl, h⟩
/-- what stands behind: a tuple of these, new or that of before -/
def TupTo (K : PySem.W.Frag) (ys : List V) (H : Hp) (Q : VK) : Prop := ∀ p H', Same H H' → SqT K H' p ys → Q (.ref p) H'
theorem same_new {H : Hp} {p : Addr} {o : HO} (n : H p = none) : Same H (upd H p o) := fun b u e => by rw [upd_ne (ne_of_none e n)]; exact e
theorem TupTo.new {K : PySem.W.Frag} {ys : List V} {H : Hp} {Q : VK} (h : TupTo K ys H Q) : ∀ p, H p = none → Q (.ref p) (upd H p (.tup ys)) := fun p n => h p _ (same_new n) (.of upd_same)
theorem TupTo.old {K : PySem.W.Frag} {ys : List V} {H : Hp} {Q : VK} {p : Addr} (h : TupTo K ys H Q) (e : SqT K H p ys) : Q (.ref p) H := h p _ (Same.refl H) e
def rRepA (K : PySem.W.Frag) : R2 := fun x y H Q => ∃ l k xs, x = .ref l ∧ y = .int k ∧ SqT K H l xs ∧ -1000000 ≤ k ∧ k ≤ 1000 ∧ xs.length ≤ 1000 ∧ TupTo K (List.replicate k.toNat xs).flatten H Q
theorem op_repA {X : Cx} : OpR X (binaryOp .Mult) (rRepA X.K) := by
  intro pins s σ H x y v u Q I rx ry h
  obtain ⟨l, k, xs, rfl, rfl, hT, hlo, hhi, hz, q⟩ := h
  by_cases big : xs ≠ [] ∧ 2 ≤ k
  · exact op_repT pins s σ H _ _ v u Q I rx ry ⟨l, k, xs, rfl, rfl, hT, big.1, big.2, hhi, hz, q.new⟩
  cases rx
  obtain ⟨t, rfl⟩ := ry
  obtain ⟨its, r, ⟨⟨cls, dd, data, sl⟩, ho, hc, n, hd⟩, hs⟩ := I.tuple hT
  simp only at hc hd
  subst hc hd
  have c0 : (decide (k < -(2 ^ 63)) || decide (k ≥ 2 ^ 63)) = false := by
    rw [decide_eq_false (by omega), decide_eq_false (by omega)] <;> rfl
  have emp : its.toArray.isEmpty = true ↔ xs = [] := by
    have hl := r.length
    cases its <;> cases xs <;> simp_all
  by_cases one : xs = [] ∨ k = 1
  · have c1 : (its.toArray.isEmpty || k == 1) = true := by
      rcases one with e | e
      · rw [emp.mpr e] <;> rfl
      · rw [e]; simp
    have er : (List.replicate k.toNat xs).flatten = xs := by
      rcases one with e | e
      · rw [e]; simp
      · rw [e]; simp
    rw [er] at q
    exact wpAny_binaryOp_repeat_ref (T := "tuple") (U := "int") (by decide) ⟨_, ho, rfl⟩ (fun s' => typeIs_int s' k t) noFill_tuple_mul F.fills_int_mul F.slot_int_rmul repeat_tuple F.slot_int_index.lookup
      (call_meets F.slot_int_rmul (typeIs_int s k t) F.entry_int_rmul (F.args_int_rmul_2 _ _) (int_rmul_tuple k t l its.toArray n dd sl)
        ⟨ho, rfl, ⟨_, ho, rfl⟩, call_meets F.slot_tuple_mul ⟨_, ho, rfl⟩ F.entry_tuple_mul (F.args_tuple_mul_2 _ _) (tup_mul1 l its.toArray n dd sl k t c0 c1) ⟨ho, .ref l, H, I, rfl, q.old hT⟩⟩)
  · have hne : xs ≠ [] := fun e => one (.inl e)
    have hk : k ≤ 0 := by
      have h1 : k ≠ 1 := fun e => one (.inr e)
      have h2 : ¬ 2 ≤ k := fun e => big ⟨hne, e⟩
      omega
    have hi : its.toArray.isEmpty = false := by
      cases e : its.toArray.isEmpty with
      | false => rfl
      | true => exact absurd (emp.mp e) hne
    have c1 : (its.toArray.isEmpty || k == 1) = false := by
      rw [hi, Bool.false_or]
      exact beq_eq_false_iff_ne.mpr (by omega)
    have c2 : (decide (k ≤ 0) || its.toArray.isEmpty) = true := by rw [decide_eq_true hk] <;> rfl
    have er : (List.replicate k.toNat xs).flatten = [] := by rw [show k.toNat = 0 by omega]; rfl
    rw [er] at q
    refine wpAny_binaryOp_repeat_ref (T := "tuple") (U := "int") (by decide) ⟨_, ho, rfl⟩ (fun s' => typeIs_int s' k t) noFill_tuple_mul F.fills_int_mul F.slot_int_rmul repeat_tuple F.slot_int_index.lookup
      (call_meets F.slot_int_rmul (typeIs_int s k t) F.entry_int_rmul (F.args_int_rmul_2 _ _) (int_rmul_tuple k t l its.toArray n dd sl)
        ⟨ho, rfl, ⟨_, ho, rfl⟩, call_meets F.slot_tuple_mul ⟨_, ho, rfl⟩ F.entry_tuple_mul (F.args_tuple_mul_2 _ _) (tup_mul0 l its.toArray n dd sl k t c0 c1 c2) ⟨ho, ?_⟩⟩)
    refine ⟨.ref s.heap.objs.size, _, I.laid (t' := s.toks) (o := .tup []) (fun b ob q => Heap.get?_push_of_some _ q) (Nat.le_refl _) ?_, rfl, q.new _ (I.hok.fresh (Nat.le_refl _))⟩
    exact ⟨Nat.zero_le _, [], .nil, IsTup.new _ _⟩
/-! ### t + u of tuples, one word for both ways -/
def rCatU (K : PySem.W.Frag) : R2 := fun x y H Q => ∃ a b xs ys, x = .ref a ∧ y = .ref b ∧ SqT K H a xs ∧ SqT K H b ys ∧ xs.length + ys.length ≤ sizeLine ∧ TupTo K (xs ++ ys) H Q
theorem op_catU {X : Cx} : OpR X (binaryOp .Add) (rCatU X.K) := by
  intro pins s σ H x y v u Q I rx ry h
  obtain ⟨a, b, xs, ys, ex, ey, h1, h2, hz, q⟩ := h
  refine op_catA pins s σ H x y v u Q I rx ry ?_
  refine ⟨a, b, xs, ys, ex, ey, h1, h2, hz, fun e => ?_, fun _ e => ?_, fun _ _ => q.new⟩
  · rw [e] at q
    exact q.old h2
  · rw [e, List.append_nil] at q
    exact q.old h1
/-! ### repr of flat values -/
def reprF : V → Option Str
  | .non => some "None"
  | .bl b => some (if b then "True" else "False")
  | .int i => if i.natAbs.log2 < 1920 then some (toString i) else none
  | .str x => if (reprText x).length ≤ sizeLine then some (reprText x) else none
  | _ => none
theorem call_reprF {X : Cx} : CallR X (.builtin "repr") (fun xs H Q => ∃ x z, xs = [x] ∧ reprF x = some z ∧ Q (.str z) H) := by
  intro pins s σ H xs us Q I r h
  obtain ⟨x, z, rfl, hz, q⟩ := h
  obtain ⟨u, rfl, r1⟩ := Vals.one r
  cases x with
  | non =>
    cases (show u = Value.none from r1)
    cases hz
    exact PySem.P.repr_of_none ⟨.str _, H, I.tok _, ⟨_, rfl⟩, q⟩
  | bl b =>
    cases (show u = Value.bool b from r1)
    cases hz
    exact PySem.P.repr_of_bool ⟨.str _, H, I.tok _, ⟨_, rfl⟩, q⟩
  | int i =>
    obtain ⟨t, rfl⟩ := r1
    unfold reprF at hz
    by_cases hl : i.natAbs.log2 < 1920
    · simp only [hl, if_true, Option.some.injEq] at hz
      subst hz
      exact PySem.P.repr_of_int hl ⟨.str _, H, I.tok _, ⟨_, rfl⟩, q⟩
    · simp [hl] at hz
  | str y =>
    obtain ⟨t, rfl⟩ := r1
    unfold reprF at hz
    by_cases hl : (reprText y).length ≤ sizeLine
    · simp only [hl, if_true, Option.some.injEq] at hz
      subst hz
      exact PySem.P.repr_of_str ⟨.str _, H, I.tok _, ⟨_, rfl⟩, q⟩ hl
    · simp [hl] at hz
  | _ => cases hz
/-! ### data of ints, for == -/
theorem canInts : ∀ l : List Int, PyData.canLayAll0 (l.map PyData.int) = true
  | [] => by simp [PyData.canLayAll0]
  | a :: l => by simp [PyData.canLayAll0, PyData.canLay0, canInts l]
theorem depthInts : ∀ l : List Int, PyData.depthAll (l.map PyData.int) ≤ 1
  | [] => by simp [PyData.depthAll]
  | a :: l => by
    have := depthInts l
    simp only [List.map_cons, PyData.depthAll, PyData.depth]
    omega
theorem shapedTI (l : List Int) : SeqAt.shaped (.tuple (l.map PyData.int)) = true := by
  unfold SeqAt.shaped
  simp only [PyData.canLay0, canInts, Bool.true_and, PyData.depth]
  have := depthInts l
  exact decide_eq_true (by omega)
theorem shapedLI (l : List Int) : SeqAt.shaped (.list (l.map PyData.int)) = true := by
  unfold SeqAt.shaped
  simp only [PyData.canLay0, canInts, Bool.true_and, PyData.depth]
  have := depthInts l
  exact decide_eq_true (by omega)
theorem dpInts {K : PySem.W.Frag} {H : Hp} : ∀ l : List Int, DpAll K H (l.map V.int) (l.map PyData.int)
  | [] => .nil
  | a :: l => .cons (.int a) (dpInts l)
theorem dpTI {K : PySem.W.Frag} {H : Hp} {a : Addr} {l : List Int} (h : SqT K H a (l.map V.int)) : Dp K H (.ref a) (.tuple (l.map PyData.int)) := .tup h (dpInts l)
theorem dpLI {K : PySem.W.Frag} {H : Hp} {a : Addr} {l : List Int} (h : SqL K H a (l.map V.int)) : Dp K H (.ref a) (.list (l.map PyData.int)) := .lst h (dpInts l)
theorem eqvTI (l : List Int) : PyData.eqv (.tuple (l.map PyData.int)) (.tuple (l.map PyData.int)) = true := SeqAt.eqv_refl _ (SeqAt.canLay_of_shaped (shapedTI l))
theorem sameT {K : PySem.W.Frag} {H H' : Hp} {a : Addr} {xs : List V} (e : Same H H') (h : SqT K H a xs) : SqT K H' a xs := by
  rcases h with (h | ⟨o, h⟩) | h
  · exact .inl (.inl (e _ _ h))
  · exact .inl (.inr ⟨o, e _ _ h⟩)
  · exact .inr h
/-- a tuple stands where a list is changed -/
theorem butT {K : PySem.W.Frag} {H H' : Hp} {d a : Addr} {xs ys : List V} (hd : H d = some (.lst ys)) (e : But d H H') (h : SqT K H a xs) : SqT K H' a xs := by
  rcases h with (h | ⟨o, h⟩) | h
  · exact .inl (.inl (e _ _ (fun z => by rw [z, hd] at h; cases h) h))
  · exact .inl (.inr ⟨o, e _ _ (fun z => by rw [z, hd] at h; cases h) h⟩)
  · exact .inr h
/-- a tuple's names, the written part told -/
theorem pg_tupK (K0 : PySem.W.Frag) {X : Cx} {es : List Expr} {k : Nat} {pos : Pos} {t : TGs} {n : Nat} (hc : X.calm = true) (hK : X.K = K0) (h : PGs X es t)
    (hn : (assignEach es X.env).length = n := by rfl) (hst : (assignEach es X.env).findIdx? (·.1) = none := by rfl) : PG X (.Tuple es k pos) (gTup K0 n t) := by
  subst hK
  exact pg_tup hc h hn hst
theorem tyT {K : PySem.W.Frag} {H : Hp} {a : Addr} {xs : List V} (h : SqT K H a xs) : TyX K H (.ref a) (.type "tuple") := by
  rcases h with (h | ⟨o, h⟩) | ⟨o, its, n, h1, h2, _⟩
  · exact .base (.tup h)
  · exact .fTuple h
  · exact .kTuple h1 h2
end My

/-! digits of numbers, plain -/
namespace M11
/-- the digits of n, low ones first -/
def lows (b n : Nat) : List Nat := if h : n = 0 ∨ b < 2 then [] else (n % b) :: lows b (n / b)
termination_by n
decreasing_by
  rcases Nat.eq_zero_or_pos n with e | e
  · exact absurd (.inl e) h
  · exact Nat.div_lt_self e (by omega)
theorem lows_zero (b : Nat) : lows b 0 = [] := by unfold lows; simp
theorem lows_pos {b n : Nat} (hb : 2 ≤ b) (hn : 0 < n) : lows b n = (n % b) :: lows b (n / b) := by
  rw [lows]
  rw [dif_neg (by omega)]
def digs (b n : Nat) : List Nat := (lows b n).reverse
/-- the number that digits tell -/
def pl (b : Nat) (ds : List Nat) : Nat := ds.foldl (fun a d => a * b + d) 0
theorem lows_lt {b : Nat} (hb : 2 ≤ b) : ∀ (n : Nat), ∀ d ∈ lows b n, d < b := fun n => by
  induction n using Nat.strongRecOn with
  | _ n ih =>
    intro d hd
    rcases Nat.eq_zero_or_pos n with e | e
    · subst e; rw [lows_zero] at hd; cases hd
    · rw [lows_pos hb e] at hd
      rcases List.mem_cons.mp hd with h | h
      · rw [h]; exact Nat.mod_lt _ (by omega)
      · exact ih (n / b) (Nat.div_lt_self e (by omega)) d h
theorem lows_len {b : Nat} (hb : 2 ≤ b) : ∀ (k n : Nat), n < 2 ^ k → (lows b n).length ≤ k
  | 0, n, h => by
    have : n = 0 := by simpa using h
    subst this; rw [lows_zero]; exact Nat.le_refl _
  | k + 1, n, h => by
    rcases Nat.eq_zero_or_pos n with e | e
    · subst e; rw [lows_zero]; exact Nat.zero_le _
    · rw [lows_pos hb e, List.length_cons]
      have h2 : n / b < 2 ^ k := by
        have : n / b ≤ n / 2 := Nat.div_le_div_left hb (by omega)
        rw [Nat.pow_succ] at h
        omega
      have := lows_len hb k (n / b) h2
      omega
theorem pl_snoc (b : Nat) (ds : List Nat) (d : Nat) : pl b (ds ++ [d]) = pl b ds * b + d := by
  unfold pl; rw [List.foldl_append]; rfl
theorem pl_digs {b : Nat} (hb : 2 ≤ b) (n : Nat) : pl b (digs b n) = n := by
  induction n using Nat.strongRecOn with
  | _ n ih =>
    unfold digs
    rcases Nat.eq_zero_or_pos n with e | e
    · subst e; rw [lows_zero]; rfl
    · rw [lows_pos hb e, List.reverse_cons, pl_snoc]
      have := ih (n / b) (Nat.div_lt_self e (by omega))
      unfold digs at this
      rw [this]
      have := Nat.div_add_mod n b
      rw [Nat.mul_comm]; exact this
theorem pl_noughts (b k : Nat) (ds : List Nat) : pl b (List.replicate k 0 ++ ds) = pl b ds := by
  induction k with
  | zero => rfl
  | succ k ih =>
    rw [List.replicate_succ, List.cons_append]
    show List.foldl _ (0 * b + 0) _ = _
    rw [Nat.zero_mul]
    exact ih
theorem pl_lt {b : Nat} : ∀ (n : Nat) (ds : List Nat), ds.length = n → (∀ d ∈ ds, d < b) → pl b ds < b ^ n
  | 0, ds, h, _ => by
    have : ds = [] := List.eq_nil_of_length_eq_zero h
    subst this; exact Nat.one_pos
  | n + 1, ds, h, hd => by
    have hne : ds ≠ [] := fun e => by subst e; cases h
    have e := List.dropLast_concat_getLast hne
    have h1 : ds.dropLast.length = n := by rw [List.length_dropLast]; omega
    have h2 := pl_lt n ds.dropLast h1 fun d hm => hd d (List.dropLast_subset _ hm)
    have h3 := hd _ (List.getLast_mem hne)
    rw [← e, pl_snoc, Nat.pow_succ]
    have : (pl b ds.dropLast + 1) * b ≤ b ^ n * b := Nat.mul_le_mul_right _ h2
    rw [Nat.add_mul, Nat.one_mul] at this
    omega
/-- digits with noughts ahead are told again -/
theorem wide_again {b : Nat} (hb : 2 ≤ b) : ∀ (n : Nat) (ds : List Nat), ds.length = n → (∀ d ∈ ds, d < b) → (digs b (pl b ds)).length ≤ n ∧ List.replicate (n - (digs b (pl b ds)).length) 0 ++ digs b (pl b ds) = ds
  | 0, ds, h, _ => by
    have : ds = [] := List.eq_nil_of_length_eq_zero h
    subst this
    have e : digs b (pl b []) = [] := by unfold digs pl; rw [List.foldl_nil, lows_zero]; rfl
    rw [e]; exact ⟨Nat.le_refl _, rfl⟩
  | n + 1, ds, h, hd => by
    have hne : ds ≠ [] := fun e => by subst e; cases h
    have e := List.dropLast_concat_getLast hne
    have h1 : ds.dropLast.length = n := by rw [List.length_dropLast]; omega
    have h3 := hd _ (List.getLast_mem hne)
    have ih := wide_again hb n ds.dropLast h1 fun d hm => hd d (List.dropLast_subset _ hm)
    generalize hm : pl b ds.dropLast = m at ih
    generalize hl : ds.getLast hne = d at h3 e
    have ep : pl b ds = m * b + d := by rw [← e, pl_snoc, hm]
    rw [ep]
    rcases Nat.eq_zero_or_pos (m * b + d) with z | z
    · have hm0 : m = 0 := by
        rcases Nat.eq_zero_or_pos m with q | q
        · exact q
        · have := Nat.mul_pos q (show 0 < b by omega); omega
      subst hm0
      have hd0 : d = 0 := by omega
      subst hd0
      rw [z]
      have e0 : digs b 0 = [] := by unfold digs; rw [lows_zero]; rfl
      rw [e0] at ih ⊢
      refine ⟨Nat.zero_le _, ?_⟩
      rw [List.length_nil, Nat.sub_zero, List.append_nil] at ih ⊢
      rw [← e, ← ih.2, List.replicate_succ']
    · have ed : digs b (m * b + d) = digs b m ++ [d] := by
        unfold digs
        rw [lows_pos hb z, List.reverse_cons]
        have q1 : (m * b + d) / b = m := by
          rw [Nat.add_comm, Nat.add_mul_div_right _ _ (by omega), Nat.div_eq_of_lt h3]; omega
        have q2 : (m * b + d) % b = d := by
          rw [Nat.add_comm, Nat.add_mul_mod_self_right, Nat.mod_eq_of_lt h3]
        rw [q1, q2]
      rw [ed, List.length_append, List.length_singleton]
      refine ⟨by omega, ?_⟩
      rw [show n + 1 - ((digs b m).length + 1) = n - (digs b m).length by omega, ← List.append_assoc, ih.2]
      exact e
/-- how many noughts stand at the end -/
def tz (b n : Nat) : Nat := if h : 0 < n ∧ 2 ≤ b ∧ n % b = 0 then tz b (n / b) + 1 else 0
termination_by n
decreasing_by exact Nat.div_lt_self h.1 (by omega)
theorem tz_yes {b n : Nat} (hb : 2 ≤ b) (hn : 0 < n) (h : n % b = 0) : tz b n = tz b (n / b) + 1 := by
  rw [tz, dif_pos ⟨hn, hb, h⟩]
theorem tz_no {b n : Nat} (h : n % b ≠ 0) : tz b n = 0 := by
  rw [tz, dif_neg (by intro z; exact h z.2.2)]
theorem div_pos_of {b n : Nat} (hb : 2 ≤ b) (hn : 0 < n) (h : n % b = 0) : 0 < n / b := by
  rcases Nat.eq_zero_or_pos (n / b) with e | e
  · have := Nat.div_add_mod n b
    rw [e, h] at this
    simp at this
    omega
  · exact e
/-- below it stand noughts, at it stands none -/
theorem tz_at {b : Nat} (hb : 2 ≤ b) : ∀ n : Nat, 0 < n → (∀ i, i < tz b n → (lows b n)[i]? = some 0) ∧ ∃ d, (lows b n)[tz b n]? = some d ∧ d ≠ 0 := fun n => by
  induction n using Nat.strongRecOn with
  | _ n ih =>
    intro hn
    by_cases h : n % b = 0
    · have hp := div_pos_of hb hn h
      obtain ⟨h1, d, h2, h3⟩ := ih (n / b) (Nat.div_lt_self hn (by omega)) hp
      rw [tz_yes hb hn h, lows_pos hb hn]
      refine ⟨fun i hi => ?_, d, by simpa using h2, h3⟩
      cases i with
      | zero => simp [h]
      | succ i => simpa using h1 i (by omega)
    · rw [tz_no h, lows_pos hb hn]
      exact ⟨fun i hi => absurd hi (by omega), n % b, rfl, h⟩
/-- the indices of the digits that are not 0, below i -/
def idx (l : List Nat) (i : Nat) : List Nat := (List.range i).filter fun j => decide (l[j]? ≠ some 0)
theorem idx_succ (l : List Nat) (i : Nat) : idx l (i + 1) = if l[i]? = some 0 then idx l i else idx l i ++ [i] := by
  unfold idx
  rw [List.range_succ, List.filter_append, List.filter_cons, List.filter_nil]
  by_cases h : l[i]? = some 0
  · simp [h]
  · simp [h]
theorem idx_len (l : List Nat) (i : Nat) : (idx l i).length ≤ i := by
  have := List.length_filter_le (fun j => decide (l[j]? ≠ some 0)) (List.range i)
  rw [List.length_range] at this
  exact this
theorem tz_lt {b n : Nat} (hb : 2 ≤ b) (hn : 0 < n) : tz b n < (lows b n).length := by
  obtain ⟨_, d, h, _⟩ := tz_at hb n hn
  exact (List.getElem?_eq_some_iff.mp h).1
/-- the least of these indices is the number of noughts at the end -/
theorem idx_min {b n : Nat} (hb : 2 ≤ b) (hn : 0 < n) : tz b n ∈ idx (lows b n) (lows b n).length ∧ ∀ m ∈ idx (lows b n) (lows b n).length, tz b n ≤ m := by
  obtain ⟨h0, d, h1, h2⟩ := tz_at hb n hn
  refine ⟨List.mem_filter.mpr ⟨List.mem_range.mpr (tz_lt hb hn), decide_eq_true ?_⟩, fun m hm => ?_⟩
  · rw [h1]
    intro q
    exact h2 (Option.some.inj q)
  · have := of_decide_eq_true (List.mem_filter.mp hm).2
    rcases Nat.lt_or_ge m (tz b n) with h | h
    · exact absurd (h0 m h) this
    · exact h
end M11

set_option Elab.async false
set_option linter.all false
set_option maxRecDepth 100000
set_option maxHeartbeats 4000000
namespace Pf
open PySem PySem.Spec PyProof.Rows L2 My
def top (i : Nat) : Stmt := PySem.Challenge.pw_digitwords_k11_whole_digits.main.body.getD i (.Pass ⟨0, 0, 0, 0⟩)
abbrev s_is_integer : Stmt := top 8
theorem sc_is_integer : FnScope ["value"] ["value"] (defScope s_is_integer) := ⟨rfl, rfl, rfl, by decide +kernel, rfl, by decide +kernel, by decide +kernel⟩
abbrev s_is_within : Stmt := top 9
theorem sc_is_within : FnScope ["value", "least", "most"] ["value", "least", "most"] (defScope s_is_within) := ⟨rfl, rfl, rfl, by decide +kernel, rfl, by decide +kernel, by decide +kernel⟩
abbrev s_require_within : Stmt := top 10
theorem sc_require_within : FnScope ["value", "least", "most"] ["value", "least", "most"] (defScope s_require_within) := ⟨rfl, rfl, rfl, by decide +kernel, rfl, by decide +kernel, by decide +kernel⟩
abbrev s_require_base : Stmt := top 11
theorem sc_require_base : FnScope ["value"] ["value"] (defScope s_require_base) := ⟨rfl, rfl, rfl, by decide +kernel, rfl, by decide +kernel, by decide +kernel⟩
abbrev s_require_place : Stmt := top 12
theorem sc_require_place : FnScope ["value"] ["value"] (defScope s_require_place) := ⟨rfl, rfl, rfl, by decide +kernel, rfl, by decide +kernel, by decide +kernel⟩
abbrev s_digits_in : Stmt := top 13
theorem sc_digits_in : FnScope ["base", "place", "found", "left"] ["base", "place"] (defScope s_digits_in) := ⟨rfl, rfl, rfl, by decide +kernel, rfl, by decide +kernel, by decide +kernel⟩
abbrev s_place_in : Stmt := top 14
theorem sc_place_in : FnScope ["base", "digits", "found", "digit"] ["base", "digits"] (defScope s_place_in) := ⟨rfl, rfl, rfl, by decide +kernel, rfl, by decide +kernel, by decide +kernel⟩
abbrev s_noughts_behind : Stmt := top 15
theorem sc_noughts_behind : FnScope ["base", "place", "found", "left"] ["base", "place"] (defScope s_noughts_behind) := ⟨rfl, rfl, rfl, by decide +kernel, rfl, by decide +kernel, by decide +kernel⟩
abbrev s_digits_of : Stmt := top 16
theorem sc_digits_of : FnScope ["base", "place"] ["base", "place"] (defScope s_digits_of) := ⟨rfl, rfl, rfl, by decide +kernel, rfl, by decide +kernel, by decide +kernel⟩
abbrev s_place_of : Stmt := top 17
theorem sc_place_of : FnScope ["base", "digits", "digit"] ["base", "digits"] (defScope s_place_of) := ⟨rfl, rfl, rfl, by decide +kernel, rfl, by decide +kernel, by decide +kernel⟩
abbrev s_digits_wide : Stmt := top 18
theorem sc_digits_wide : FnScope ["base", "place", "many", "digits"] ["base", "place", "many"] (defScope s_digits_wide) := ⟨rfl, rfl, rfl, by decide +kernel, rfl, by decide +kernel, by decide +kernel⟩
abbrev s_digit_sum : Stmt := top 19
theorem sc_digit_sum : FnScope ["base", "place"] ["base", "place"] (defScope s_digit_sum) := ⟨rfl, rfl, rfl, by decide +kernel, rfl, by decide +kernel, by decide +kernel⟩
abbrev s_ends_with : Stmt := top 20
theorem sc_ends_with : FnScope ["base", "place"] ["base", "place"] (defScope s_ends_with) := ⟨rfl, rfl, rfl, by decide +kernel, rfl, by decide +kernel, by decide +kernel⟩
abbrev s_law_dice : Stmt := top 22
theorem sc_law_dice : FnScope ["script", "spot", "cell", "great", "seed"] ["script", "spot"] (defScope s_law_dice) := ⟨rfl, rfl, rfl, by decide +kernel, rfl, by decide +kernel, by decide +kernel⟩
abbrev s_law_roll : Stmt := top 23
theorem sc_law_roll : FnScope ["dice", "total", "found", "one", "two"] ["dice", "total"] (defScope s_law_roll) := ⟨rfl, rfl, rfl, by decide +kernel, rfl, by decide +kernel, by decide +kernel⟩
abbrev s_law_pick : Stmt := top 24
theorem sc_law_pick : FnScope ["dice", "items"] ["dice", "items"] (defScope s_law_pick) := ⟨rfl, rfl, rfl, by decide +kernel, rfl, by decide +kernel, by decide +kernel⟩
abbrev s_law_is_int : Stmt := top 25
theorem sc_law_is_int : FnScope ["value"] ["value"] (defScope s_law_is_int) := ⟨rfl, rfl, rfl, by decide +kernel, rfl, by decide +kernel, by decide +kernel⟩
abbrev s_law_digits : Stmt := top 26
theorem sc_law_digits : FnScope ["base", "place", "found", "left"] ["base", "place"] (defScope s_law_digits) := ⟨rfl, rfl, rfl, by decide +kernel, rfl, by decide +kernel, by decide +kernel⟩
abbrev s_law_great : Stmt := top 27
theorem sc_law_great : FnScope ["dice", "way", "found", "turn"] ["dice"] (defScope s_law_great) := ⟨rfl, rfl, rfl, by decide +kernel, rfl, by decide +kernel, by decide +kernel⟩
abbrev s_law_right : Stmt := top 28
theorem sc_law_right : FnScope ["dice", "base", "place", "digits", "told", "more", "wide", "ends", "drawn", "value", "at", "one", "digit"] ["dice"] (defScope s_law_right) := ⟨rfl, rfl, rfl, by decide +kernel, rfl, by decide +kernel, by decide +kernel⟩
abbrev s_law : Stmt := top 29
theorem sc_law : FnScope ["script", "spot", "dice", "turn", "told"] ["script"] (defScope s_law) := ⟨rfl, rfl, rfl, by decide +kernel, rfl, by decide +kernel, by decide +kernel⟩
structure Fre (mg : Str → Option Value) : Prop where
  len : mg "len" = none
  int : mg "int" = none
  abs : mg "abs" = none
  max : mg "max" = none
  min : mg "min" = none
  bool : mg "bool" = none
  tuple : mg "tuple" = none
  isinstance : mg "isinstance" = none
  all : mg "all" = none
  sum : mg "sum" = none
  enumerate : mg "enumerate" = none
  range : mg "range" = none
  repr : mg "repr" = none
  c_MAX_BASE : ∃ t, mg "MAX_BASE" = some (.int 5 t)
  c_MAX_PLACE : ∃ t, mg "MAX_PLACE" = some (.int (10 ^ 60) t)
  c_MAX_DIGITS : ∃ t, mg "MAX_DIGITS" = some (.int 300 t)
section
variable {P : Program} {w : World} {K : PySem.W.Frag} {mg : Str → Option Value} {base : Heap}
def spRoll : Sp := fun vs H Q _ => ∃ (d : Addr) (n : Int), vs = [.ref d, .int n] ∧ DiceAt H d ∧ 0 < n ∧ n.natAbs.log2 < 9000 ∧
  ∀ r H', 0 ≤ r → r < n → But d H H' → DiceAt H' d → Q (.int r) H'
theorem ok_roll (D : DefIn K mg "_law_roll" s_law_roll) (T : Fre mg) : Keeps P w K mg base CX0 1 "_law_roll" ["dice", "total"] spRoll := by
  refine D.keeps sc_law_roll (fun vs H Q E h => ?_) (fun _ _ _ _ _ _ us hl => match us, hl with | [_, _], _ => rfl) (fun cdv A outer s H vs Q E hr h => ?_)
  · obtain ⟨d, n, rfl, _⟩ := h
    rfl
  · refine ⟨_, (pss_cons (ps_if (pt_cmpR op_gt (pe_ix ix_list (pv 0) pe_int (fun _ _ => rfl)) pe_int (nomark _)) (pss_cons (ps_set (i := 2) sc_law_roll.nd rfl (Or.inl rfl) (pe_op op_mod (pe_ix ix_list (pv 0) pe_int (fun _ _ => rfl)) (pv 1)))
  (pss_cons (ps_asg (pe_op op_fdivW (pe_ix ix_list (pv 0) pe_int (fun _ _ => rfl)) (pv 1)) (pg_sub (pv 0) pe_int set_list))
  (pss_one (ps_ret (pe_callTy call_int1 (by rfl) T.int (by decide +kernel) (pa_cons (pv 2) pa_nil)))))) pss_nil)
  (pss_cons (ps_asg (pe_op op_add (pe_ix ix_list (pv 0) pe_int (fun _ _ => rfl)) pe_int) (pg_sub (pv 0) pe_int set_list))
  (pss_cons (ps_set (i := 3) sc_law_roll.nd rfl (Or.inl rfl) (pe_op op_mod (pe_op op_add (pe_ix ix_list (pv 0) pe_int (fun _ _ => rfl)) (pe_op op_mul pe_int (pe_ix ix_list (pv 0) pe_int (fun _ _ => rfl)))) pe_int))
  (pss_cons (ps_set (i := 4) sc_law_roll.nd rfl (Or.inl rfl) (pe_op op_add (pe_op op_mul (pe_op op_mod (pe_op op_add (pe_op op_mulW (pv 3) (pv 3)) (pe_op op_mul pe_int (pe_ix ix_list (pv 0) pe_int (fun _ _ => rfl)))) pe_int) pe_int) (pv 3)))
  (pss_one (ps_ret (pe_op op_mod (pe_callTy call_int1 (by rfl) T.int (by decide +kernel) (pa_cons (pe_op op_fdivW (pv 4) pe_int) pa_nil)) (pv 1)))))))), ?_⟩
    obtain ⟨d, n, rfl, ⟨a, b, c, hd⟩, hn, hl, k⟩ := h
    have W : Has H [(d, .lst [.int a, .int b, .int c])] := .one hd
    repeat (first
      | refine ⟨_, rfl, ?_⟩
      | refine ⟨_, _, rfl, rfl, ?_⟩
      | refine ⟨_, _, rfl, ?_⟩
      | refine ⟨_, _, _, _, rfl, rfl, SqL.of (W.get 0 rfl), rfl, ?_⟩
      | refine And.intro (cmulL (by decide) (by decide)) ?_
      | refine And.intro (cmulR (by decide) (by decide)) ?_
      | refine And.intro (show CPowW _ _ by decide +kernel) ?_
      | exact rfl
      | refine And.intro (show (0 : Int) < _ by decide +kernel) ?_
      | refine And.intro (show CDivW _ _ from ⟨by decide, by decide +kernel⟩) ?_
      | refine .inl ⟨_, rfl, ?_⟩
      | refine .inr ⟨_, rfl, ?_⟩)
    refine iteD (fun ha => ?_) (fun ha => ?_)
    · repeat (first
      | refine ⟨_, rfl, ?_⟩
      | refine ⟨_, _, rfl, rfl, ?_⟩
      | refine ⟨_, _, rfl, ?_⟩
      | refine ⟨_, _, _, _, rfl, rfl, SqL.of (W.get 0 rfl), rfl, ?_⟩
      | refine And.intro (cmulL (by decide) (by decide)) ?_
      | refine And.intro (cmulR (by decide) (by decide)) ?_
      | refine And.intro (show CPowW _ _ by decide +kernel) ?_
      | exact rfl
      | refine And.intro (show (0 : Int) < _ by decide +kernel) ?_
      | refine And.intro (show CDivW _ _ from ⟨by decide, by decide +kernel⟩) ?_
      | refine .inl ⟨_, rfl, ?_⟩
      | refine .inr ⟨_, rfl, ?_⟩)
      refine ⟨hn, ?_⟩
      repeat (first
      | refine ⟨_, rfl, ?_⟩
      | refine ⟨_, _, rfl, rfl, ?_⟩
      | refine ⟨_, _, rfl, ?_⟩
      | refine ⟨_, _, _, _, rfl, rfl, SqL.of (W.get 0 rfl), rfl, ?_⟩
      | refine And.intro (cmulL (by decide) (by decide)) ?_
      | refine And.intro (cmulR (by decide) (by decide)) ?_
      | refine And.intro (show CPowW _ _ by decide +kernel) ?_
      | exact rfl
      | refine And.intro (show (0 : Int) < _ by decide +kernel) ?_
      | refine And.intro (show CDivW _ _ from ⟨by decide, by decide +kernel⟩) ?_
      | refine .inl ⟨_, rfl, ?_⟩
      | refine .inr ⟨_, rfl, ?_⟩)
      refine ⟨⟨hn, hl⟩, ?_⟩
      repeat (first
      | refine ⟨_, rfl, ?_⟩
      | refine ⟨_, _, rfl, rfl, ?_⟩
      | refine ⟨_, _, rfl, ?_⟩
      | refine ⟨_, _, _, _, rfl, rfl, SqL.of (W.get 0 rfl), rfl, ?_⟩
      | refine And.intro (cmulL (by decide) (by decide)) ?_
      | refine And.intro (cmulR (by decide) (by decide)) ?_
      | refine And.intro (show CPowW _ _ by decide +kernel) ?_
      | exact rfl
      | refine And.intro (show (0 : Int) < _ by decide +kernel) ?_
      | refine And.intro (show CDivW _ _ from ⟨by decide, by decide +kernel⟩) ?_
      | refine .inl ⟨_, rfl, ?_⟩
      | refine .inr ⟨_, rfl, ?_⟩)
      refine set_of (W.get 0 rfl) rfl fun H1 b1 h1 => ?_
      repeat (first
      | refine ⟨_, rfl, ?_⟩
      | refine ⟨_, _, rfl, rfl, ?_⟩
      | refine ⟨_, _, rfl, ?_⟩
      | refine ⟨_, _, _, _, rfl, rfl, SqL.of (W.get 0 rfl), rfl, ?_⟩
      | refine And.intro (cmulL (by decide) (by decide)) ?_
      | refine And.intro (cmulR (by decide) (by decide)) ?_
      | refine And.intro (show CPowW _ _ by decide +kernel) ?_
      | exact rfl
      | refine And.intro (show (0 : Int) < _ by decide +kernel) ?_
      | refine And.intro (show CDivW _ _ from ⟨by decide, by decide +kernel⟩) ?_
      | refine .inl ⟨_, rfl, ?_⟩
      | refine .inr ⟨_, rfl, ?_⟩)
      exact k _ _ (Int.emod_nonneg _ (by omega)) (Int.emod_lt_of_pos _ hn) b1 ⟨_, _, _, h1⟩
    · repeat (first
      | refine ⟨_, rfl, ?_⟩
      | refine ⟨_, _, rfl, rfl, ?_⟩
      | refine ⟨_, _, rfl, ?_⟩
      | refine ⟨_, _, _, _, rfl, rfl, SqL.of (W.get 0 rfl), rfl, ?_⟩
      | refine And.intro (cmulL (by decide) (by decide)) ?_
      | refine And.intro (cmulR (by decide) (by decide)) ?_
      | refine And.intro (show CPowW _ _ by decide +kernel) ?_
      | exact rfl
      | refine And.intro (show (0 : Int) < _ by decide +kernel) ?_
      | refine And.intro (show CDivW _ _ from ⟨by decide, by decide +kernel⟩) ?_
      | refine .inl ⟨_, rfl, ?_⟩
      | refine .inr ⟨_, rfl, ?_⟩)
      refine set_of (W.get 0 rfl) rfl fun H1 b1 h1 => ?_
      replace W := W.but 0 rfl b1 h1
      repeat (first
      | refine ⟨_, rfl, ?_⟩
      | refine ⟨_, _, rfl, rfl, ?_⟩
      | refine ⟨_, _, rfl, ?_⟩
      | refine ⟨_, _, _, _, rfl, rfl, SqL.of (W.get 0 rfl), rfl, ?_⟩
      | refine And.intro (cmulL (by decide) (by decide)) ?_
      | refine And.intro (cmulR (by decide) (by decide)) ?_
      | refine And.intro (show CPowW _ _ by decide +kernel) ?_
      | exact rfl
      | refine And.intro (show (0 : Int) < _ by decide +kernel) ?_
      | refine And.intro (show CDivW _ _ from ⟨by decide, by decide +kernel⟩) ?_
      | refine .inl ⟨_, rfl, ?_⟩
      | refine .inr ⟨_, rfl, ?_⟩)
      have h61 : ∀ x : Int, (x % 2305843009213693951).natAbs < 2 ^ 61 := fun x => by omega
      refine And.intro (wide_mul (h61 _) (h61 _) (by decide) (by decide) (by decide)) ?_
      repeat (first
      | refine ⟨_, rfl, ?_⟩
      | refine ⟨_, _, rfl, rfl, ?_⟩
      | refine ⟨_, _, rfl, ?_⟩
      | refine ⟨_, _, _, _, rfl, rfl, SqL.of (W.get 0 rfl), rfl, ?_⟩
      | refine And.intro (cmulL (by decide) (by decide)) ?_
      | refine And.intro (cmulR (by decide) (by decide)) ?_
      | refine And.intro (show CPowW _ _ by decide +kernel) ?_
      | exact rfl
      | refine And.intro (show (0 : Int) < _ by decide +kernel) ?_
      | refine And.intro (show CDivW _ _ from ⟨by decide, by decide +kernel⟩) ?_
      | refine .inl ⟨_, rfl, ?_⟩
      | refine .inr ⟨_, rfl, ?_⟩)
      refine And.intro hn ?_
      exact k _ _ (Int.emod_nonneg _ (by omega)) (Int.emod_lt_of_pos _ hn) b1 ⟨_, _, _, h1⟩
def spPick : Sp := fun vs H Q _ => ∃ (d p : Addr) (xs : List V), vs = [.ref d, .ref p] ∧ p ≠ d ∧ H p = some (.lst xs) ∧ DiceAt H d ∧ 0 < xs.length ∧ xs.length < 1000 ∧
  ∀ (r : Nat) x H', xs[r]? = some x → But d H H' → DiceAt H' d → Q x H'
theorem ok_pick (D : DefIn K mg "_law_pick" s_law_pick) (T : Fre mg) (G_law_roll : Keeps P w K mg base CX0 1 "_law_roll" ["dice", "total"] spRoll) : Keeps P w K mg base CX0 2 "_law_pick" ["dice", "items"] spPick := by
  refine D.keeps sc_law_pick (fun vs H Q E h => ?_) (fun _ _ _ _ _ _ us hl => match us, hl with | [_, _], _ => rfl) (fun cdv A outer s H vs Q E hr h => ?_)
  · obtain ⟨d, p, xs, rfl, _⟩ := h
    rfl
  · refine ⟨_, (pss_one (ps_ret (pe_ix ix_list (pv 1) (pe_do G_law_roll hr (by rfl) pass0 (pa_cons (pv 0) (pa_cons (pe_callB call_len_seq (by rfl) T.len PySem.boot_len (pa_cons (pv 1) pa_nil)) pa_nil))) (fun _ _ => rfl)))), ?_⟩
    obtain ⟨d, p, xs, rfl, ne, hp, ⟨a, b, c, hd⟩, h0, h1, k⟩ := h
    repeat (first
      | refine ⟨_, rfl, ?_⟩
      | refine ⟨_, _, rfl, rfl, ?_⟩
      | refine ⟨_, _, rfl, ?_⟩
      | refine ⟨_, _, _, _, rfl, rfl, SqL.of (W.get 0 rfl), rfl, ?_⟩
      | refine And.intro (cmulL (by decide) (by decide)) ?_
      | refine And.intro (cmulR (by decide) (by decide)) ?_
      | refine And.intro (show CPowW _ _ by decide +kernel) ?_
      | exact rfl
      | refine And.intro (show (0 : Int) < _ by decide +kernel) ?_
      | refine And.intro (show CDivW _ _ from ⟨by decide, by decide +kernel⟩) ?_
      | refine .inl ⟨_, rfl, ?_⟩
      | refine .inr ⟨_, rfl, ?_⟩)
    refine ⟨_, _, rfl, Or.inl (SqL.of hp), ?_⟩
    refine ⟨d, xs.length, rfl, ⟨a, b, c, hd⟩, by omega, ?_, fun r H' r0 r1 bt hd' => ?_⟩
    · have e : ((xs.length : Int).natAbs) = xs.length := rfl
      rw [e]
      exact Nat.lt_of_le_of_lt (Nat.log2_le_self _) (by omega)
    have hp' := bt p _ ne hp
    have hr' : r.toNat < xs.length := by omega
    obtain ⟨n, rfl⟩ : ∃ n : Nat, r = n := ⟨r.toNat, by omega⟩
    have hx : xs[n]? = some xs[n] := by simp at hr'; simp [hr']
    refine ⟨_, _, _, _, rfl, rfl, SqL.of hp', atI_nat hx, ?_⟩
    exact k n _ _ hx bt hd'
def spDice (K : PySem.W.Frag) : Sp := fun vs H Q _ => ∃ (a : Addr) (ns : List Int) (i : Nat), vs = [.ref a, .int i] ∧ SqL K H a (ns.map V.int) ∧ i ≤ 1000 ∧
  ∀ d H', H d = none → Same H H' → DiceAt H' d → Q (.ref d) H'
theorem ok_dice (D : DefIn K mg "_law_dice" s_law_dice) (T : Fre mg) : Keeps P w K mg base CX0 1 "_law_dice" ["script", "spot"] (spDice K) := by
  refine D.keeps sc_law_dice (fun vs H Q E h => ?_) (fun _ _ _ _ _ _ us hl => match us, hl with | [_, _], _ => rfl) (fun cdv A outer s H vs Q E hr h => ?_)
  · obtain ⟨a, ns, i, rfl, _⟩ := h
    rfl
  · refine ⟨_, (Evl.pss_cut (ps_set (i := 2) sc_law_dice.nd rfl (Or.inl rfl) (pe_ifExp (pt_cmpR op_lt (pv 1) (pe_callB call_len_seq (by rfl) T.len PySem.boot_len (pa_cons (pv 0) pa_nil)) (nomark _)) (pe_callTy call_int1 (by rfl) T.int (by decide +kernel) (pa_cons (pe_ix ix_list (pv 0) (pv 1) (fun _ _ => rfl)) pa_nil)) (pe_op op_add (pe_op op_mul pe_int (pv 1)) pe_int)))
  (pss_cons (ps_set (i := 3) sc_law_dice.nd rfl (Or.inl rfl) (pe_op op_mod (pe_callTy call_int1 (by rfl) T.int (by decide +kernel) (pa_cons (pe_callB call_abs (by rfl) T.abs (by decide +kernel) (pa_cons (pv 2) pa_nil)) pa_nil)) (pe_op op_powW (pe_op op_powW pe_int pe_int) pe_int)))
  (pss_cons (ps_set (i := 4) sc_law_dice.nd rfl (Or.inl rfl) (pe_op op_add (pe_op op_add (pe_op op_add (pe_op op_mul (pe_op op_mod (pv 3) pe_int) pe_int) (pe_op op_mul pe_int (pv 1))) (pe_op op_mul pe_int (pe_callTy call_int1 (by rfl) T.int (by decide +kernel) (pa_cons (pe_cmpR op_lt (pv 2) pe_int (nomark _)) pa_nil)))) pe_int))
  (pss_one (ps_ret (pe_lst (pa_cons (pe_callB (call_max2 rfl) (by rfl) T.max (by decide +kernel) (pa_cons pe_int (pa_cons (pe_op op_sub (pv 3) (pe_op op_powW pe_int pe_int)) pa_nil))) (pa_cons (pv 4) (pa_cons pe_int pa_nil))))))))), ?_⟩
    obtain ⟨a, ns, i, rfl, hS, hi, k⟩ := h
    refine ⟨fun σ' H' => ∃ c : Int, σ' = [some (.ref a), some (.int i), some (.int c), none, none] ∧ H' = H, ?_, ?_⟩
    · repeat (first
      | refine ⟨_, rfl, ?_⟩
      | refine ⟨_, _, rfl, rfl, ?_⟩
      | refine ⟨_, _, rfl, ?_⟩
      | refine ⟨_, _, _, _, rfl, rfl, SqL.of (W.get 0 rfl), rfl, ?_⟩
      | refine And.intro (cmulL (by decide) (by decide)) ?_
      | refine And.intro (cmulR (by decide) (by decide)) ?_
      | refine And.intro (show CPowW _ _ by decide +kernel) ?_
      | exact rfl
      | refine And.intro (show (0 : Int) < _ by decide +kernel) ?_
      | refine And.intro (show CDivW _ _ from ⟨by decide, by decide +kernel⟩) ?_
      | refine .inl ⟨_, rfl, ?_⟩
      | refine .inr ⟨_, rfl, ?_⟩)
      refine ⟨_, _, rfl, Or.inl hS, ?_⟩
      repeat (first
      | refine ⟨_, rfl, ?_⟩
      | refine ⟨_, _, rfl, rfl, ?_⟩
      | refine ⟨_, _, rfl, ?_⟩
      | refine ⟨_, _, _, _, rfl, rfl, SqL.of (W.get 0 rfl), rfl, ?_⟩
      | refine And.intro (cmulL (by decide) (by decide)) ?_
      | refine And.intro (cmulR (by decide) (by decide)) ?_
      | refine And.intro (show CPowW _ _ by decide +kernel) ?_
      | exact rfl
      | refine And.intro (show (0 : Int) < _ by decide +kernel) ?_
      | refine And.intro (show CDivW _ _ from ⟨by decide, by decide +kernel⟩) ?_
      | refine .inl ⟨_, rfl, ?_⟩
      | refine .inr ⟨_, rfl, ?_⟩)
      refine iteD (fun hc => ?_) (fun hc => ?_)
      · repeat (first
      | refine ⟨_, rfl, ?_⟩
      | refine ⟨_, _, rfl, rfl, ?_⟩
      | refine ⟨_, _, rfl, ?_⟩
      | refine ⟨_, _, _, _, rfl, rfl, SqL.of (W.get 0 rfl), rfl, ?_⟩
      | refine And.intro (cmulL (by decide) (by decide)) ?_
      | refine And.intro (cmulR (by decide) (by decide)) ?_
      | refine And.intro (show CPowW _ _ by decide +kernel) ?_
      | exact rfl
      | refine And.intro (show (0 : Int) < _ by decide +kernel) ?_
      | refine And.intro (show CDivW _ _ from ⟨by decide, by decide +kernel⟩) ?_
      | refine .inl ⟨_, rfl, ?_⟩
      | refine .inr ⟨_, rfl, ?_⟩)
        rw [List.length_map] at hc
        have hx : (ns.map V.int)[i]? = some (.int ns[i]) := by simp [show i < ns.length by omega]
        refine ⟨_, _, _, _, rfl, rfl, hS, atI_nat hx, ?_⟩
        repeat (first
      | refine ⟨_, rfl, ?_⟩
      | refine ⟨_, _, rfl, rfl, ?_⟩
      | refine ⟨_, _, rfl, ?_⟩
      | refine ⟨_, _, _, _, rfl, rfl, SqL.of (W.get 0 rfl), rfl, ?_⟩
      | refine And.intro (cmulL (by decide) (by decide)) ?_
      | refine And.intro (cmulR (by decide) (by decide)) ?_
      | refine And.intro (show CPowW _ _ by decide +kernel) ?_
      | exact rfl
      | refine And.intro (show (0 : Int) < _ by decide +kernel) ?_
      | refine And.intro (show CDivW _ _ from ⟨by decide, by decide +kernel⟩) ?_
      | refine .inl ⟨_, rfl, ?_⟩
      | refine .inr ⟨_, rfl, ?_⟩)
      · repeat (first
      | refine ⟨_, rfl, ?_⟩
      | refine ⟨_, _, rfl, rfl, ?_⟩
      | refine ⟨_, _, rfl, ?_⟩
      | refine ⟨_, _, _, _, rfl, rfl, SqL.of (W.get 0 rfl), rfl, ?_⟩
      | refine And.intro (cmulL (by decide) (by decide)) ?_
      | refine And.intro (cmulR (by decide) (by decide)) ?_
      | refine And.intro (show CPowW _ _ by decide +kernel) ?_
      | exact rfl
      | refine And.intro (show (0 : Int) < _ by decide +kernel) ?_
      | refine And.intro (show CDivW _ _ from ⟨by decide, by decide +kernel⟩) ?_
      | refine .inl ⟨_, rfl, ?_⟩
      | refine .inr ⟨_, rfl, ?_⟩)
    · rintro _ _ ⟨c, rfl, rfl⟩
      repeat (first
      | refine ⟨_, rfl, ?_⟩
      | refine ⟨_, _, rfl, rfl, ?_⟩
      | refine ⟨_, _, rfl, ?_⟩
      | refine ⟨_, _, _, _, rfl, rfl, SqL.of (W.get 0 rfl), rfl, ?_⟩
      | refine And.intro (cmulL (by decide) (by decide)) ?_
      | refine And.intro (cmulR (by decide) (by decide)) ?_
      | refine And.intro (show CPowW _ _ by decide +kernel) ?_
      | exact rfl
      | refine And.intro (show (0 : Int) < _ by decide +kernel) ?_
      | refine And.intro (show CDivW _ _ from ⟨by decide, by decide +kernel⟩) ?_
      | refine .inl ⟨_, rfl, ?_⟩
      | refine .inr ⟨_, rfl, ?_⟩)
      refine And.intro (by show 3 ≤ sizeLine; decide) (fun d n => new_of n fun H' e h => ?_)
      exact k d H' n e ⟨_, _, _, h⟩
end
end Pf

set_option Elab.async false
set_option linter.all false
set_option maxRecDepth 100000
set_option maxHeartbeats 4000000
namespace Pf
open PySem PySem.Spec PyProof.Rows L2 My M11
section
variable {P : Program} {w : World} {K : PySem.W.Frag} {mg : Str → Option Value} {base : Heap}
def iN (l : List Nat) : List Int := l.map fun n : Nat => (n : Int)
def vN (l : List Nat) : List V := (iN l).map V.int
theorem vN_len (l : List Nat) : (vN l).length = l.length := by unfold vN iN; simp
theorem vN_app (l r : List Nat) : vN (l ++ r) = vN l ++ vN r := by unfold vN iN; simp
theorem vN_rev (l : List Nat) : vN l.reverse = (vN l).reverse := by unfold vN iN; simp
theorem vN_get (l : List Nat) (i : Nat) : (vN l)[i]? = l[i]?.map fun n : Nat => V.int (n : Int) := by unfold vN iN; simp; rfl
def spIsInt : Sp := fun vs H Q _ => ∃ i : Int, vs = [.int i] ∧ Q (.bl true) H
theorem ok_is_integer (D : DefIn K mg "is_integer" s_is_integer) (T : Fre mg) : Keeps P w K mg base CX0 1 "is_integer" ["value"] spIsInt := by
  refine D.keeps sc_is_integer (fun vs H Q E h => ?_) (fun _ _ _ _ _ _ us hl => match us, hl with | [_], _ => rfl) (fun cdv A outer s H vs Q E hr h => ?_)
  · obtain ⟨i, rfl, _⟩ := h
    rfl
  · refine ⟨_, (pss_one (ps_ret (pe_and (pe_callB call_isi (by rfl) T.isinstance (by decide +kernel) (pa_cons (pv 0) (pa_cons (pe_bltn (v := .ty "int") (by rfl) T.int (by decide +kernel) rfl) pa_nil))) (pe_one (pe_not (pe_callB call_isi (by rfl) T.isinstance (by decide +kernel) (pa_cons (pv 0) (pa_cons (pe_bltn (v := .ty "bool") (by rfl) T.bool (by decide +kernel) rfl) pa_nil)))))))), ?_⟩
    obtain ⟨i, rfl, k⟩ := h
    refine ⟨_, rfl, _, _, _, _, _, rfl, .ty _, .base (.int i), kit_ty (b := "int") (r := true) (by decide +kernel), _, rfl, iteT ?_⟩
    exact ⟨_, rfl, _, _, _, _, _, rfl, .ty _, .base (.int i), kit_ty (b := "bool") (r := false) (by decide +kernel), _, rfl, k⟩
def spWithin : Sp := fun vs H Q _ => ∃ i lo hi : Int, vs = [.int i, .int lo, .int hi] ∧ (lo ≤ i ∧ i ≤ hi) ∧ Q (.bl true) H
theorem ok_is_within (D : DefIn K mg "is_within" s_is_within) (G_is_integer : Keeps P w K mg base CX0 1 "is_integer" ["value"] spIsInt) : Keeps P w K mg base CX0 2 "is_within" ["value", "least", "most"] spWithin := by
  refine D.keeps sc_is_within (fun vs H Q E h => ?_) (fun _ _ _ _ _ _ us hl => match us, hl with | [_, _, _], _ => rfl) (fun cdv A outer s H vs Q E hr h => ?_)
  · obtain ⟨i, lo, hi, rfl, _⟩ := h
    rfl
  · refine ⟨_, (pss_one (ps_ret (pe_and (pe_do G_is_integer hr (by rfl) pass0 (pa_cons (pv 0) pa_nil)) (pe_one (pe_chain op_le op_le (pv 1) (pv 0) (pv 2)))))), ?_⟩
    obtain ⟨i, lo, hi, rfl, ⟨h1, h2⟩, k⟩ := h
    refine ⟨_, rfl, i, rfl, _, rfl, iteT ?_⟩
    refine ⟨_, rfl, _, rfl, _, _, rfl, rfl, _, rfl, ?_⟩
    rw [decide_eq_true h1]
    refine iteT ⟨_, rfl, _, _, rfl, rfl, ?_⟩
    dsimp only
    rw [decide_eq_true h2]
    exact k
def spReqW : Sp := fun vs H Q _ => ∃ i lo hi : Int, vs = [.int i, .int lo, .int hi] ∧ (lo ≤ i ∧ i ≤ hi) ∧ Q .non H
theorem ok_require_within (D : DefIn K mg "require_within" s_require_within) (G_is_within : Keeps P w K mg base CX0 2 "is_within" ["value", "least", "most"] spWithin) : Keeps P w K mg base CX0 3 "require_within" ["value", "least", "most"] spReqW := by
  refine D.keeps sc_require_within (fun vs H Q E h => ?_) (fun _ _ _ _ _ _ us hl => match us, hl with | [_, _, _], _ => rfl) (fun cdv A outer s H vs Q E hr h => ?_)
  · obtain ⟨i, lo, hi, rfl, _⟩ := h
    rfl
  · refine ⟨_, (pss_one (ps_if (pt_not (pt_val (pe_do G_is_within hr (by rfl) pass0 (pa_cons (pv 0) (pa_cons (pv 1) (pa_cons (pv 2) pa_nil)))))) (pss_one ps_never) pss_nil)), ?_⟩
    obtain ⟨i, lo, hi, rfl, hb, k⟩ := h
    refine ⟨_, rfl, _, rfl, _, rfl, i, lo, hi, rfl, hb, _, rfl, ?_⟩
    exact iteF k
def spReqB : Sp := fun vs H Q _ => ∃ i : Int, vs = [.int i] ∧ (2 ≤ i ∧ i ≤ 5) ∧ Q .non H
theorem ok_require_base (D : DefIn K mg "require_base" s_require_base) (T : Fre mg) (G_require_within : Keeps P w K mg base CX0 3 "require_within" ["value", "least", "most"] spReqW) : Keeps P w K mg base CX0 4 "require_base" ["value"] spReqB := by
  refine D.keeps sc_require_base (fun vs H Q E h => ?_) (fun _ _ _ _ _ _ us hl => match us, hl with | [_], _ => rfl) (fun cdv A outer s H vs Q E hr h => ?_)
  · obtain ⟨i, rfl, _⟩ := h
    rfl
  · refine ⟨_, (pss_one (ps_expr (pe_do G_require_within hr (by rfl) pass0 (pa_cons (pv 0) (pa_cons pe_int (pa_cons (pe_glob (v := .int 5) rfl T.c_MAX_BASE.choose_spec ⟨_, rfl⟩) pa_nil)))))), ?_⟩
    obtain ⟨i, rfl, hb, k⟩ := h
    exact ⟨_, rfl, i, 2, 5, rfl, hb, k⟩
def spReqP : Sp := fun vs H Q _ => ∃ i : Int, vs = [.int i] ∧ (0 ≤ i ∧ i ≤ 10 ^ 60) ∧ Q .non H
theorem ok_require_place (D : DefIn K mg "require_place" s_require_place) (T : Fre mg) (G_require_within : Keeps P w K mg base CX0 3 "require_within" ["value", "least", "most"] spReqW) : Keeps P w K mg base CX0 4 "require_place" ["value"] spReqP := by
  refine D.keeps sc_require_place (fun vs H Q E h => ?_) (fun _ _ _ _ _ _ us hl => match us, hl with | [_], _ => rfl) (fun cdv A outer s H vs Q E hr h => ?_)
  · obtain ⟨i, rfl, _⟩ := h
    rfl
  · refine ⟨_, (pss_one (ps_expr (pe_do G_require_within hr (by rfl) pass0 (pa_cons (pv 0) (pa_cons pe_int (pa_cons (pe_glob (v := .int 1000000000000000000000000000000000000000000000000000000000000) rfl T.c_MAX_PLACE.choose_spec ⟨_, rfl⟩) pa_nil)))))), ?_⟩
    obtain ⟨i, rfl, hb, k⟩ := h
    exact ⟨_, rfl, i, 0, 10 ^ 60, rfl, hb, k⟩
/-- the digits of a number, high ones first -/
def spDigIn (K : PySem.W.Frag) : Sp := fun vs H Q _ => ∃ b n : Nat, vs = [.int b, .int n] ∧ 2 ≤ b ∧ b ≤ 64 ∧ n < 2 ^ 1000 ∧ TupTo K (vN (digs b n)) H Q
theorem ok_digits_in (D : DefIn K mg "digits_in" s_digits_in) (T : Fre mg) : Keeps P w K mg base CX0 1 "digits_in" ["base", "place"] (spDigIn K) := by
  refine D.keeps sc_digits_in (fun vs H Q E h => ?_) (fun _ _ _ _ _ _ us hl => match us, hl with | [_, _], _ => rfl) (fun cdv A outer s H vs Q E hr h => ?_)
  · obtain ⟨b, n, rfl, _⟩ := h
    rfl
  · refine ⟨_, (pss_cons (ps_par (i := 2) (j := 3) (by rfl) sc_digits_in.nd rfl rfl (by decide) rfl rfl (pa_cons (pe_lst pa_nil) (pa_cons (pv 1) pa_nil)) (by rfl))
  (pss_cons (ps_while PassesOwn.never (pt_cmpR op_gt (pv 3) pe_int (nomark _)) (pss_cons (ps_expr (pe_bm PySem.F.plainAttrs_list PySem.F.slot_list_append PySem.F.type_list_append mt_append (pv 2) (pa_cons (pe_op op_mod (pv 3) (pv 0)) pa_nil)))
  (pss_one (ps_set (i := 3) sc_digits_in.nd rfl (Or.inl rfl) (pe_op op_fdivW (pv 3) (pv 0))))))
  (pss_one (ps_ret (pe_callTy call_tuple_of (by rfl) T.tuple (by decide +kernel) (pa_cons (pe_revL (pv 2)) pa_nil)))))), ?_⟩
    obtain ⟨b, n, rfl, hb, hb2, hn, k⟩ := h
    refine And.intro (by show 0 ≤ sizeLine; decide) (fun p np => new_of np fun H1 e1 h1 => ?_)
    refine ⟨_, rfl, _, _, rfl, ?_⟩
    refine ⟨fun m σ' H' => ∃ (acc : List Nat), σ' = [some (.int b), some (.int n), some (.ref p), some (.int m)] ∧ Same H H' ∧ H' p = some (.lst (vN acc)) ∧ acc ++ lows b m = lows b n, ⟨n, [], rfl, e1, h1, rfl⟩, ?_⟩
    rintro m _ H' ⟨acc, rfl, e2, h2, hl⟩
    have W : Has H' [(p, .lst (vN acc))] := .one h2
    have hlen : (lows b n).length ≤ 1000 := lows_len hb 1000 n hn
    repeat (first
      | refine ⟨_, rfl, ?_⟩
      | refine ⟨_, _, rfl, rfl, ?_⟩
      | refine ⟨_, _, rfl, ?_⟩
      | refine ⟨_, _, _, _, rfl, rfl, SqL.of (W.get 0 rfl), rfl, ?_⟩
      | refine And.intro (cmulL (by decide) (by decide)) ?_
      | refine And.intro (cmulR (by decide) (by decide)) ?_
      | refine And.intro (show CPowW _ _ by decide +kernel) ?_
      | exact rfl
      | refine And.intro (show (0 : Int) < _ by decide +kernel) ?_
      | refine And.intro (show CDivW _ _ from ⟨by decide, by decide +kernel⟩) ?_
      | refine .inl ⟨_, rfl, ?_⟩
      | refine .inr ⟨_, rfl, ?_⟩)
    refine iteD (fun ha => ?_) (fun ha => ?_)
    · refine ⟨fun σ' H' => ∃ m', m' < m ∧ ∃ (acc : List Nat), σ' = [some (.int b), some (.int n), some (.ref p), some (.int m')] ∧ Same H H' ∧ H' p = some (.lst (vN acc)) ∧ acc ++ lows b m' = lows b n, fun _ _ h => h, ?_⟩
      refine ⟨_, rfl, Or.inl ⟨rfl, _, SqL.of h2⟩, _, rfl, _, rfl, _, _, rfl, rfl, (by omega : (0 : Int) < b), _, _, _, rfl, rfl, h2, by rw [vN_len]; have : acc.length ≤ (lows b n).length := (by rw [← hl, List.length_append]; omega); show _ < sizeLine; rw [sizeLine_eq]; omega, ?_⟩
      refine ⟨_, rfl, _, rfl, _, _, rfl, rfl, ⟨by omega, (Nat.lt_of_le_of_lt (Nat.log2_le_self _) (by omega))⟩, ?_⟩
      refine ⟨m / b, Nat.div_lt_self (by omega) (by omega), acc ++ [m % b], rfl, fun x o hx => ?_, ?_, ?_⟩
      · rw [upd_ne (ne_of_none hx np)]
        exact e2 x o hx
      · rw [vN_app]; exact upd_same
      · rw [List.append_assoc, ← hl, lows_pos (n := m) hb (by omega)]; rfl
    · have hm : m = 0 := by omega
      subst hm
      rw [lows_zero, List.append_nil] at hl
      subst hl
      refine ⟨_, rfl, p, _, rfl, SqL.of h2, fun q nq => new_of nq fun H2 e3 h3 => ?_⟩
      refine ⟨q, _, rfl, Or.inl ⟨SqL.of h3, fun t nt => new_of nt fun H3 e4 h4 => ?_⟩⟩
      rw [← vN_rev] at h4
      exact k _ _ (e2.trans (e3.trans e4)) (.of h4)
/-- the number that digits tell -/
def spPlaceIn (K : PySem.W.Frag) : Sp := fun vs H Q _ => ∃ (b : Nat) (a : Addr) (ds : List Nat), vs = [.int b, .ref a] ∧ b < 65 ∧ SqT K H a (vN ds) ∧ Q (.int (pl b ds : Nat)) H
theorem pl_take {b : Nat} {ds : List Nat} {i : Nat} {d : Nat} (h : ds[i]? = some d) : pl b (ds.take (i + 1)) = pl b (ds.take i) * b + d := by
  rw [List.take_add_one, h, Option.toList_some, pl_snoc]
theorem ok_place_in (D : DefIn K mg "place_in" s_place_in) (T : Fre mg) : Keeps P w K mg base CX0 1 "place_in" ["base", "digits"] (spPlaceIn K) := by
  refine D.keeps sc_place_in (fun vs H Q E h => ?_) (fun _ _ _ _ _ _ us hl => match us, hl with | [_, _], _ => rfl) (fun cdv A outer s H vs Q E hr h => ?_)
  · obtain ⟨b, a, ds, rfl, _⟩ := h
    rfl
  · refine ⟨_, (pss_cons (ps_set (i := 2) sc_place_in.nd rfl (Or.inl rfl) pe_int)
  (pss_cons (ps_for PassesOwn.never rfl (pi_tup (pv 1)) (pg_name (i := 3) sc_place_in.nd rfl (Or.inl rfl))
  (pss_one (ps_set (i := 2) sc_place_in.nd rfl (Or.inl rfl) (pe_op op_add (pe_op op_mul (pv 2) (pv 0)) (pv 3)))))
  (pss_one (ps_ret (pv 2))))), ?_⟩
    obtain ⟨b, a, ds, rfl, hb, hS, k⟩ := h
    refine ⟨_, rfl, a, rfl, ⟨_, hS⟩, for_tup (K := K) (a := a) (xs := vN ds) (fun i σ' H' => (∃ v, σ' = [some (.int b), some (.ref a), some (.int (pl b (ds.take i) : Nat)), v]) ∧ H' = H) ⟨⟨none, rfl⟩, rfl⟩ (fun i σ' H' _ h => h.2 ▸ hS) ?_ ?_⟩
    · rintro i x _ _ hx ⟨⟨v, rfl⟩, rfl⟩
      rw [vN_get] at hx
      cases e : ds[i]? with
      | none => rw [e] at hx; cases hx
      | some d =>
        rw [e] at hx
        cases hx
        refine ⟨_, rfl, _, rfl, _, _, rfl, rfl, .inr ⟨by omega, by omega⟩, _, rfl, _, _, rfl, rfl, ?_⟩
        refine ⟨⟨some (.int d), ?_⟩, rfl⟩
        rw [pl_take e]
        exact rfl
    · rintro _ _ ⟨⟨v, rfl⟩, rfl⟩
      rw [vN_len, List.take_length]
      exact ⟨_, rfl, k⟩
/-- how many noughts stand at the end -/
def spNoughts : Sp := fun vs H Q _ => ∃ b n : Nat, vs = [.int b, .int n] ∧ 2 ≤ b ∧ b < 65 ∧ 0 < n ∧ Q (.int (tz b n : Nat)) H
theorem ok_noughts_behind (D : DefIn K mg "noughts_behind" s_noughts_behind) (T : Fre mg) : Keeps P w K mg base CX0 1 "noughts_behind" ["base", "place"] spNoughts := by
  refine D.keeps sc_noughts_behind (fun vs H Q E h => ?_) (fun _ _ _ _ _ _ us hl => match us, hl with | [_, _], _ => rfl) (fun cdv A outer s H vs Q E hr h => ?_)
  · obtain ⟨b, n, rfl, _⟩ := h
    rfl
  · refine ⟨_, (pss_cons (ps_par (i := 2) (j := 3) (by rfl) sc_noughts_behind.nd rfl rfl (by decide) rfl rfl (pa_cons pe_int (pa_cons (pv 1) pa_nil)) (by rfl))
  (pss_cons (ps_while PassesOwn.never (pt_cmpR op_eq (pe_op op_mod (pv 3) (pv 0)) pe_int (nomark _)) (pss_one (ps_par (i := 2) (j := 3) (by rfl) sc_noughts_behind.nd rfl rfl (by decide) rfl rfl (pa_cons (pe_op op_add (pv 2) pe_int) (pa_cons (pe_op op_fdivW (pv 3) (pv 0)) pa_nil)) (by rfl))))
  (pss_one (ps_ret (pv 2))))), ?_⟩
    obtain ⟨b, n, rfl, hb, hb2, hn, k⟩ := h
    refine ⟨_, rfl, _, _, rfl, ?_⟩
    refine ⟨fun m σ' H' => ∃ f : Nat, σ' = [some (.int b), some (.int n), some (.int f), some (.int m)] ∧ H' = H ∧ 0 < m ∧ f + tz b m = tz b n, ⟨n, 0, rfl, rfl, hn, by omega⟩, ?_⟩
    rintro m _ _ ⟨f, rfl, rfl, hm, ht⟩
    refine ⟨_, rfl, _, rfl, _, _, rfl, rfl, (by omega : (0 : Int) < b), rfl, _, rfl, ?_⟩
    have em : decide (V.int ((m : Int) % (b : Int)) = V.int 0) = decide (m % b = 0) := by
      apply decide_eq_decide.mpr
      constructor
      · intro h
        have := V.int.inj h
        omega
      · intro h
        congr 1
        omega
    show if decide (V.int ((m : Int) % (b : Int)) = V.int 0) = true then _ else _
    rw [em]
    refine iteD (fun h0 => ?_) (fun h0 => ?_)
    · refine ⟨fun σ' H' => ∃ m', m' < m ∧ ∃ f : Nat, σ' = [some (.int b), some (.int n), some (.int f), some (.int m')] ∧ H' = _ ∧ 0 < m' ∧ f + tz b m' = tz b n, fun _ _ h => h, ?_⟩
      refine ⟨_, rfl, _, _, rfl, rfl, _, rfl, _, rfl, _, _, rfl, rfl, ⟨by omega, (Nat.lt_of_le_of_lt (Nat.log2_le_self _) (by omega))⟩, ?_⟩
      refine ⟨_, _, rfl, m / b, Nat.div_lt_self (by omega) (by omega), f + 1, rfl, rfl, div_pos_of hb hm h0, ?_⟩
      rw [tz_yes hb hm h0] at ht
      omega
    · rw [tz_no h0] at ht
      subst ht
      exact ⟨_, rfl, k⟩
def spDigits (K : PySem.W.Frag) : Sp := fun vs H Q _ => ∃ b n : Nat, vs = [.int b, .int n] ∧ 2 ≤ b ∧ b ≤ 5 ∧ n ≤ 10 ^ 60 ∧ TupTo K (vN (digs b n)) H Q
theorem ok_digits_of (D : DefIn K mg "digits_of" s_digits_of) (T : Fre mg) (G_require_base : Keeps P w K mg base CX0 4 "require_base" ["value"] spReqB) (G_require_place : Keeps P w K mg base CX0 4 "require_place" ["value"] spReqP)
    (G_digits_in : Keeps P w K mg base CX0 1 "digits_in" ["base", "place"] (spDigIn K)) : Keeps P w K mg base CX0 5 "digits_of" ["base", "place"] (spDigits K) := by
  refine D.keeps sc_digits_of (fun vs H Q E h => ?_) (fun _ _ _ _ _ _ us hl => match us, hl with | [_, _], _ => rfl) (fun cdv A outer s H vs Q E hr h => ?_)
  · obtain ⟨b, n, rfl, _⟩ := h
    rfl
  · refine ⟨_, (pss_cons (ps_expr (pe_do G_require_base hr (by rfl) pass0 (pa_cons (pv 0) pa_nil)))
  (pss_cons (ps_expr (pe_do G_require_place hr (by rfl) pass0 (pa_cons (pv 1) pa_nil)))
  (pss_one (ps_ret (pe_do G_digits_in hr (by rfl) pass0 (pa_cons (pv 0) (pa_cons (pv 1) pa_nil))))))), ?_⟩
    obtain ⟨b, n, rfl, hb, hb2, hn, k⟩ := h
    refine ⟨_, rfl, b, rfl, by omega, ?_⟩
    refine ⟨_, rfl, n, rfl, by omega, ?_⟩
    exact ⟨_, rfl, _, rfl, b, n, rfl, hb, by omega, Nat.lt_of_le_of_lt hn (by decide +kernel), k⟩
def spDigSum : Sp := fun vs H Q _ => ∃ b n : Nat, vs = [.int b, .int n] ∧ 2 ≤ b ∧ b ≤ 5 ∧ n ≤ 10 ^ 60 ∧ ∀ H', Same H H' → Q (.int (iN (digs b n)).sum) H'
theorem ok_digit_sum (D : DefIn K mg "digit_sum" s_digit_sum) (T : Fre mg) (G_digits_of : Keeps P w K mg base CX0 5 "digits_of" ["base", "place"] (spDigits K)) : Keeps P w K mg base CX0 6 "digit_sum" ["base", "place"] spDigSum := by
  refine D.keeps sc_digit_sum (fun vs H Q E h => ?_) (fun _ _ _ _ _ _ us hl => match us, hl with | [_, _], _ => rfl) (fun cdv A outer s H vs Q E hr h => ?_)
  · obtain ⟨b, n, rfl, _⟩ := h
    rfl
  · refine ⟨_, (pss_one (ps_ret (pe_callB (cr_sumT rfl) (by rfl) T.sum (by decide +kernel) (pa_cons (pe_do G_digits_of hr (by rfl) pass0 (pa_cons (pv 0) (pa_cons (pv 1) pa_nil))) pa_nil)))), ?_⟩
    obtain ⟨b, n, rfl, hb, hb2, hn, k⟩ := h
    refine ⟨_, rfl, _, rfl, b, n, rfl, hb, hb2, hn, fun p H' e hT => ?_⟩
    exact ⟨p, _, rfl, hT, k _ e⟩
def spEnds : Sp := fun vs H Q _ => ∃ b n : Nat, vs = [.int b, .int n] ∧ 2 ≤ b ∧ b ≤ 5 ∧ n ≤ 10 ^ 60 ∧ Q (if 0 < n then .int (tz b n : Nat) else .non) H
theorem ok_ends_with (D : DefIn K mg "ends_with" s_ends_with) (T : Fre mg) (G_require_base : Keeps P w K mg base CX0 4 "require_base" ["value"] spReqB) (G_require_place : Keeps P w K mg base CX0 4 "require_place" ["value"] spReqP)
    (G_noughts_behind : Keeps P w K mg base CX0 1 "noughts_behind" ["base", "place"] spNoughts) : Keeps P w K mg base CX0 5 "ends_with" ["base", "place"] spEnds := by
  refine D.keeps sc_ends_with (fun vs H Q E h => ?_) (fun _ _ _ _ _ _ us hl => match us, hl with | [_, _], _ => rfl) (fun cdv A outer s H vs Q E hr h => ?_)
  · obtain ⟨b, n, rfl, _⟩ := h
    rfl
  · refine ⟨_, (pss_cons (ps_expr (pe_do G_require_base hr (by rfl) pass0 (pa_cons (pv 0) pa_nil)))
  (pss_cons (ps_expr (pe_do G_require_place hr (by rfl) pass0 (pa_cons (pv 1) pa_nil)))
  (pss_one (ps_ret (pe_ifExp (pt_cmpR op_gt (pv 1) pe_int (nomark _)) (pe_do G_noughts_behind hr (by rfl) pass0 (pa_cons (pv 0) (pa_cons (pv 1) pa_nil))) pe_non))))), ?_⟩
    obtain ⟨b, n, rfl, hb, hb2, hn, k⟩ := h
    refine ⟨_, rfl, b, rfl, by omega, ?_⟩
    refine ⟨_, rfl, n, rfl, by omega, ?_⟩
    refine ⟨_, rfl, _, _, rfl, rfl, _, rfl, ?_⟩
    refine iteD (fun h0 => ?_) (fun h0 => ?_)
    · rw [if_pos (by omega)] at k
      exact ⟨_, rfl, _, rfl, b, n, rfl, hb, by omega, by omega, k⟩
    · rw [if_neg (by omega)] at k
      exact k
/-- digits with so many in all -/
def spWide (K : PySem.W.Frag) : Sp := fun vs H Q _ => ∃ b n m : Nat, vs = [.int b, .int n, .int m] ∧ 2 ≤ b ∧ b ≤ 5 ∧ n ≤ 10 ^ 60 ∧ m ≤ 300 ∧ (digs b n).length ≤ m ∧ TupTo K (vN (List.replicate (m - (digs b n).length) 0 ++ digs b n)) H Q
theorem flat_one (k : Nat) (v : V) : (List.replicate k [v]).flatten = List.replicate k v := by
  induction k with
  | zero => rfl
  | succ k ih => rw [List.replicate_succ, List.flatten_cons, ih]; rfl
theorem vN_rep (k : Nat) : vN (List.replicate k 0) = List.replicate k (V.int 0) := by unfold vN iN; simp
theorem ok_digits_wide (D : DefIn K mg "digits_wide" s_digits_wide) (T : Fre mg) (G_require_base : Keeps P w K mg base CX0 4 "require_base" ["value"] spReqB) (G_require_place : Keeps P w K mg base CX0 4 "require_place" ["value"] spReqP)
    (G_require_within : Keeps P w K mg base CX0 3 "require_within" ["value", "least", "most"] spReqW) (G_digits_in : Keeps P w K mg base CX0 1 "digits_in" ["base", "place"] (spDigIn K)) : Keeps P w K mg base CX0 5 "digits_wide" ["base", "place", "many"] (spWide K) := by
  refine D.keeps sc_digits_wide (fun vs H Q E h => ?_) (fun _ _ _ _ _ _ us hl => match us, hl with | [_, _, _], _ => rfl) (fun cdv A outer s H vs Q E hr h => ?_)
  · obtain ⟨b, n, m, rfl, _⟩ := h
    rfl
  · refine ⟨_, (pss_cons (ps_expr (pe_do G_require_base hr (by rfl) pass0 (pa_cons (pv 0) pa_nil)))
  (pss_cons (ps_expr (pe_do G_require_place hr (by rfl) pass0 (pa_cons (pv 1) pa_nil)))
  (pss_cons (ps_expr (pe_do G_require_within hr (by rfl) pass0 (pa_cons (pv 2) (pa_cons pe_int (pa_cons (pe_glob (v := .int 300) rfl T.c_MAX_DIGITS.choose_spec ⟨_, rfl⟩) pa_nil)))))
  (pss_cons (ps_set (i := 3) sc_digits_wide.nd rfl (Or.inl rfl) (pe_do G_digits_in hr (by rfl) pass0 (pa_cons (pv 0) (pa_cons (pv 1) pa_nil))))
  (pss_cons (ps_if (pt_cmpR op_gt (pe_callB call_len_seq (by rfl) T.len PySem.boot_len (pa_cons (pv 3) pa_nil)) (pv 2) (nomark _)) (pss_one ps_never) pss_nil)
  (pss_one (ps_ret (pe_op op_catU (pe_op op_repA (pe_tup (pa_cons pe_int pa_nil)) (pe_op op_sub (pv 2) (pe_callB call_len_seq (by rfl) T.len PySem.boot_len (pa_cons (pv 3) pa_nil)))) (pv 3))))))))), ?_⟩
    obtain ⟨b, n, m, rfl, hb, hb2, hn, hm, hl, k⟩ := h
    refine ⟨_, rfl, b, rfl, by omega, ?_⟩
    refine ⟨_, rfl, n, rfl, by omega, ?_⟩
    refine ⟨_, rfl, m, 0, 300, rfl, by omega, ?_⟩
    refine ⟨_, rfl, _, rfl, b, n, rfl, hb, by omega, Nat.lt_of_le_of_lt hn (by decide +kernel), fun p H1 e1 h1 => ?_⟩
    refine ⟨_, rfl, p, _, rfl, Or.inr h1, _, rfl, _, _, rfl, rfl, _, rfl, ?_⟩
    refine iteD (fun hc => ?_) (fun hc => ?_)
    · rw [vN_len] at hc
      omega
    · refine And.intro (by show 1 ≤ sizeLine; decide) (fun q nq => new_of nq fun H2 e2 h2 => ?_)
      have h1' : SqT K H2 p (vN (digs b n)) := by
        rcases h1 with (h | ⟨o, h⟩) | h
        · exact .inl (.inl (e2 _ _ h))
        · exact .inl (.inr ⟨o, e2 _ _ h⟩)
        · exact .inr h
      refine ⟨_, rfl, _, rfl, p, _, rfl, Or.inr h1', _, _, rfl, rfl, _, _, _, rfl, rfl, .of h2, ?_, ?_, ?_, fun r H3 e3 h3 => ?_⟩
      · rw [vN_len]; omega
      · rw [vN_len]; omega
      · decide
      · have h1'' : SqT K H3 p (vN (digs b n)) := by
          rcases h1' with (h | ⟨o, h⟩) | h
          · exact .inl (.inl (e3 _ _ h))
          · exact .inl (.inr ⟨o, e3 _ _ h⟩)
          · exact .inr h
        rw [vN_len, flat_one] at h3
        have el : ((m : Int) - ((digs b n).length : Int)).toNat = m - (digs b n).length := by omega
        rw [el, ← vN_rep] at h3
        refine ⟨_, rfl, _, _, _, _, rfl, rfl, h3, h1'', ?_, fun z H4 e4 h4 => ?_⟩
        · rw [vN_len, vN_len, List.length_replicate, sizeLine_eq]; omega
        · rw [← vN_app] at h4
          exact k _ _ (e1.trans (e2.trans (e3.trans e4))) h4
def spPlaceOf (K : PySem.W.Frag) : Sp := fun vs H Q _ => ∃ (b : Nat) (a : Addr) (ds : List Nat), vs = [.int b, .ref a] ∧ 2 ≤ b ∧ b ≤ 5 ∧ ds.length ≤ 300 ∧ (∀ d ∈ ds, d < b) ∧ SqT K H a (vN ds) ∧ ∀ H', Same H H' → Q (.int (pl b ds : Nat)) H'
theorem ok_place_of (D : DefIn K mg "place_of" s_place_of) (T : Fre mg) (G_require_base : Keeps P w K mg base CX0 4 "require_base" ["value"] spReqB)
    (G_is_within : Keeps P w K mg base CX0 2 "is_within" ["value", "least", "most"] spWithin) (G_place_in : Keeps P w K mg base CX0 1 "place_in" ["base", "digits"] (spPlaceIn K)) : Keeps P w K mg base CX0 5 "place_of" ["base", "digits"] (spPlaceOf K) := by
  refine D.keeps sc_place_of (fun vs H Q E h => ?_) (fun _ _ _ _ _ _ us hl => match us, hl with | [_, _], _ => rfl) (fun cdv A outer s H vs Q E hr h => ?_)
  · obtain ⟨b, a, ds, rfl, _⟩ := h
    rfl
  · refine ⟨_, (pss_cons (ps_expr (pe_do G_require_base hr (by rfl) pass0 (pa_cons (pv 0) pa_nil)))
  (pss_cons (ps_if (PW.pt (pw_or (pt_not (pt_val (pe_callB call_isi (by rfl) T.isinstance (by decide +kernel) (pa_cons (pv 1) (pa_cons (pe_bltn (v := .ty "tuple") (by rfl) T.tuple (by decide +kernel) rfl) pa_nil))))) (pw_or1 (pt_cmpR op_gt (pe_callB call_len_seq (by rfl) T.len PySem.boot_len (pa_cons (pv 1) pa_nil)) (pe_glob (v := .int 300) rfl T.c_MAX_DIGITS.choose_spec ⟨_, rfl⟩) (nomark _))))) (pss_one ps_never) pss_nil)
  (pss_cons (ps_if (pt_not (pt_val (pe_callB (cr_all rfl) (by rfl) T.all (by decide +kernel) (pa_cons (pe_lc (own := [("digit", 2)]) rfl sc_place_of.nd (pi_tup (pv 1)) (blkOk_by (own := [("digit", 2)]) (N := ["base", "digits", "digit"]) (sc := defScope s_place_of) (by decide +kernel)) (fun _ _ _ _ _ => (pg_name (i := 2) sc_place_of.nd rfl (Or.inl rfl))) (fun _ _ _ _ _ => pts_nil) (fun _ _ _ _ _ => (pe_do G_is_within hr (by rfl) pass0 (pa_cons (pv 2) (pa_cons pe_int (pa_cons (pe_op op_sub (pv 0) pe_int) pa_nil)))))) pa_nil)))) (pss_one ps_never) pss_nil)
  (pss_one (ps_ret (pe_do G_place_in hr (by rfl) pass0 (pa_cons (pv 0) (pa_cons (pv 1) pa_nil)))))))), ?_⟩
    obtain ⟨b, a, ds, rfl, hb, hb2, hl, hd, ha, k⟩ := h
    refine ⟨_, rfl, b, rfl, by omega, ?_⟩
    refine ⟨_, rfl, _, _, _, _, _, rfl, .ty _, tyT ha, kit_ty (b := "tuple") (r := true) (by decide +kernel), _, rfl, ?_⟩
    refine iteF ?_
    refine ⟨_, rfl, a, _, rfl, Or.inr ha, _, _, rfl, rfl, _, rfl, ?_⟩
    refine iteD (fun hc => ?_) (fun hc => ?_)
    · rw [vN_len] at hc
      omega
    · refine ⟨_, rfl, a, rfl, ⟨_, ha⟩, fun L nL => ?_⟩
      refine lc_tup (xs := vN ds) (fun i H' => Same H H' ∧ H' L = some (.lst (List.replicate i (V.bl true)))) ⟨same_new nL, upd_same⟩ (fun i H' _ h => sameT h.1 ha) ?_ ?_
      · rintro i x H' hx ⟨e1, h1⟩
        rw [vN_get] at hx
        cases e : ds[i]? with
        | none => rw [e] at hx; cases hx
        | some d =>
          rw [e] at hx
          cases hx
          have hlt : d < b := hd d (List.mem_of_getElem? e)
          have hi : i < ds.length := (List.getElem?_eq_some_iff.mp e).1
          refine ⟨rfl, _, rfl, _, rfl, _, _, rfl, rfl, d, 0, _, rfl, by omega, _, h1, by rw [List.length_replicate, sizeLine_eq]; omega, fun x o hx => ?_, ?_⟩
          · rw [upd_ne (ne_of_none hx nL)]
            exact e1 x o hx
          · rw [upd_same, List.replicate_succ']
      · rintro H' ⟨e1, h1⟩
        refine ⟨L, List.replicate (vN ds).length true, rfl, .of (by rw [h1, List.map_replicate]), _, rfl, ?_⟩
        have e3 : (List.replicate (vN ds).length true).all id = true := by simp
        dsimp only
        rw [e3]
        refine iteF ?_
        exact ⟨_, rfl, _, rfl, b, a, ds, rfl, by omega, sameT e1 ha, k _ e1⟩
end
end Pf

set_option Elab.async false
set_option linter.all false
set_option maxRecDepth 100000
set_option maxHeartbeats 4000000
namespace Pf
open PySem PySem.Spec PyProof.Rows L2 My M11
section
variable {P : Program} {w : World} {K : PySem.W.Frag} {mg : Str → Option Value} {base : Heap}
theorem ok_law_is_int (D : DefIn K mg "_law_is_int" s_law_is_int) (T : Fre mg) : Keeps P w K mg base CX0 1 "_law_is_int" ["value"] spIsInt := by
  refine D.keeps sc_law_is_int (fun vs H Q E h => ?_) (fun _ _ _ _ _ _ us hl => match us, hl with | [_], _ => rfl) (fun cdv A outer s H vs Q E hr h => ?_)
  · obtain ⟨i, rfl, _⟩ := h
    rfl
  · refine ⟨_, (pss_one (ps_ret (pe_and (pe_callB call_isi (by rfl) T.isinstance (by decide +kernel) (pa_cons (pv 0) (pa_cons (pe_bltn (v := .ty "int") (by rfl) T.int (by decide +kernel) rfl) pa_nil))) (pe_one (pe_not (pe_callB call_isi (by rfl) T.isinstance (by decide +kernel) (pa_cons (pv 0) (pa_cons (pe_bltn (v := .ty "bool") (by rfl) T.bool (by decide +kernel) rfl) pa_nil)))))))), ?_⟩
    obtain ⟨i, rfl, k⟩ := h
    refine ⟨_, rfl, _, _, _, _, _, rfl, .ty _, .base (.int i), kit_ty (b := "int") (r := true) (by decide +kernel), _, rfl, iteT ?_⟩
    exact ⟨_, rfl, _, _, _, _, _, rfl, .ty _, .base (.int i), kit_ty (b := "bool") (r := false) (by decide +kernel), _, rfl, k⟩
theorem ok_law_digits (D : DefIn K mg "_law_digits" s_law_digits) (T : Fre mg) : Keeps P w K mg base CX0 1 "_law_digits" ["base", "place"] (spDigIn K) := by
  refine D.keeps sc_law_digits (fun vs H Q E h => ?_) (fun _ _ _ _ _ _ us hl => match us, hl with | [_, _], _ => rfl) (fun cdv A outer s H vs Q E hr h => ?_)
  · obtain ⟨b, n, rfl, _⟩ := h
    rfl
  · refine ⟨_, (pss_cons (ps_par (i := 2) (j := 3) (by rfl) sc_law_digits.nd rfl rfl (by decide) rfl rfl (pa_cons (pe_lst pa_nil) (pa_cons (pv 1) pa_nil)) (by rfl))
  (pss_cons (ps_while PassesOwn.never (pt_cmpR op_gt (pv 3) pe_int (nomark _)) (pss_cons (ps_expr (pe_bm PySem.F.plainAttrs_list PySem.F.slot_list_append PySem.F.type_list_append mt_append (pv 2) (pa_cons (pe_op op_mod (pv 3) (pv 0)) pa_nil)))
  (pss_one (ps_set (i := 3) sc_law_digits.nd rfl (Or.inl rfl) (pe_op op_fdivW (pv 3) (pv 0))))))
  (pss_one (ps_ret (pe_callTy call_tuple_of (by rfl) T.tuple (by decide +kernel) (pa_cons (pe_revL (pv 2)) pa_nil)))))), ?_⟩
    obtain ⟨b, n, rfl, hb, hb2, hn, k⟩ := h
    refine And.intro (by show 0 ≤ sizeLine; decide) (fun p np => new_of np fun H1 e1 h1 => ?_)
    refine ⟨_, rfl, _, _, rfl, ?_⟩
    refine ⟨fun m σ' H' => ∃ (acc : List Nat), σ' = [some (.int b), some (.int n), some (.ref p), some (.int m)] ∧ Same H H' ∧ H' p = some (.lst (vN acc)) ∧ acc ++ lows b m = lows b n, ⟨n, [], rfl, e1, h1, rfl⟩, ?_⟩
    rintro m _ H' ⟨acc, rfl, e2, h2, hl⟩
    have W : Has H' [(p, .lst (vN acc))] := .one h2
    have hlen : (lows b n).length ≤ 1000 := lows_len hb 1000 n hn
    repeat (first
      | refine ⟨_, rfl, ?_⟩
      | refine ⟨_, _, rfl, rfl, ?_⟩
      | refine ⟨_, _, rfl, ?_⟩
      | refine ⟨_, _, _, _, rfl, rfl, SqL.of (W.get 0 rfl), rfl, ?_⟩
      | refine And.intro (cmulL (by decide) (by decide)) ?_
      | refine And.intro (cmulR (by decide) (by decide)) ?_
      | refine And.intro (show CPowW _ _ by decide +kernel) ?_
      | exact rfl
      | refine And.intro (show (0 : Int) < _ by decide +kernel) ?_
      | refine And.intro (show CDivW _ _ from ⟨by decide, by decide +kernel⟩) ?_
      | refine .inl ⟨_, rfl, ?_⟩
      | refine .inr ⟨_, rfl, ?_⟩)
    refine iteD (fun ha => ?_) (fun ha => ?_)
    · refine ⟨fun σ' H' => ∃ m', m' < m ∧ ∃ (acc : List Nat), σ' = [some (.int b), some (.int n), some (.ref p), some (.int m')] ∧ Same H H' ∧ H' p = some (.lst (vN acc)) ∧ acc ++ lows b m' = lows b n, fun _ _ h => h, ?_⟩
      refine ⟨_, rfl, Or.inl ⟨rfl, _, SqL.of h2⟩, _, rfl, _, rfl, _, _, rfl, rfl, (by omega : (0 : Int) < b), _, _, _, rfl, rfl, h2, by rw [vN_len]; have : acc.length ≤ (lows b n).length := (by rw [← hl, List.length_append]; omega); show _ < sizeLine; rw [sizeLine_eq]; omega, ?_⟩
      refine ⟨_, rfl, _, rfl, _, _, rfl, rfl, ⟨by omega, (Nat.lt_of_le_of_lt (Nat.log2_le_self _) (by omega))⟩, ?_⟩
      refine ⟨m / b, Nat.div_lt_self (by omega) (by omega), acc ++ [m % b], rfl, fun x o hx => ?_, ?_, ?_⟩
      · rw [upd_ne (ne_of_none hx np)]
        exact e2 x o hx
      · rw [vN_app]; exact upd_same
      · rw [List.append_assoc, ← hl, lows_pos (n := m) hb (by omega)]; rfl
    · have hm : m = 0 := by omega
      subst hm
      rw [lows_zero, List.append_nil] at hl
      subst hl
      refine ⟨_, rfl, p, _, rfl, SqL.of h2, fun q nq => new_of nq fun H2 e3 h3 => ?_⟩
      refine ⟨q, _, rfl, Or.inl ⟨SqL.of h3, fun t nt => new_of nt fun H3 e4 h4 => ?_⟩⟩
      rw [← vN_rev] at h4
      exact k _ _ (e2.trans (e3.trans e4)) (.of h4)
def spGreat : Sp := fun vs H Q _ => ∃ d : Addr, vs = [.ref d] ∧ DiceAt H d ∧ ∀ (n : Nat) H', n < 10 ^ 54 → But d H H' → DiceAt H' d → Q (.int n) H'
theorem ok_law_great (D : DefIn K mg "_law_great" s_law_great) (T : Fre mg) (G_law_roll : Keeps P w K mg base CX0 1 "_law_roll" ["dice", "total"] spRoll) : Keeps P w K mg base CX0 2 "_law_great" ["dice"] spGreat := by
  refine D.keeps sc_law_great (fun vs H Q E h => ?_) (fun _ _ _ _ _ _ us hl => match us, hl with | [_], _ => rfl) (fun cdv A outer s H vs Q E hr h => ?_)
  · obtain ⟨d, rfl, _⟩ := h
    rfl
  · refine ⟨_, (pss_cons (ps_set (i := 1) sc_law_great.nd rfl (Or.inl rfl) (pe_do G_law_roll hr (by rfl) pass0 (pa_cons (pv 0) (pa_cons pe_int pa_nil))))
  (pss_cons (ps_if (pt_cmpR op_lt (pv 1) pe_int (nomark _)) (pss_one (ps_ret (pe_do G_law_roll hr (by rfl) pass0 (pa_cons (pv 0) (pa_cons pe_int pa_nil))))) pss_nil)
  (pss_cons (ps_if (pt_cmpR op_eq (pv 1) pe_int (nomark _)) (pss_one (ps_ret (pe_do G_law_roll hr (by rfl) pass0 (pa_cons (pv 0) (pa_cons (pe_op op_powW pe_int pe_int) pa_nil))))) pss_nil)
  (pss_cons (ps_set (i := 2) sc_law_great.nd rfl (Or.inl rfl) pe_int)
  (pss_cons (ps_for PassesOwn.never rfl (pi_range1 (by rfl) T.range (pa_cons pe_int pa_nil)) (pg_name (i := 3) sc_law_great.nd rfl (Or.inl rfl))
  (pss_one (ps_set (i := 2) sc_law_great.nd rfl (Or.inl rfl) (pe_op op_add (pe_op op_mul (pv 2) (pe_op op_powW pe_int pe_int)) (pe_do G_law_roll hr (by rfl) pass0 (pa_cons (pv 0) (pa_cons (pe_op op_powW pe_int pe_int) pa_nil)))))))
  (pss_one (ps_ret (pv 2)))))))), ?_⟩
    obtain ⟨d, rfl, hd, k⟩ := h
    refine ⟨_, rfl, d, 4, rfl, hd, by decide, by decide +kernel, fun r H1 h0 h4 b1 d1 => ?_⟩
    refine ⟨_, rfl, _, _, rfl, rfl, _, rfl, ?_⟩
    refine iteD (fun hc => ?_) (fun hc => ?_)
    · refine ⟨_, rfl, d, 40, rfl, d1, by decide, by decide +kernel, fun r2 H2 g0 g4 b2 d2 => ?_⟩
      obtain ⟨n, rfl⟩ : ∃ n : Nat, r2 = n := ⟨r2.toNat, by omega⟩
      exact k n H2 (by omega) (b1.trans b2) d2
    · refine ⟨_, rfl, rfl, _, rfl, ?_⟩
      refine iteD (fun hc2 => ?_) (fun hc2 => ?_)
      · refine ⟨_, rfl, _, _, rfl, rfl, by decide +kernel, d, 10 ^ 6, rfl, d1, by decide, by decide +kernel, fun r2 H2 g0 g4 b2 d2 => ?_⟩
        obtain ⟨n, rfl⟩ : ∃ n : Nat, r2 = n := ⟨r2.toNat, by omega⟩
        exact k n H2 (by omega) (b1.trans b2) d2
      · refine ⟨9, rfl, by decide, by decide, for_range (fun i σ' H' => ∃ (f : Nat) (v : Option V), σ' = [some (.ref d), some (.int r), some (.int f), v] ∧ f < 1000000 ^ i ∧ But d H1 H' ∧ DiceAt H' d) ⟨0, none, rfl, by decide, But.refl _ _, d1⟩ ?_ ?_⟩
        · rintro i _ H2 hi ⟨f, v, rfl, hf, b2, d2⟩
          refine ⟨_, rfl, _, _, rfl, rfl, by decide +kernel, _, _, rfl, rfl, .inr ⟨by decide, by decide⟩, ?_⟩
          refine ⟨_, rfl, _, _, rfl, rfl, by decide +kernel, d, 10 ^ 6, rfl, d2, by decide, by decide +kernel, fun r2 H3 g0 g4 b3 d3 => ?_⟩
          obtain ⟨n, rfl⟩ : ∃ n : Nat, r2 = n := ⟨r2.toNat, by omega⟩
          refine ⟨_, _, rfl, rfl, f * 1000000 + n, some (.int (0 + (i : Nat))), ?_, ?_, b2.trans b3, d3⟩
          · have e6 : (10 : Int) ^ Int.toNat 6 = 1000000 := by decide
            have e : ((f * 1000000 + n : Nat) : Int) = (f : Int) * 10 ^ Int.toNat 6 + n := by
              rw [e6]; omega
            rw [e]
            exact rfl
          · rw [Nat.pow_succ]
            have := Nat.mul_le_mul_right 1000000 hf
            rw [Nat.succ_mul] at this
            omega
        · rintro _ H2 ⟨f, v, rfl, hf, b2, d2⟩
          have e9 : 1000000 ^ (Int.toNat 9) = 10 ^ 54 := by decide +kernel
          rw [e9] at hf
          exact ⟨_, rfl, k f H2 (by omega) (b1.trans b2) d2⟩
def spRight : Sp := fun vs H Q _ => ∃ d : Addr, vs = [.ref d] ∧ DiceAt H d ∧ ∀ H', But d H H' → DiceAt H' d → Q (.bl true) H'
theorem ok_law_right (D : DefIn K mg "_law_right" s_law_right) (T : Fre mg) (G_law_roll : Keeps P w K mg base CX0 1 "_law_roll" ["dice", "total"] spRoll) (G_law_pick : Keeps P w K mg base CX0 2 "_law_pick" ["dice", "items"] spPick)
    (G_law_great : Keeps P w K mg base CX0 2 "_law_great" ["dice"] spGreat) (G_law_digits : Keeps P w K mg base CX0 1 "_law_digits" ["base", "place"] (spDigIn K)) (G_digits_of : Keeps P w K mg base CX0 5 "digits_of" ["base", "place"] (spDigits K))
    (G_law_is_int : Keeps P w K mg base CX0 1 "_law_is_int" ["value"] spIsInt) (G_place_of : Keeps P w K mg base CX0 5 "place_of" ["base", "digits"] (spPlaceOf K)) (G_digits_wide : Keeps P w K mg base CX0 5 "digits_wide" ["base", "place", "many"] (spWide K))
    (G_digit_sum : Keeps P w K mg base CX0 6 "digit_sum" ["base", "place"] spDigSum) (G_ends_with : Keeps P w K mg base CX0 5 "ends_with" ["base", "place"] spEnds) : Keeps P w K mg base CX0 8 "_law_right" ["dice"] spRight := by
  refine D.keeps sc_law_right (fun vs H Q E h => ?_) (fun _ _ _ _ _ _ us hl => match us, hl with | [_], _ => rfl) (fun cdv A outer s H vs Q E hr h => ?_)
  · obtain ⟨d, rfl, _⟩ := h
    rfl
  · refine ⟨_, (Evl.pss_cut (ps_asg (pe_tup (pa_cons (pe_op op_add pe_int (pe_do G_law_roll hr (by rfl) pass0 (pa_cons (pv 0) (pa_cons pe_int pa_nil)))) (pa_cons (pe_do G_law_pick hr (by rfl) pass0 (pa_cons (pv 0) (pa_cons (pe_lst (pa_cons (pe_do G_law_great hr (by rfl) pass0 (pa_cons (pv 0) pa_nil)) (pa_cons (pe_do G_law_great hr (by rfl) pass0 (pa_cons (pv 0) pa_nil)) (pa_cons (pe_op op_powW pe_int pe_int) pa_nil)))) pa_nil))) pa_nil))) (pg_tup (by rfl) (pgs_cons (pg_name (i := 1) sc_law_right.nd rfl (Or.inr rfl)) (pgs_cons (pg_name (i := 2) sc_law_right.nd rfl (Or.inl rfl)) pgs_nil))))
  (pss_cons (ps_set (i := 3) sc_law_right.nd rfl (Or.inl rfl) (pe_do G_law_digits hr (by rfl) pass0 (pa_cons (pv 1) (pa_cons (pv 2) pa_nil))))
  (pss_cons (ps_set (i := 4) sc_law_right.nd rfl (Or.inl rfl) (pe_do G_digits_of hr (by rfl) pass0 (pa_cons (pv 1) (pa_cons (pv 2) pa_nil))))
  (pss_cons (ps_if (PW.pt (pw_or (pt_cmpR (op_neD hr.units) (pv 4) (pv 3) (nomark _)) (pw_or1 (pt_cmpR (op_neD hr.units) (pe_lc (own := [("one", 11)]) rfl sc_law_right.nd (pi_tup (pv 4)) (blkOk_by (own := [("one", 11)]) (N := ["dice", "base", "place", "digits", "told", "more", "wide", "ends", "drawn", "value", "at", "one", "digit"]) (sc := defScope s_law_right) (by decide +kernel)) (fun _ _ _ _ _ => (pg_name (i := 11) sc_law_right.nd rfl (Or.inl rfl))) (fun _ _ _ _ _ => (pts_one (pt_not (pt_val (pe_do G_law_is_int hr (by rfl) pass0 (pa_cons (pv 11) pa_nil)))))) (fun _ _ _ _ _ => pe_int)) (pe_lst pa_nil) (nomark _))))) (pss_one (ps_ret pe_bl)) pss_nil)
  (pss_cons (ps_set (i := 5) sc_law_right.nd rfl (Or.inl rfl) (pe_do G_law_roll hr (by rfl) pass0 (pa_cons (pv 0) (pa_cons pe_int pa_nil))))
  (pss_cons (ps_set (i := 6) sc_law_right.nd rfl (Or.inl rfl) (pe_op op_catU (pe_op op_repA (pe_tup (pa_cons pe_int pa_nil)) (pv 5)) (pv 3)))
  (pss_cons (ps_if (PW.pt (pw_or (pt_cmpR op_ne (pe_do G_place_of hr (by rfl) pass0 (pa_cons (pv 1) (pa_cons (pv 6) pa_nil))) (pv 2) (nomark _)) (pw_or (pt_cmpR op_ne (pe_do G_place_of hr (by rfl) pass0 (pa_cons (pv 1) (pa_cons (pv 4) pa_nil))) (pv 2) (nomark _)) (pw_or1 (pt_cmpR (op_neD hr.units) (pe_do G_digits_wide hr (by rfl) pass0 (pa_cons (pv 1) (pa_cons (pv 2) (pa_cons (pe_callB call_len_seq (by rfl) T.len PySem.boot_len (pa_cons (pv 6) pa_nil)) pa_nil)))) (pv 6) (nomark _)))))) (pss_one (ps_ret pe_bl)) pss_nil)
  (pss_cons (ps_if (pt_cmpR op_ne (pe_do G_digit_sum hr (by rfl) pass0 (pa_cons (pv 1) (pa_cons (pv 2) pa_nil))) (pe_callB (cr_sumT rfl) (by rfl) T.sum (by decide +kernel) (pa_cons (pv 3) pa_nil)) (nomark _)) (pss_one (ps_ret pe_bl)) pss_nil)
  (pss_cons (ps_set (i := 7) sc_law_right.nd rfl (Or.inl rfl) pe_non)
  (Evl.pss_cut (ps_if (pt_cmpR op_gt (pv 2) pe_int (nomark _)) (pss_one (ps_set (i := 7) sc_law_right.nd rfl (Or.inl rfl) (pe_callB (cr_min rfl) (by rfl) T.min (by decide +kernel) (pa_cons (pe_lc (own := [("at", 10), ("digit", 12)]) rfl sc_law_right.nd (pi_enumT (by rfl) T.enumerate (pa_cons (pe_revT (pv 3)) pa_nil)) (blkOk_by (own := [("at", 10), ("digit", 12)]) (N := ["dice", "base", "place", "digits", "told", "more", "wide", "ends", "drawn", "value", "at", "one", "digit"]) (sc := defScope s_law_right) (by decide +kernel)) (fun _ _ _ _ _ => (pg_tupK K (n := 2) (by rfl) (by rfl) (pgs_cons (pg_name (i := 10) sc_law_right.nd rfl (Or.inl rfl)) (pgs_cons (pg_name (i := 12) sc_law_right.nd rfl (Or.inl rfl)) pgs_nil)))) (fun _ _ _ _ _ => (pts_one (pt_cmpR op_ne (pv 12) pe_int (nomark _)))) (fun _ _ _ _ _ => (pv 10))) pa_nil)))) pss_nil)
  (pss_cons (ps_set (i := 8) sc_law_right.nd rfl (Or.inl rfl) (pe_callTy call_tuple_of (by rfl) T.tuple (by decide +kernel) (pa_cons (pe_lc (own := [("at", 10)]) rfl sc_law_right.nd (pi_range1 (by rfl) T.range (pa_cons (pe_do G_law_roll hr (by rfl) pass0 (pa_cons (pv 0) (pa_cons pe_int pa_nil))) pa_nil)) (blkOk_by (own := [("at", 10)]) (N := ["dice", "base", "place", "digits", "told", "more", "wide", "ends", "drawn", "value", "at", "one", "digit"]) (sc := defScope s_law_right) (by decide +kernel)) (fun _ _ _ _ _ => (pg_name (i := 10) sc_law_right.nd rfl (Or.inl rfl))) (fun _ _ _ _ _ => pts_nil) (fun _ _ _ _ _ => (pe_do G_law_roll hr (by rfl) pass0 (pa_cons (pv 0) (pa_cons (pv 1) pa_nil))))) pa_nil)))
  (pss_cons (ps_set (i := 9) sc_law_right.nd rfl (Or.inl rfl) (pe_do G_place_of hr (by rfl) pass0 (pa_cons (pv 1) (pa_cons (pv 8) pa_nil))))
  (pss_one (ps_ret (pe_and (pe_cmpR op_eq (pe_callB call_reprF (by rfl) T.repr (by decide +kernel) (pa_cons (pe_do G_ends_with hr (by rfl) pass0 (pa_cons (pv 1) (pa_cons (pv 2) pa_nil))) pa_nil)) (pe_callB call_reprF (by rfl) T.repr (by decide +kernel) (pa_cons (pv 7) pa_nil)) (nomark _)) (pe_one (pe_cmpR (op_eqD hr.units) (pe_do G_digits_wide hr (by rfl) pass0 (pa_cons (pv 1) (pa_cons (pv 9) (pa_cons (pe_callB call_len_seq (by rfl) T.len PySem.boot_len (pa_cons (pv 8) pa_nil)) pa_nil)))) (pv 8) (nomark _)))))))))))))))))), ?_⟩
    obtain ⟨d, rfl, hd, k⟩ := h
    -- base, place
    refine ⟨fun σ' H' => ∃ b n : Nat, σ' = [some (.ref d), some (.int b), some (.int n), none, none, none, none, none, none, none, none, none, none] ∧ 2 ≤ b ∧ b ≤ 5 ∧ n ≤ 10 ^ 60 ∧ But d H H' ∧ DiceAt H' d, ?_, ?_⟩
    · refine ⟨_, rfl, d, 4, rfl, hd, by decide, by decide +kernel, fun r H1 r0 r4 b1 d1 => ?_⟩
      refine ⟨_, _, rfl, rfl, _, rfl, _, rfl, d, rfl, d1, fun n1 H2 hn1 b2 d2 => ?_⟩
      refine ⟨_, rfl, d, rfl, d2, fun n2 H3 hn2 b3 d3 => ?_⟩
      refine ⟨_, _, rfl, rfl, by decide +kernel, by show 3 ≤ sizeLine; decide, fun p np => new_of np fun H4 e4 h4 => ?_⟩
      have b4 : But d H H4 := b1.trans (b2.trans (b3.trans (.of e4)))
      have ⟨x, y, z, h3⟩ := d3
      have ne : p ≠ d := fun q => by rw [q, h3] at np; cases np
      refine ⟨d, p, _, rfl, ne, h4, ⟨x, y, z, e4 _ _ h3⟩, by show 0 < 3; decide, by show 3 < 1000; decide, fun i v H5 hi b5 d5 => ?_⟩
      have hv : ∃ n : Nat, v = .int n ∧ n ≤ 10 ^ 60 := by
        match i, hi with
        | 0, hi => exact ⟨n1, (Option.some.inj hi).symm, by omega⟩
        | 1, hi => exact ⟨n2, (Option.some.inj hi).symm, by omega⟩
        | 2, hi => exact ⟨10 ^ 60, (Option.some.inj hi).symm, Nat.le_refl _⟩
        | i + 3, hi => cases hi
      obtain ⟨n, rfl, hn⟩ := hv
      refine ⟨by show 2 ≤ sizeLine; decide, fun t nt => new_of nt fun H6 e6 h6 => ?_⟩
      obtain ⟨b, hb⟩ : ∃ b : Nat, 2 + r = b := ⟨(2 + r).toNat, by omega⟩
      replace h6 : H6 t = some (.tup [.int b, .int n]) := by rw [← hb]; exact h6
      refine ⟨t, _, rfl, .of h6, rfl, _, _, rfl, _, _, rfl, rfl, b, n, rfl, by omega, by omega, hn, b4.trans (b5.trans (.of e6)), ?_⟩
      obtain ⟨x, y, z, h5⟩ := d5
      exact ⟨x, y, z, e6 _ _ h5⟩
    rintro _ H1 ⟨b, n, rfl, hb, hb2, hn, b1, d1⟩
    have hn2 : n < 2 ^ 200 := Nat.lt_of_le_of_lt hn (by decide +kernel)
    have hlen : (digs b n).length ≤ 200 := by unfold digs; rw [List.length_reverse]; exact lows_len hb 200 n hn2
    have hlt : ∀ x ∈ digs b n, x < b := fun x hx => lows_lt hb n x (by unfold digs at hx; exact List.mem_reverse.mp hx)
    -- digits, told
    refine ⟨_, rfl, _, rfl, b, n, rfl, hb, by omega, Nat.lt_of_le_of_lt hn (by decide +kernel), fun pd H2 e2 hpd => ?_⟩
    refine ⟨_, rfl, _, rfl, b, n, rfl, hb, hb2, hn, fun pt H3 e3 hpt => ?_⟩
    replace hpd := sameT e3 hpd
    -- told != digits
    refine ⟨_, rfl, _, rfl, _, _, dpTI hpt, dpTI hpd, shapedTI _, shapedTI _, _, rfl, ?_⟩
    rw [eqvTI]
    refine iteF ?_
    -- [1 for one in told if not is_int(one)] != []
    refine ⟨_, rfl, pt, rfl, ⟨_, hpt⟩, fun L nL => ?_⟩
    refine lc_tup (xs := vN (digs b n)) (fun i H' => Same H3 H' ∧ H' L = some (.lst [])) ⟨same_new nL, upd_same⟩ (fun i H' _ h => sameT h.1 hpt) ?_ ?_
    · rintro i x H' hx ⟨e4, h4⟩
      rw [vN_get] at hx
      cases e : (digs b n)[i]? with
      | none => rw [e] at hx; cases hx
      | some v =>
        rw [e] at hx
        cases hx
        exact ⟨rfl, _, rfl, v, rfl, _, rfl, e4, h4⟩
    rintro H4 ⟨e4, h4⟩
    refine ⟨by show 0 ≤ sizeLine; decide, fun N nN => new_of nN fun H5 e5 h5 => ?_⟩
    refine ⟨_, _, .lst (.of (e5 _ _ h4)) .nil, .lst (.of h5) .nil, by decide +kernel, by decide +kernel, _, rfl, ?_⟩
    refine iteF ?_
    have bd : But d H1 H5 := .of (e2.trans (e3.trans (e4.trans e5)))
    replace hpd := sameT (e4.trans e5) hpd
    replace hpt := sameT (e4.trans e5) hpt
    replace d1 : DiceAt H5 d := by
      obtain ⟨x, y, z, h⟩ := d1
      exact ⟨x, y, z, e5 _ _ (e4 _ _ (e3 _ _ (e2 _ _ h)))⟩
    replace b1 := b1.trans bd
    clear e2 e3 e4 e5 h4 h5 nL nN bd
    -- more
    refine ⟨_, rfl, d, 5, rfl, d1, by decide, by decide +kernel, fun r H6 r0 r5 b6 d6 => ?_⟩
    obtain ⟨m, rfl⟩ : ∃ m : Nat, r = m := ⟨r.toNat, by omega⟩
    obtain ⟨x, y, z, hd1⟩ := d1
    replace hpd := butT hd1 b6 hpd
    replace hpt := butT hd1 b6 hpt
    replace b1 := b1.trans b6
    -- wide
    refine ⟨by show 1 ≤ sizeLine; decide, fun q nq => new_of nq fun H7 e7 h7 => ?_⟩
    refine ⟨_, rfl, _, _, _, rfl, rfl, .of h7, by omega, by omega, by decide, fun u H8 e8 h8 => ?_⟩
    rw [flat_one, Int.toNat_natCast, ← vN_rep] at h8
    replace hpd := sameT (e7.trans e8) hpd
    replace hpt := sameT (e7.trans e8) hpt
    refine ⟨_, rfl, _, _, _, _, rfl, rfl, h8, hpd, by rw [vN_len, vN_len, List.length_replicate, sizeLine_eq]; omega, fun pw H9 e9 hpw => ?_⟩
    rw [← vN_app] at hpw
    replace hpd := sameT e9 hpd
    replace hpt := sameT e9 hpt
    -- the tests
    have hw : ∀ x ∈ List.replicate m 0 ++ digs b n, x < b := fun x hx => by
      rcases List.mem_append.mp hx with h | h
      · rw [(List.mem_replicate.mp h).2]; omega
      · exact hlt x h
    have hwl : (List.replicate m 0 ++ digs b n).length ≤ 300 := by rw [List.length_append, List.length_replicate]; omega
    refine ⟨_, rfl, _, rfl, b, pw, _, rfl, hb, hb2, hwl, hw, hpw, fun H10 e10 => ?_⟩
    rw [pl_noughts, pl_digs hb]
    refine ⟨_, rfl, rfl, _, rfl, ?_⟩
    refine iteNS rfl ?_
    refine ⟨_, rfl, _, rfl, b, pt, _, rfl, hb, hb2, by omega, hlt, sameT e10 hpt, fun H11 e11 => ?_⟩
    rw [pl_digs hb]
    refine ⟨_, rfl, rfl, _, rfl, ?_⟩
    refine iteNS rfl ?_
    replace hpd := sameT (e10.trans e11) hpd
    replace hpt := sameT (e10.trans e11) hpt
    replace hpw := sameT (e10.trans e11) hpw
    refine ⟨_, rfl, _, rfl, _, rfl, pw, _, rfl, Or.inr hpw, b, n, _, by rw [vN_len]; rfl, hb, hb2, hn, hwl, by rw [List.length_append, List.length_replicate]; omega, fun px H12 e12 hpx => ?_⟩
    have em : (List.replicate m 0 ++ digs b n).length - (digs b n).length = m := by rw [List.length_append, List.length_replicate]; omega
    rw [em] at hpx
    replace hpw := sameT e12 hpw
    refine ⟨_, rfl, _, _, dpTI hpx, dpTI hpw, shapedTI _, shapedTI _, _, rfl, ?_⟩
    rw [eqvTI]
    refine iteF ?_
    -- digit_sum
    refine ⟨_, rfl, _, rfl, b, n, rfl, hb, hb2, hn, fun H13 e13 => ?_⟩
    replace hpd := sameT (e12.trans e13) hpd
    refine ⟨_, rfl, pd, _, rfl, hpd, rfl, _, rfl, ?_⟩
    refine iteNS rfl ?_
    replace b1 : But d H H13 := b1.trans (.of (e7.trans (e8.trans (e9.trans (e10.trans (e11.trans (e12.trans e13)))))))
    replace d1 : DiceAt H13 d := by
      obtain ⟨x, y, z, h⟩ := d6
      exact ⟨x, y, z, e13 _ _ (e12 _ _ (e11 _ _ (e10 _ _ (e9 _ _ (e8 _ _ (e7 _ _ h))))))⟩
    clear e7 e8 e9 e10 e11 e12 e13
    -- ends
    refine ⟨fun σ' H' => σ' = [some (.ref d), some (.int b), some (.int n), some (.ref pd), some (.ref pt), some (.int m), some (.ref pw), some (if 0 < n then .int (tz b n : Nat) else .non), none, none, none, none, none] ∧ Same H13 H', ?_, ?_⟩
    · refine ⟨_, rfl, _, _, rfl, rfl, _, rfl, ?_⟩
      refine iteD (fun h0 => ?_) (fun h0 => ?_)
      · have h0' : 0 < n := by omega
        rw [if_pos h0']
        refine ⟨_, rfl, pd, _, rfl, hpd, fun p np => new_of np fun H14 e14 h14 => ?_⟩
        rw [← vN_rev, show (digs b n).reverse = lows b n by unfold digs; rw [List.reverse_reverse]] at h14
        refine ⟨p, _, rfl, .of h14, fun L nL => ?_⟩
        refine lc_it (walk_enumT (K := K) (a := p) (xs := vN (lows b n))) (fun i H' => Same H14 H' ∧ H' L = some (.lst (vN (idx (lows b n) i)))) ⟨same_new nL, upd_same⟩ (fun i H' _ h => .of (h.1 _ _ h14)) ?_ ?_
        · rintro i v H' H'' hi ⟨e15, h15⟩ ⟨T, x, y, rfl, nT, rfl, hx, hy⟩
          replace hy : (vN (lows b n))[i]? = some y := hy
          rw [vN_get] at hy
          cases e : (lows b n)[i]? with
          | none => rw [e] at hy; cases hy
          | some v =>
            rw [e] at hy
            cases hy
            cases hx
            refine ⟨T, _, rfl, .of upd_same, rfl, _, _, rfl, _, _, rfl, rfl, rfl, ?_⟩
            refine ⟨_, rfl, rfl, _, rfl, ?_⟩
            have eL : (upd H' T (.tup [.int (i : Nat), .int (v : Nat)])) L = some (.lst (vN (idx (lows b n) i))) := by
              rw [upd_ne (ne_of_none h15 nT)]
              exact h15
            have e16 : Same H14 (upd H' T (.tup [.int (i : Nat), .int (v : Nat)])) := e15.trans (same_new nT)
            have hL : ∀ o, Same H14 (upd (upd H' T (.tup [.int (i : Nat), .int (v : Nat)])) L o) := fun o x u hx => by
              rw [upd_ne (ne_of_none hx nL)]
              exact e16 x u hx
            by_cases hv : v = 0
            · subst hv
              have es : idx (lows b n) (i + 1) = idx (lows b n) i := by rw [idx_succ, if_pos e]
              show if (!decide (V.int ((0 : Nat) : Int) = V.int 0)) = true then _ else _
              refine iteNS rfl ⟨e16, ?_⟩
              rw [es]
              exact eL
            · have es : idx (lows b n) (i + 1) = idx (lows b n) i ++ [i] := by rw [idx_succ, if_neg (by rw [e]; intro q; exact hv (Option.some.inj q))]
              refine iteN (fun _ => ?_) (fun q => absurd (V.int.inj q) (by omega))
              refine ⟨_, rfl, _, eL, ?_, hL _, ?_⟩
              · rw [vN_len, sizeLine_eq]
                have := idx_len (lows b n) i
                have := lows_len hb 200 n hn2
                rw [vN_len] at hi
                omega
              · rw [upd_same, es, vN_app]
                rfl
        · rintro H15 ⟨e15, h15⟩
          rw [vN_len] at h15
          have hmin := idx_min hb h0'
          refine ⟨L, iN (idx (lows b n) (lows b n).length), rfl, .of h15, ?_, fun v hv hle => ?_⟩
          · unfold iN; rw [List.length_map]; exact List.length_pos_of_mem hmin.1
          · have ev : v = (tz b n : Nat) := by
              unfold iN at hv hle
              obtain ⟨x, hx, rfl⟩ := List.mem_map.mp hv
              have q1 := hmin.2 x hx
              have q2 := hle (tz b n : Nat) (List.mem_map.mpr ⟨_, hmin.1, rfl⟩)
              omega
            rw [ev]
            exact ⟨rfl, e14.trans e15⟩
      · have h0' : ¬ 0 < n := by omega
        rw [if_neg h0']
        exact ⟨rfl, Same.refl _⟩
    rintro _ H14 ⟨rfl, e14⟩
    replace b1 := b1.trans (.of e14)
    replace d1 : DiceAt H14 d := by
      obtain ⟨x, y, z, h⟩ := d1
      exact ⟨x, y, z, e14 _ _ h⟩
    clear hpd hpt hpw e14
    -- drawn
    refine ⟨_, rfl, d, 30, rfl, d1, by decide, by decide +kernel, fun r H15 r0 r30 b15 d15 => ?_⟩
    obtain ⟨q, rfl⟩ : ∃ q : Nat, r = q := ⟨r.toNat, by omega⟩
    refine ⟨_, rfl, by omega, by omega, fun L nL => ?_⟩
    have ⟨x0, y0, z0, hd15⟩ := d15
    have neL : L ≠ d := fun q => by rw [q, hd15] at nL; cases nL
    refine lc_range (fun i H' => ∃ ds : List Nat, ds.length = i ∧ (∀ x ∈ ds, x < b) ∧ H' L = some (.lst (vN ds)) ∧ But d H15 H' ∧ DiceAt H' d) ⟨[], rfl, by simp, upd_same, .of (same_new nL), ⟨x0, y0, z0, same_new nL _ _ hd15⟩⟩ ?_ ?_
    · rintro i H16 hi ⟨ds, hl, hds, h16, b16, d16⟩
      refine ⟨rfl, _, rfl, _, rfl, d, b, rfl, d16, by omega, ?_, fun r H17 g0 g1 b17 d17 => ?_⟩
      · exact Nat.lt_of_le_of_lt (Nat.log2_le_self _) (by omega)
      obtain ⟨v, rfl⟩ : ∃ v : Nat, r = v := ⟨r.toNat, by omega⟩
      have h17 := b17 _ _ neL h16
      refine ⟨_, h17, by rw [vN_len, sizeLine_eq]; omega, ds ++ [v], by simp [hl], ?_, by rw [upd_same, vN_app]; rfl, ?_, ?_⟩
      · intro x hx
        rcases List.mem_append.mp hx with h | h
        · exact hds x h
        · rw [List.mem_singleton.mp h]; omega
      · intro x o nx hx
        rw [upd_ne (ne_of_none hx nL)]
        exact b17 x o nx (b16 x o nx hx)
      · obtain ⟨x, y, z, h⟩ := d17
        exact ⟨x, y, z, by rw [upd_ne (Ne.symm neL)]; exact h⟩
    rintro H16 ⟨ds, hl, hds, h16, b16, d16⟩
    rw [Int.toNat_natCast] at hl
    have ⟨x1, y1, z1, hd16⟩ := d16
    refine ⟨L, _, rfl, .inl ⟨.of h16, fun t nt => new_of nt fun H17 e17 h17 => ?_⟩⟩
    have b17 : But d H H17 := b1.trans (b15.trans (b16.trans (.of e17)))
    -- value
    refine ⟨_, rfl, _, rfl, b, t, ds, rfl, hb, hb2, by omega, hds, .of h17, fun H18 e18 => ?_⟩
    have h18 : SqT K H18 t (vN ds) := sameT e18 (.of h17)
    have vlt : pl b ds < 5 ^ 30 := by
      have h1 := pl_lt q ds hl hds
      have h2 : b ^ q ≤ 5 ^ 30 := Nat.le_trans (Nat.pow_le_pow_left hb2 q) (Nat.pow_le_pow_right (by decide) (by omega))
      omega
    have v60 : pl b ds ≤ 10 ^ 60 := Nat.le_of_lt (Nat.lt_trans vlt (by decide +kernel))
    -- the answer
    have hz : ∃ z, reprF (if 0 < n then V.int (tz b n : Nat) else .non) = some z := by
      by_cases h0 : 0 < n
      · rw [if_pos h0]
        refine ⟨toString ((tz b n : Nat) : Int), ?_⟩
        unfold reprF
        have h1 := tz_lt hb h0
        have h2 := lows_len hb 200 n hn2
        have h3 : ((tz b n : Nat) : Int).natAbs.log2 < 1920 := Nat.lt_of_le_of_lt (Nat.log2_le_self _) (by omega)
        simp only [h3, if_true]
      · rw [if_neg h0]
        exact ⟨_, rfl⟩
    obtain ⟨z, hz⟩ := hz
    refine ⟨_, rfl, _, rfl, b, n, rfl, hb, hb2, hn, ?_⟩
    refine ⟨_, z, rfl, hz, ?_⟩
    refine ⟨_, rfl, _, z, rfl, hz, rfl, _, rfl, ?_⟩
    rw [decide_eq_true rfl]
    refine iteT ?_
    have hw2 := wide_again hb q ds hl hds
    refine ⟨_, rfl, _, rfl, _, rfl, t, _, rfl, Or.inr h18, b, pl b ds, q, by rw [vN_len, hl]; rfl, hb, hb2, v60, by omega, hw2.1, fun u H19 e19 h19 => ?_⟩
    rw [hw2.2] at h19
    refine ⟨_, rfl, _, _, dpTI h19, dpTI (sameT e19 h18), shapedTI _, shapedTI _, ?_⟩
    rw [eqvTI]
    refine k _ (b17.trans (.of (e18.trans e19))) ⟨x1, y1, z1, e19 _ _ (e18 _ _ (e17 _ _ hd16))⟩
end
end Pf

set_option Elab.async false
set_option linter.all false
set_option maxRecDepth 100000
set_option maxHeartbeats 4000000
namespace Pf
open PySem PySem.Spec PyProof.Rows L2 My M11
section
variable {P : Program} {w : World} {K : PySem.W.Frag} {mg : Str → Option Value} {base : Heap}
def spLaw (K : PySem.W.Frag) : Sp := fun vs H Q _ => ∃ (a : Addr) (ns : List Int), vs = [.ref a] ∧ SqL K H a (ns.map V.int) ∧ ∀ H', Q (.bl true) H'
theorem ok_law {fd : FuncData} (F : FunD K "law" "law" (defArgs s_law) (defBody s_law) (defScope s_law) [] [] (He.ga K "law") fd) (T : Fre mg) (G_law_dice : Keeps P w K mg base CX0 1 "_law_dice" ["script", "spot"] (spDice K)) (G_law_right : Keeps P w K mg base CX0 8 "_law_right" ["dice"] spRight) (G_digits_of : Keeps P w K mg base CX0 5 "digits_of" ["base", "place"] (spDigits K))
    (G_place_of : Keeps P w K mg base CX0 5 "place_of" ["base", "digits"] (spPlaceOf K)) (G_digits_wide : Keeps P w K mg base CX0 5 "digits_wide" ["base", "place", "many"] (spWide K)) (G_ends_with : Keeps P w K mg base CX0 5 "ends_with" ["base", "place"] spEnds) :
    FnOk P w K mg base CX0 9 (He.ga K "law") fd ["script"] (spLaw K) := by
  refine fun_ok0 F sc_law (fun vs H Q E h => ?_) (fun cdv A outer s H vs Q E hr h => ?_)
  · obtain ⟨a, ns, rfl, _⟩ := h
    rfl
  · refine ⟨_, (pss_cons (ps_for PassesOwn.never rfl (pi_range1 (by rfl) T.range (pa_cons (pe_callB (call_max2 rfl) (by rfl) T.max (by decide +kernel) (pa_cons pe_int (pa_cons (pe_callB (call_min2 rfl) (by rfl) T.min (by decide +kernel) (pa_cons pe_int (pa_cons (pe_callB call_len_seq (by rfl) T.len PySem.boot_len (pa_cons (pv 0) pa_nil)) pa_nil))) pa_nil))) pa_nil)) (pg_name (i := 1) sc_law.nd rfl (Or.inl rfl))
  (pss_cons (ps_set (i := 2) sc_law.nd rfl (Or.inl rfl) (pe_do G_law_dice hr (by rfl) pass0 (pa_cons (pv 0) (pa_cons (pv 1) pa_nil))))
  (pss_one (ps_for PassesOwn.never rfl (pi_range1 (by rfl) T.range (pa_cons pe_int pa_nil)) (pg_name (i := 3) sc_law.nd rfl (Or.inl rfl))
  (pss_one (ps_if (pt_not (pt_val (pe_do G_law_right hr (by rfl) pass0 (pa_cons (pv 2) pa_nil)))) (pss_one (ps_ret pe_bl)) pss_nil))))))
  (pss_cons (ps_set (i := 4) sc_law.nd rfl (Or.inl rfl) (pe_lst (pa_cons (pe_do G_digits_of hr (by rfl) pass0 (pa_cons pe_int (pa_cons pe_int pa_nil))) (pa_cons (pe_do G_place_of hr (by rfl) pass0 (pa_cons pe_int (pa_cons (pe_tup pa_nil) pa_nil))) (pa_cons (pe_do G_digits_wide hr (by rfl) pass0 (pa_cons pe_int (pa_cons pe_int (pa_cons pe_int pa_nil)))) (pa_cons (pe_do G_ends_with hr (by rfl) pass0 (pa_cons pe_int (pa_cons pe_int pa_nil))) (pa_cons (pe_do G_place_of hr (by rfl) pass0 (pa_cons pe_int (pa_cons (pe_op op_repA (pe_tup (pa_cons pe_int pa_nil)) pe_int) pa_nil))) pa_nil)))))))
  (pss_cons (ps_if (pt_cmpR (op_neD hr.units) (pv 4) (pe_lst (pa_cons (pe_tup pa_nil) (pa_cons pe_int (pa_cons (pe_tup (pa_cons pe_int (pa_cons pe_int pa_nil))) (pa_cons pe_non (pa_cons (pe_op op_sub (pe_op op_mul (pe_op op_mul (pe_op op_mul (pe_op op_mul (pe_op op_powW pe_int pe_int) (pe_op op_powW pe_int pe_int)) (pe_op op_powW pe_int pe_int)) (pe_op op_powW pe_int pe_int)) (pe_op op_powW pe_int pe_int)) pe_int) pa_nil)))))) (nomark _)) (pss_one (ps_ret pe_bl)) pss_nil)
  (pss_one (ps_ret (pe_cmpR (op_eqD hr.units) (pe_lst (pa_cons (pe_glob (v := .int 5) rfl T.c_MAX_BASE.choose_spec ⟨_, rfl⟩) (pa_cons (pe_glob (v := .int 1000000000000000000000000000000000000000000000000000000000000) rfl T.c_MAX_PLACE.choose_spec ⟨_, rfl⟩) pa_nil))) (pe_lst (pa_cons pe_int (pa_cons (pe_op op_powW pe_int pe_int) pa_nil))) (nomark _))))))), ?_⟩
    obtain ⟨a, ns, rfl, hS, k⟩ := h
    refine ⟨_, rfl, _, _, rfl, Or.inl hS, ?_⟩
    refine ⟨_, _, rfl, ?_⟩
    refine ⟨_, _, rfl, ?_⟩
    have hm : ∀ l : Int, 1 ≤ (if (if l < 8 then l else 8) > 1 then (if l < 8 then l else 8) else 1) ∧ (if (if l < 8 then l else 8) > 1 then (if l < 8 then l else 8) else 1) ≤ 8 := fun l => by
      split <;> split at * <;> omega
    obtain ⟨m1, m2⟩ := hm ((ns.map V.int).length : Int)
    refine ⟨_, rfl, by omega, by omega, for_range (fun i σ' H' => ∃ u v w, σ' = [some (.ref a), u, v, w, none] ∧ Same H H') ⟨none, none, none, rfl, Same.refl _⟩ ?_ ?_⟩
    · rintro i _ H1 hi ⟨u, v, w, rfl, e1⟩
      have hi8 : i ≤ 1000 := by omega
      refine ⟨_, rfl, _, rfl, a, ns, i, by rw [Int.zero_add]; rfl, e1.seq hS, hi8, fun d H2 nd e2 d2 => ?_⟩
      have nd0 : H d = none := e1.free nd
      refine ⟨4, rfl, by decide, by decide, for_range (fun j σ' H' => ∃ w, σ' = [some (.ref a), some (.int (0 + (i : Nat))), some (.ref d), w, none] ∧ Same H H' ∧ DiceAt H' d) ⟨w, rfl, e1.trans e2, d2⟩ ?_ ?_⟩
      · rintro j _ H3 hj ⟨w', rfl, e3, d3⟩
        refine ⟨_, rfl, d, rfl, d3, fun H4 b4 d4 => ⟨_, rfl, ?_⟩⟩
        refine iteF ⟨_, rfl, fun x o hx => b4 x o (ne_of_none hx nd0) (e3 x o hx), d4⟩
      · rintro _ H3 ⟨w', rfl, e3, d3⟩
        exact ⟨_, _, _, rfl, e3⟩
    · rintro _ H1 ⟨u, v, w, rfl, e1⟩
      refine ⟨5, 0, rfl, by decide, by decide, by decide, fun p1 H2 e2 h2 => ?_⟩
      have z0 : digs 5 0 = [] := by unfold digs; rw [lows_zero]; rfl
      rw [z0] at h2
      refine ⟨by show 0 ≤ sizeLine; decide, fun p2 n2 => new_of n2 fun H3 e3 h3 => ?_⟩
      refine ⟨2, p2, [], rfl, by decide, by decide, by decide, by simp, .of h3, fun H4 e4 => ?_⟩
      refine ⟨3, 0, 2, rfl, by decide, by decide, by decide, by decide, by unfold digs; rw [lows_zero]; decide, fun p5 H5 e5 h5 => ?_⟩
      have z3 : vN (List.replicate (2 - (digs 3 0).length) 0 ++ digs 3 0) = [.int 0, .int 0] := by unfold digs; rw [lows_zero]; rfl
      rw [z3] at h5
      refine ⟨4, 0, rfl, by decide, by decide, by decide, ?_⟩
      refine ⟨by show 1 ≤ sizeLine; decide, fun p6 n6 => new_of n6 fun H6 e6 h6 => ?_⟩
      refine ⟨_, _, _, rfl, rfl, .of h6, by decide, by decide, by decide, fun p7 H7 e7 h7 => ?_⟩
      rw [flat_one] at h7
      have z7 : List.replicate (Int.toNat 300) (V.int 1) = vN (List.replicate 300 1) := by unfold vN iN; rw [List.map_replicate, List.map_replicate]; rfl
      rw [z7] at h7
      refine ⟨2, p7, _, rfl, by decide, by decide, by rw [List.length_replicate]; decide, fun x hx => by rw [(List.mem_replicate.mp hx).2]; decide, h7, fun H8 e8 => ?_⟩
      refine ⟨by show 5 ≤ sizeLine; decide, fun p9 n9 => new_of n9 fun H9 e9 h9 => ?_⟩
      have f1 := sameT (e3.trans (e4.trans (e5.trans (e6.trans (e7.trans (e8.trans e9)))))) h2
      have f5 := sameT (e6.trans (e7.trans (e8.trans e9))) h5
      have d1 : DpAll K H9 [V.ref p1, V.int ((pl 2 [] : Nat) : Int), V.ref p5, .non, V.int ((pl 2 (List.replicate 300 1) : Nat) : Int)] [.tuple [], .int 0, .tuple [.int 0, .int 0], .none, .int ((pl 2 (List.replicate 300 1) : Nat) : Int)] :=
        .cons (.tup f1 .nil) (.cons (.int _) (.cons (.tup f5 (.cons (.int _) (.cons (.int _) .nil))) (.cons .non (.cons (.int _) .nil))))
      refine ⟨_, rfl, ?_⟩
      refine ⟨by show 0 ≤ sizeLine; decide, fun q1 k1 => new_of k1 fun G1 t1 g1 => ?_⟩
      refine ⟨by show 2 ≤ sizeLine; decide, fun q2 k2 => new_of k2 fun G2 t2 g2 => ?_⟩
      refine ⟨_, _, rfl, rfl, by decide +kernel, _, _, rfl, rfl, by decide +kernel, _, _, rfl, rfl, .inl ⟨by decide +kernel, by decide +kernel⟩, ?_⟩
      refine ⟨_, _, rfl, rfl, by decide +kernel, _, _, rfl, rfl, .inr ⟨by decide +kernel, by decide +kernel⟩, ?_⟩
      refine ⟨_, _, rfl, rfl, by decide +kernel, _, _, rfl, rfl, .inr ⟨by decide +kernel, by decide +kernel⟩, ?_⟩
      refine ⟨_, _, rfl, rfl, by decide +kernel, _, _, rfl, rfl, .inr ⟨by decide +kernel, by decide +kernel⟩, ?_⟩
      refine ⟨_, _, rfl, rfl, by show 5 ≤ sizeLine; decide, fun q3 k3 => new_of k3 fun G3 t3 g3 => ?_⟩
      refine ⟨.list [.tuple [], .int 0, .tuple [.int 0, .int 0], .none, .int ((pl 2 (List.replicate 300 1) : Nat) : Int)], .list [.tuple [], .int 0, .tuple [.int 0, .int 0], .none, .int (2 ^ 60 * 2 ^ 60 * 2 ^ 60 * 2 ^ 60 * 2 ^ 60 - 1)], .lst (.of (t3 _ _ (t2 _ _ (t1 _ _ h9)))) ?_, .lst (.of g3) ?_, by decide +kernel, by decide +kernel, _, rfl, ?_⟩
      · exact .cons (.tup (sameT (t1.trans (t2.trans t3)) f1) .nil) (.cons (.int _) (.cons (.tup (sameT (t1.trans (t2.trans t3)) f5) (.cons (.int _) (.cons (.int _) .nil))) (.cons .non (.cons (.int _) .nil))))
      · exact .cons (.tup (.of (t3 _ _ (t2 _ _ g1))) .nil) (.cons (.int _) (.cons (.tup (.of (t3 _ _ g2)) (.cons (.int _) (.cons (.int _) .nil))) (.cons .non (.cons (.int _) .nil))))
      have ev : PyData.eqv (.list [.tuple [], .int 0, .tuple [.int 0, .int 0], .none, .int ((pl 2 (List.replicate 300 1) : Nat) : Int)]) (.list [.tuple [], .int 0, .tuple [.int 0, .int 0], .none, .int (2 ^ 60 * 2 ^ 60 * 2 ^ 60 * 2 ^ 60 * 2 ^ 60 - 1)]) = true := by decide +kernel
      rw [ev]
      refine iteF ?_
      refine ⟨by show 2 ≤ sizeLine; decide, fun r1 k4 => new_of k4 fun G4 t4 g4 => ?_⟩
      refine ⟨_, _, rfl, rfl, by decide +kernel, by show 2 ≤ sizeLine; decide, fun r2 k5 => new_of k5 fun G5 t5 g5 => ?_⟩
      refine ⟨.list [.int 5, .int (10 ^ 60)], .list [.int 5, .int (10 ^ 60)], .lst (.of (t5 _ _ g4)) (.cons (.int _) (.cons (.int _) .nil)), .lst (.of g5) (.cons (.int _) (.cons (.int _) .nil)), by decide +kernel, by decide +kernel, ?_⟩
      have ev2 : PyData.eqv (.list [.int 5, .int (10 ^ 60)]) (.list [.int 5, .int (10 ^ 60)]) = true := by decide +kernel
      rw [ev2]
      exact k _
end
end Pf

set_option Elab.async false
set_option linter.all false
set_option maxRecDepth 100000
set_option maxHeartbeats 0
namespace Pf
open PySem PySem.Spec PyProof.Rows L2 My M11
def dd_is_integer : He.DefD := ⟨("is_integer", none), "is_integer", "is_integer", defArgs s_is_integer, defBody s_is_integer, defScope s_is_integer, [], []⟩
def dd_is_within : He.DefD := ⟨("is_within", none), "is_within", "is_within", defArgs s_is_within, defBody s_is_within, defScope s_is_within, [], []⟩
def dd_require_within : He.DefD := ⟨("require_within", none), "require_within", "require_within", defArgs s_require_within, defBody s_require_within, defScope s_require_within, [], []⟩
def dd_require_base : He.DefD := ⟨("require_base", none), "require_base", "require_base", defArgs s_require_base, defBody s_require_base, defScope s_require_base, [], []⟩
def dd_require_place : He.DefD := ⟨("require_place", none), "require_place", "require_place", defArgs s_require_place, defBody s_require_place, defScope s_require_place, [], []⟩
def dd_digits_in : He.DefD := ⟨("digits_in", none), "digits_in", "digits_in", defArgs s_digits_in, defBody s_digits_in, defScope s_digits_in, [], []⟩
def dd_place_in : He.DefD := ⟨("place_in", none), "place_in", "place_in", defArgs s_place_in, defBody s_place_in, defScope s_place_in, [], []⟩
def dd_noughts_behind : He.DefD := ⟨("noughts_behind", none), "noughts_behind", "noughts_behind", defArgs s_noughts_behind, defBody s_noughts_behind, defScope s_noughts_behind, [], []⟩
def dd_digits_of : He.DefD := ⟨("digits_of", none), "digits_of", "digits_of", defArgs s_digits_of, defBody s_digits_of, defScope s_digits_of, [], []⟩
def dd_place_of : He.DefD := ⟨("place_of", none), "place_of", "place_of", defArgs s_place_of, defBody s_place_of, defScope s_place_of, [], []⟩
def dd_digits_wide : He.DefD := ⟨("digits_wide", none), "digits_wide", "digits_wide", defArgs s_digits_wide, defBody s_digits_wide, defScope s_digits_wide, [], []⟩
def dd_digit_sum : He.DefD := ⟨("digit_sum", none), "digit_sum", "digit_sum", defArgs s_digit_sum, defBody s_digit_sum, defScope s_digit_sum, [], []⟩
def dd_ends_with : He.DefD := ⟨("ends_with", none), "ends_with", "ends_with", defArgs s_ends_with, defBody s_ends_with, defScope s_ends_with, [], []⟩
def dd_law_dice : He.DefD := ⟨("_law_dice", none), "_law_dice", "_law_dice", defArgs s_law_dice, defBody s_law_dice, defScope s_law_dice, [], []⟩
def dd_law_roll : He.DefD := ⟨("_law_roll", none), "_law_roll", "_law_roll", defArgs s_law_roll, defBody s_law_roll, defScope s_law_roll, [], []⟩
def dd_law_pick : He.DefD := ⟨("_law_pick", none), "_law_pick", "_law_pick", defArgs s_law_pick, defBody s_law_pick, defScope s_law_pick, [], []⟩
def dd_law_is_int : He.DefD := ⟨("_law_is_int", none), "_law_is_int", "_law_is_int", defArgs s_law_is_int, defBody s_law_is_int, defScope s_law_is_int, [], []⟩
def dd_law_digits : He.DefD := ⟨("_law_digits", none), "_law_digits", "_law_digits", defArgs s_law_digits, defBody s_law_digits, defScope s_law_digits, [], []⟩
def dd_law_great : He.DefD := ⟨("_law_great", none), "_law_great", "_law_great", defArgs s_law_great, defBody s_law_great, defScope s_law_great, [], []⟩
def dd_law_right : He.DefD := ⟨("_law_right", none), "_law_right", "_law_right", defArgs s_law_right, defBody s_law_right, defScope s_law_right, [], []⟩
def dd_law : He.DefD := ⟨("law", none), "law", "law", defArgs s_law, defBody s_law, defScope s_law, [], []⟩
def fn : List He.DefD := [dd_is_integer, dd_is_within, dd_require_within, dd_require_base, dd_require_place, dd_digits_in, dd_place_in, dd_noughts_behind, dd_digits_of, dd_place_of, dd_digits_wide, dd_digit_sum, dd_ends_with, dd_law_dice, dd_law_roll, dd_law_pick, dd_law_is_int, dd_law_digits, dd_law_great, dd_law_right, dd_law]
def fa : List He.Fa := [.glo "is_integer", .glo "is_within", .glo "require_within", .glo "require_base", .glo "require_place", .glo "digits_in", .glo "place_in", .glo "noughts_behind", .glo "digits_of", .glo "place_of", .glo "digits_wide", .glo "digit_sum", .glo "ends_with", .glo "_law_dice", .glo "_law_roll", .glo "_law_pick", .glo "_law_is_int", .glo "_law_digits", .glo "_law_great", .glo "_law_right", .glo "law", .free "len", .free "int", .free "abs", .free "max", .free "min", .free "bool", .free "tuple", .free "isinstance", .free "all", .free "sum", .free "enumerate", .free "range", .free "repr", .int "MAX_BASE" (5), .int "MAX_PLACE" (1000000000000000000000000000000000000000000000000000000000000), .int "MAX_DIGITS" (300)]
abbrev R : PySem.W.OpenRow := PySem.W.OpenLaw.row PySem.Challenge.rw_digitwords_k11_whole_digits
abbrev hk : PySem.W.Hook := He.hookD 4 fa fn
def ob (s : PySem.W.SharedT) : He.AlD := He.obsDG 4 fa fn (HandSHeadRun.getT s)
theorem ob_eq (s : PySem.W.SharedT) : ob s = hk.obs s.abs := He.obsDG_eq (HandSHeadRun.getT_eq s)
def names0 : List Str := ["DigitError", "InvalidOperation", "InvalidCount", "MAX_BASE", "MAX_PLACE", "MAX_DIGITS", "is_integer", "is_within", "require_within", "require_base", "require_place", "digits_in", "place_in", "noughts_behind", "digits_of", "place_of", "digits_wide", "digit_sum", "ends_with", "_law_dice", "_law_roll", "_law_pick", "_law_is_int", "_law_digits", "_law_great", "_law_right"]
def loose : List Str := names0
def lawAt : Nat := 29
theorem run (w : World) : HandSHeadRun.RunEq R (PySem.W.view R.prog [29]) hk ob 4000 loose w := by
  intro os
  kernel_rfl
theorem facts {P : Program} {w : World} {K : PySem.W.Frag} {h : Heap} {mg : Str → Option Value} {f : Addr} (X : K.In h) (G : h.Ns mainGlobals mg) (hfa : mg ("law" : Str) = some (.ref f)) (c : He.SaysD fa fn K) :
    ∃ fd : FuncData, (∀ (s : Shared) (v : Value), BindsTo s fd ⟨[v], []⟩ [("script", v)]) ∧ ∀ base : Heap, K.In base → base.Ns mainGlobals mg → FnOk P w K mg base CX0 9 f fd ["script"] (spLaw K) := by
  have T : Fre mg := ⟨He.free_ok X G (c.fact 21 (f := .free "len") rfl), He.free_ok X G (c.fact 22 (f := .free "int") rfl), He.free_ok X G (c.fact 23 (f := .free "abs") rfl), He.free_ok X G (c.fact 24 (f := .free "max") rfl), He.free_ok X G (c.fact 25 (f := .free "min") rfl), He.free_ok X G (c.fact 26 (f := .free "bool") rfl), He.free_ok X G (c.fact 27 (f := .free "tuple") rfl), He.free_ok X G (c.fact 28 (f := .free "isinstance") rfl), He.free_ok X G (c.fact 29 (f := .free "all") rfl), He.free_ok X G (c.fact 30 (f := .free "sum") rfl), He.free_ok X G (c.fact 31 (f := .free "enumerate") rfl), He.free_ok X G (c.fact 32 (f := .free "range") rfl), He.free_ok X G (c.fact 33 (f := .free "repr") rfl), He.int_ok X G (c.fact 34 (f := .int "MAX_BASE" _) rfl), He.int_ok X G (c.fact 35 (f := .int "MAX_PLACE" _) rfl), He.int_ok X G (c.fact 36 (f := .int "MAX_DIGITS" _) rfl)⟩
  have D_is_integer : DefIn K mg "is_integer" s_is_integer := ⟨c.def_ 0 (d := dd_is_integer) rfl, He.glo_ok X G (c.fact 0 (f := .glo "is_integer") rfl)⟩
  have D_is_within : DefIn K mg "is_within" s_is_within := ⟨c.def_ 1 (d := dd_is_within) rfl, He.glo_ok X G (c.fact 1 (f := .glo "is_within") rfl)⟩
  have D_require_within : DefIn K mg "require_within" s_require_within := ⟨c.def_ 2 (d := dd_require_within) rfl, He.glo_ok X G (c.fact 2 (f := .glo "require_within") rfl)⟩
  have D_require_base : DefIn K mg "require_base" s_require_base := ⟨c.def_ 3 (d := dd_require_base) rfl, He.glo_ok X G (c.fact 3 (f := .glo "require_base") rfl)⟩
  have D_require_place : DefIn K mg "require_place" s_require_place := ⟨c.def_ 4 (d := dd_require_place) rfl, He.glo_ok X G (c.fact 4 (f := .glo "require_place") rfl)⟩
  have D_digits_in : DefIn K mg "digits_in" s_digits_in := ⟨c.def_ 5 (d := dd_digits_in) rfl, He.glo_ok X G (c.fact 5 (f := .glo "digits_in") rfl)⟩
  have D_place_in : DefIn K mg "place_in" s_place_in := ⟨c.def_ 6 (d := dd_place_in) rfl, He.glo_ok X G (c.fact 6 (f := .glo "place_in") rfl)⟩
  have D_noughts_behind : DefIn K mg "noughts_behind" s_noughts_behind := ⟨c.def_ 7 (d := dd_noughts_behind) rfl, He.glo_ok X G (c.fact 7 (f := .glo "noughts_behind") rfl)⟩
  have D_digits_of : DefIn K mg "digits_of" s_digits_of := ⟨c.def_ 8 (d := dd_digits_of) rfl, He.glo_ok X G (c.fact 8 (f := .glo "digits_of") rfl)⟩
  have D_place_of : DefIn K mg "place_of" s_place_of := ⟨c.def_ 9 (d := dd_place_of) rfl, He.glo_ok X G (c.fact 9 (f := .glo "place_of") rfl)⟩
  have D_digits_wide : DefIn K mg "digits_wide" s_digits_wide := ⟨c.def_ 10 (d := dd_digits_wide) rfl, He.glo_ok X G (c.fact 10 (f := .glo "digits_wide") rfl)⟩
  have D_digit_sum : DefIn K mg "digit_sum" s_digit_sum := ⟨c.def_ 11 (d := dd_digit_sum) rfl, He.glo_ok X G (c.fact 11 (f := .glo "digit_sum") rfl)⟩
  have D_ends_with : DefIn K mg "ends_with" s_ends_with := ⟨c.def_ 12 (d := dd_ends_with) rfl, He.glo_ok X G (c.fact 12 (f := .glo "ends_with") rfl)⟩
  have D_law_dice : DefIn K mg "_law_dice" s_law_dice := ⟨c.def_ 13 (d := dd_law_dice) rfl, He.glo_ok X G (c.fact 13 (f := .glo "_law_dice") rfl)⟩
  have D_law_roll : DefIn K mg "_law_roll" s_law_roll := ⟨c.def_ 14 (d := dd_law_roll) rfl, He.glo_ok X G (c.fact 14 (f := .glo "_law_roll") rfl)⟩
  have D_law_pick : DefIn K mg "_law_pick" s_law_pick := ⟨c.def_ 15 (d := dd_law_pick) rfl, He.glo_ok X G (c.fact 15 (f := .glo "_law_pick") rfl)⟩
  have D_law_is_int : DefIn K mg "_law_is_int" s_law_is_int := ⟨c.def_ 16 (d := dd_law_is_int) rfl, He.glo_ok X G (c.fact 16 (f := .glo "_law_is_int") rfl)⟩
  have D_law_digits : DefIn K mg "_law_digits" s_law_digits := ⟨c.def_ 17 (d := dd_law_digits) rfl, He.glo_ok X G (c.fact 17 (f := .glo "_law_digits") rfl)⟩
  have D_law_great : DefIn K mg "_law_great" s_law_great := ⟨c.def_ 18 (d := dd_law_great) rfl, He.glo_ok X G (c.fact 18 (f := .glo "_law_great") rfl)⟩
  have D_law_right : DefIn K mg "_law_right" s_law_right := ⟨c.def_ 19 (d := dd_law_right) rfl, He.glo_ok X G (c.fact 19 (f := .glo "_law_right") rfl)⟩
  obtain ⟨fd, F⟩ := c.def_ 20 (d := dd_law) rfl
  have e := hfa.symm.trans (He.glo_ok X G (c.fact 20 (f := .glo "law") rfl))
  cases e
  have b := FunD.bindsA (ps := ["script"]) F fun _ _ _ _ _ _ us hl => match us, hl with | [_], _ => rfl
  refine ⟨fd, fun s v => b s [v] rfl, fun base _ _ => ?_⟩
  have G1 : Keeps P w K mg base CX0 1 "is_integer" ["value"] spIsInt := ok_is_integer D_is_integer T
  have G2 : Keeps P w K mg base CX0 2 "is_within" ["value", "least", "most"] spWithin := ok_is_within D_is_within G1
  have G3 : Keeps P w K mg base CX0 3 "require_within" ["value", "least", "most"] spReqW := ok_require_within D_require_within G2
  have G4 : Keeps P w K mg base CX0 4 "require_base" ["value"] spReqB := ok_require_base D_require_base T G3
  have G5 : Keeps P w K mg base CX0 4 "require_place" ["value"] spReqP := ok_require_place D_require_place T G3
  have G6 : Keeps P w K mg base CX0 1 "digits_in" ["base", "place"] (spDigIn K) := ok_digits_in D_digits_in T
  have G7 : Keeps P w K mg base CX0 1 "place_in" ["base", "digits"] (spPlaceIn K) := ok_place_in D_place_in T
  have G8 : Keeps P w K mg base CX0 1 "noughts_behind" ["base", "place"] spNoughts := ok_noughts_behind D_noughts_behind T
  have G9 : Keeps P w K mg base CX0 5 "digits_of" ["base", "place"] (spDigits K) := ok_digits_of D_digits_of T G4 G5 G6
  have G10 : Keeps P w K mg base CX0 5 "place_of" ["base", "digits"] (spPlaceOf K) := ok_place_of D_place_of T G4 G2 G7
  have G11 : Keeps P w K mg base CX0 5 "digits_wide" ["base", "place", "many"] (spWide K) := ok_digits_wide D_digits_wide T G4 G5 G3 G6
  have G12 : Keeps P w K mg base CX0 6 "digit_sum" ["base", "place"] spDigSum := ok_digit_sum D_digit_sum T G9
  have G13 : Keeps P w K mg base CX0 5 "ends_with" ["base", "place"] spEnds := ok_ends_with D_ends_with T G4 G5 G8
  have G14 : Keeps P w K mg base CX0 1 "_law_dice" ["script", "spot"] (spDice K) := ok_dice D_law_dice T
  have G15 : Keeps P w K mg base CX0 1 "_law_roll" ["dice", "total"] spRoll := ok_roll D_law_roll T
  have G16 : Keeps P w K mg base CX0 2 "_law_pick" ["dice", "items"] spPick := ok_pick D_law_pick T G15
  have G17 : Keeps P w K mg base CX0 1 "_law_is_int" ["value"] spIsInt := ok_law_is_int D_law_is_int T
  have G18 : Keeps P w K mg base CX0 1 "_law_digits" ["base", "place"] (spDigIn K) := ok_law_digits D_law_digits T
  have G19 : Keeps P w K mg base CX0 2 "_law_great" ["dice"] spGreat := ok_law_great D_law_great T G15
  have G20 : Keeps P w K mg base CX0 8 "_law_right" ["dice"] spRight := ok_law_right D_law_right T G15 G16 G19 G18 G9 G17 G10 G11 G12 G13
  exact ok_law F T G14 G20 G9 G10 G11 G13
end Pf
open PySem PySem.W PySem.Calls PyProof.Rows
set_option maxRecDepth 100000 in
set_option maxHeartbeats 8000000 in
theorem PySem.Challenge.cw_digitwords_k11_whole_digits_holds : PySem.Challenge.rw_digitwords_k11_whole_digits.Holds := by
  w_on; o_law
  refine HandSHeadRun.head_any (r := Pf.R) (q := view Pf.R.prog [29]) (H := Pf.hk) (ob := Pf.ob) (M := 4000) (loose := Pf.loose) (d := HandSHeadRun.topDef Pf.R.prog 29) (kwd := []) Pf.ob_eq
    (by kernel_rfl) (fun s => by kernel_rfl) Pf.run (by kernel_rfl) (by kernel_rfl) (by kernel_rfl) (by rfl) (by first | assumption | decide +kernel) (by decide +kernel) ⟨rfl, rfl, rfl, rfl, rfl, by decide +kernel⟩ ?hw ?hc
  case hw => w_witness2
  case hc =>
    refine L2.walk_ofE (l := PySem.Challenge.rw_digitwords_k11_whole_digits) (n := 63) (k := 9) (x := "script") (CX := L2.CX0) rfl (by decide) (by kernel_rfl) ⟨rfl, by decide, by decide⟩ ?F (fun _ _ _ _ z => z)
    intro w mg fa h Y G hmg0
    obtain ⟨K, KX, c⟩ := Y
    have hmg : mg ("law" : PySem.Str) = some (.ref fa) := by
      have e : (HandSHeadRun.topDef Pf.R.prog 29).name = ("law" : PySem.Str) := by kernel_rfl
      rw [← e]
      exact hmg0
    obtain ⟨fd, hb, hF⟩ := Pf.facts (P := (PySem.Challenge.rw_digitwords_k11_whole_digits).prog) (w := w) KX G hmg c
    exact ⟨K, fd, Pf.spLaw K, KX, hb, fun H a ns hl _ hS => ⟨a, ns, rfl, hS, fun _ => rfl⟩, hF⟩
