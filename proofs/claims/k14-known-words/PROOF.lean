import PyProof.Rows.All
import Wide.All
import OpenK.AllK
import Wide.FinOn
import KE.KStateDown
import Lean
import HandS.ForMost
import HandS.ForExc
import HandS.Flow
import HandS.Evl
import HandS.Style
import HandS.Wide
import HandS.TupMul
import HandS.TupAny
import HandS.IsInst
import HandS.Conv
import HandS.Defaults
import HandS.HeadEnd
import HandS.Head0
import HandS.Head1
import HandS.Head2
import HandS.HeadHook1
import HandS.HeadHook2
import HandS.RaiseMore
import KE.GoesEnum
import HandS.Iter
import HandS.Walk
import KE.KRevSl
import KE.KTupSum
import HandS.List
import PyProof.ListMulRoad
import PyProof.FactsAll.tuple_2
import HandS.Slots
import HandS.SlotsOwn
import HandS.Property
import HandS.NamedTupGet
import HandS.SetFor
import PyProof.AutoSeq1
import HandS.Dict
import HandS.DictComp
import HandS.TupLen
import HandS.WordsDict
import HandS.Star
import HandS.SortInts
import KE.KeyNested
import HandS.Zip
import HandS.CallSlots
import HandS.SortRule
import HandS.TupLe
import HandS.Text
import HandS.Deep
import PySem.Challenge.RW_digitwords_k14_whole_known_words
import HandS.HeadNt
set_option Elab.async false
set_option linter.all false
set_option maxRecDepth 100000
set_option maxHeartbeats 4000000
namespace My
open PySem PySem.Spec PyProof.Rows L2
section
variable {X : Cx}
/-- ** of a great base -/
def CPowW (i j : Int) : Prop := 0 ≤ j ∧ (Builtin.Int.intBits i : Int) * j ≤ 2 ^ 27
instance {i j : Int} : Decidable (CPowW i j) := inferInstanceAs (Decidable (_ ∧ _))
theorem op_powW : OpR X (binaryOp .Pow) (rI CPowW fun i j => .int (i ^ j.toNat)) := opI fun _ _ _ _ _ _ _ hc q => pow_int hc.1 hc.2 q
end
/-- all tracked things but the one at d stay -/
def But (d : Addr) (H H' : Hp) : Prop := ∀ b o, b ≠ d → H b = some o → H' b = some o
theorem But.refl (d : Addr) (H : Hp) : But d H H := fun _ _ _ h => h
theorem But.trans {d : Addr} {H H1 H2 : Hp} (a : But d H H1) (b : But d H1 H2) : But d H H2 := fun c o n h => b c o n (a c o n h)
theorem But.of {d : Addr} {H H' : Hp} (e : Same H H') : But d H H' := fun b o _ h => e b o h
theorem But.upd {d : Addr} {H : Hp} {o : HO} : But d H (upd H d o) := fun b u n h => by rw [upd_ne n]; exact h
theorem But.updT {d : Addr} {H H1 : Hp} {o : HO} (e : But d H H1) : But d H (L2.upd H1 d o) := e.trans But.upd
/-- the dice -/
def DiceAt (H : Hp) (d : Addr) : Prop := ∃ a b c : Int, H d = some (.lst [.int a, .int b, .int c])

/-- a def of the module, by its name: it keeps a promise, wherever k rooms are left -/
def Keeps (P : Program) (w : World) (K : PySem.W.Frag) (mg : Str → Option Value) (base : Heap) (CX : CXT) (k : Nat) (x : Str) (ps : List Str) (sp : Sp) : Prop :=
  ∃ fd, FnOk P w K mg base CX k (He.ga K x) fd ps sp ∧ Binds K fd ps [] ∧ PySem.W.keepIn K (.ref (He.ga K x)) = true ∧ mg x = some (.ref (He.ga K x))
section
variable {X : Cx} {CX : CXT} {k j : Nat} {x : Str} {ps : List Str} {sp : Sp} {E : XK} {p pos : Pos} {e : Expr} {es : List Expr} {t : TA}
theorem pe_doS (F : Keeps X.prog X.w X.K X.mg X.base CX k x ps sp) (hr : Room j X.A) (hk : k ≤ j) (hg : Gl X x) (hx : Passes CX X E) (ha : PA X (e :: es) t) (hdb : (x == ("__debug__" : Str)) = false := by decide)
    (he : starEach (e :: es) X.env = (false, eval e X.env) :: starEach es X.env := by rfl) (hpl : (backTo pos (starEach es X.env)).any (·.1) = false := by rfl) :
    PE X (.Call (.Name x p) (e :: es) [] pos) (tCall sp [] E t) := by
  obtain ⟨fd, G, b, kp, m⟩ := F
  exact pe_call G (hr.mono hk) hg m kp b .nil hx ha hdb he hpl
theorem pe_do (F : Keeps X.prog X.w X.K X.mg X.base CX0 k x ps sp) (hr : Room j X.A) (hg : Gl X x) (hx : Passes CX0 X E) (ha : PA X (e :: es) t) (hk : k ≤ j := by decide) (hdb : (x == ("__debug__" : Str)) = false := by decide)
    (he : starEach (e :: es) X.env = (false, eval e X.env) :: starEach es X.env := by rfl) (hpl : (backTo pos (starEach es X.env)).any (·.1) = false := by rfl) :
    PE X (.Call (.Name x p) (e :: es) [] pos) (tCall sp [] E t) := pe_doS F hr hk hg hx ha hdb he hpl
end
/-- where a def of the text stands -/
structure DefIn (K : PySem.W.Frag) (mg : Str → Option Value) (x : Str) (st : Stmt) : Prop where
  fd : ∃ fd, FunD K x x (defArgs st) (defBody st) (defScope st) [] [] (He.ga K x) fd
  gl : mg x = some (.ref (He.ga K x))
section
variable {P : Program} {w : World} {K : PySem.W.Frag} {mg : Str → Option Value} {base : Heap} {CX : CXT} {k : Nat} {x : Str} {st : Stmt} {N ps : List Str} {sp : Sp}
theorem fun_ok0 {fd : FuncData} (F : FunD K x x (defArgs st) (defBody st) (defScope st) [] [] (He.ga K x) fd) (S : FnScope N ps (defScope st)) (len : ∀ vs H Q E, sp vs H Q E → vs.length = ps.length)
    (hbody : ∀ (cdv : Value) (A : Around) (outer : List Env) (s : Shared) (H : Hp) (vs : List V) (Q : VK) (E : XK), Room k (A.deeper (envOfC x (defScope st) s.heap.objs.size (He.ga K x) cdv)) → sp vs H Q E →
      ∃ t, PSs (cxOf CX0 P w K mg base N x (defScope st) (He.ga K x) cdv A outer s H E).nox (defBody st) t ∧ t { nx := fun _ H' => Q .non H', rt := Q } (start N vs) H) : FnOk P w K mg base CX0 (k + 1) (He.ga K x) fd ps sp := by
  refine F.ok S len fun cdv A outer s H vs Q E hr hsp => ?_
  obtain ⟨t, h, q⟩ := hbody cdv A outer s H vs Q E hr hsp
  exact ⟨t, h.nox, q⟩
theorem DefIn.keeps (D : DefIn K mg x st) (S : FnScope N ps (defScope st)) (len : ∀ vs H Q E, sp vs H Q E → vs.length = ps.length)
    (hb : ∀ (kV doc pm : Value) (an : Option Addr) (cdv ct : Value) (us : List Value), us.length = ps.length → bindArgs (PySem.W.fnOf x x (defArgs st) (defBody st) (defScope st) .none kV doc pm an cdv ct) ⟨us, []⟩ = pure (ps.zip us))
    (hbody : ∀ (cdv : Value) (A : Around) (outer : List Env) (s : Shared) (H : Hp) (vs : List V) (Q : VK) (E : XK), Room k (A.deeper (envOfC x (defScope st) s.heap.objs.size (He.ga K x) cdv)) → sp vs H Q E →
      ∃ t, PSs (cxOf CX0 P w K mg base N x (defScope st) (He.ga K x) cdv A outer s H E).nox (defBody st) t ∧ t { nx := fun _ H' => Q .non H', rt := Q } (start N vs) H) : Keeps P w K mg base CX0 (k + 1) x ps sp := by
  obtain ⟨fd, F⟩ := D.fd
  refine ⟨fd, F.ok S len fun cdv A outer s H vs Q E hr hsp => ?_, F.bindsN hb, F.kp, D.gl⟩
  obtain ⟨t, h, q⟩ := hbody cdv A outer s H vs Q E hr hsp
  exact ⟨t, h.nox, q⟩
end
/-! ### readings, step by step -/
theorem iteD {p : Prop} {_ : Decidable p} {A B : Prop} (h1 : p → A) (h2 : ¬ p → B) : if decide p = true then A else B := by
  by_cases h : p
  · rw [decide_eq_true h]; exact iteT (h1 h)
  · rw [decide_eq_false h]; exact iteF (h2 h)
theorem iteN {p : Prop} {_ : Decidable p} {A B : Prop} (h1 : ¬ p → A) (h2 : p → B) : if (!decide p) = true then A else B := by
  by_cases h : p
  · rw [decide_eq_true h]; exact iteF (h2 h)
  · rw [decide_eq_false h]; exact iteT (h1 h)
theorem iteB {b : Bool} {A B : Prop} (h1 : b = true → A) (h2 : b = false → B) : if b = true then A else B := by
  cases b
  · exact iteF (h2 rfl)
  · exact iteT (h1 rfl)
theorem iteBN {b : Bool} {A B : Prop} (h1 : b = false → A) (h2 : b = true → B) : if (!b) = true then A else B := by
  cases b
  · exact iteT (h1 rfl)
  · exact iteF (h2 rfl)
theorem nodup_ixA : ∀ {l : List Addr} (_ : l.Nodup) {i j : Nat} {d : Addr} (_ : l[i]? = some d) (_ : l[j]? = some d), i = j
  | [], _, i, j, d, h, _ => by simp at h
  | a :: l, n, 0, 0, d, _, _ => rfl
  | a :: l, n, 0, j + 1, d, h1, h2 => by
    simp at h1 h2
    exact absurd (List.mem_of_getElem? h2) (by rw [← h1]; exact (List.nodup_cons.mp n).1)
  | a :: l, n, i + 1, 0, d, h1, h2 => by
    simp at h1 h2
    exact absurd (List.mem_of_getElem? h1) (by rw [← h2]; exact (List.nodup_cons.mp n).1)
  | a :: l, n, i + 1, j + 1, d, h1, h2 => by
    simp at h1 h2
    rw [nodup_ixA (List.nodup_cons.mp n).2 h1 h2]
/-- things that are tracked, at unlike places -/
def Has (H : Hp) (l : List (Addr × HO)) : Prop := (l.map (·.1)).Nodup ∧ ∀ p ∈ l, H p.1 = some p.2
theorem Has.nil {H : Hp} : Has H [] := ⟨List.nodup_nil, fun _ h => nomatch h⟩
theorem Has.one {H : Hp} {a : Addr} {o : HO} (h : H a = some o) : Has H [(a, o)] := ⟨by simp, fun p hp => by
  rw [List.mem_singleton.mp hp]; exact h⟩
theorem Has.cons {H H' : Hp} {l : List (Addr × HO)} {a : Addr} {o : HO} (W : Has H l) (e : Same H H') (n : H a = none) (h : H' a = some o) : Has H' ((a, o) :: l) := by
  refine ⟨?_, fun p hp => ?_⟩
  · rw [List.map_cons, List.nodup_cons]
    refine ⟨fun hm => ?_, W.1⟩
    obtain ⟨q, hq, e2⟩ := List.mem_map.mp hm
    have := W.2 q hq
    rw [e2, n] at this
    cases this
  · rcases List.mem_cons.mp hp with rfl | hp
    · exact h
    · exact e _ _ (W.2 p hp)
theorem Has.same {H H' : Hp} {l : List (Addr × HO)} (W : Has H l) (e : Same H H') : Has H' l := ⟨W.1, fun p hp => e _ _ (W.2 p hp)⟩
theorem Has.drop {H : Hp} {l : List (Addr × HO)} {p : Addr × HO} (W : Has H (p :: l)) : Has H l := ⟨(List.nodup_cons.mp W.1).2, fun q hq => W.2 q (List.mem_cons_of_mem _ hq)⟩
/-- the i-th one is changed -/
theorem Has.but {H H' : Hp} {l : List (Addr × HO)} {d : Addr} {o o' : HO} (i : Nat) (W : Has H l) (hi : l[i]? = some (d, o)) (e : But d H H') (h : H' d = some o') : Has H' (l.set i (d, o')) := by
  have hlt : i < l.length := by
    rcases Nat.lt_or_ge i l.length with h1 | h1
    · exact h1
    · rw [List.getElem?_eq_none h1] at hi; cases hi
  have em : (l.set i (d, o')).map (·.1) = l.map (·.1) := by
    apply List.ext_getElem?
    intro j
    rw [List.getElem?_map, List.getElem?_map, List.getElem?_set]
    by_cases hj : i = j
    · subst hj
      simp [hlt]
      rw [List.getElem?_eq_getElem hlt] at hi
      have := Option.some.inj hi
      rw [this]
    · rw [if_neg hj]
  refine ⟨by rw [em]; exact W.1, fun p hp => ?_⟩
  obtain ⟨j, hj, ej⟩ := List.getElem_of_mem hp
  rw [List.getElem_set] at ej
  by_cases hij : i = j
  · rw [if_pos hij] at ej
    rw [← ej]
    exact h
  · rw [if_neg hij] at ej
    have hj' : j < l.length := by rw [List.length_set] at hj; exact hj
    have hp' : p ∈ l := by rw [← ej]; exact List.getElem_mem hj'
    refine e _ _ (fun hd => ?_) (W.2 p hp')
    have n := W.1
    have h1 : (l.map (·.1))[i]? = some d := by rw [List.getElem?_map, hi]; rfl
    have h2 : (l.map (·.1))[j]? = some d := by rw [List.getElem?_map, List.getElem?_eq_getElem hj', ej]; simp [hd]
    exact hij (nodup_ixA n h1 h2)
theorem Has.upd {H : Hp} {l : List (Addr × HO)} {d : Addr} {o o' : HO} (i : Nat) (W : Has H l) (hi : l[i]? = some (d, o)) : Has (L2.upd H d o') (l.set i (d, o')) := W.but i hi But.upd upd_same
theorem Has.get {H : Hp} {l : List (Addr × HO)} (i : Nat) (W : Has H l) {d : Addr} {o : HO} (hi : l[i]? = some (d, o)) : H d = some o := W.2 _ (List.mem_of_getElem? hi)
/-- a new thing: the heap behind it is any that has it, and all that was -/
@[elab_as_elim] theorem new_of {H : Hp} {p : Addr} {o : HO} {motive : Hp → Prop} (n : H p = none) (h : ∀ H', Same H H' → H' p = some o → motive H') : motive (L2.upd H p o) :=
  h _ (fun b u e => by rw [upd_ne (ne_of_none e n)]; exact e) upd_same
section
variable {K : PySem.W.Frag} {H : Hp} {p : Addr} {xs : List V} {i : Int} {v : V} {Q : VK}
theorem rIxL_of (h : H p = some (.lst xs)) (hv : atI xs i = some v) (q : Q v H) : rIxL K (.ref p) (.int i) H Q := ⟨p, xs, i, v, rfl, rfl, SqL.of h, hv, q⟩
theorem rIxL_sq (h : SqL K H p xs) (hv : atI xs i = some v) (q : Q v H) : rIxL K (.ref p) (.int i) H Q := ⟨p, xs, i, v, rfl, rfl, h, hv, q⟩
theorem rIxT_of (h : H p = some (.tup xs)) (hv : atI xs i = some v) (q : Q v H) : rIxT K (.ref p) (.int i) H Q := ⟨p, xs, i, v, rfl, rfl, SqT.of h, hv, q⟩
theorem rI_of {C : Int → Int → Prop} {g : Int → Int → V} {a b : Int} (hc : C a b) (q : Q (g a b) H) : rI C g (.int a) (.int b) H Q := ⟨a, b, rfl, rfl, hc, q⟩
theorem rI0_of {g : Int → Int → V} {a b : Int} (q : Q (g a b) H) : rI0 g (.int a) (.int b) H Q := ⟨a, b, rfl, rfl, q⟩
theorem set_of {xs : List V} {v : V} {j : Nat} {Q : Hp → Prop} (h : H p = some (.lst xs)) (hj : ixN xs.length i = some j) (q : ∀ H', But p H H' → H' p = some (.lst (xs.set j v)) → Q H') : rSetL (.ref p) (.int i) v H Q :=
  ⟨p, xs, i, j, rfl, rfl, h, hj, q _ But.upd upd_same⟩
theorem cmulL {a b : Int} (h : -(2 ^ 64) < a) (h2 : a < 2 ^ 64) : CMul a b := .inl ⟨h, h2⟩
theorem cmulR {a b : Int} (h : -(2 ^ 64) < b) (h2 : b < 2 ^ 64) : CMul a b := .inr ⟨h, h2⟩
end
/-- an expression, what is known behind it said in between -/
def tMid (te : TE) : TE := fun σ H Q => ∃ R : VK, te σ H R ∧ ∀ v H', R v H' → Q v H'
theorem pe_mid {X : Cx} {e : Expr} {te : TE} (h : PE X e te) : PE X e (tMid te) := ⟨fun pins s σ H Q I ⟨R, h1, h2⟩ =>
  thn (h.run pins s σ H R I h1) fun u s1 ⟨v, H1, I1, r, q⟩ => ⟨v, H1, I1, r, h2 _ _ q⟩⟩
end My

set_option Elab.async false
set_option linter.all false
set_option maxRecDepth 100000
set_option maxHeartbeats 4000000
namespace My
open PySem PySem.Spec PyProof.Rows L2
/-! ### enumerate(tuple) -/
set_option maxHeartbeats 4000000 in
theorem meets_enum1 {v : Value} {o : Obj} {H : Heap → Prop} (B : Begins v o H) :
    Meets (Builtin.«enumerate.__new__» ⟨[.type "enumerate", v], []⟩) (fun _ R s => H s.heap ∧
      R (.ok (.ret (.ref (s.heap.push o).objs.size))) { s with heap := (s.heap.push o).push { cls := .type "enumerate", data := .fields #[.none, .bool false, .ref s.heap.objs.size, rawInt 0, .none, .none] } }) :=
  .of_wp fun prog w A R s h => by
    obtain ⟨hp, g, d, tk, os⟩ := s
    obtain ⟨h1, h⟩ := h
    have hsub := sub_enumerate
    have step : ∀ {A' : Around} {E : Value → Shared → Prop} {Q : Value → Shared → Prop}, Q (.ref hp.objs.size) ⟨hp.push o, g, d, tk, os⟩ → wpAny (model prog w) A' (pyIter v) Q E ⟨hp, g, d, tk, os⟩ :=
      fun q => B.iter prog w _ _ ⟨hp, g, d, tk, os⟩ _ h1 q
    wp_walk using step
    refine wpAny_stack_any fun st => wpAny_pure ?_
    split
    · rename_i c _ _ _ _ _
      cases (c == Value.type "enumerate")
      · wp_walk using step
        exact ⟨_, rfl, h⟩
      · wp_walk using step
        exact ⟨_, rfl, h⟩
    · wp_walk using step
      exact ⟨_, rfl, h⟩
theorem call_enum1 {prog : Program} {w : World} {A : Around} {E : Value → Shared → Prop} {s : Shared} {v : Value} {o : Obj} {G : Heap → Prop} {Q : Value → Shared → Prop} (B : Begins v o G) (h1 : G s.heap)
    (h : ∀ h', IsEnum h' (s.heap.objs.size + 1) s.heap.objs.size 0 .none → h'.get? s.heap.objs.size = some o → h'.objs.size = s.heap.objs.size + 2 →
      (∀ b u, s.heap.get? b = some u → h'.get? b = some u) → Q (.ref (s.heap.objs.size + 1)) { s with heap := h' }) :
    wpAny (model prog w) A (call (.type "enumerate") [v]) Q E s := by
  refine callType_new F.called_enumerate (by decide) (F.typeCall_enumerate_1 _) (F.newCall_enumerate_1 _) (fun obj => F.args_object_init_2 obj _) F.entry_enumerate_new (meets_enum1 B) ⟨h1, ?_⟩
  have hz : (s.heap.push o).objs.size = s.heap.objs.size + 1 := Heap.size_push ..
  show _ ∧ _
  rw [hz]
  have hn := Heap.get?_push_size (s.heap.push o) (o := { cls := .type "enumerate", data := .fields #[.none, .bool false, .ref s.heap.objs.size, rawInt 0, .none, .none] }) rfl
  rw [hz] at hn
  exact ⟨⟨_, hn, rfl⟩, h _ hn (Heap.get?_push_of_some _ (Heap.get?_push_size _ B.free)) (by rw [Heap.size_push, hz]) fun b u x => Heap.get?_push_of_some _ (Heap.get?_push_of_some _ x)⟩
/-- the items of the tuple at a, each in a new pair with its index -/
def Iet (K : PySem.W.Frag) (a : Addr) : It :=
  ⟨fun i H => ∃ (xs : List V) (x : V), SqT K H a xs ∧ xs[i]? = some x, fun i H v H' => ∃ T x, v = .ref T ∧ H T = none ∧ H' = upd H T (.tup [.int (i : Nat), x]) ∧ ∀ xs, SqT K H a xs → xs[i]? = some x, fun i H => ∃ xs : List V, SqT K H a xs ∧ xs.length = i⟩
theorem turn_enumT {P : Program} {w : World} {K : PySem.W.Frag} {elts : List Expr} {kk : Nat} {tpos : Pos} (a e it : Addr) (hne : e ≠ it) (hai : a ≠ it) (hae : a ≠ e) :
    Turn P w K (.Tuple elts kk tpos) (Iet K a) [e, it] e (fun i h => (∃ old, IsEnum h e it ((i : Nat) : Int) old) ∧ h.IsTupleIter it a i) where
  mem := by simp
  obj := fun i h st b hb => by
    obtain ⟨⟨old, he⟩, ⟨o, ho, hc, hd⟩⟩ := st
    rcases (show b = e ∨ b = it by simpa using hb) with z | z
    · rw [z]; exact ⟨_, he, fun v q => nomatch q⟩
    · rw [z]; exact ⟨o, ho, fun v q => by rw [hd] at q; cases q⟩
  keep := fun i h h' st k => let ⟨⟨old, he⟩, hi⟩ := st; ⟨⟨old, k e (by simp) _ he⟩, hi.at fun o q => k it (by simp) o q⟩
  item := by
    intro X hP hw hK hc i pins s σ H E I hf st hg
    subst hP hw hK
    obtain ⟨⟨old, he⟩, hit⟩ := st
    obtain ⟨xs, x, hq, hx⟩ := hg
    obtain ⟨its, rv, p, hz⟩ := I.tuple hq
    obtain ⟨u, hu, ru⟩ := rv.get hx
    have hel : e < s.heap.objs.size := Heap.lt_size he
    have hil : it < s.heap.objs.size := by obtain ⟨_, q, _⟩ := hit; exact Heap.lt_size q
    have hh := I.ok.hd hc
    have D := Draws.tuple (prog := X.prog) (w := X.w) (A := X.A.in1) hh it a hai its.toArray
    have hu2 : its.toArray[i]? = some u := by simpa using hu
    have hlt : i < its.toArray.size := by
      rcases Nat.lt_or_ge i its.toArray.size with z | z
      · exact z
      · rw [Array.getElem?_eq_none z] at hu2; cases hu2
    refine wpAny_pyNext_enum_itemC D he ⟨hit, show s.heap.IsTuple a its.toArray from p⟩ hlt hne (by simp [hne, Ne.symm hae]) fun y h' tk hP ho hs' hT hsz hk => ?_
    have ey : y = u := by rw [hu2] at hP; exact (Option.some.inj hP).symm
    subst ey
    refine ⟨_, rfl, wpAny_letOwnedTupleGo_enum (s := { s with heap := h', toks := tk + 1 }) ho fun h'' he' sb => ?_⟩
    have hT2 : h''.get? s.heap.objs.size = some { cls := .type "tuple", data := .seq #[.int i tk, y] } := (sb.2 _ (Nat.ne_of_gt hel)).trans hT
    have new : ObjOk X.prog X.w (upd H s.heap.objs.size (.tup [.int (i : Nat), x])) h'' s.heap.objs.size (.tup [.int (i : Nat), x]) :=
      ⟨by show 2 ≤ sizeLine; decide, [.int i tk, y], .cons ⟨_, rfl⟩ (.cons ru .nil), ⟨_, hT2, rfl, _, rfl⟩⟩
    have I1 : Inv X pins σ (upd H s.heap.objs.size (.tup [.int (i : Nat), x])) { s with heap := h'', toks := tk + 1 } :=
      I.turnedNew (ch := [e, it]) (fun b ob hb q => (sb.2 b (fun z => hb (by simp [z]))).trans (hk b ob (fun z => hb (by simp [z])) (fun z => hb (by simp [z])) q)) hf (Nat.le_refl _) new
    refine ⟨.ref s.heap.objs.size, _, I1, rfl, ⟨_, x, rfl, I.hok.fresh (Nat.le_refl _), rfl, fun ys hy => by rw [I.tuple_inj hy hq]; exact hx⟩, ⟨⟨y, ?_⟩, hs'.1.at fun o q => (sb.2 it (Ne.symm hne)).trans q⟩, fun b hb => ?_⟩
    · have e1 : ((i + 1 : Nat) : Int) = (i : Int) + 1 := by omega
      rw [e1]; exact he'
    · have hb' : b < s.heap.objs.size := by
        rcases (show b = e ∨ b = it by simpa using hb) with z | z
        · rw [z]; exact hel
        · rw [z]; exact hil
      rw [upd_ne (Nat.ne_of_lt hb')]
      exact (hf b hb).1
  done := by
    intro X hP hw hK hc i pins s σ H E I hf st hg
    subst hP hw hK
    obtain ⟨⟨old, he⟩, hit⟩ := st
    obtain ⟨xs, hq, hx⟩ := hg
    obtain ⟨its, rv, p, hz⟩ := I.tuple hq
    obtain ⟨f0, f1, f2, f3, f4, f5⟩ := hf it (by simp)
    have hl := rv.length
    have ei : i = its.toArray.size := by simp; omega
    have D := Draws.tuple (prog := X.prog) (w := X.w) (A := X.A.in1) (I.ok.hd hc) it a hai its.toArray
    rw [ei] at hit he
    exact wpAny_pyNext_enum_endD D he ⟨hit, show s.heap.IsTuple a its.toArray from p⟩ fun h' eb => ⟨rfl, I.turned (t' := s.toks) (fun b o hb q => eb b o hb q) f0 f1 f3 f4 f5⟩
  self := fun A i s Q E st h => let ⟨⟨_, he⟩, _⟩ := st; wpAny_pyIter_enum he h
def iEnT (K : PySem.W.Frag) (ta : TA) : TI := fun σ H R => ta σ H fun vs H1 => ∃ a xs, vs = [.ref a] ∧ SqT K H1 a xs ∧ R (Iet K a) H1
theorem pi_enumT {X : Cx} {e : Expr} {ta : TA} {p pos tpos : Pos} {elts : List Expr} {kk : Nat} (hg : Gl X "enumerate") (hm : X.mg "enumerate" = none) (ha : PA X [e] ta) (hs : starEach [e] X.env = [(false, eval e X.env)] := by rfl) :
    PI X (.Tuple elts kk tpos) (.Call (.Name "enumerate" p) [e] [] pos) (iEnT X.K ta) := by
  refine ⟨fun pins s σ H R I h => ?_⟩
  refine Call_ (ld_blt I hg hm boot_enumerate (PyProof.Rows.callWith_type1 (thn (ha.run pos pins s σ H _ I h) fun us s1 ⟨vs, H1, I1, r1, q1⟩ => ?_) hs rfl))
  obtain ⟨a, xs, ex, hq, q⟩ := q1
  subst ex
  cases r1 with
  | cons r rr =>
    cases rr
    cases r
    obtain ⟨its, rv, p', hz⟩ := I1.tuple hq
    have hal : a < s1.heap.objs.size := p'.lt
    refine call_enum1 (begins_tuple a its.toArray) (show s1.heap.IsTuple a its.toArray from p') fun h' he hit hsz hk => wpAny_pyIter_enum he ?_
    have I2 : Inv X pins σ H1 { s1 with heap := h' } := I1.kept (t' := s1.toks) hk
    refine ⟨s1.heap.objs.size + 1, [s1.heap.objs.size + 1, s1.heap.objs.size], _, _, H1, rfl, I2, turn_enumT a (s1.heap.objs.size + 1) s1.heap.objs.size (Nat.succ_ne_self _) (Nat.ne_of_lt hal) (Nat.ne_of_lt (Nat.lt_succ_of_lt hal)), ⟨⟨.none, he⟩, ⟨_, hit, rfl, rfl⟩⟩, fun b hb => ?_, q⟩
    have hle : s1.heap.objs.size ≤ b := by
      rcases (show b = s1.heap.objs.size + 1 ∨ b = s1.heap.objs.size by simpa using hb) with z | z
      · rw [z]; exact Nat.le_add_right _ _
      · rw [z]; exact Nat.le_refl _
    exact I1.fpOk hle (I1.hok.fresh hle)
section
variable {K : PySem.W.Frag} {a : Addr} {xs : List V}
theorem walk_enumT : Walk (Iet K a) xs.length (fun H => SqT K H a xs) (YPair (fun i => some (.int (i : Nat))) (fun i => xs[i]?)) := by
  refine ⟨fun i _ hi q => ⟨xs, xs[i], q, by simp [hi]⟩, fun _ q => ⟨xs, q, rfl⟩, fun i H v H' _ q y => ?_⟩
  obtain ⟨T, x, h1, h2, h3, h4⟩ := y
  exact ⟨T, .int (i : Nat), x, h1, h2, h3, rfl, h4 xs q⟩
end
/-! ### sum of a tuple of ints -/
def rSumT (K : PySem.W.Frag) : List V → Hp → VK → Prop := fun vs H Q => ∃ (a : Addr) (ns : List Int), vs = [V.ref a] ∧ SqT K H a (ns.map V.int) ∧ Q (.int ns.sum) H
theorem cr_sumT {X : Cx} (hc : X.calm = true) : CallR X (.builtin "sum") (rSumT X.K) := by
  intro pins s σ H vs us Q I r h
  obtain ⟨a, ns, rfl, hs, q⟩ := h
  obtain ⟨its, rv, p, _⟩ := I.tuple hs
  rw [Vals.ref1 r]
  obtain ⟨xs, e⟩ := rv.ints.allInts.items
  have hn : numsOf (intItems xs).toList = ns := by rw [← e]; exact rv.ints.numsOf
  rw [nums_intItems] at hn
  have ht : s.heap.IsTuple a its.toArray := p
  rw [e] at ht
  refine PySem.W.ktm_sumG (I.ok.hd hc) ht fun h' tk t' hk => ?_
  rw [preSum_eq, List.take_of_length_le (by simp), hn]
  exact ⟨.int _, H, I.kept hk, ⟨_, rfl⟩, q⟩
/-! ### t[::-1] of a tuple -/
section
variable {prog : Program} {w : World} {A : Around} {E : Value → Shared → Prop} {s : Shared}
theorem sliceApplied_back {sl : Addr} {tk : Tok} {n : Nat} {Q : Int × Int × Nat → Shared → Prop} (hs : s.heap.IsSliceOf sl .none .none (.int (-1) tk))
    (h : Q ((n : Int) - 1, -1, n) s) : wpAny (model prog w) A (Builtin.Slice.sliceApplied (.ref sl) (pure (n : Int))) Q E s := by
  obtain ⟨os, hos, hcs, hds⟩ := id hs
  unfold Builtin.Slice.sliceApplied Builtin.Slice.sliceFields
  refine wpAny_bind (wpAny_bind (wpAny_field hos hds (x := .none) rfl (wpAny_bind (wpAny_field hos hds (x := .none) rfl (wpAny_bind (wpAny_field hos hds (x := .int (-1) tk) rfl (wpAny_pure ?_)))))))
  refine wpAny_bind (slicePart_int ?_)
  show wpAny _ _ (if ((-1 : Int) == 0) = true then _ else _) _ _ s
  rw [if_neg (by decide)]
  refine wpAny_bind (slicePart_none (wpAny_bind (slicePart_none (wpAny_bind (wpAny_pure ?_)))))
  show wpAny _ _ (match Builtin.Slice.sliceAdjust none none (-1) (n : Int) with | (lo, hi) => pure (lo, (-1 : Int), Builtin.Slice.slicePlaces lo hi (-1))) _ _ s
  have e1 : Builtin.Slice.sliceAdjust none none (-1) (n : Int) = ((n : Int) - 1, -1) := rfl
  rw [e1]
  show wpAny _ _ (pure ((n : Int) - 1, (-1 : Int), Builtin.Slice.slicePlaces ((n : Int) - 1) (-1) (-1))) _ _ s
  have e2 : Builtin.Slice.slicePlaces ((n : Int) - 1) (-1) (-1) = n := by
    unfold Builtin.Slice.slicePlaces
    rw [if_neg (by decide)]
    split
    · rw [show (-(-1 : Int)) = 1 from rfl, Int.ediv_one]; omega
    · omega
  rw [e2]
  exact wpAny_pure h
theorem pick_back (xs : Array Value) : ((List.range xs.size).filterMap fun (k : Nat) => xs[(((xs.size : Int) - 1) + (k : Int) * (-1)).toNat]?).toArray = xs.toList.reverse.toArray := by
  have e : ((List.range xs.size).filterMap fun (k : Nat) => xs[(((xs.size : Int) - 1) + (k : Int) * (-1)).toNat]?) = ((List.range xs.size).map fun k => xs.size - 1 - k).filterMap (xs[·]?) := by
    rw [List.filterMap_map]
    congr 1
    funext k
    show xs[(((xs.size : Int) - 1) + (k : Int) * (-1)).toNat]? = xs[xs.size - 1 - k]?
    rw [show (((xs.size : Int) - 1) + (k : Int) * (-1)).toNat = xs.size - 1 - k by omega]
  rw [e, PySem.W.krv_range, List.filterMap_reverse, PySem.W.krv_all]
theorem getItem_back {t sl : Addr} {items : Array Value} {tk : Tok} {Q : Value → Shared → Prop} (ht : IsTup s.heap t items) (hs : s.heap.IsSliceOf sl .none .none (.int (-1) tk))
    (h : Q (.ref s.heap.objs.size) { s with heap := s.heap.push { cls := .type "tuple", data := .seq items.toList.reverse.toArray } })
    (hsz : items.size ≤ sizeLine) : wpAny (model prog w) A (getItem (.ref t) (.ref sl)) Q E s := by
  have htake : sizeOk (.seq items.toList.reverse.toArray) := by
    show items.toList.reverse.toArray.size ≤ sizeLine
    rw [List.size_toArray, List.length_reverse, Array.length_toList]
    exact hsz
  obtain ⟨os, hos, hcs, hds⟩ := id hs
  have hTs : s.TypeIs (.ref sl) "slice" := ⟨os, hos, hcs⟩
  unfold getItem
  try with_reducible refine wpAny_holding ?_
  first | refine wpAny_bind (wpAny_pure ?_) | skip
  refine wpAny_bind (wpAny_sequenceKey ht.typeIs (by decide) ?_)
  refine wpAny_bind (wpAny_callSpecial?_slot (name := Str.ofString "__getitem__") ht.typeIs PyProof.Rows.slot_tuple_getitem
    (wpAny_call_entry PyProof.Rows.slot_tuple_getitem ht.typeIs entry_tuple_getitem ?_ (args_tuple_getitem _ _)))
  show wpAny _ _ (Builtin.Tuple.tupleItemsOf (.ref t) >>= _) _ _ s
  refine wpAny_bind (tupleItemsOf_ ht ?_)
  refine wpAny_bind (wpAny_typeOf hTs ?_)
  rw [if_pos (by decide)]
  refine wpAny_bind (sliceApplied_back hs ?_)
  have hno : ¬ ((((items.size : Int) - 1) == 0 && (-1 : Int) == 1 && items.size == items.size) = true) := by
    intro q
    rw [Bool.and_eq_true, Bool.and_eq_true] at q
    exact absurd q.1.2 (by decide)
  show wpAny _ _ (if (((items.size : Int) - 1) == 0 && (-1 : Int) == 1 && items.size == items.size) = true then _ else _) _ _ s
  rw [if_neg hno, pick_back]
  first
    | exact wpAny_bind (m := Builtin.Tuple.tupleExact _) (wpAny_newObj_type (wpAny_pure ⟨_, rfl, wpAny_pure h⟩) htake)
    | exact wpAny_bind (m := Builtin.Tuple.tupleExact _) (wpAny_newObj_type (wpAny_bind (wpAny_pure (wpAny_pure ⟨_, rfl, wpAny_pure h⟩))) htake)
    | exact wpAny_bind (wpAny_bind (m := Builtin.Tuple.tupleExact _) (wpAny_newObj_type (wpAny_pure (wpAny_pure ⟨_, rfl, wpAny_pure h⟩)) htake))
    | exact wpAny_bind (wpAny_bind (m := Builtin.Tuple.tupleExact _) (wpAny_newObj_type (wpAny_pure ⟨_, rfl, wpAny_pure h⟩) htake))
end
def tRevT (K : PySem.W.Frag) (te : TE) : TE := fun σ H Q => te σ H fun x H1 => ∃ a xs, x = .ref a ∧ SqT K H1 a xs ∧ ∀ p, H1 p = none → Q (.ref p) (upd H1 p (.tup xs.reverse))
theorem pe_revT {X : Cx} {e : Expr} {te : TE} {k : Nat} {p1 p2 p3 pos : Pos} (he : PE X e te) : PE X (.Subscript e (.Slice none none (some (.UnaryOp .USub (.Constant (.int 1) k p1) p2)) p3) pos) (tRevT X.K te) := by
  refine ⟨fun pins s σ H Q I h => ?_⟩
  refine Subscript_ (thn (he.run pins s σ H _ I h) fun v s1 ⟨x, H1, I1, r1, q1⟩ => ?_)
  obtain ⟨a, xs, ex, hx, q⟩ := q1
  subst ex
  cases r1
  have hst : PO X (some (.UnaryOp .USub (.Constant (.int 1) k p1) p2)) (tPart (tUn (rU fun i => .int (-i)) (tC (.int 1)))) := po_some (pe_un un_neg pe_int)
  refine wpAny_Slice (thn (po_none.run pins s1 σ H1 (fun o H2 => o = none ∧ H2 = H1) I1 ⟨rfl, rfl⟩) fun vl s2 ⟨l, H2, I2, pl, el, e2⟩ => ?_)
  subst el e2
  refine thn (po_none.run pins s2 σ H2 (fun o H3 => o = none ∧ H3 = H2) I2 ⟨rfl, rfl⟩) fun vu s3 ⟨u, H3, I3, pu, eu, e3⟩ => ?_
  subst eu e3
  refine thn (hst.run pins s3 σ H3 (fun o H4 => o = some (-1) ∧ H4 = H3) I3 ⟨1, rfl, -1, rfl, rfl, rfl⟩) fun vs s4 ⟨o, H4, I4, ps, eo, e4⟩ => ?_
  subst eo e4
  cases pl
  cases pu
  cases ps with
  | int _ tk =>
  have I5 : Inv X pins σ H4 { s4 with heap := s4.heap.push { cls := .type "slice", data := .fields #[.none, .none, .int (-1) tk] } } := I4.kept (t' := s4.toks) fun b ob q => Heap.get?_push_of_some _ q
  obtain ⟨its, r, ht, hz⟩ := I5.tuple hx
  have hlen := r.length
  show wpAny (model X.prog X.w) X.A (subscriptTail e (.Slice none none (some (.UnaryOp .USub (.Constant (.int 1) k p1) p2)) p3) (.ref a) (.ref s4.heap.objs.size)) (EP X pins σ Q) X.xe { s4 with heap := s4.heap.push { cls := .type "slice", data := .fields #[.none, .none, .int (-1) tk] } }
  refine tail_any (ops := [.ref a, .ref s4.heap.objs.size]) ht.typeIs (PyProof.Rows.slot_tuple_getitem.lookup) ?_ (by with_unfolding_all rfl)
  refine getItem_back ht (Heap.IsSliceOf.new _ .none .none (.int (-1) tk)) ?_ (by rw [List.size_toArray]; omega)
  refine ⟨.ref _, _, I5.laid (t' := s4.toks) (o := .tup xs.reverse) (fun b ob q => Heap.get?_push_of_some _ q) (Nat.le_refl _) ?_, rfl, q _ (I5.hok.fresh (Nat.le_refl _))⟩
  exact ⟨by rw [List.length_reverse]; exact hz, its.reverse, r.reverse, ⟨_, Heap.get?_push_size _ rfl, rfl, _, rfl⟩⟩
end My

set_option Elab.async false
set_option linter.all false
set_option maxRecDepth 100000
set_option maxHeartbeats 4000000
namespace My
open PySem PySem.Spec PyProof.Rows L2
/-! ### tuple * int, any number of times -/
theorem tup_mul1 (l : Addr) (items : Array Value) (n : Nat) (dd : Option Addr) (sl : Array (Option Value)) (x : Int) (u : Tok) (c0 : (decide (x < -(2 ^ 63)) || decide (x ≥ 2 ^ 63)) = false) (c1 : (items.isEmpty || x == 1) = true) :
    Meets (Builtin.«tuple.__mul__» ⟨[.ref l, .int x u], []⟩) (fun _ R s => s.heap.get? l = some { cls := .type "tuple", dict := dd, data := .seq items n, slots := sl } ∧ R (.ok (.ret (Value.ref l))) s) :=
  .of_wp fun prog w A R s h => by
    obtain ⟨hp, g, d, tk, os⟩ := s
    obtain ⟨hl, h⟩ := h
    have f1 := AutoSeq1.idx_int
    wp_walk using wpAny_loadPart' hl
    repeat (first
      | (refine wpAny_ite_false (decide_eq_false (by rw [c0]; exact Bool.false_ne_true)) ?_; wp_walk using wpAny_loadPart' hl)
      | (refine wpAny_ite_true (decide_eq_true c1) ?_; wp_walk using wpAny_loadPart' hl))
    exact ⟨_, rfl, h⟩
theorem tup_mul0 (l : Addr) (items : Array Value) (n : Nat) (dd : Option Addr) (sl : Array (Option Value)) (x : Int) (u : Tok) (c0 : (decide (x < -(2 ^ 63)) || decide (x ≥ 2 ^ 63)) = false) (c1 : (items.isEmpty || x == 1) = false) (c2 : (decide (x ≤ 0) || items.isEmpty) = true) :
    Meets (Builtin.«tuple.__mul__» ⟨[.ref l, .int x u], []⟩) (fun _ R s => s.heap.get? l = some { cls := .type "tuple", dict := dd, data := .seq items n, slots := sl } ∧
      R (.ok (.ret (Value.ref s.heap.objs.size))) { s with heap := s.heap.push { cls := Value.type "tuple", data := Data.seq #[] }, toks := s.toks }) :=
  .of_wp fun prog w A R s h => by
    obtain ⟨hp, g, d, tk, os⟩ := s
    obtain ⟨hl, h⟩ := h
    have f1 := AutoSeq1.idx_int
    wp_walk using wpAny_loadPart' hl
    repeat (first
      | (refine wpAny_ite_false (decide_eq_false (by rw [c0]; exact Bool.false_ne_true)) ?_; wp_walk using wpAny_loadPart' hl)
      | (refine wpAny_ite_false (decide_eq_false (by rw [c1]; exact Bool.false_ne_true)) ?_; wp_walk using wpAny_loadPart' hl)
      | (refine wpAny_ite_true (decide_eq_true c2) ?_; wp_walk using wpAny_loadPart' hl))
    exact ⟨_, rfl, h⟩
/-- what stands behind: a tuple of these, new or that of before -/
def TupTo (K : PySem.W.Frag) (ys : List V) (H : Hp) (Q : VK) : Prop := ∀ p H', Same H H' → SqT K H' p ys → Q (.ref p) H'
theorem same_new {H : Hp} {p : Addr} {o : HO} (n : H p = none) : Same H (upd H p o) := fun b u e => by rw [upd_ne (ne_of_none e n)]; exact e
theorem TupTo.new {K : PySem.W.Frag} {ys : List V} {H : Hp} {Q : VK} (h : TupTo K ys H Q) : ∀ p, H p = none → Q (.ref p) (upd H p (.tup ys)) := fun p n => h p _ (same_new n) (.of upd_same)
theorem TupTo.old {K : PySem.W.Frag} {ys : List V} {H : Hp} {Q : VK} {p : Addr} (h : TupTo K ys H Q) (e : SqT K H p ys) : Q (.ref p) H := h p _ (Same.refl H) e
def rRepA (K : PySem.W.Frag) : R2 := fun x y H Q => ∃ l k xs, x = .ref l ∧ y = .int k ∧ SqT K H l xs ∧ -1000000 ≤ k ∧ k ≤ 1000 ∧ xs.length ≤ 1000 ∧ TupTo K (List.replicate k.toNat xs).flatten H Q
/-- .. told which of both: the tuple itself, or a new one -/
def rRepB (K : PySem.W.Frag) : R2 := fun x y H Q => ∃ l k xs, x = .ref l ∧ y = .int k ∧ SqT K H l xs ∧ -1000000 ≤ k ∧ k ≤ 1000 ∧ xs.length ≤ 1000 ∧ (xs = [] ∨ k = 1 → Q (.ref l) H) ∧ ∀ p, H p = none → Q (.ref p) (upd H p (.tup (List.replicate k.toNat xs).flatten))
theorem op_repB {X : Cx} : OpR X (binaryOp .Mult) (rRepB X.K) := by
  intro pins s σ H x y v u Q I rx ry h
  obtain ⟨l, k, xs, rfl, rfl, hT, hlo, hhi, hz, q0, q⟩ := h
  by_cases big : xs ≠ [] ∧ 2 ≤ k
  · exact op_repT pins s σ H _ _ v u Q I rx ry ⟨l, k, xs, rfl, rfl, hT, big.1, big.2, hhi, hz, q⟩
  cases rx
  obtain ⟨t, rfl⟩ := ry
  obtain ⟨its, r, ⟨⟨cls, dd, data, sl⟩, ho, hc, n, hd⟩, hs⟩ := I.tuple hT
  simp only at hc hd
  subst hc hd
  have c0 : (decide (k < -(2 ^ 63)) || decide (k ≥ 2 ^ 63)) = false := by
    rw [decide_eq_false (by omega), decide_eq_false (by omega)] <;> rfl
  have emp : its.toArray.isEmpty = true ↔ xs = [] := by
    have hl := r.length
    cases its <;> cases xs <;> simp_all
  by_cases one : xs = [] ∨ k = 1
  · have c1 : (its.toArray.isEmpty || k == 1) = true := by
      rcases one with e | e
      · rw [emp.mpr e] <;> rfl
      · rw [e]; simp
    have er : (List.replicate k.toNat xs).flatten = xs := by
      rcases one with e | e
      · rw [e]; simp
      · rw [e]; simp
    exact wpAny_binaryOp_repeat_ref (T := "tuple") (U := "int") (by decide) ⟨_, ho, rfl⟩ (fun s' => typeIs_int s' k t) noFill_tuple_mul F.fills_int_mul F.slot_int_rmul repeat_tuple F.slot_int_index.lookup
      (call_meets F.slot_int_rmul (typeIs_int s k t) F.entry_int_rmul (F.args_int_rmul_2 _ _) (int_rmul_tuple k t l its.toArray n dd sl)
        ⟨ho, rfl, ⟨_, ho, rfl⟩, call_meets F.slot_tuple_mul ⟨_, ho, rfl⟩ F.entry_tuple_mul (F.args_tuple_mul_2 _ _) (tup_mul1 l its.toArray n dd sl k t c0 c1) ⟨ho, .ref l, H, I, rfl, q0 one⟩⟩)
  · have hne : xs ≠ [] := fun e => one (.inl e)
    have hk : k ≤ 0 := by
      have h1 : k ≠ 1 := fun e => one (.inr e)
      have h2 : ¬ 2 ≤ k := fun e => big ⟨hne, e⟩
      omega
    have hi : its.toArray.isEmpty = false := by
      cases e : its.toArray.isEmpty with
      | false => rfl
      | true => exact absurd (emp.mp e) hne
    have c1 : (its.toArray.isEmpty || k == 1) = false := by
      rw [hi, Bool.false_or]
      exact beq_eq_false_iff_ne.mpr (by omega)
    have c2 : (decide (k ≤ 0) || its.toArray.isEmpty) = true := by rw [decide_eq_true hk] <;> rfl
    have er : (List.replicate k.toNat xs).flatten = [] := by rw [show k.toNat = 0 by omega]; rfl
    rw [er] at q
    refine wpAny_binaryOp_repeat_ref (T := "tuple") (U := "int") (by decide) ⟨_, ho, rfl⟩ (fun s' => typeIs_int s' k t) noFill_tuple_mul F.fills_int_mul F.slot_int_rmul repeat_tuple F.slot_int_index.lookup
      (call_meets F.slot_int_rmul (typeIs_int s k t) F.entry_int_rmul (F.args_int_rmul_2 _ _) (int_rmul_tuple k t l its.toArray n dd sl)
        ⟨ho, rfl, ⟨_, ho, rfl⟩, call_meets F.slot_tuple_mul ⟨_, ho, rfl⟩ F.entry_tuple_mul (F.args_tuple_mul_2 _ _) (tup_mul0 l its.toArray n dd sl k t c0 c1 c2) ⟨ho, ?_⟩⟩)
    refine ⟨.ref s.heap.objs.size, _, I.laid (t' := s.toks) (o := .tup []) (fun b ob q => Heap.get?_push_of_some _ q) (Nat.le_refl _) ?_, rfl, q _ (I.hok.fresh (Nat.le_refl _))⟩
    exact ⟨Nat.zero_le _, [], .nil, IsTup.new _ _⟩
theorem op_repA {X : Cx} : OpR X (binaryOp .Mult) (rRepA X.K) := by
  intro pins s σ H x y v u Q I rx ry h
  obtain ⟨l, k, xs, ex, ey, hT, hlo, hhi, hz, q⟩ := h
  refine op_repB pins s σ H x y v u Q I rx ry ⟨l, k, xs, ex, ey, hT, hlo, hhi, hz, fun one => ?_, q.new⟩
  have er : (List.replicate k.toNat xs).flatten = xs := by
    rcases one with e | e
    · rw [e]; simp
    · rw [e]; simp
  rw [er] at q
  exact q.old hT
/-! ### t + u of tuples, one word for both ways -/
def rCatU (K : PySem.W.Frag) : R2 := fun x y H Q => ∃ a b xs ys, x = .ref a ∧ y = .ref b ∧ SqT K H a xs ∧ SqT K H b ys ∧ xs.length + ys.length ≤ sizeLine ∧ TupTo K (xs ++ ys) H Q
theorem op_catU {X : Cx} : OpR X (binaryOp .Add) (rCatU X.K) := by
  intro pins s σ H x y v u Q I rx ry h
  obtain ⟨a, b, xs, ys, ex, ey, h1, h2, hz, q⟩ := h
  refine op_catA pins s σ H x y v u Q I rx ry ?_
  refine ⟨a, b, xs, ys, ex, ey, h1, h2, hz, fun e => ?_, fun _ e => ?_, fun _ _ => q.new⟩
  · rw [e] at q
    exact q.old h2
  · rw [e, List.append_nil] at q
    exact q.old h1
/-! ### repr of flat values -/
def reprF : V → Option Str
  | .non => some "None"
  | .bl b => some (if b then "True" else "False")
  | .int i => if i.natAbs.log2 < 1920 then some (toString i) else none
  | .str x => if (reprText x).length ≤ sizeLine then some (reprText x) else none
  | _ => none
theorem call_reprF {X : Cx} : CallR X (.builtin "repr") (fun xs H Q => ∃ x z, xs = [x] ∧ reprF x = some z ∧ Q (.str z) H) := by
  intro pins s σ H xs us Q I r h
  obtain ⟨x, z, rfl, hz, q⟩ := h
  obtain ⟨u, rfl, r1⟩ := Vals.one r
  cases x with
  | non =>
    cases (show u = Value.none from r1)
    cases hz
    exact PySem.P.repr_of_none ⟨.str _, H, I.tok _, ⟨_, rfl⟩, q⟩
  | bl b =>
    cases (show u = Value.bool b from r1)
    cases hz
    exact PySem.P.repr_of_bool ⟨.str _, H, I.tok _, ⟨_, rfl⟩, q⟩
  | int i =>
    obtain ⟨t, rfl⟩ := r1
    unfold reprF at hz
    by_cases hl : i.natAbs.log2 < 1920
    · simp only [hl, if_true, Option.some.injEq] at hz
      subst hz
      exact PySem.P.repr_of_int hl ⟨.str _, H, I.tok _, ⟨_, rfl⟩, q⟩
    · simp [hl] at hz
  | str y =>
    obtain ⟨t, rfl⟩ := r1
    unfold reprF at hz
    by_cases hl : (reprText y).length ≤ sizeLine
    · simp only [hl, if_true, Option.some.injEq] at hz
      subst hz
      exact PySem.P.repr_of_str ⟨.str _, H, I.tok _, ⟨_, rfl⟩, q⟩ hl
    · simp [hl] at hz
  | _ => cases hz
/-! ### data of ints, for == -/
theorem canInts : ∀ l : List Int, PyData.canLayAll0 (l.map PyData.int) = true
  | [] => by simp [PyData.canLayAll0]
  | a :: l => by simp [PyData.canLayAll0, PyData.canLay0, canInts l]
theorem depthInts : ∀ l : List Int, PyData.depthAll (l.map PyData.int) ≤ 1
  | [] => by simp [PyData.depthAll]
  | a :: l => by
    have := depthInts l
    simp only [List.map_cons, PyData.depthAll, PyData.depth]
    omega
theorem shapedTI (l : List Int) : SeqAt.shaped (.tuple (l.map PyData.int)) = true := by
  unfold SeqAt.shaped
  simp only [PyData.canLay0, canInts, Bool.true_and, PyData.depth]
  have := depthInts l
  exact decide_eq_true (by omega)
theorem shapedLI (l : List Int) : SeqAt.shaped (.list (l.map PyData.int)) = true := by
  unfold SeqAt.shaped
  simp only [PyData.canLay0, canInts, Bool.true_and, PyData.depth]
  have := depthInts l
  exact decide_eq_true (by omega)
theorem dpInts {K : PySem.W.Frag} {H : Hp} : ∀ l : List Int, DpAll K H (l.map V.int) (l.map PyData.int)
  | [] => .nil
  | a :: l => .cons (.int a) (dpInts l)
theorem dpTI {K : PySem.W.Frag} {H : Hp} {a : Addr} {l : List Int} (h : SqT K H a (l.map V.int)) : Dp K H (.ref a) (.tuple (l.map PyData.int)) := .tup h (dpInts l)
theorem dpLI {K : PySem.W.Frag} {H : Hp} {a : Addr} {l : List Int} (h : SqL K H a (l.map V.int)) : Dp K H (.ref a) (.list (l.map PyData.int)) := .lst h (dpInts l)
theorem eqvTI (l : List Int) : PyData.eqv (.tuple (l.map PyData.int)) (.tuple (l.map PyData.int)) = true := SeqAt.eqv_refl _ (SeqAt.canLay_of_shaped (shapedTI l))
theorem sameT {K : PySem.W.Frag} {H H' : Hp} {a : Addr} {xs : List V} (e : Same H H') (h : SqT K H a xs) : SqT K H' a xs := by
  rcases h with (h | ⟨o, h⟩) | h
  · exact .inl (.inl (e _ _ h))
  · exact .inl (.inr ⟨o, e _ _ h⟩)
  · exact .inr h
/-- a tuple stands where a list is changed -/
theorem butT {K : PySem.W.Frag} {H H' : Hp} {d a : Addr} {xs ys : List V} (hd : H d = some (.lst ys)) (e : But d H H') (h : SqT K H a xs) : SqT K H' a xs := by
  rcases h with (h | ⟨o, h⟩) | h
  · exact .inl (.inl (e _ _ (fun z => by rw [z, hd] at h; cases h) h))
  · exact .inl (.inr ⟨o, e _ _ (fun z => by rw [z, hd] at h; cases h) h⟩)
  · exact .inr h
/-- a tuple's names, the written part told -/
theorem pg_tupK (K0 : PySem.W.Frag) {X : Cx} {es : List Expr} {k : Nat} {pos : Pos} {t : TGs} {n : Nat} (hc : X.calm = true) (hK : X.K = K0) (h : PGs X es t)
    (hn : (assignEach es X.env).length = n := by rfl) (hst : (assignEach es X.env).findIdx? (·.1) = none := by rfl) : PG X (.Tuple es k pos) (gTup K0 n t) := by
  subst hK
  exact pg_tup hc h hn hst
theorem tyT {K : PySem.W.Frag} {H : Hp} {a : Addr} {xs : List V} (h : SqT K H a xs) : TyX K H (.ref a) (.type "tuple") := by
  rcases h with (h | ⟨o, h⟩) | ⟨o, its, n, h1, h2, _⟩
  · exact .base (.tup h)
  · exact .fTuple h
  · exact .kTuple h1 h2
end My

set_option Elab.async false
set_option linter.all false
set_option maxRecDepth 100000
set_option maxHeartbeats 4000000
namespace My
open PySem PySem.Spec PyProof.Rows L2
/-! ### slots -/
/-- o.f as a target -/
def gSlt (K : PySem.W.Frag) (ta : TE) (f : Str) : TG := fun y σ H Q => ta σ H fun x H2 => ∃ a C dx p vs i, x = .ref a ∧ SlX.Slt H2 a C dx vs ∧ SlX.SCls K C ∧ SlX.Slot1 K C f p i ∧ Q σ (SlX.slH H2 a C dx (SlX.putS i y vs))
section
variable {X : Cx} {o : Expr} {f : Str} {pos : Pos} {ta : TE}
theorem pg_slt (ha : PE X o ta) : PG X (.Attribute o f pos) (gSlt X.K ta f) := by
  refine ⟨fun pins s σ H v u Q I r h => ?_⟩
  rw [assign_Attribute]
  refine wpAny_bind (wpAny_holding (thn (ha.run pins s σ H _ I h) fun ov s1 ⟨x, H1, I1, r1, a, C, dx, p, vs, i, ex, hsl, c, t, q⟩ => ?_))
  subst ex
  obtain rfl : ov = Value.ref a := r1
  refine wpAny_bind (wpAny_standAt (wpAny_bind (wpAny_holding (SlX.setslot_ok I1 hsl c t r fun s3 I3 => ?_))))
  exact wpAny_release ⟨σ, _, I3, q⟩
end
/-! ### len(x) of an instance with slots and an own def -/
def rLenOwn (C : Addr) (sp : Sp) (E : XK) : List V → Hp → VK → Prop := fun xs H Q => ∃ a dx vs, xs = [V.ref a] ∧ SlX.Slt H a C dx vs ∧ sp [.ref a] H (fun z H' => ∃ i : Int, z = .int i ∧ 0 ≤ i ∧ i < 2 ^ 63 ∧ Q z H') E
section
variable {X : Cx} {CX : CXT} {C g : Addr} {n : Nat} {sp : Sp} {E : XK}
theorem call_lenOwn (hs : PySem.W.findIn X.K (.ref C) "__len__" = some (some (.ref g))) (hf : PySem.W.isFn X.K (.ref g) = true) (F : FnR X.prog X.w X.K X.mg X.base CX n g sp) (hr : Room (n + 1) X.A) (hx : Passes CX X E) : CallR X (.builtin "len") (rLenOwn C sp E) := by
  intro pins s σ H xs us Q I r h
  obtain ⟨a, dx, vs, rfl, hsl, q⟩ := h
  obtain ⟨u, rfl, ru⟩ := vals1 r
  cases (show u = Value.ref a from ru)
  obtain ⟨sl, od, _, J, _⟩ := SlX.slt_inst I hsl
  refine Calls.call_function_entry kind_len plain_len entry_len (args_len1 _) ?_
  unfold Builtin.«len»
  refine wpAny_bind (m := oneArg "len" _) (wpAny_pure ?_)
  refine wpAny_bind (m := callSpecial? (.ref a) (PySem.Str.ofString "__len__")) (PySem.W.special_fn I.kIn J hs (beq_iff_eq.mp hf) (wpAny_mono (wpAny_call (SlX.run_at (us := [.ref a]) (ws := [.ref a]) F hr.in1 I.env0.in1 hx I (.cons rfl .nil) q)) (fun w s' z => ?_) fun _ _ x => x))
  obtain ⟨z', H', I', rz, i, ei, hi0, hi1, qz⟩ := z
  subst ei
  obtain ⟨t, e⟩ := (show ∃ t, w = Value.int i t from rz)
  cases e
  refine wpAny_bind (wpAny_holding (wpAny_pure ?_))
  refine wpAny_bind (wpAny_letGo ?_)
  show wpAny _ _ (if i < 0 then _ else _) _ _ _
  rw [if_neg (by omega)]
  show wpAny _ _ (if i ≥ 2 ^ 63 then _ else _) _ _ _
  rw [if_neg (by omega)]
  exact wpAny_bind (wpAny_mkInt (wpAny_pure ⟨_, rfl, .int i, H', I'.tok _, ⟨_, rfl⟩, qz⟩))
end
/-! ### a head with tests of one's own -/
abbrev FT : Type := PySem.W.Frag → Bool
def obsX (fa : List He.Fa) (fn : List He.DefD) (ex : List FT) (K : PySem.W.Frag) : He.AlD := ((He.obsD fa fn K).1 && ex.all fun t => t K, (He.obsD fa fn K).2)
def SaysX (fa : List He.Fa) (fn : List He.DefD) (ex : List FT) (K : PySem.W.Frag) : Prop := obsX fa fn ex K = He.valD fn
def obsXG (n : Nat) (fa : List He.Fa) (fn : List He.DefD) (ex : List FT) (g : Addr → Option Obj) : He.AlD := obsX fa fn ex (He.frG g (He.asD g n))
def hookX (n : Nat) (fa : List He.Fa) (fn : List He.DefD) (ex : List FT) : PySem.W.Hook where
  α := He.AlD
  obs := fun s => obsXG n fa fn ex s.heap.get?
  val := fun _ => He.valD fn
  says := fun _ h => ∃ K : PySem.W.Frag, K.In h ∧ SaysX fa fn ex K
  of := fun _ _ e => ⟨_, He.frG_in, e⟩
  keeps := fun _ _ _ ⟨K, hK, c⟩ k => ⟨K, PySem.W.Frag.In.keeps hK k, c⟩
theorem obsXG_eq {n : Nat} {fa : List He.Fa} {fn : List He.DefD} {ex : List FT} {g : Addr → Option Obj} {s : Shared} (h : ∀ a, g a = s.heap.get? a) : obsXG n fa fn ex g = (hookX n fa fn ex).obs s := by
  have e : g = s.heap.get? := funext h
  rw [e] <;> rfl
section
variable {fa : List He.Fa} {fn : List He.DefD} {xt : List FT} {K : PySem.W.Frag}
theorem SaysX.both (c : SaysX fa fn xt K) : ((He.obsD fa fn K).1 = true ∧ (xt.all fun t => t K) = true) ∧ (He.obsD fa fn K).2 = (He.valD fn).2 := by
  have h1 : ((He.obsD fa fn K).1 && xt.all fun t => t K) = true := congrArg (fun z : He.AlD => z.1) (show obsX fa fn xt K = He.valD fn from c)
  have h2 : (obsX fa fn xt K).2 = (He.valD fn).2 := congrArg (fun z : He.AlD => z.2) (show obsX fa fn xt K = He.valD fn from c)
  exact ⟨He.ba h1, h2⟩
theorem SaysX.d (c : SaysX fa fn xt K) : He.SaysD fa fn K := by
  obtain ⟨⟨h1, _⟩, h2⟩ := c.both
  show He.obsD fa fn K = He.valD fn
  exact Prod.ext h1 h2
theorem SaysX.test (c : SaysX fa fn xt K) (i : Nat) {t : FT} (h : xt[i]? = some t := by rfl) : t K = true :=
  List.all_eq_true.mp c.both.1.2 t (List.mem_of_getElem? h)
end
/-! ### tests of a class with slots -/
section
variable (K : PySem.W.Frag) (C : Addr)
def sclsB : Bool := PySem.W.plainGet K C Str.empty && (PySem.W.isClsIn K C && (PySem.W.plainOver K C && He.eqO (PySem.W.findIn K (.ref C) "__setattr__") (some (some (.builtin "object.__setattr__")))))
def slotB (f : Str) (i : Nat) : Bool := He.eqO (PySem.W.findIn K (.ref C) f) (some (some (.ref (He.ma K C f)))) && (He.eqO (PySem.W.specialIn K (.ref (He.ma K C f)) "__get__") (some (some (.builtin "member_descriptor.__get__"))) &&
  (decide (PySem.W.takesIn K (.ref (He.ma K C f)) = some true) && (decide (PySem.W.typeIn K (.ref (He.ma K C f)) = some (.type "member_descriptor")) && (decide (PySem.W.slotIn K (He.ma K C f) C = some i) && decide (i < 1000)))))
def isiB : Bool := He.eqO (PySem.W.findIn K (.ref C) "__class__") (some (some (.builtin "object.__class__"))) && (He.eqO (PySem.W.specialIn K (.builtin "object.__class__") "__get__") (some (some (.builtin "getset_descriptor.__get__"))) &&
  (decide (PySem.W.takesIn K (.builtin "object.__class__") = some true) && decide (PySem.W.mroIn K C (.type "object") = some true)))
def kitB (t u : Value) (b : Bool) : Bool := decide (PySem.W.kitOne K t u = some b)
/-- a property's getter -/
def pgA (f : Str) : Addr := match PySem.W.recIn K (He.ma K C f) "property" with
  | some (.ref g :: _) => g
  | _ => 0
def propB (f : Str) : Bool := He.eqO (PySem.W.findIn K (.ref C) f) (some (some (.ref (He.ma K C f)))) && (He.eqO (PySem.W.specialIn K (.ref (He.ma K C f)) "__get__") (some (some (.builtin "property.__get__"))) &&
  (decide (PySem.W.takesIn K (.ref (He.ma K C f)) = some true) && (match PySem.W.recIn K (He.ma K C f) "property" with
  | some (.ref _ :: _) => true
  | _ => false)))
variable {K C}
theorem scls_ok (h : sclsB K C = true) : SlX.SCls K C := by
  obtain ⟨h1, h⟩ := He.ba h
  obtain ⟨h2, h⟩ := He.ba h
  obtain ⟨h3, h4⟩ := He.ba h
  exact ⟨h1, h2, h3, He.eqO_ok h4⟩
theorem slot_ok {f : Str} {i : Nat} (h : slotB K C f i = true) : SlX.Slot1 K C f (He.ma K C f) i := by
  obtain ⟨h1, h⟩ := He.ba h
  obtain ⟨h2, h⟩ := He.ba h
  obtain ⟨h3, h⟩ := He.ba h
  obtain ⟨h4, h⟩ := He.ba h
  obtain ⟨h5, h6⟩ := He.ba h
  exact ⟨He.eqO_ok h1, He.eqO_ok h2, of_decide_eq_true h3, of_decide_eq_true h4, of_decide_eq_true h5, of_decide_eq_true h6⟩
theorem isi_ok (h : isiB K C = true) : SlX.SIsi K C := by
  obtain ⟨h1, h⟩ := He.ba h
  obtain ⟨h2, h⟩ := He.ba h
  obtain ⟨h3, h4⟩ := He.ba h
  exact ⟨He.eqO_ok h1, He.eqO_ok h2, of_decide_eq_true h3, of_decide_eq_true h4⟩
theorem kit_ok {t u : Value} {b : Bool} (h : kitB K t u b = true) : PySem.W.kitOne K t u = some b := of_decide_eq_true h
theorem prop_ok {f : Str} (h : propB K C f = true) : PropOf K C f (He.ma K C f) (pgA K C f) := by
  obtain ⟨h1, h⟩ := He.ba h
  obtain ⟨h2, h⟩ := He.ba h
  obtain ⟨h3, h4⟩ := He.ba h
  refine ⟨He.eqO_ok h1, He.eqO_ok h2, of_decide_eq_true h3, ?_⟩
  unfold pgA
  cases e : PySem.W.recIn K (He.ma K C f) "property" with
  | none => rw [e] at h4; cases h4
  | some l =>
    rw [e] at h4
    cases l with
    | nil => cases h4
    | cons v r => cases v <;> first | exact ⟨_, rfl⟩ | cases h4
end
end My

/-! digits of numbers, plain -/
namespace M11
/-- the digits of n, low ones first -/
def lows (b n : Nat) : List Nat := if h : n = 0 ∨ b < 2 then [] else (n % b) :: lows b (n / b)
termination_by n
decreasing_by
  rcases Nat.eq_zero_or_pos n with e | e
  · exact absurd (.inl e) h
  · exact Nat.div_lt_self e (by omega)
theorem lows_zero (b : Nat) : lows b 0 = [] := by unfold lows; simp
theorem lows_pos {b n : Nat} (hb : 2 ≤ b) (hn : 0 < n) : lows b n = (n % b) :: lows b (n / b) := by
  rw [lows]
  rw [dif_neg (by omega)]
def digs (b n : Nat) : List Nat := (lows b n).reverse
/-- the number that digits tell -/
def pl (b : Nat) (ds : List Nat) : Nat := ds.foldl (fun a d => a * b + d) 0
theorem lows_lt {b : Nat} (hb : 2 ≤ b) : ∀ (n : Nat), ∀ d ∈ lows b n, d < b := fun n => by
  induction n using Nat.strongRecOn with
  | _ n ih =>
    intro d hd
    rcases Nat.eq_zero_or_pos n with e | e
    · subst e; rw [lows_zero] at hd; cases hd
    · rw [lows_pos hb e] at hd
      rcases List.mem_cons.mp hd with h | h
      · rw [h]; exact Nat.mod_lt _ (by omega)
      · exact ih (n / b) (Nat.div_lt_self e (by omega)) d h
theorem lows_len {b : Nat} (hb : 2 ≤ b) : ∀ (k n : Nat), n < 2 ^ k → (lows b n).length ≤ k
  | 0, n, h => by
    have : n = 0 := by simpa using h
    subst this; rw [lows_zero]; exact Nat.le_refl _
  | k + 1, n, h => by
    rcases Nat.eq_zero_or_pos n with e | e
    · subst e; rw [lows_zero]; exact Nat.zero_le _
    · rw [lows_pos hb e, List.length_cons]
      have h2 : n / b < 2 ^ k := by
        have : n / b ≤ n / 2 := Nat.div_le_div_left hb (by omega)
        rw [Nat.pow_succ] at h
        omega
      have := lows_len hb k (n / b) h2
      omega
theorem pl_snoc (b : Nat) (ds : List Nat) (d : Nat) : pl b (ds ++ [d]) = pl b ds * b + d := by
  unfold pl; rw [List.foldl_append]; rfl
theorem pl_digs {b : Nat} (hb : 2 ≤ b) (n : Nat) : pl b (digs b n) = n := by
  induction n using Nat.strongRecOn with
  | _ n ih =>
    unfold digs
    rcases Nat.eq_zero_or_pos n with e | e
    · subst e; rw [lows_zero]; rfl
    · rw [lows_pos hb e, List.reverse_cons, pl_snoc]
      have := ih (n / b) (Nat.div_lt_self e (by omega))
      unfold digs at this
      rw [this]
      have := Nat.div_add_mod n b
      rw [Nat.mul_comm]; exact this
theorem pl_noughts (b k : Nat) (ds : List Nat) : pl b (List.replicate k 0 ++ ds) = pl b ds := by
  induction k with
  | zero => rfl
  | succ k ih =>
    rw [List.replicate_succ, List.cons_append]
    show List.foldl _ (0 * b + 0) _ = _
    rw [Nat.zero_mul]
    exact ih
theorem pl_lt {b : Nat} : ∀ (n : Nat) (ds : List Nat), ds.length = n → (∀ d ∈ ds, d < b) → pl b ds < b ^ n
  | 0, ds, h, _ => by
    have : ds = [] := List.eq_nil_of_length_eq_zero h
    subst this; exact Nat.one_pos
  | n + 1, ds, h, hd => by
    have hne : ds ≠ [] := fun e => by subst e; cases h
    have e := List.dropLast_concat_getLast hne
    have h1 : ds.dropLast.length = n := by rw [List.length_dropLast]; omega
    have h2 := pl_lt n ds.dropLast h1 fun d hm => hd d (List.dropLast_subset _ hm)
    have h3 := hd _ (List.getLast_mem hne)
    rw [← e, pl_snoc, Nat.pow_succ]
    have : (pl b ds.dropLast + 1) * b ≤ b ^ n * b := Nat.mul_le_mul_right _ h2
    rw [Nat.add_mul, Nat.one_mul] at this
    omega
/-- digits with noughts ahead are told again -/
theorem wide_again {b : Nat} (hb : 2 ≤ b) : ∀ (n : Nat) (ds : List Nat), ds.length = n → (∀ d ∈ ds, d < b) → (digs b (pl b ds)).length ≤ n ∧ List.replicate (n - (digs b (pl b ds)).length) 0 ++ digs b (pl b ds) = ds
  | 0, ds, h, _ => by
    have : ds = [] := List.eq_nil_of_length_eq_zero h
    subst this
    have e : digs b (pl b []) = [] := by unfold digs pl; rw [List.foldl_nil, lows_zero]; rfl
    rw [e]; exact ⟨Nat.le_refl _, rfl⟩
  | n + 1, ds, h, hd => by
    have hne : ds ≠ [] := fun e => by subst e; cases h
    have e := List.dropLast_concat_getLast hne
    have h1 : ds.dropLast.length = n := by rw [List.length_dropLast]; omega
    have h3 := hd _ (List.getLast_mem hne)
    have ih := wide_again hb n ds.dropLast h1 fun d hm => hd d (List.dropLast_subset _ hm)
    generalize hm : pl b ds.dropLast = m at ih
    generalize hl : ds.getLast hne = d at h3 e
    have ep : pl b ds = m * b + d := by rw [← e, pl_snoc, hm]
    rw [ep]
    rcases Nat.eq_zero_or_pos (m * b + d) with z | z
    · have hm0 : m = 0 := by
        rcases Nat.eq_zero_or_pos m with q | q
        · exact q
        · have := Nat.mul_pos q (show 0 < b by omega); omega
      subst hm0
      have hd0 : d = 0 := by omega
      subst hd0
      rw [z]
      have e0 : digs b 0 = [] := by unfold digs; rw [lows_zero]; rfl
      rw [e0] at ih ⊢
      refine ⟨Nat.zero_le _, ?_⟩
      rw [List.length_nil, Nat.sub_zero, List.append_nil] at ih ⊢
      rw [← e, ← ih.2, List.replicate_succ']
    · have ed : digs b (m * b + d) = digs b m ++ [d] := by
        unfold digs
        rw [lows_pos hb z, List.reverse_cons]
        have q1 : (m * b + d) / b = m := by
          rw [Nat.add_comm, Nat.add_mul_div_right _ _ (by omega), Nat.div_eq_of_lt h3]; omega
        have q2 : (m * b + d) % b = d := by
          rw [Nat.add_comm, Nat.add_mul_mod_self_right, Nat.mod_eq_of_lt h3]
        rw [q1, q2]
      rw [ed, List.length_append, List.length_singleton]
      refine ⟨by omega, ?_⟩
      rw [show n + 1 - ((digs b m).length + 1) = n - (digs b m).length by omega, ← List.append_assoc, ih.2]
      exact e
/-- how many noughts stand at the end -/
def tz (b n : Nat) : Nat := if h : 0 < n ∧ 2 ≤ b ∧ n % b = 0 then tz b (n / b) + 1 else 0
termination_by n
decreasing_by exact Nat.div_lt_self h.1 (by omega)
theorem tz_yes {b n : Nat} (hb : 2 ≤ b) (hn : 0 < n) (h : n % b = 0) : tz b n = tz b (n / b) + 1 := by
  rw [tz, dif_pos ⟨hn, hb, h⟩]
theorem tz_no {b n : Nat} (h : n % b ≠ 0) : tz b n = 0 := by
  rw [tz, dif_neg (by intro z; exact h z.2.2)]
theorem div_pos_of {b n : Nat} (hb : 2 ≤ b) (hn : 0 < n) (h : n % b = 0) : 0 < n / b := by
  rcases Nat.eq_zero_or_pos (n / b) with e | e
  · have := Nat.div_add_mod n b
    rw [e, h] at this
    simp at this
    omega
  · exact e
/-- below it stand noughts, at it stands none -/
theorem tz_at {b : Nat} (hb : 2 ≤ b) : ∀ n : Nat, 0 < n → (∀ i, i < tz b n → (lows b n)[i]? = some 0) ∧ ∃ d, (lows b n)[tz b n]? = some d ∧ d ≠ 0 := fun n => by
  induction n using Nat.strongRecOn with
  | _ n ih =>
    intro hn
    by_cases h : n % b = 0
    · have hp := div_pos_of hb hn h
      obtain ⟨h1, d, h2, h3⟩ := ih (n / b) (Nat.div_lt_self hn (by omega)) hp
      rw [tz_yes hb hn h, lows_pos hb hn]
      refine ⟨fun i hi => ?_, d, by simpa using h2, h3⟩
      cases i with
      | zero => simp [h]
      | succ i => simpa using h1 i (by omega)
    · rw [tz_no h, lows_pos hb hn]
      exact ⟨fun i hi => absurd hi (by omega), n % b, rfl, h⟩
/-- the indices of the digits that are not 0, below i -/
def idx (l : List Nat) (i : Nat) : List Nat := (List.range i).filter fun j => decide (l[j]? ≠ some 0)
theorem idx_succ (l : List Nat) (i : Nat) : idx l (i + 1) = if l[i]? = some 0 then idx l i else idx l i ++ [i] := by
  unfold idx
  rw [List.range_succ, List.filter_append, List.filter_cons, List.filter_nil]
  by_cases h : l[i]? = some 0
  · simp [h]
  · simp [h]
theorem idx_len (l : List Nat) (i : Nat) : (idx l i).length ≤ i := by
  have := List.length_filter_le (fun j => decide (l[j]? ≠ some 0)) (List.range i)
  rw [List.length_range] at this
  exact this
theorem tz_lt {b n : Nat} (hb : 2 ≤ b) (hn : 0 < n) : tz b n < (lows b n).length := by
  obtain ⟨_, d, h, _⟩ := tz_at hb n hn
  exact (List.getElem?_eq_some_iff.mp h).1
/-- the least of these indices is the number of noughts at the end -/
theorem idx_min {b n : Nat} (hb : 2 ≤ b) (hn : 0 < n) : tz b n ∈ idx (lows b n) (lows b n).length ∧ ∀ m ∈ idx (lows b n) (lows b n).length, tz b n ≤ m := by
  obtain ⟨h0, d, h1, h2⟩ := tz_at hb n hn
  refine ⟨List.mem_filter.mpr ⟨List.mem_range.mpr (tz_lt hb hn), decide_eq_true ?_⟩, fun m hm => ?_⟩
  · rw [h1]
    intro q
    exact h2 (Option.some.inj q)
  · have := of_decide_eq_true (List.mem_filter.mp hm).2
    rcases Nat.lt_or_ge m (tz b n) with h | h
    · exact absurd (h0 m h) this
    · exact h
end M11

set_option Elab.async false
set_option linter.all false
set_option maxRecDepth 100000
set_option maxHeartbeats 4000000
namespace My
open PySem PySem.Spec PyProof.Rows L2
/-! ### numbers as values -/
def iN (l : List Nat) : List Int := l.map fun n : Nat => (n : Int)
def vN (l : List Nat) : List V := (iN l).map V.int
theorem vN_len (l : List Nat) : (vN l).length = l.length := by unfold vN iN; simp
theorem vN_app (l r : List Nat) : vN (l ++ r) = vN l ++ vN r := by unfold vN iN; simp
theorem vN_rev (l : List Nat) : vN l.reverse = (vN l).reverse := by unfold vN iN; simp
theorem vN_get (l : List Nat) (i : Nat) : (vN l)[i]? = l[i]?.map fun n : Nat => V.int (n : Int) := by unfold vN iN; simp; rfl
theorem vN_at {l : List Nat} {i n : Nat} (h : l[i]? = some n) : (vN l)[i]? = some (.int n) := by rw [vN_get, h]; rfl
theorem vN_of {l : List Nat} {i : Nat} {x : V} (h : (vN l)[i]? = some x) : ∃ n : Nat, l[i]? = some n ∧ x = .int n := by
  rw [vN_get] at h
  cases e : l[i]? with
  | none => rw [e] at h; cases h
  | some n => rw [e] at h; cases h; exact ⟨n, rfl, rfl⟩
theorem vN_cons (a : Nat) (l : List Nat) : vN (a :: l) = V.int a :: vN l := rfl
theorem vN_rep (k n : Nat) : vN (List.replicate k n) = List.replicate k (V.int n) := by unfold vN iN; simp
theorem iN_count (l : List Nat) (n : Nat) : (iN l).count (n : Int) = l.count n := by
  unfold iN
  induction l with
  | nil => rfl
  | cons a l ih =>
    rw [List.map_cons, List.count_cons, List.count_cons, ih]
    congr 1
    by_cases h : a = n
    · simp [h]
    · simp [h]
      omega
theorem vN_inj {l r : List Nat} (h : vN l = vN r) : l = r := by
  have h1 : iN l = iN r := by
    unfold vN at h
    exact List.map_inj_right (fun a b q => V.int.inj q) |>.mp h
  unfold iN at h1
  exact List.map_inj_right (fun a b q => by omega) |>.mp h1
/-! ### tuples of tuples -/
def RowsAt (K : PySem.W.Frag) (H : Hp) (p : Addr) (rows : List (List Nat)) : Prop := ∃ ps : List Addr, SqT K H p (ps.map V.ref) ∧ Paired (fun q r => SqT K H q (vN r)) ps rows
theorem Paired.get' {α β : Type} {R : α → β → Prop} : ∀ {l : List α} {r : List β} {i : Nat} {b : β}, Paired R l r → r[i]? = some b → ∃ a, l[i]? = some a ∧ R a b
  | _, _, _, _, .nil, h => by simp at h
  | _, _, 0, _, .cons q _, h => by simp at h; subst h; exact ⟨_, rfl, q⟩
  | _, _, i + 1, _, .cons _ t, h => by simp at h; simpa using Paired.get' t h
theorem Paired.len {α β : Type} {R : α → β → Prop} : ∀ {l : List α} {r : List β}, Paired R l r → l.length = r.length
  | _, _, .nil => rfl
  | _, _, .cons _ t => by simp [Paired.len t]
theorem Paired.imp' {α β : Type} {R S : α → β → Prop} (h : ∀ a b, R a b → S a b) : ∀ {l : List α} {r : List β}, Paired R l r → Paired S l r
  | _, _, .nil => .nil
  | _, _, .cons q t => .cons (h _ _ q) (Paired.imp' h t)
theorem Paired.snoc {α β : Type} {R : α → β → Prop} {a : α} {b : β} (h : R a b) : ∀ {l : List α} {r : List β}, Paired R l r → Paired R (l ++ [a]) (r ++ [b])
  | _, _, .nil => .cons h .nil
  | _, _, .cons q t => .cons q (Paired.snoc h t)
section
variable {K : PySem.W.Frag} {H H' : Hp} {p d : Addr} {rows : List (List Nat)}
theorem RowsAt.len (h : RowsAt K H p rows) : ∃ xs, SqT K H p xs ∧ xs.length = rows.length := by
  obtain ⟨ps, h1, h2⟩ := h
  exact ⟨_, h1, by rw [List.length_map]; exact Paired.len h2⟩
theorem RowsAt.same (e : Same H H') (h : RowsAt K H p rows) : RowsAt K H' p rows := by
  obtain ⟨ps, h1, h2⟩ := h
  exact ⟨ps, sameT e h1, Paired.imp' (fun _ _ q => sameT e q) h2⟩
theorem RowsAt.but {ys : List V} (hd : H d = some (.lst ys)) (e : But d H H') (h : RowsAt K H p rows) : RowsAt K H' p rows := by
  obtain ⟨ps, h1, h2⟩ := h
  exact ⟨ps, butT hd e h1, Paired.imp' (fun _ _ q => butT hd e q) h2⟩
/-- row i, by its place -/
theorem RowsAt.row {i : Nat} {r : List Nat} (h : RowsAt K H p rows) (hi : rows[i]? = some r) : ∃ (q : Addr) (xs : List V), SqT K H p xs ∧ xs[i]? = some (.ref q) ∧ SqT K H q (vN r) := by
  obtain ⟨ps, h1, h2⟩ := h
  obtain ⟨q, h3, h4⟩ := Paired.get' h2 hi
  exact ⟨q, _, h1, by rw [List.getElem?_map, h3]; rfl, h4⟩
end
/-! ### comprehensions with two for -/
section
variable {J J1 : It} {n n1 : Nat} {G G1 : Hp → Prop} {Y Y1 : Nat → Hp → V → Hp → Prop}
theorem lc2_it (w : Walk J n G Y) {g g1 : TG} {tt tt1 : TT} {wi1 : TI} {te : TE} {vs vs1 : List Nat} {σ : L2.St} {H1 : Hp} {D : Addr} {Qd : Hp → Prop} (Pv : Nat → Hp → Prop) (h0 : Pv 0 (upd H1 D (.lst []))) (hG : ∀ i H, i ≤ n → Pv i H → G H)
    (hs : ∀ i x H H', i < n → Pv i H → Y i H x H' → g x (wipe σ vs) H' fun σ2 H2 => wipe σ2 vs = wipe σ vs ∧ tt σ2 H2 fun b H3 =>
      if b = true then wi1 σ2 H3 fun J1 H4 => ∃ W1 : Nat → Nat → Hp → Prop, (∃ m, W1 0 m H4) ∧ ∀ j k H, W1 j k H →
        (J1.stop j H ∧ Pv (i + 1) H) ∨ (J1.go j H ∧ ∃ Nx1 : Hp → Prop, (∀ H', Nx1 H' → ∃ k', k' < k ∧ W1 (j + 1) k' H') ∧ ∀ x H', J1.yld j H x H' → g1 x (wipe σ2 vs1) H' fun σ3 H5 => wipe σ3 vs1 = wipe σ2 vs1 ∧ tt1 σ3 H5 fun b H6 =>
          if b = true then te σ3 H6 fun y H7 => ∃ acc, H7 D = some (.lst acc) ∧ acc.length < sizeLine ∧ Nx1 (upd H7 D (.lst (acc ++ [y]))) else Nx1 H6)
      else Pv (i + 1) H3) (hd : ∀ H, Pv n H → Qd H) :
    ∃ W : Nat → Nat → Hp → Prop, (∃ m, W 0 m (upd H1 D (.lst []))) ∧ ∀ i m H, W i m H →
      (J.stop i H ∧ Qd H) ∨ (J.go i H ∧ ∃ Nx : Hp → Prop, (∀ H', Nx H' → ∃ m', m' < m ∧ W (i + 1) m' H') ∧ ∀ x H', J.yld i H x H' → g x (wipe σ vs) H' fun σ2 H2 => wipe σ2 vs = wipe σ vs ∧ tt σ2 H2 fun b H3 =>
        if b = true then wi1 σ2 H3 fun J1 H4 => ∃ W1 : Nat → Nat → Hp → Prop, (∃ m, W1 0 m H4) ∧ ∀ j k H, W1 j k H →
          (J1.stop j H ∧ Nx H) ∨ (J1.go j H ∧ ∃ Nx1 : Hp → Prop, (∀ H', Nx1 H' → ∃ k', k' < k ∧ W1 (j + 1) k' H') ∧ ∀ x H', J1.yld j H x H' → g1 x (wipe σ2 vs1) H' fun σ3 H5 => wipe σ3 vs1 = wipe σ2 vs1 ∧ tt1 σ3 H5 fun b H6 =>
            if b = true then te σ3 H6 fun y H7 => ∃ acc, H7 D = some (.lst acc) ∧ acc.length < sizeLine ∧ Nx1 (upd H7 D (.lst (acc ++ [y]))) else Nx1 H6)
        else Nx H3) := by
  refine ⟨fun i m H => m = n - i ∧ i ≤ n ∧ Pv i H, ⟨n, by simp, Nat.zero_le _, h0⟩, ?_⟩
  rintro i m H ⟨rfl, hi, p⟩
  have q := hG i H hi p
  by_cases hlt : i < n
  · exact .inr ⟨w.goes i H hlt q, Pv (i + 1), fun H' p' => ⟨n - (i + 1), by omega, rfl, hlt, p'⟩, fun x H' y => hs i x H H' hlt p (w.yields i H x H' hlt q y)⟩
  · have e : i = n := by omega
    subst e
    exact .inl ⟨w.stops H q, hd H p⟩
/-- the inner one -/
theorem lc_in (w : Walk J1 n1 G1 Y1) {g1 : TG} {tt1 : TT} {te : TE} {vs1 : List Nat} {σ2 : L2.St} {D : Addr} {H4 : Hp} {Nx : Hp → Prop} (Pv : Nat → Hp → Prop) (h0 : Pv 0 H4) (hG : ∀ i H, i ≤ n1 → Pv i H → G1 H)
    (hs : ∀ j x H H', j < n1 → Pv j H → Y1 j H x H' → g1 x (wipe σ2 vs1) H' fun σ3 H5 => wipe σ3 vs1 = wipe σ2 vs1 ∧ tt1 σ3 H5 fun b H6 =>
      if b = true then te σ3 H6 fun y H7 => ∃ acc, H7 D = some (.lst acc) ∧ acc.length < sizeLine ∧ Pv (j + 1) (upd H7 D (.lst (acc ++ [y]))) else Pv (j + 1) H6) (hd : ∀ H, Pv n1 H → Nx H) :
    ∃ W1 : Nat → Nat → Hp → Prop, (∃ m, W1 0 m H4) ∧ ∀ j k H, W1 j k H →
      (J1.stop j H ∧ Nx H) ∨ (J1.go j H ∧ ∃ Nx1 : Hp → Prop, (∀ H', Nx1 H' → ∃ k', k' < k ∧ W1 (j + 1) k' H') ∧ ∀ x H', J1.yld j H x H' → g1 x (wipe σ2 vs1) H' fun σ3 H5 => wipe σ3 vs1 = wipe σ2 vs1 ∧ tt1 σ3 H5 fun b H6 =>
        if b = true then te σ3 H6 fun y H7 => ∃ acc, H7 D = some (.lst acc) ∧ acc.length < sizeLine ∧ Nx1 (upd H7 D (.lst (acc ++ [y]))) else Nx1 H6) := by
  refine ⟨fun i m H => m = n1 - i ∧ i ≤ n1 ∧ Pv i H, ⟨n1, by simp, Nat.zero_le _, h0⟩, ?_⟩
  rintro i m H ⟨rfl, hi, p⟩
  have q := hG i H hi p
  by_cases hlt : i < n1
  · exact .inr ⟨w.goes i H hlt q, Pv (i + 1), fun H' p' => ⟨n1 - (i + 1), by omega, rfl, hlt, p'⟩, fun x H' y => hs i x H H' hlt p (w.yields i H x H' hlt q y)⟩
  · have e : i = n1 := by omega
    subst e
    exact .inl ⟨w.stops H q, hd H p⟩
end
/-! ### methods of tuples and lists -/
section
variable {X : Cx}
def rCntT (K : PySem.W.Frag) : V → List V → Hp → VK → Prop := fun x xs H Q => ∃ (p : Addr) (ns : List Int) (k : Int), x = .ref p ∧ xs = [.int k] ∧ SqT K H p (ns.map V.int) ∧ Q (.int (ns.count k : Nat)) H
theorem mt_tcount : MtR X "tuple.count" (rCntT X.K) := by
  intro pins s σ H x xs v us Q I rx rxs h
  obtain ⟨p, ns, k, rfl, rfl, hs, q⟩ := h
  cases rx
  obtain ⟨u, rfl, ru⟩ := rxs.one
  obtain ⟨t, rfl⟩ := ru
  obtain ⟨its, rv, ⟨⟨cls, dd, data, sl⟩, ho, hc, n, hd⟩, hlen⟩ := I.tuple hs
  simp only at hc hd
  subst hc hd
  have hi := ints_of_vals rv
  refine call_meets PySem.F.slot_tuple_count ⟨_, ho, rfl⟩ PySem.F.entry_tuple_count (PySem.F.args_tuple_count_2 _ _)
    (SeqAt.tuple_countAt p its.toArray n dd sl (.int k t) (eqk k)) ⟨ho, fun y hy => (eqk_gives hi y (by simpa using hy)).at _ _, ?_⟩
  have ec : its.toArray.toList.countP (eqk k) = ns.count k := eqk_count hi
  refine ⟨.int (ns.count k : Nat), H, I.tok _, ⟨s.toks, ?_⟩, q⟩
  show Value.int ((its.toArray.toList.countP (eqk k) : Nat) : Int) s.toks = Value.int ((ns.count k : Nat) : Int) s.toks
  rw [ec]
theorem list_extT (l : Addr) (items : Array Value) (n : Nat) (b : Addr) (items2 : Array Value) (n2 : Nat) (dd : Option Addr) (sl : Array (Option Value)) (hs0 : ¬(!items.isEmpty && Builtin.List.listTooLong (items.size + items2.size)) = true) (hs1 : items.size ≤ sizeLine) (hs2 : items.size + items2.size ≤ sizeLine + 1) :
    Meets (Builtin.«list.extend» ⟨[.ref l, .ref b], []⟩) (fun _ R s => s.heap.get? l = some { cls := .type "list", dict := none, data := .seq items n, slots := #[] } ∧ s.heap.get? b = some { cls := .type "tuple", dict := dd, data := .seq items2 n2, slots := sl } ∧
      R (.ok (.ret Value.none)) { s with heap := s.heap.update l (Obj.mapSeq fun x => x ++ items2), toks := s.toks }) :=
  .of_wp fun prog w A R s h => by
    obtain ⟨hp, g, d, tk, os⟩ := s
    obtain ⟨hl, hb, h⟩ := h
    have f4 := AutoSeq1.sub_tuple_list
    have f2 := AutoSeq1.sub_tuple_tuple
    have hz' : (items ++ items2).size ≤ sizeLine + 1 := by rw [Array.size_append]; exact hs2
    wp_walk using (wpAny_updateSeq hl rfl (hz := hs1) (_hz' := hz')), wpAny_loadPart' hl, wpAny_loadPart' hb
    exact ⟨_, rfl, h⟩
def rExtendT (K : PySem.W.Frag) : V → List V → Hp → VK → Prop := fun x vs H Q => ∃ l b xs zs, x = .ref l ∧ vs = [.ref b] ∧ H l = some (.lst xs) ∧ SqT K H b zs ∧ xs.length + zs.length ≤ sizeLine ∧ Q .non (upd H l (.lst (xs ++ zs)))
theorem mt_extendT : MtM X "list.extend" (rExtendT X.K) := by
  intro pins s σ H x vs v us Q I rx rv h
  obtain ⟨l, b, xs, zs, rfl, rfl, hH, hB, hz, q⟩ := h
  cases rx
  obtain ⟨u, rfl, ru⟩ := rv.one
  cases ru
  obtain ⟨z, its, n, r, hl, e⟩ := I.lstM hH
  obtain ⟨its2, r2, ⟨⟨cls, dd, data, sl⟩, ho, hc, n2, hd⟩, hz2⟩ := I.tuple hB
  simp only at hc hd
  subst hc hd
  have hl2 := r2.length
  have hsz : its.toArray.size + its2.toArray.size ≤ sizeLine := by rw [List.size_toArray, List.size_toArray]; omega
  have hlong : ¬ (!its.toArray.isEmpty && Builtin.List.listTooLong (its.toArray.size + its2.toArray.size)) = true := by
    rw [notLongL hsz, Bool.and_false]
    exact Bool.false_ne_true
  refine call_meets F.slot_list_extend ⟨_, e, rfl⟩ F.entry_list_extend (F.args_list_extend_2 _ _)
    (list_extT l its.toArray n b its2.toArray n2 dd sl hlong (by rw [List.size_toArray]; omega) (by omega)) ⟨e, ho, ?_⟩
  refine ⟨.non, _, I.lset (its' := its ++ its2) hH e (by simp) (r.append r2) ?_, rfl, q⟩
  rw [List.length_append]
  omega
end
end My

/-! words told by machines, plain -/
namespace MW
open M11
structure Wd where
  b : Nat
  rows : List (List Nat)
  lets : List Nat
structure Wd.Ok (W : Wd) : Prop where
  b2 : 2 ≤ W.b
  b5 : W.b ≤ 5
  n1 : 1 ≤ W.lets.length
  n60 : W.lets.length ≤ 60
  len : W.rows.length = W.lets.length
  row : ∀ r ∈ W.rows, r.length = W.b ∧ ∀ s ∈ r, s < W.lets.length
  zero : ∃ r, W.rows[0]? = some r ∧ r[0]? = some 0
  let9 : ∀ l ∈ W.lets, l ≤ 9
def Wd.step (W : Wd) (s d : Nat) : Nat := ((W.rows[s]?).bind (·[d]?)).getD 0
def Wd.run (W : Wd) (s : Nat) (ds : List Nat) : Nat := ds.foldl W.step s
def Wd.st (W : Wd) (n : Nat) : Nat := W.run 0 (digs W.b n)
def Wd.letter (W : Wd) (s : Nat) : Nat := (W.lets[s]?).getD 0
def Wd.at_ (W : Wd) (n : Nat) : Nat := W.letter (W.st n)
def Wd.rowOf (W : Wd) (s : Nat) : List Nat := (W.rows[s]?).getD []
def Wd.expand (W : Wd) (l : List Nat) : List Nat := l.flatMap W.rowOf
def Wd.expands (W : Wd) : Nat → List Nat → List Nat
  | 0, l => l
  | n + 1, l => W.expands n (W.expand l)
section
variable {W : Wd}
theorem digs_step {b n : Nat} (hb : 2 ≤ b) (hn : 0 < n) : digs b n = digs b (n / b) ++ [n % b] := by
  unfold digs
  rw [lows_pos hb hn, List.reverse_cons]
theorem digs_zero (b : Nat) : digs b 0 = [] := by unfold digs; rw [lows_zero]; rfl
theorem digs_lt {b n d : Nat} (hb : 2 ≤ b) (h : d ∈ digs b n) : d < b := lows_lt hb n d (by unfold digs at h; exact List.mem_reverse.mp h)
theorem Wd.Ok.rowAt (O : W.Ok) {s : Nat} (h : s < W.lets.length) : ∃ r, W.rows[s]? = some r ∧ r.length = W.b ∧ ∀ x ∈ r, x < W.lets.length := by
  have hs : s < W.rows.length := by rw [O.len]; exact h
  exact ⟨W.rows[s], List.getElem?_eq_getElem hs, O.row _ (List.getElem_mem hs)⟩
theorem Wd.Ok.stepAt (O : W.Ok) {s d : Nat} (h : s < W.lets.length) (hd : d < W.b) : ∃ r, W.rows[s]? = some r ∧ r[d]? = some (W.step s d) ∧ W.step s d < W.lets.length := by
  obtain ⟨r, e, l, q⟩ := O.rowAt h
  have hd' : d < r.length := by omega
  have es : W.step s d = r[d] := by unfold Wd.step; rw [e]; simp [hd']
  exact ⟨r, e, by rw [es]; exact List.getElem?_eq_getElem hd', by rw [es]; exact q _ (List.getElem_mem hd')⟩
theorem Wd.Ok.letterAt (O : W.Ok) {s : Nat} (h : s < W.lets.length) : W.lets[s]? = some (W.letter s) ∧ W.letter s ≤ 9 := by
  have e : W.letter s = W.lets[s] := by unfold Wd.letter; simp [h]
  rw [e]
  exact ⟨List.getElem?_eq_getElem h, O.let9 _ (List.getElem_mem h)⟩
theorem Wd.Ok.run_lt (O : W.Ok) : ∀ {ds : List Nat} {s : Nat}, s < W.lets.length → (∀ d ∈ ds, d < W.b) → W.run s ds < W.lets.length
  | [], s, h, _ => h
  | d :: ds, s, h, q => by
    obtain ⟨_, _, _, l⟩ := O.stepAt h (q d (List.mem_cons_self ..))
    exact O.run_lt (ds := ds) l fun x hx => q x (List.mem_cons_of_mem _ hx)
theorem Wd.Ok.st_lt (O : W.Ok) (n : Nat) : W.st n < W.lets.length := O.run_lt (by have := O.n1; omega) fun d hd => digs_lt O.b2 hd
theorem Wd.run_snoc (W : Wd) (s : Nat) (ds : List Nat) (d : Nat) : W.run s (ds ++ [d]) = W.step (W.run s ds) d := by
  unfold Wd.run
  rw [List.foldl_append]
  rfl
theorem Wd.Ok.step00 (O : W.Ok) : W.step 0 0 = 0 := by
  obtain ⟨r, e, q⟩ := O.zero
  unfold Wd.step
  rw [e]
  simp [q]
theorem Wd.st_zero (W : Wd) : W.st 0 = 0 := by unfold Wd.st; rw [digs_zero]; rfl
/-- by the last digit -/
theorem Wd.Ok.st_eq (O : W.Ok) (n : Nat) : W.st n = W.step (W.st (n / W.b)) (n % W.b) := by
  rcases Nat.eq_zero_or_pos n with e | e
  · subst e
    rw [Nat.zero_div, Nat.zero_mod, Wd.st_zero, O.step00]
  · unfold Wd.st
    rw [digs_step O.b2 e, W.run_snoc]
theorem Wd.Ok.st_mul (O : W.Ok) (n d : Nat) (hd : d < W.b) : W.st (n * W.b + d) = W.step (W.st n) d := by
  have hb : 0 < W.b := by have := O.b2; omega
  have e := O.st_eq (n * W.b + d)
  rw [Nat.mul_comm n, Nat.mul_add_div hb, Nat.div_eq_of_lt hd, Nat.add_zero, Nat.mul_add_mod, Nat.mod_eq_of_lt hd, Nat.mul_comm] at e
  exact e
theorem Wd.Ok.rowOf (O : W.Ok) {s : Nat} (h : s < W.lets.length) : W.rowOf s = (List.range W.b).map (W.step s) := by
  obtain ⟨r, e, l, _⟩ := O.rowAt h
  have er : W.rowOf s = r := by unfold Wd.rowOf; rw [e]; rfl
  rw [er]
  apply List.ext_getElem?
  intro i
  rw [List.getElem?_map]
  by_cases hi : i < W.b
  · obtain ⟨r', e', q, _⟩ := O.stepAt h hi
    rw [e] at e'
    cases e'
    rw [q, List.getElem?_range hi]
    rfl
  · rw [List.getElem?_eq_none (by omega), List.getElem?_eq_none (by simp; omega)]
    rfl
/-- the states from a on, m of them -/
def Wd.sts (W : Wd) (a m : Nat) : List Nat := (List.range m).map fun j => W.st (a + j)
theorem Wd.sts_succ (W : Wd) (a m : Nat) : W.sts a (m + 1) = W.st a :: W.sts (a + 1) m := by
  unfold Wd.sts
  rw [List.range_succ_eq_map, List.map_cons, List.map_map]
  congr 1
  apply List.map_congr_left
  intro j _
  show W.st (a + (j + 1)) = W.st (a + 1 + j)
  congr 1
  omega
theorem Wd.sts_add (W : Wd) (a m k : Nat) : W.sts a (m + k) = W.sts a m ++ W.sts (a + m) k := by
  unfold Wd.sts
  rw [List.range_add, List.map_append, List.map_map]
  congr 1
  apply List.map_congr_left
  intro j _
  show W.st (a + (m + j)) = W.st (a + m + j)
  congr 1
  omega
theorem Wd.sts_len (W : Wd) (a m : Nat) : (W.sts a m).length = m := by unfold Wd.sts; simp
theorem Wd.expand_cons (W : Wd) (s : Nat) (l : List Nat) : W.expand (s :: l) = W.rowOf s ++ W.expand l := rfl
theorem Wd.expand_app (W : Wd) (l r : List Nat) : W.expand (l ++ r) = W.expand l ++ W.expand r := by unfold Wd.expand; rw [List.flatMap_append]
theorem Wd.Ok.expand_sts (O : W.Ok) : ∀ (m a : Nat), W.expand (W.sts a m) = W.sts (a * W.b) (m * W.b)
  | 0, a => by rw [Nat.zero_mul]; rfl
  | m + 1, a => by
    rw [W.sts_succ, W.expand_cons, O.expand_sts m (a + 1), O.rowOf (O.st_lt a)]
    have e : (m + 1) * W.b = W.b + m * W.b := by rw [Nat.succ_mul, Nat.add_comm]
    rw [e, W.sts_add]
    congr 1
    · unfold Wd.sts
      apply List.map_congr_left
      intro j hj
      exact (O.st_mul a j (List.mem_range.mp hj)).symm
    · congr 1
      rw [Nat.succ_mul]
theorem Wd.Ok.expands_sts (O : W.Ok) : ∀ (t m a : Nat), W.expands t (W.sts a m) = W.sts (a * W.b ^ t) (m * W.b ^ t)
  | 0, m, a => by rw [Nat.pow_zero, Nat.mul_one, Nat.mul_one]; rfl
  | t + 1, m, a => by
    show W.expands t (W.expand (W.sts a m)) = _
    rw [O.expand_sts, O.expands_sts t, Nat.pow_succ, Nat.mul_assoc, Nat.mul_assoc, Nat.mul_comm W.b]
theorem Wd.expands_snoc (W : Wd) : ∀ (t : Nat) (l : List Nat), W.expands (t + 1) l = W.expand (W.expands t l)
  | 0, _ => rfl
  | t + 1, l => W.expands_snoc t (W.expand l)
theorem Wd.Ok.expand_lt (O : W.Ok) {l : List Nat} (h : ∀ s ∈ l, s < W.lets.length) : (∀ s ∈ W.expand l, s < W.lets.length) ∧ (W.expand l).length = l.length * W.b := by
  induction l with
  | nil => exact ⟨fun s hs => absurd hs (by simp [Wd.expand]), by simp [Wd.expand]⟩
  | cons a l ih =>
    obtain ⟨i1, i2⟩ := ih fun s hs => h s (List.mem_cons_of_mem _ hs)
    obtain ⟨r, e, l1, q⟩ := O.rowAt (h a (List.mem_cons_self ..))
    have er : W.rowOf a = r := by unfold Wd.rowOf; rw [e]; rfl
    rw [W.expand_cons, er]
    refine ⟨fun s hs => ?_, ?_⟩
    · rcases List.mem_append.mp hs with h1 | h1
      · exact q s h1
      · exact i1 s h1
    · rw [List.length_append, l1, i2, List.length_cons, Nat.succ_mul, Nat.add_comm]
theorem Wd.Ok.expands_lt (O : W.Ok) : ∀ (t : Nat) {l : List Nat}, (∀ s ∈ l, s < W.lets.length) → (∀ s ∈ W.expands t l, s < W.lets.length) ∧ (W.expands t l).length = l.length * W.b ^ t
  | 0, l, h => ⟨h, by rw [Nat.pow_zero, Nat.mul_one]; rfl⟩
  | t + 1, l, h => by
    obtain ⟨h1, h2⟩ := O.expand_lt h
    obtain ⟨h3, h4⟩ := O.expands_lt t h1
    exact ⟨h3, by show (W.expands t (W.expand l)).length = _; rw [h4, h2, Nat.pow_succ, Nat.mul_assoc, Nat.mul_comm W.b]⟩
/-- numbers of times -/
theorem Wd.Ok.count_expand (O : W.Ok) (g : Nat) {l : List Nat} (h : ∀ s ∈ l, s < W.lets.length) : (W.expand l).count g = ((List.range W.lets.length).map fun s => l.count s * (W.rowOf s).count g).sum := by
  induction l with
  | nil => 
    have : ∀ m : Nat, ((List.range m).map fun s => ([] : List Nat).count s * (W.rowOf s).count g).sum = 0 := by
      intro m
      induction m with
      | zero => rfl
      | succ m ih => rw [List.range_succ, List.map_append, List.sum_append, ih]; simp
    rw [this]; rfl
  | cons a l ih =>
    rw [W.expand_cons, List.count_append, ih fun s hs => h s (List.mem_cons_of_mem _ hs)]
    have ha := h a (List.mem_cons_self ..)
    have key : ∀ m : Nat, ((List.range m).map fun s => (a :: l).count s * (W.rowOf s).count g).sum = (if a < m then (W.rowOf a).count g else 0) + ((List.range m).map fun s => l.count s * (W.rowOf s).count g).sum := by
      intro m
      induction m with
      | zero => rfl
      | succ m ih =>
        rw [List.range_succ, List.map_append, List.map_append, List.sum_append, List.sum_append, ih]
        simp only [List.map_cons, List.map_nil, List.sum_cons, List.sum_nil, Nat.add_zero, List.count_cons]
        by_cases e : a = m
        · subst e
          simp [Nat.add_mul]
          omega
        · have e2 : (a == m) = false := by simpa using e
          rw [e2]
          by_cases h1 : a < m
          · have h2 : a < m + 1 := by omega
            simp only [h1, h2, if_true, if_false, Bool.false_eq_true, Nat.add_zero]
            omega
          · have h2 : ¬ a < m + 1 := by omega
            simp only [h1, h2, if_false, Bool.false_eq_true, Nat.add_zero]
            omega
    rw [key, if_pos ha]
end
end MW
namespace MW
open M11
theorem Wd.Ok.block {W : Wd} (O : W.Ok) (t n : Nat) : (W.expands t [W.st n]).map W.letter = (List.range (W.b ^ t)).map fun j => W.at_ (n * W.b ^ t + j) := by
  have e : [W.st n] = W.sts n 1 := by unfold Wd.sts; simp
  rw [e, O.expands_sts, Nat.one_mul]
  unfold Wd.sts
  rw [List.map_map]
  rfl
end MW
namespace MW
open M11
theorem Wd.Ok.rowOf_len {W : Wd} (O : W.Ok) (s : Nat) : (W.rowOf s).length ≤ 5 := by
  unfold Wd.rowOf
  cases e : W.rows[s]? with
  | none => simp
  | some r =>
    have := (O.row r (List.mem_of_getElem? e)).1
    have := O.b5
    simp only [Option.getD_some]
    omega
theorem Wd.Ok.count_le {W : Wd} (O : W.Ok) (s g : Nat) : (W.rowOf s).count g ≤ 5 := Nat.le_trans List.count_le_length (O.rowOf_len s)
theorem Wd.Ok.expand_one {W : Wd} (O : W.Ok) (s : Nat) : W.expand [s] = W.rowOf s := by unfold Wd.expand; simp
theorem Wd.Ok.twice {W : Wd} (O : W.Ok) {s : Nat} (h : s < W.lets.length) (g : Nat) : (W.expands 2 [s]).count g = ((List.range W.lets.length).map fun m => (W.rowOf s).count m * (W.rowOf m).count g).sum := by
  show (W.expand (W.expand [s])).count g = _
  rw [O.count_expand g (O.expand_lt fun x hx => by rw [List.mem_singleton.mp hx]; exact h).1, O.expand_one]
theorem Wd.sts0 (W : Wd) : W.sts 0 1 = [0] := by unfold Wd.sts; simp [W.st_zero]
end MW

set_option Elab.async false
set_option linter.all false
set_option maxRecDepth 100000
set_option maxHeartbeats 4000000
namespace My
open PySem PySem.Spec PyProof.Rows L2 MW
/-! ### words in the heap -/
abbrev WC (K : PySem.W.Frag) : Addr := He.ga K "Word"
/-- the object of a word, made and filled -/
def WordAt (K : PySem.W.Frag) (H : Hp) (a : Addr) (W : Wd) : Prop := ∃ dx lt rw : Addr, H a = some (SlX.SlO a (WC K) dx [some (.int W.b), some (.ref lt), some (.ref rw)]) ∧ H dx = some (.xd []) ∧ SqT K H lt (vN W.lets) ∧ RowsAt K H rw W.rows ∧ W.Ok
section
variable {K : PySem.W.Frag} {H H' : Hp} {a d : Addr} {W : Wd}
theorem WordAt.same (e : Same H H') (h : WordAt K H a W) : WordAt K H' a W := by
  obtain ⟨dx, lt, rw, h1, h2, h3, h4, O⟩ := h
  exact ⟨dx, lt, rw, e _ _ h1, e _ _ h2, sameT e h3, h4.same e, O⟩
theorem WordAt.but {ys : List V} (hd : H d = some (.lst ys)) (e : But d H H') (h : WordAt K H a W) : WordAt K H' a W := by
  obtain ⟨dx, lt, rw, h1, h2, h3, h4, O⟩ := h
  refine ⟨dx, lt, rw, e _ _ (fun z => ?_) h1, e _ _ (fun z => ?_) h2, butT hd e h3, h4.but hd e, O⟩
  · rw [z, hd] at h1
    unfold SlX.SlO at h1
    cases h1
  · rw [z, hd] at h2
    cases h2
theorem WordAt.ok (h : WordAt K H a W) : W.Ok := by
  obtain ⟨dx, lt, rw, _, _, _, _, O⟩ := h
  exact O
theorem WordAt.slt (h : WordAt K H a W) : ∃ dx lt rw : Addr, SlX.Slt H a (WC K) dx [some (.int W.b), some (.ref lt), some (.ref rw)] ∧ SqT K H lt (vN W.lets) ∧ RowsAt K H rw W.rows := by
  obtain ⟨dx, lt, rw, h1, h2, h3, h4, O⟩ := h
  exact ⟨dx, lt, rw, .inr ⟨h1, h2⟩, h3, h4⟩
end
/-! ### what the written part says of the classes -/
structure WFacts (K : PySem.W.Frag) (mg : Str → Option Value) : Prop where
  c : SlX.SCls K (WC K)
  base : SlX.Slot1 K (WC K) "own_base" (He.ma K (WC K) "own_base") 0
  lets : SlX.Slot1 K (WC K) "own_letters" (He.ma K (WC K) "own_letters") 1
  rows : SlX.Slot1 K (WC K) "own_rows" (He.ma K (WC K) "own_rows") 2
  isi : SlX.SIsi K (WC K)
  kw : PySem.W.kitOne K (.ref (WC K)) (.ref (WC K)) = some true
  gw : mg "Word" = some (.ref (WC K))
/-- what it says of the class of machines that are known -/
structure KFacts (K : PySem.W.Frag) (mg : Str → Option Value) : Prop where
  kt : PySem.W.kitOne K (.type "tuple") (.ref (He.ga K "KnownMachine")) = some false
  gk : mg "KnownMachine" = some (.ref (He.ga K "KnownMachine"))
section
variable {K : PySem.W.Frag} {mg : Str → Option Value} {H : Hp} {a : Addr} {W : Wd} {Q : VK}
/-- w.own_base, and so on -/
theorem rd_base {te : TE} (F : WFacts K mg) {σ : L2.St} (h : te σ H fun x H1 => x = .ref a ∧ WordAt K H1 a W ∧ Q (.int W.b) H1) (m : ∀ R R' : VK, (∀ v H, R v H → R' v H) → te σ H R → te σ H R') : SlX.tSl K te "own_base" σ H Q :=
  m _ _ (fun v H1 ⟨e, hw, q⟩ => by
    obtain ⟨dx, lt, rw, h1, h2, h3⟩ := hw.slt
    exact ⟨a, _, dx, _, _, 0, _, e, h1, F.c, F.base, rfl, q⟩) h
end
/-! ### methods by their names -/
structure DefMeth (K : PySem.W.Frag) (x m : Str) (qual : Str) (st : Stmt) : Prop where
  fd : ∃ fd, FunD K m qual (defArgs st) (defBody st) (defScope st) [] [] (He.ma K (He.ga K x) m) fd
  me : Meth K (He.ga K x) m (He.ma K (He.ga K x) m)
def KeepsM (P : Program) (w : World) (K : PySem.W.Frag) (mg : Str → Option Value) (base : Heap) (CX : CXT) (k : Nat) (x m : Str) (ps : List Str) (sp : Sp) : Prop :=
  ∃ fd, FnOk P w K mg base CX k (He.ma K (He.ga K x) m) fd ps sp ∧ Binds K fd ps [] ∧ Meth K (He.ga K x) m (He.ma K (He.ga K x) m)
theorem KeepsM.fnR {P : Program} {w : World} {K : PySem.W.Frag} {mg : Str → Option Value} {base : Heap} {CX : CXT} {k : Nat} {x m : Str} {ps : List Str} {sp : Sp} (F : KeepsM P w K mg base CX k x m ps sp) : FnR P w K mg base CX k (He.ma K (He.ga K x) m) sp := by
  obtain ⟨fd, G, b, _⟩ := F
  refine (G.raw b .nil).imp fun vs H Q E h => ?_
  rw [List.append_nil]
  exact h
section
variable {P : Program} {w : World} {K : PySem.W.Frag} {mg : Str → Option Value} {base : Heap} {k : Nat} {x m qual : Str} {st : Stmt} {N ps : List Str} {sp : Sp}
theorem DefMeth.keeps (D : DefMeth K x m qual st) (S : FnScope N ps (defScope st)) (len : ∀ vs H Q E, sp vs H Q E → vs.length = ps.length)
    (hb : ∀ (kV doc pm : Value) (an : Option Addr) (cdv ct : Value) (us : List Value), us.length = ps.length → bindArgs (PySem.W.fnOf m qual (defArgs st) (defBody st) (defScope st) .none kV doc pm an cdv ct) ⟨us, []⟩ = pure (ps.zip us))
    (hbody : ∀ (cdv : Value) (A : Around) (outer : List Env) (s : Shared) (H : Hp) (vs : List V) (Q : VK) (E : XK), Room k (A.deeper (envOfC qual (defScope st) s.heap.objs.size (He.ma K (He.ga K x) m) cdv)) → sp vs H Q E →
      ∃ t, PSs (cxOf CX0 P w K mg base N qual (defScope st) (He.ma K (He.ga K x) m) cdv A outer s H E).nox (defBody st) t ∧ t { nx := fun _ H' => Q .non H', rt := Q } (start N vs) H) : KeepsM P w K mg base CX0 (k + 1) x m ps sp := by
  obtain ⟨fd, F⟩ := D.fd
  refine ⟨fd, F.ok S len fun cdv A outer s H vs Q E hr hsp => ?_, F.bindsN hb, D.me⟩
  obtain ⟨t, h, q⟩ := hbody cdv A outer s H vs Q E hr hsp
  exact ⟨t, h.nox, q⟩
end
section
variable {X : Cx} {k j : Nat} {x m : Str} {ps : List Str} {sp : Sp} {E : XK} {pos apos : Pos} {o e : Expr} {es : List Expr} {ta : TE} {t : TA} {pl : Sem Bool}
theorem pe_mdo (F : KeepsM X.prog X.w X.K X.mg X.base CX0 k x m ps sp) (c : SlX.SCls X.K (He.ga X.K x)) (hr : Room j X.A) (hx : Passes CX0 X E) (he : PE X o ta) (ha : PA X (e :: es) t) (hk : k ≤ j := by decide)
    (hst : starEach (e :: es) X.env = (false, eval e X.env) :: starEach es X.env := by rfl) (hpl : (backTo pos (starEach es X.env)).any (·.1) = false := by rfl)
    (ht : eval (.Call (.Attribute o m apos) (e :: es) [] pos) X.env = (do
      let ov ← eval o X.env
      standAt apos.atName
      let (f, first) ← holding [ov] (getMethod ov m pl)
      callWith pos f first (backTo pos (starEach (e :: es) X.env)) (backToKw pos (keywordEach [] X.env))) := by rfl) :
    PE X (.Call (.Attribute o m apos) (e :: es) [] pos) (SlX.tMethSl (He.ga X.K x) sp E ta t) := by
  have G := F.fnR
  obtain ⟨_, _, _, me⟩ := F
  exact SlX.pe_methSl he c me G (hr.mono hk) hx ha hst hpl ht
theorem pe_mdo0 (F : KeepsM X.prog X.w X.K X.mg X.base CX0 k x m ps sp) (c : SlX.SCls X.K (He.ga X.K x)) (hr : Room j X.A) (hx : Passes CX0 X E) (he : PE X o ta) (hk : k ≤ j := by decide)
    (ht : eval (.Call (.Attribute o m apos) [] [] pos) X.env = (do
      let ov ← eval o X.env
      standAt apos.atName
      let (f, first) ← holding [ov] (getMethod ov m pl)
      callWith pos f first (backTo pos (starEach [] X.env)) (backToKw pos (keywordEach [] X.env))) := by rfl) :
    PE X (.Call (.Attribute o m apos) [] [] pos) (SlX.tMethSl (He.ga X.K x) sp E ta tNil) := by
  have G := F.fnR
  obtain ⟨_, _, _, me⟩ := F
  exact SlX.pe_methSl0 he c me G (hr.mono hk) hx ht
theorem call_lenM (F : KeepsM X.prog X.w X.K X.mg X.base CX0 k x "__len__" ps sp) (hr : Room j X.A) (hx : Passes CX0 X E) (hk : k + 1 ≤ j := by decide) : CallR X (.builtin "len") (rLenOwn (He.ga X.K x) sp E) := by
  have G := F.fnR
  obtain ⟨_, _, _, me⟩ := F
  exact call_lenOwn me.at_ me.fn G (hr.mono hk) hx
end
/-! ### Word(base, rows, letters) -/
def KeepsI (P : Program) (w : World) (K : PySem.W.Frag) (mg : Str → Option Value) (base : Heap) (CX : CXT) (k : Nat) (x : Str) (ps : List Str) (dvs : List V) (sp : Sp) : Prop :=
  ∃ fd ds, FnOk P w K mg base CX k (He.ma K (He.ga K x) "__init__") fd ps sp ∧ Vals dvs ds ∧ Binds K fd ps ds ∧ Mk K (He.ga K x) (He.ma K (He.ga K x) "__init__") ∧ mg x = some (.ref (He.ga K x))
section
variable {X : Cx} {k j : Nat} {x : Str} {ps : List Str} {dvs : List V} {sp : Sp} {E : XK} {p pos : Pos} {e : Expr} {es : List Expr} {t : TA}
theorem pe_mk (F : KeepsI X.prog X.w X.K X.mg X.base CX0 k x ps dvs sp) (hr : Room j X.A) (hg : Gl X x) (hx : Passes CX0 X E) (ha : PA X (e :: es) t) (hk : k + 1 ≤ j := by decide) (hdb : (x == ("__debug__" : Str)) = false := by decide)
    (he : starEach (e :: es) X.env = (false, eval e X.env) :: starEach es X.env := by rfl) (hpl : (backTo pos (starEach es X.env)).any (·.1) = false := by rfl) :
    PE X (.Call (.Name x p) (e :: es) [] pos) (tMake (He.ga X.K x) sp dvs E t) := by
  obtain ⟨fd, ds, G, d, b, M, m⟩ := F
  exact pe_make M G (hr.mono hk) hg m b d hx ha hdb he hpl
end
/-- the promise of Word's __init__ where all three are given, rightly -/
def spWord (K : PySem.W.Frag) : Sp := fun vs H Q _ => ∃ (a rw lt dx : Addr) (W : Wd), vs = [.ref a, .int W.b, .ref rw, .ref lt] ∧ W.Ok ∧ dx ≠ a ∧ SlX.Slt H a (WC K) dx [] ∧ SqT K H lt (vN W.lets) ∧ RowsAt K H rw W.rows ∧
  ∀ H', (∀ b o, b ≠ a → b ≠ dx → H b = some o → H' b = some o) → H' a = some (SlX.SlO a (WC K) dx [some (.int W.b), some (.ref lt), some (.ref rw)]) → H' dx = some (.xd []) → Q .non H'
section
variable {K : PySem.W.Frag} {H : Hp} {rw lt : Addr} {W : Wd} {Q : VK} {E : XK}
/-- .. at a call -/
theorem mk_word (O : W.Ok) (hl : SqT K H lt (vN W.lets)) (hrw : RowsAt K H rw W.rows) {R : Addr → Hp → Prop} (q : ∀ a H', Same H H' → WordAt K H' a W → R a H') :
    ∀ x dx, H x = none → H dx = none → dx ≠ x → spWord K (.ref x :: ([V.int W.b, .ref rw, .ref lt] ++ [])) (upd (upd H dx (.own x)) x (.ins (WC K) dx [])) (fun v H2 => v = .non ∧ R x H2) E := by
  intro x dx nx ndx ne
  have e : Same H (upd (upd H dx (.own x)) x (.ins (WC K) dx [])) := fun b o h => by
    rw [upd_ne (ne_of_none h nx), upd_ne (ne_of_none h ndx)]
    exact h
  refine ⟨x, rw, lt, dx, W, rfl, O, ne, .inl ⟨upd_same, rfl⟩, sameT e hl, hrw.same e, fun H' k h1 h2 => ⟨rfl, ?_⟩⟩
  have e2 : Same H H' := fun b o h => k b o (ne_of_none h nx) (ne_of_none h ndx) (e b o h)
  exact q x H' e2 ⟨dx, lt, rw, h1, h2, sameT e2 hl, hrw.same e2, O⟩
end
end My

set_option Elab.async false
set_option linter.all false
set_option maxRecDepth 100000
set_option maxHeartbeats 4000000
/-! rules with the written part told (within comprehensions) -/
namespace My
open PySem PySem.Spec PyProof.Rows L2
theorem bi_len : bootBuiltins "len" = some (.builtin "len") := by decide +kernel
theorem bi_isinstance : bootBuiltins "isinstance" = some (.builtin "isinstance") := by decide +kernel
theorem bi_sum : bootBuiltins "sum" = some (.builtin "sum") := by decide +kernel
theorem bi_all : bootBuiltins "all" = some (.builtin "all") := by decide +kernel
theorem bi_any : bootBuiltins "any" = some (.builtin "any") := by decide +kernel
theorem bi_max : bootBuiltins "max" = some (.builtin "max") := by decide +kernel
theorem bi_min : bootBuiltins "min" = some (.builtin "min") := by decide +kernel
theorem bi_abs : bootBuiltins "abs" = some (.builtin "abs") := by decide +kernel
theorem bi_repr : bootBuiltins "repr" = some (.builtin "repr") := by decide +kernel
theorem bi_sorted : bootBuiltins "sorted" = some (.builtin "sorted") := by decide +kernel
theorem bi_int : bootBuiltins "int" = some (.type "int") := by decide +kernel
theorem bi_bool : bootBuiltins "bool" = some (.type "bool") := by decide +kernel
theorem bi_tuple : bootBuiltins "tuple" = some (.type "tuple") := by decide +kernel
theorem bi_list : bootBuiltins "list" = some (.type "list") := by decide +kernel
theorem bi_dict : bootBuiltins "dict" = some (.type "dict") := by decide +kernel
theorem bi_str : bootBuiltins "str" = some (.type "str") := by decide +kernel
theorem Paired.getL {α β : Type} {R : α → β → Prop} : ∀ {l : List α} {r : List β} {i : Nat} {a : α}, Paired R l r → l[i]? = some a → ∃ b, r[i]? = some b ∧ R a b
  | _, _, _, _, .nil, h => by simp at h
  | _, _, 0, _, .cons q _, h => by simp at h; subst h; exact ⟨_, rfl, q⟩
  | _, _, i + 1, _, .cons _ t, h => by simp at h; simpa using Paired.getL t h
theorem refs_of {ps : List Addr} {i : Nat} {x : V} (h : (ps.map V.ref)[i]? = some x) : ∃ q, ps[i]? = some q ∧ x = .ref q := by
  rw [List.getElem?_map] at h
  cases e : ps[i]? with
  | none => rw [e] at h; cases h
  | some q => rw [e] at h; cases h; exact ⟨q, rfl, rfl⟩
section
variable {X : Cx} (K : PySem.W.Frag)
theorem ix_tupK (h : X.K = K := by rfl) : IxR X (rIxT K) := h ▸ ix_tup
theorem ix_listK (h : X.K = K := by rfl) : IxR X (rIxL K) := h ▸ ix_list
theorem sl_tupAK (h : X.K = K := by rfl) : L2.SlR X (rSlA K) := h ▸ sl_tupA
theorem sl_listK (h : X.K = K := by rfl) : L2.SlR X (rSlL K) := h ▸ sl_list
theorem pi_tupK {tg l : Expr} {tl : TE} (hl : PE X l tl) (h : X.K = K := by rfl) : PI X tg l (iTup K tl) := h ▸ pi_tup hl
theorem pi_listK {tg l : Expr} {tl : TE} (hl : PE X l tl) (h : X.K = K := by rfl) : PI X tg l (iList K tl) := h ▸ pi_list hl
theorem pe_slK {e : Expr} {f : Str} {pos : Pos} {te : TE} (he : PE X e te) (h : X.K = K := by rfl) (hb : attributeBase e f X.env (eval e X.env) = eval e X.env := by rfl) : PE X (.Attribute e f pos) (SlX.tSl K te f) := h ▸ SlX.pe_sl he hb
theorem call_len_seqK (h : X.K = K := by rfl) : CallR X (.builtin "len") (fun xs H Q => ∃ p ys, xs = [.ref p] ∧ (SqL K H p ys ∨ SqT K H p ys) ∧ Q (.int ys.length) H) := h ▸ call_len_seq
theorem call_isiK' (h : X.K = K := by rfl) : CallR X (.builtin "isinstance") (rIsi K) := h ▸ call_isi
theorem call_isiSlK (u : Value) (h : X.K = K := by rfl) : CallR X (.builtin "isinstance") (SlX.rIsiSl K u) := h ▸ SlX.call_isiSl u
theorem call_tuple_ofK (h : X.K = K := by rfl) : CallR X (.type "tuple") (fun xs H Q => ∃ p ys, xs = [.ref p] ∧ ((SqL K H p ys ∧ ∀ l, H l = none → Q (.ref l) (upd H l (.tup ys))) ∨ (SqT K H p ys ∧ Q (.ref p) H))) := h ▸ call_tuple_of
theorem call_list_ofK (h : X.K = K := by rfl) : CallR X (.type "list") (fun xs H Q => ∃ p ys, xs = [.ref p] ∧ (SqL K H p ys ∨ SqT K H p ys) ∧ ∀ l, H l = none → Q (.ref l) (upd H l (.lst ys))) := h ▸ call_list_of
theorem cr_allK (hc : X.calm = true) (h : X.K = K := by rfl) : CallR X (.builtin "all") (rAll K) := h ▸ cr_all hc
theorem cr_sumK (hc : X.calm = true) (h : X.K = K := by rfl) : CallR X (.builtin "sum") (rSum K) := h ▸ cr_sum hc
theorem cr_sumTK (hc : X.calm = true) (h : X.K = K := by rfl) : CallR X (.builtin "sum") (rSumT K) := h ▸ cr_sumT hc
theorem op_eqDK (hu : X.A.units + 64 < cLine) (h : X.K = K := by rfl) : OpR X (compareOp .Eq) (rEqD K) := h ▸ op_eqD hu
theorem op_neDK (hu : X.A.units + 64 < cLine) (h : X.K = K := by rfl) : OpR X (compareOp .NotEq) (rNeD K) := h ▸ op_neD hu
theorem op_catUK (h : X.K = K := by rfl) : OpR X (binaryOp .Add) (rCatU K) := h ▸ op_catU
theorem op_repAK (h : X.K = K := by rfl) : OpR X (binaryOp .Mult) (rRepA K) := h ▸ op_repA
theorem mt_tcountK (h : X.K = K := by rfl) : MtR X "tuple.count" (rCntT K) := h ▸ mt_tcount
section
variable {o e : Expr} {es : List Expr} {to : TE} {t : TA} {T id : String} {name : Str} {r : V → List V → Hp → VK → Prop} {apos cpos : Pos}
theorem pe_bmK (pa : PlainAttrs T) (slot : Slot T name id) (hty : typeOf (.builtin id) = pure (.type "method_descriptor")) (hm : MtR X id r) (ho : PE X o to) (ha : PA X (e :: es) t) (h : X.K = K := by rfl)
    (hbase : attributeBase o name X.env (eval o X.env) = eval o X.env := by rfl)
    (hfew : ((backTo cpos (starEach (e :: es) X.env)).all (fun x => !x.1) && (backToKw cpos (keywordEach [] X.env)).all (fun x => x.1.isSome)
      && decide ((e :: es).length + ([] : List Keyword).length + (if ([] : List Keyword).isEmpty then 0 else 1) < 30)) = true := by rfl)
    (hline : (apos.endLine == cpos.line) = true := by rfl) (hs : starEach (e :: es) X.env = (false, eval e X.env) :: starEach es X.env := by rfl) (hplain : (backTo cpos (starEach es X.env)).any (·.1) = false := by rfl) :
    PE X (.Call (.Attribute o name apos) (e :: es) [] cpos) (tBM K T r to t) := h ▸ pe_bm pa slot hty hm ho ha hbase hfew hline hs hplain
end
section
variable {k j : Nat} {x m : Str} {ps : List Str} {sp : Sp} {E : XK} {pos apos : Pos} {o e : Expr} {es : List Expr} {ta : TE} {t : TA} {pl : Sem Bool}
theorem pe_mdoK (F : KeepsM X.prog X.w X.K X.mg X.base CX0 k x m ps sp) (c : SlX.SCls X.K (He.ga X.K x)) (hr : Room j X.A) (hx : Passes CX0 X E) (he : PE X o ta) (ha : PA X (e :: es) t) (hk : k ≤ j := by decide) (h : X.K = K := by rfl)
    (hst : starEach (e :: es) X.env = (false, eval e X.env) :: starEach es X.env := by rfl) (hpl : (backTo pos (starEach es X.env)).any (·.1) = false := by rfl)
    (ht : eval (.Call (.Attribute o m apos) (e :: es) [] pos) X.env = (do
      let ov ← eval o X.env
      standAt apos.atName
      let (f, first) ← holding [ov] (getMethod ov m pl)
      callWith pos f first (backTo pos (starEach (e :: es) X.env)) (backToKw pos (keywordEach [] X.env))) := by rfl) :
    PE X (.Call (.Attribute o m apos) (e :: es) [] pos) (SlX.tMethSl (He.ga K x) sp E ta t) := h ▸ pe_mdo F c hr hx he ha hk hst hpl ht
theorem call_lenMK (F : KeepsM X.prog X.w X.K X.mg X.base CX0 k x "__len__" ps sp) (hr : Room j X.A) (hx : Passes CX0 X E) (hk : k + 1 ≤ j := by decide) (h : X.K = K := by rfl) : CallR X (.builtin "len") (rLenOwn (He.ga K x) sp E) := h ▸ call_lenM F hr hx hk
end
end
end My

set_option Elab.async false
set_option linter.all false
set_option maxRecDepth 100000
set_option maxHeartbeats 4000000
/-! tuples of which it is known that they have no dict: their methods may be called -/
namespace My
open PySem PySem.Spec PyProof.Rows L2 MW
def ZT (H : Hp) (a : Addr) (xs : List V) : Prop := ∃ o, H a = some (.frz o (.tup xs)) ∧ o.dict = none
section
variable {K : PySem.W.Frag} {H H' : Hp} {a d : Addr} {xs ys : List V}
theorem ZT.sq (h : ZT H a xs) : SqT K H a xs := by
  obtain ⟨o, h, _⟩ := h
  exact .inl (.inr ⟨o, h⟩)
theorem ZT.same (e : Same H H') (h : ZT H a xs) : ZT H' a xs := by
  obtain ⟨o, h, q⟩ := h
  exact ⟨o, e _ _ h, q⟩
theorem ZT.but (hd : H d = some (.lst ys)) (e : But d H H') (h : ZT H a xs) : ZT H' a xs := by
  obtain ⟨o, h, q⟩ := h
  exact ⟨o, e _ _ (fun z => by rw [z, hd] at h; cases h) h, q⟩
end
/-- a new tuple of these -/
def TupZ (ys : List V) (H : Hp) (Q : VK) : Prop := ∀ p H', Same H H' → H p = none → ZT H' p ys → Q (.ref p) H'
section
variable {X : Cx} {pins : List (Addr × Obj)} {σ : L2.St} {H : Hp} {s : Shared}
theorem Inv.newZ {ys : List V} {its : List Value} {t' : Nat} {Q : VK} (I : L2.Inv X pins σ H s) (hz : ys.length ≤ sizeLine) (r : Vals ys its) (q : TupZ ys H Q) :
    EP X pins σ Q (.ref s.heap.objs.size) { s with heap := s.heap.push { cls := .type "tuple", data := .seq its.toArray }, toks := t' } := by
  have hn : H s.heap.objs.size = none := I.hok.fresh (Nat.le_refl _)
  have J := I.laid (t' := t') (a := s.heap.objs.size) (o := .frz { cls := .type "tuple", data := .seq its.toArray } (.tup ys)) (h' := s.heap.push { cls := .type "tuple", data := .seq its.toArray }) (fun b o e => Heap.get?_push_of_some _ e) (Nat.le_refl _)
    (show ObjOk X.prog X.w _ _ _ (.frz _ (.tup ys)) from by
      refine ⟨?_, ?_⟩
      · exact Heap.get?_push_size _ rfl
      · exact ⟨hz, its, r, IsTup.new _ _⟩)
  exact ⟨.ref s.heap.objs.size, _, J, rfl, q _ _ (same_new hn) hn ⟨_, upd_same, rfl⟩⟩
end
section
variable {X : Cx}
/-- tuple(list) -/
def rTupZ (K : PySem.W.Frag) : List V → Hp → VK → Prop := fun xs H Q => ∃ p ys, xs = [.ref p] ∧ SqL K H p ys ∧ TupZ ys H Q
theorem call_tuple_ofZ : CallR X (.type "tuple") (rTupZ X.K) := by
  intro pins s σ H xs us Q I r h
  obtain ⟨p, ys, rfl, hq, q⟩ := h
  obtain ⟨u, rfl, rx⟩ := vals1 r
  cases rx
  obtain ⟨its, r', pl, hz⟩ := I.list hq
  have hlen := r'.length
  refine call_tuple_list pl.isList (fun h' kp => ?_) (by simp only [List.size_toArray] <;> omega)
  have I1 : L2.Inv X pins σ H { s with heap := h' } := I.kept (t' := s.toks) kp
  exact Inv.newZ I1 hz r' q
/-- t + u, both not empty -/
def rCatZ (K : PySem.W.Frag) : R2 := fun x y H Q => ∃ a b xs ys, x = .ref a ∧ y = .ref b ∧ SqT K H a xs ∧ SqT K H b ys ∧ xs.length + ys.length ≤ sizeLine ∧ xs ≠ [] ∧ ys ≠ [] ∧ TupZ (xs ++ ys) H Q
theorem op_catZ : OpR X (binaryOp .Add) (rCatZ X.K) := by
  intro pins s σ H x y v u Q I rx ry h
  obtain ⟨a, b, xs, ys, rfl, rfl, ha, hb, hz, hx, hy, q⟩ := h
  cases rx
  cases ry
  obtain ⟨its, r1, p1, _⟩ := I.tuple ha
  obtain ⟨its2, r2, p2, _⟩ := I.tuple hb
  refine HT.cat_tup p1 p2 (fun z => hx (r1.nil_iff.mp z)) (fun z => absurd (r2.nil_iff.mp z) hy) (fun z => ?_) (by rw [← r1.length, ← r2.length]; exact hz)
  exact Inv.newZ I (by rw [List.length_append]; exact hz) (r1.append r2) q
/-- t[lo:hi], not the whole -/
def rSlZ (K : PySem.W.Frag) : V → Option Int → Option Int → Hp → VK → Prop := fun x lo hi H Q => ∃ a xs, x = .ref a ∧ SqT K H a xs ∧ ¬ (HT.sIx xs.length 0 lo = 0 ∧ HT.sIx xs.length xs.length hi = xs.length) ∧ TupZ (cutV xs lo hi) H Q
theorem sl_tupZ : L2.SlR X (rSlZ X.K) := by
  intro pins s σ H x v vl vu lo hi sl Q I rx hs pl pu h
  obtain ⟨a, xs, rfl, hx, hw, q⟩ := h
  cases rx
  obtain ⟨its, r, ht, hz⟩ := I.tuple hx
  have hlen : its.toArray.size = xs.length := by rw [List.size_toArray]; exact r.length.symm
  refine ⟨"tuple", _, PyProof.Rows.slot_tuple_getitem.lookup, ht.typeIs, ?_⟩
  refine HT.getItem_tuple_cut ht hs pl pu (by rw [hlen]; exact hw) ?_ (by rw [hlen]; exact hz)
  rw [hlen]
  exact Inv.newZ I (Nat.le_trans (cutV_length xs lo hi) hz) ((r.drop (HT.sIx xs.length 0 lo)).take (HT.sIx xs.length xs.length hi - HT.sIx xs.length 0 lo)) q
end
/-- t.m(e, ..), t such a tuple -/
def tZM (r : V → List V → Hp → VK → Prop) (to : TE) (t : TA) : TE := fun σ H Q => to σ H fun x H1 => (∃ a xs, x = .ref a ∧ ZT H1 a xs) ∧ t σ H1 fun xs H2 => r x xs H2 Q
section
variable {X : Cx} {o e : Expr} {es : List Expr} {to : TE} {t : TA} {id : String} {name : Str} {r : V → List V → Hp → VK → Prop} {apos cpos : Pos}
theorem pe_zm (slot : Slot "tuple" name id) (hty : typeOf (.builtin id) = pure (.type "method_descriptor")) (hm : MtR X id r) (ho : PE X o to) (ha : PA X (e :: es) t)
    (hbase : attributeBase o name X.env (eval o X.env) = eval o X.env := by rfl)
    (hfew : ((backTo cpos (starEach (e :: es) X.env)).all (fun x => !x.1) && (backToKw cpos (keywordEach [] X.env)).all (fun x => x.1.isSome)
      && decide ((e :: es).length + ([] : List Keyword).length + (if ([] : List Keyword).isEmpty then 0 else 1) < 30)) = true := by rfl)
    (hline : (apos.endLine == cpos.line) = true := by rfl) (hs : starEach (e :: es) X.env = (false, eval e X.env) :: starEach es X.env := by rfl) (hplain : (backTo cpos (starEach es X.env)).any (·.1) = false := by rfl) :
    PE X (.Call (.Attribute o name apos) (e :: es) [] cpos) (tZM r to t) := by
  refine ⟨fun pins s σ H Q I h => ?_⟩
  refine wpAny_Call_method_late hbase hfew hline rfl (thn (ho.run pins s σ H _ I h) fun v s1 ⟨x, H1, I1, r1, ⟨a, xs, ex, z⟩, q1⟩ => ?_)
  subst ex
  obtain rfl : v = Value.ref a := r1
  obtain ⟨ob, hz, hd⟩ := z
  obtain ⟨e1, q2⟩ := I1.hok a _ hz
  obtain ⟨_, its, _, ob2, e2, hc, _⟩ := q2
  refine ⟨"tuple", id, PySem.F.plainAttrs_tuple, slot, hty, ⟨ob2, e2, hc⟩, fun b eb => ?_, ?_⟩
  · cases eb
    exact ⟨ob, e1, hd⟩
  have hA := ha.run cpos pins s1 σ H1 _ I1 q1
  rw [hs] at hA ⊢
  refine Calls.callWith_builtin (by show (false || (backTo cpos (starEach es X.env)).any (·.1)) = false; rw [hplain] <;> rfl) (Calls.evalArgs_plain ?_)
  exact thn hA fun us s2 ⟨vs, H2, I2, r2, q2⟩ => hm pins s2 σ H2 (.ref a) vs (.ref a) us Q I2 rfl r2 q2
end
section
variable {X : Cx} (K : PySem.W.Frag)
theorem call_tuple_ofZK (h : X.K = K := by rfl) : CallR X (.type "tuple") (rTupZ K) := h ▸ call_tuple_ofZ
theorem op_catZK (h : X.K = K := by rfl) : OpR X (binaryOp .Add) (rCatZ K) := h ▸ op_catZ
theorem sl_tupZK (h : X.K = K := by rfl) : L2.SlR X (rSlZ K) := h ▸ sl_tupZ
end
/-! ### rows of such tuples -/
def RowsZ (K : PySem.W.Frag) (H : Hp) (p : Addr) (rows : List (List Nat)) : Prop := ∃ ps : List Addr, SqT K H p (ps.map V.ref) ∧ Paired (fun q r => ZT H q (vN r)) ps rows
section
variable {K : PySem.W.Frag} {H H' : Hp} {p d : Addr} {rows : List (List Nat)}
theorem RowsZ.at_ (h : RowsZ K H p rows) : RowsAt K H p rows := by
  obtain ⟨ps, h1, h2⟩ := h
  exact ⟨ps, h1, My.Paired.imp' (fun _ _ z => z.sq) h2⟩
theorem RowsZ.same (e : Same H H') (h : RowsZ K H p rows) : RowsZ K H' p rows := by
  obtain ⟨ps, h1, h2⟩ := h
  exact ⟨ps, sameT e h1, My.Paired.imp' (fun _ _ q => q.same e) h2⟩
theorem RowsZ.but {ys : List V} (hd : H d = some (.lst ys)) (e : But d H H') (h : RowsZ K H p rows) : RowsZ K H' p rows := by
  obtain ⟨ps, h1, h2⟩ := h
  exact ⟨ps, butT hd e h1, My.Paired.imp' (fun _ _ q => q.but hd e) h2⟩
end
/-- a word whose rows are such tuples -/
def WordZ (K : PySem.W.Frag) (H : Hp) (a : Addr) (W : Wd) : Prop := ∃ dx lt rw : Addr, H a = some (SlX.SlO a (WC K) dx [some (.int W.b), some (.ref lt), some (.ref rw)]) ∧ H dx = some (.xd []) ∧ SqT K H lt (vN W.lets) ∧ RowsZ K H rw W.rows ∧ W.Ok
section
variable {K : PySem.W.Frag} {H H' : Hp} {a d : Addr} {W : Wd}
theorem WordZ.at_ (h : WordZ K H a W) : WordAt K H a W := by
  obtain ⟨dx, lt, rw, h1, h2, h3, h4, O⟩ := h
  exact ⟨dx, lt, rw, h1, h2, h3, h4.at_, O⟩
theorem WordZ.same (e : Same H H') (h : WordZ K H a W) : WordZ K H' a W := by
  obtain ⟨dx, lt, rw, h1, h2, h3, h4, O⟩ := h
  exact ⟨dx, lt, rw, e _ _ h1, e _ _ h2, sameT e h3, h4.same e, O⟩
theorem WordZ.but {ys : List V} (hd : H d = some (.lst ys)) (e : But d H H') (h : WordZ K H a W) : WordZ K H' a W := by
  obtain ⟨dx, lt, rw, h1, h2, h3, h4, O⟩ := h
  refine ⟨dx, lt, rw, e _ _ (fun z => ?_) h1, e _ _ (fun z => ?_) h2, butT hd e h3, h4.but hd e, O⟩
  · rw [z, hd] at h1
    unfold SlX.SlO at h1
    cases h1
  · rw [z, hd] at h2
    cases h2
theorem WordZ.slt (h : WordZ K H a W) : ∃ dx lt rw : Addr, SlX.Slt H a (WC K) dx [some (.int W.b), some (.ref lt), some (.ref rw)] ∧ SqT K H lt (vN W.lets) ∧ RowsZ K H rw W.rows := by
  obtain ⟨dx, lt, rw, h1, h2, h3, h4, O⟩ := h
  exact ⟨dx, lt, rw, .inr ⟨h1, h2⟩, h3, h4⟩
/-- Word(base, rows, letters) -/
theorem mk_wordZ {rw lt : Addr} {R : Addr → Hp → Prop} {E : XK} (O : W.Ok) (hl : SqT K H lt (vN W.lets)) (hrw : RowsZ K H rw W.rows) (q : ∀ a H', Same H H' → WordZ K H' a W → R a H') :
    ∀ x dx, H x = none → H dx = none → dx ≠ x → spWord K (.ref x :: ([V.int W.b, .ref rw, .ref lt] ++ [])) (upd (upd H dx (.own x)) x (.ins (WC K) dx [])) (fun v H2 => v = .non ∧ R x H2) E := by
  intro x dx nx ndx ne
  have e : Same H (upd (upd H dx (.own x)) x (.ins (WC K) dx [])) := fun b o h => by
    rw [upd_ne (ne_of_none h nx), upd_ne (ne_of_none h ndx)]
    exact h
  refine ⟨x, rw, lt, dx, W, rfl, O, ne, .inl ⟨upd_same, rfl⟩, sameT e hl, hrw.at_.same e, fun H' k h1 h2 => ⟨rfl, ?_⟩⟩
  have e2 : Same H H' := fun b o h => k b o (ne_of_none h nx) (ne_of_none h ndx) (e b o h)
  exact q x H' e2 ⟨dx, lt, rw, h1, h2, sameT e2 hl, hrw.same e2, O⟩
end
end My

set_option Elab.async false
set_option linter.all false
set_option maxRecDepth 100000
set_option maxHeartbeats 4000000
/-! data of rows, for == -/
namespace My
open PySem PySem.Spec PyProof.Rows L2 MW
def dInts (l : List Nat) : List PyData := (iN l).map PyData.int
def dRows (rows : List (List Nat)) : List PyData := rows.map fun r => .tuple (dInts r)
theorem canRows : ∀ l : List (List Nat), PyData.canLayAll0 (dRows l) = true
  | [] => by simp [dRows, PyData.canLayAll0]
  | a :: l => by
    have h := canRows l
    have e : dRows (a :: l) = .tuple (dInts a) :: dRows l := rfl
    rw [e, PyData.canLayAll0, h, Bool.and_true, PyData.canLay0]
    exact canInts (iN a)
theorem depthRows : ∀ l : List (List Nat), PyData.depthAll (dRows l) ≤ 2
  | [] => by simp [dRows, PyData.depthAll]
  | a :: l => by
    have h := depthRows l
    have h2 : PyData.depthAll (dInts a) ≤ 1 := depthInts (iN a)
    have e : dRows (a :: l) = .tuple (dInts a) :: dRows l := rfl
    rw [e, PyData.depthAll, PyData.depth]
    omega
theorem shapedRows (l : List (List Nat)) : SeqAt.shaped (.tuple (dRows l)) = true := by
  have := depthRows l
  unfold SeqAt.shaped
  simp only [PyData.canLay0, canRows, Bool.true_and, PyData.depth]
  exact decide_eq_true (by omega)
theorem eqvRows (l : List (List Nat)) : PyData.eqv (.tuple (dRows l)) (.tuple (dRows l)) = true := SeqAt.eqv_refl _ (SeqAt.canLay_of_shaped (shapedRows l))
theorem dpRows {K : PySem.W.Frag} {H : Hp} {p : Addr} {rows : List (List Nat)} (h : RowsAt K H p rows) : Dp K H (.ref p) (.tuple (dRows rows)) := by
  obtain ⟨ps, h1, h2⟩ := h
  refine .tup h1 ?_
  clear h1
  induction h2 with
  | nil => exact .nil
  | cons q t ih => exact .cons (dpTI q) ih
theorem iN_sum (l : List Nat) : (iN l).sum = ((l.sum : Nat) : Int) := by
  induction l with
  | nil => rfl
  | cons a l ih =>
    have e : iN (a :: l) = (a : Int) :: iN l := rfl
    rw [e, List.sum_cons, List.sum_cons, ih, Int.natCast_add]
theorem dpN {K : PySem.W.Frag} {H : Hp} {a : Addr} {l : List Nat} (h : SqT K H a (vN l)) : Dp K H (.ref a) (.tuple (dInts l)) := dpTI h
end My

/-! first places, numbers by first place, machines -/
namespace MW
section
variable {α : Type} [DecidableEq α]
def put1 (l : List α) (x : α) : List α := if x ∈ l then l else l ++ [x]
def puts (l r : List α) : List α := r.foldl put1 l
def ded (l : List α) : List α := puts [] l
theorem put1_in {l : List α} {x : α} (h : x ∈ l) : put1 l x = l := if_pos h
theorem put1_out {l : List α} {x : α} (h : x ∉ l) : put1 l x = l ++ [x] := if_neg h
theorem mem_put1 {l : List α} {x y : α} : y ∈ put1 l x ↔ y ∈ l ∨ y = x := by
  unfold put1
  by_cases h : x ∈ l
  · rw [if_pos h]
    exact ⟨.inl, fun q => q.elim id fun e => e ▸ h⟩
  · rw [if_neg h]
    simp
theorem nodup_put1 {l : List α} {x : α} (h : l.Nodup) : (put1 l x).Nodup := by
  unfold put1
  by_cases m : x ∈ l
  · rw [if_pos m]; exact h
  · rw [if_neg m]
    rw [List.nodup_append]
    exact ⟨h, by simp, fun a ha b hb => by rw [List.mem_singleton.mp hb]; exact fun e => m (e ▸ ha)⟩
theorem put1_pre (l : List α) (x : α) : l <+: put1 l x := by
  unfold put1
  by_cases m : x ∈ l
  · rw [if_pos m]; exact List.prefix_refl l
  · rw [if_neg m]; exact List.prefix_append _ _
theorem puts_snoc (l r : List α) (x : α) : puts l (r ++ [x]) = put1 (puts l r) x := by unfold puts; rw [List.foldl_append]; rfl
theorem puts_pre (l : List α) : ∀ r : List α, l <+: puts l r
  | [] => List.prefix_refl l
  | x :: r => (put1_pre l x).trans (puts_pre (put1 l x) r)
theorem mem_puts {y : α} : ∀ {r l : List α}, y ∈ puts l r ↔ y ∈ l ∨ y ∈ r
  | [], l => by simp [puts]
  | x :: r, l => by
    show y ∈ puts (put1 l x) r ↔ _
    rw [mem_puts, mem_put1, List.mem_cons, or_assoc]
theorem nodup_puts : ∀ {r l : List α}, l.Nodup → (puts l r).Nodup
  | [], _, h => h
  | _ :: r, _, h => nodup_puts (r := r) (nodup_put1 h)
theorem mem_ded {l : List α} {y : α} : y ∈ ded l ↔ y ∈ l := by unfold ded; rw [mem_puts]; simp
theorem nodup_ded (l : List α) : (ded l).Nodup := nodup_puts List.nodup_nil
theorem ded_snoc (l : List α) (x : α) : ded (l ++ [x]) = put1 (ded l) x := puts_snoc [] l x
theorem ded_len (l : List α) : (ded l).length ≤ l.length := by
  have : ∀ (r l : List α), (puts l r).length ≤ l.length + r.length := by
    intro r
    induction r with
    | nil => intro l; exact Nat.le_refl _
    | cons x r ih =>
      intro l
      have h := ih (put1 l x)
      have h2 : (put1 l x).length ≤ l.length + 1 := by
        unfold put1
        split
        · omega
        · simp
      show (puts (put1 l x) r).length ≤ _
      rw [List.length_cons]
      omega
  have := this l []
  unfold ded
  simpa using this
/-- the first place -/
def ix (l : List α) (x : α) : Nat := l.idxOf x
theorem ix_app {l r : List α} {x : α} (h : x ∈ l) : ix (l ++ r) x = ix l x := by unfold ix; rw [List.idxOf_append, if_pos h]
theorem ix_pre {l r : List α} {x : α} (p : l <+: r) (h : x ∈ l) : ix r x = ix l x := by
  obtain ⟨t, rfl⟩ := p
  exact ix_app h
theorem ix_lt {l : List α} {x : α} (h : x ∈ l) : ix l x < l.length := List.idxOf_lt_length_of_mem h
theorem ix_get {l : List α} {x : α} (h : x ∈ l) : l[ix l x]? = some x := by
  rw [List.getElem?_eq_getElem (ix_lt h)]
  exact congrArg some (List.getElem_idxOf (ix_lt h))
theorem ix_at {l : List α} (n : l.Nodup) {i : Nat} {x : α} (h : l[i]? = some x) : ix l x = i := by
  obtain ⟨hi, e⟩ := List.getElem?_eq_some_iff.mp h
  rw [← e]
  exact List.Nodup.idxOf_getElem n i hi
theorem ix_new {l : List α} {x : α} (h : x ∉ l) : ix (l ++ [x]) x = l.length := by
  unfold ix
  rw [List.idxOf_append, if_neg h]
  simp
theorem ix_inj {l : List α} {x y : α} (hx : x ∈ l) (hy : y ∈ l) (e : ix l x = ix l y) : x = y := by
  have h1 := ix_get hx
  have h2 := ix_get hy
  rw [e, h2] at h1
  exact (Option.some.inj h1).symm
/-- the numbers by first place -/
def nums (ks : List α) : List Nat := ks.map fun k => ix (ded ks) k
theorem nums_len (ks : List α) : (nums ks).length = ks.length := by unfold nums; simp
end
/-! ### the breadth-first order -/
def rowOfL (rows : List (List Nat)) (s : Nat) : List Nat := (rows[s]?).getD []
def reachO (rows : List (List Nat)) : Nat → Nat → List Nat → List Nat
  | 0, _, o => o
  | f + 1, k, o => match o[k]? with
    | none => o
    | some s => reachO rows f (k + 1) (puts o (rowOfL rows s))
/-- the order from start on -/
def order (rows : List (List Nat)) (start : Nat) : List Nat := reachO rows (rows.length + 1) 0 [start]
def told (rows : List (List Nat)) (O : List Nat) : List (List Nat) := O.map fun s => (rowOfL rows s).map (ix O)
def pick (marks : List Nat) (O : List Nat) : List Nat := O.map fun s => (marks[s]?).getD 0
/-! ### classes -/
def keysOf (rows : List (List Nat)) (f : List Nat) : List (List Nat) := rows.zipIdx.map fun p => (f[p.2]?).getD 0 :: p.1.map fun t => (f[t]?).getD 0
/-- the classes that the rounds end with -/
inductive Cls (rows : List (List Nat)) : List Nat → Nat → List Nat → Prop where
  | stop {f : List Nat} {many : Nat} (h : (ded (keysOf rows f)).length = many) : Cls rows f many (nums (keysOf rows f))
  | go {f : List Nat} {many : Nat} {C : List Nat} (h : (ded (keysOf rows f)).length ≠ many) (q : Cls rows (nums (keysOf rows f)) (ded (keysOf rows f)).length C) : Cls rows f many C
/-- the numbers of marks by size -/
def ranks (srt marks : List Nat) : List Nat := marks.map fun m => ix srt m
section
theorem take_pre {α : Type} {l r : List α} (p : l <+: r) {k : Nat} (h : k ≤ l.length) : r.take k = l.take k := by
  obtain ⟨t, rfl⟩ := p
  rw [List.take_append_of_le_length h]
theorem get_pre {α : Type} {l r : List α} (p : l <+: r) {k : Nat} {x : α} (h : l[k]? = some x) : r[k]? = some x := by
  obtain ⟨t, rfl⟩ := p
  have hk := (List.getElem?_eq_some_iff.mp h).1
  rw [List.getElem?_append_left hk, h]
theorem nodup_lt : ∀ (n : Nat) {l : List Nat}, l.Nodup → (∀ x ∈ l, x < n) → l.length ≤ n
  | 0, [], _, _ => Nat.le_refl _
  | 0, a :: l, _, h => absurd (h a (List.mem_cons_self ..)) (by omega)
  | n + 1, l, nd, h => by
    by_cases m : n ∈ l
    · have h1 := nodup_lt n (l := l.erase n) (nd.erase n) (fun x hx => by
        have h2 := h x (List.mem_of_mem_erase hx)
        have h3 : x ≠ n := fun e => by
          rw [e] at hx
          exact (List.Nodup.not_mem_erase nd) hx
        omega)
      have h4 := List.length_erase_of_mem m
      have : 0 < l.length := List.length_pos_of_mem m
      omega
    · have := nodup_lt n nd fun x hx => by
        have h2 := h x hx
        have h3 : x ≠ n := fun e => m (e ▸ hx)
        omega
      omega
variable {rows : List (List Nat)}
theorem reachO_end {f k : Nat} {o : List Nat} (h : o.length ≤ k) : reachO rows f k o = o := by
  cases f with
  | zero => rfl
  | succ f =>
    unfold reachO
    rw [List.getElem?_eq_none h]
theorem reachO_step {f k s : Nat} {o : List Nat} (h : o[k]? = some s) : reachO rows (f + 1) k o = reachO rows f (k + 1) (puts o (rowOfL rows s)) := by
  rw [reachO, h]
theorem rowOfL_at {s : Nat} {r : List Nat} (h : rows[s]? = some r) : rowOfL rows s = r := by unfold rowOfL; rw [h]; rfl
theorem map_ix_preA {α : Type} [DecidableEq α] {o o' : List α} (p : o <+: o') {r : List α} (h : ∀ x ∈ r, x ∈ o) : r.map (ix o') = r.map (ix o) := by
  apply List.map_congr_left
  intro x hx
  exact ix_pre p (h x hx)
theorem map_ix_pre {o o' : List Nat} (p : o <+: o') {r : List Nat} (h : ∀ x ∈ r, x ∈ o) : r.map (ix o') = r.map (ix o) := by
  apply List.map_congr_left
  intro x hx
  exact ix_pre p (h x hx)
end
section
variable {α β : Type} [DecidableEq α] [DecidableEq β]
/-- as many unlike ones as there are images, at least -/
theorem nodup_len_le : ∀ {l r : List α}, l.Nodup → (∀ x ∈ l, x ∈ r) → l.length ≤ r.length
  | [], _, _, _ => Nat.zero_le _
  | a :: l, r, nd, h => by
    have h1 := nodup_len_le (l := l) (r := r.erase a) (List.nodup_cons.mp nd).2 (fun x hx => by
      have hne : x ≠ a := fun e => (List.nodup_cons.mp nd).1 (e ▸ hx)
      exact (List.mem_erase_of_ne hne).mpr (h x (List.mem_cons_of_mem _ hx)))
    have h2 := List.length_erase_of_mem (h a (List.mem_cons_self ..))
    have : 0 < r.length := List.length_pos_of_mem (h a (List.mem_cons_self ..))
    rw [List.length_cons]
    omega
theorem ded_map_le (f : α → β) (l : List α) : (ded (l.map f)).length ≤ (ded l).length := by
  have h := nodup_len_le (l := ded (l.map f)) (r := (ded l).map f) (nodup_ded _) (fun x hx => by
    obtain ⟨y, hy, e⟩ := List.mem_map.mp (mem_ded.mp hx)
    exact List.mem_map.mpr ⟨y, mem_ded.mpr hy, e⟩)
  rw [List.length_map] at h
  exact h
theorem ded_map_inj (f : α → β) (l : List α) (inj : ∀ a ∈ l, ∀ b ∈ l, f a = f b → a = b) : (ded l).length ≤ (ded (l.map f)).length := by
  have nd : ((ded l).map f).Nodup := by
    have n := nodup_ded l
    have hm : ∀ x ∈ ded l, x ∈ l := fun x hx => mem_ded.mp hx
    generalize ded l = m at n hm
    induction m with
    | nil => exact List.nodup_nil
    | cons a m ih =>
      rw [List.map_cons, List.nodup_cons]
      refine ⟨fun h => ?_, ih (List.nodup_cons.mp n).2 fun x hx => hm x (List.mem_cons_of_mem _ hx)⟩
      obtain ⟨b, hb, e⟩ := List.mem_map.mp h
      have := inj b (hm b (List.mem_cons_of_mem _ hb)) a (hm a (List.mem_cons_self ..)) e
      exact (List.nodup_cons.mp n).1 (this ▸ hb)
  have h := nodup_len_le nd (r := ded (l.map f)) (fun x hx => by
    obtain ⟨y, hy, e⟩ := List.mem_map.mp hx
    exact mem_ded.mpr (List.mem_map.mpr ⟨y, mem_ded.mp hy, e⟩))
  rw [List.length_map] at h
  exact h
theorem ded_nums (ks : List α) : (ded (nums ks)).length = (ded ks).length := by
  apply Nat.le_antisymm
  · exact ded_map_le _ ks
  · exact ded_map_inj _ ks fun a ha b hb e => ix_inj (mem_ded.mpr ha) (mem_ded.mpr hb) e
end
section
variable {rows : List (List Nat)} {f : List Nat}
theorem keysOf_len : (keysOf rows f).length = rows.length := by unfold keysOf; simp
theorem keysOf_get {s : Nat} {r : List Nat} (h : rows[s]? = some r) : (keysOf rows f)[s]? = some ((f[s]?).getD 0 :: r.map fun t => (f[t]?).getD 0) := by
  unfold keysOf
  rw [List.getElem?_map, List.getElem?_zipIdx, h]
  simp
theorem keysOf_heads (h : f.length = rows.length) : (keysOf rows f).map (fun k => k.headD 0) = f := by
  apply List.ext_getElem?
  intro i
  rw [List.getElem?_map]
  by_cases hi : i < rows.length
  · rw [keysOf_get (List.getElem?_eq_getElem hi), List.getElem?_eq_getElem (by omega)]
    simp
  · rw [List.getElem?_eq_none (by rw [keysOf_len]; omega), List.getElem?_eq_none (by omega)]
    rfl
theorem keysOf_card (h : f.length = rows.length) : (ded f).length ≤ (ded (keysOf rows f)).length ∧ (ded (keysOf rows f)).length ≤ rows.length := by
  constructor
  · have := ded_map_le (fun k : List Nat => k.headD 0) (keysOf rows f)
    rw [keysOf_heads h] at this
    exact this
  · have := ded_len (keysOf rows f)
    rw [keysOf_len] at this
    exact this
end
/-- an order that is closed -/
structure OrdOk (rows : List (List Nat)) (st : Nat) (O : List Nat) : Prop where
  nd : O.Nodup
  lt : ∀ s ∈ O, s < rows.length
  cl : ∀ s ∈ O, ∀ x ∈ rowOfL rows s, x ∈ O
  hd : O[0]? = some st
section
variable {rows : List (List Nat)} {st : Nat} {O : List Nat}
theorem told_len : (told rows O).length = O.length := by unfold told; simp
theorem told_get {i s : Nat} (h : O[i]? = some s) : (told rows O)[i]? = some ((rowOfL rows s).map (ix O)) := by unfold told; rw [List.getElem?_map, h]; rfl
theorem told_ok (o : OrdOk rows st O) {c : Nat} (hr : ∀ r ∈ rows, r.length ≤ c) : ∀ r ∈ told rows O, r.length ≤ c ∧ ∀ x ∈ r, x < (told rows O).length := by
  intro r h
  unfold told at h
  obtain ⟨s, hs, rfl⟩ := List.mem_map.mp h
  refine ⟨?_, fun x hx => ?_⟩
  · rw [List.length_map]
    have hlt := o.lt s hs
    rw [rowOfL_at (List.getElem?_eq_getElem hlt)]
    exact hr _ (List.getElem_mem hlt)
  · obtain ⟨y, hy, rfl⟩ := List.mem_map.mp hx
    rw [told_len]
    exact ix_lt (o.cl s hs y hy)
theorem pick_len {marks : List Nat} : (pick marks O).length = O.length := by unfold pick; simp
end
/-- rows and marks of classes -/
def quot (rows : List (List Nat)) (C : List Nat) : List (List Nat) := (List.range (ded C).length).map fun lot => (rowOfL rows (ix C lot)).map fun t => (C[t]?).getD 0
def quotM (marks C : List Nat) : List Nat := (List.range (ded C).length).map fun lot => (marks[ix C lot]?).getD 0
theorem quot_len (rows : List (List Nat)) (C : List Nat) : (quot rows C).length = (ded C).length := by unfold quot; simp
theorem Cls.nums {rows : List (List Nat)} {f C : List Nat} {many : Nat} (h : Cls rows f many C) : ∃ g, C = MW.nums (keysOf rows g) := by
  induction h with
  | stop h => exact ⟨_, rfl⟩
  | go h q ih => exact ih
/-- every number below is met -/
theorem nums_full {α : Type} [DecidableEq α] (ks : List α) {lot : Nat} (h : lot < (ded (nums ks)).length) : lot ∈ nums ks := by
  rw [ded_nums] at h
  have hm := mem_ded.mp (List.getElem_mem h)
  exact List.mem_map.mpr ⟨_, hm, ix_at (nodup_ded ks) (List.getElem?_eq_getElem h)⟩
theorem nums_lt {α : Type} [DecidableEq α] (ks : List α) : ∀ x ∈ nums ks, x < (ded (nums ks)).length := by
  intro x hx
  rw [ded_nums]
  obtain ⟨k, hk, rfl⟩ := List.mem_map.mp hx
  exact ix_lt (mem_ded.mpr hk)
/-- what the least machine is -/
def LeastOf (rows : List (List Nat)) (marks : List Nat) (rows' : List (List Nat)) (marks' : List Nat) : Prop :=
  ∃ srt C, srt.Perm (ded (pick marks (order rows 0))) ∧ srt.Pairwise (· ≤ ·) ∧ Cls (told rows (order rows 0)) (ranks srt (pick marks (order rows 0))) (ded (pick marks (order rows 0))).length C ∧ OrdOk rows 0 (order rows 0) ∧ C.length = (order rows 0).length ∧
    OrdOk (quot (told rows (order rows 0)) C) ((C[0]?).getD 0) (order (quot (told rows (order rows 0)) C) ((C[0]?).getD 0)) ∧
    rows' = told (quot (told rows (order rows 0)) C) (order (quot (told rows (order rows 0)) C) ((C[0]?).getD 0)) ∧
    marks' = pick (quotM (pick marks (order rows 0)) C) (order (quot (told rows (order rows 0)) C) ((C[0]?).getD 0))
end MW

set_option Elab.async false
set_option linter.all false
set_option maxRecDepth 100000
set_option maxHeartbeats 4000000
/-! dicts that number, sequences of either kind -/
namespace My
open PySem PySem.Spec PyProof.Rows L2 MW
theorem snocInd {α : Type} {P : List α → Prop} (h0 : P []) (h1 : ∀ l x, P l → P (l ++ [x])) (l : List α) : P l := by
  have : ∀ r : List α, P r.reverse := by
    intro r
    induction r with
    | nil => exact h0
    | cons x r ih => rw [List.reverse_cons]; exact h1 _ _ ih
  have h := this l.reverse
  rw [List.reverse_reverse] at h
  exact h
section
variable {α κ : Type} [DecidableEq α] [DecidableEq κ]
/-- the dict that numbers l -/
def numK (f : α → κ) (l : List α) : List (κ × V) := l.zipIdx.map fun p => (f p.1, .int (p.2 : Nat))
theorem numK_len (f : α → κ) (l : List α) : (numK f l).length = l.length := by unfold numK; simp
theorem numK_snoc (f : α → κ) (l : List α) (x : α) : numK f (l ++ [x]) = numK f l ++ [(f x, .int (l.length : Nat))] := by
  unfold numK
  rw [List.zipIdx_append, List.map_append]
  simp
theorem valV_app (k : κ) : ∀ (a b : List (κ × V)), valV (a ++ b) k = (valV a k).or (valV b k)
  | [], b => by rw [List.nil_append, valV_nil]; rfl
  | p :: a, b => by
    rw [List.cons_append]
    by_cases h : p.1 = k
    · rw [valV_pos h, valV_pos h]; rfl
    · rw [valV_neg h, valV_neg h, valV_app k a b]
theorem numK_val {f : α → κ} (inj : ∀ a b, f a = f b → a = b) (x : α) : ∀ l : List α, l.Nodup → valV (numK f l) (f x) = if x ∈ l then some (.int (ix l x : Nat)) else none := by
  intro l
  induction l using snocInd with
  | h0 => intro _; rfl
  | h1 l y ih =>
    intro n
    have nl : l.Nodup := (List.nodup_append.mp n).1
    have ny : y ∉ l := fun h => (List.nodup_append.mp n).2.2 y h y (by simp) rfl
    rw [numK_snoc, valV_app, ih nl]
    by_cases hx : x ∈ l
    · rw [if_pos hx, if_pos (List.mem_append_left _ hx), ix_app hx]; rfl
    · rw [if_neg hx]
      by_cases e : y = x
      · subst e
        rw [if_pos (by simp), ix_new ny, valV_pos (p := (f y, V.int (l.length : Nat))) rfl]
        rfl
      · rw [if_neg (by simp [hx, Ne.symm e]), valV_neg (p := (f y, V.int (l.length : Nat))) (fun z => e (inj _ _ z))]
        rfl
theorem numK_put {f : α → κ} (inj : ∀ a b, f a = f b → a = b) {x : α} {l : List α} (n : l.Nodup) (h : x ∉ l) : putK (numK f l) (f x) (.int (l.length : Nat)) = numK f (l ++ [x]) := by
  rw [putK_new _ (by rw [numK_val inj x l n, if_neg h]), numK_snoc]
end
def kN (n : Nat) : Key := .inl (n : Int)
theorem kN_inj (a b : Nat) (h : kN a = kN b) : a = b := by
  unfold kN at h
  have := Sum.inl.inj h
  omega
theorem kN_v (n : Nat) : kV (kN n) = .int n := rfl
def kL (l : List Nat) : List Key := l.map kN
theorem kL_inj (a b : List Nat) (h : kL a = kL b) : a = b := (List.map_inj_right kN_inj).mp h
theorem kL_v (l : List Nat) : (kL l).map kV = vN l := by unfold kL vN iN; rw [List.map_map, List.map_map]; rfl
theorem units1 {k : Nat} {A : Around} (h : Room k A) : A.units + 1 < cLine := by
  have := h.units
  omega
/-! ### a tuple or a list -/
def SqA (K : PySem.W.Frag) (H : Hp) (p : Addr) (xs : List V) : Prop := SqT K H p xs ∨ SqL K H p xs
def rIxA (K : PySem.W.Frag) : R2 := fun x y H Q => ∃ (p : Addr) (xs : List V) (i : Int) (v : V), x = .ref p ∧ y = .int i ∧ SqA K H p xs ∧ atI xs i = some v ∧ Q v H
section
variable {X : Cx} (K : PySem.W.Frag)
theorem ix_any : IxR X (rIxA X.K) := by
  intro value slice pins s σ H x y v u Q I rx ry h hs
  obtain ⟨p, xs, i, z, ex, ey, h, e, q⟩ := h
  rcases h with h | h
  · exact ix_tup value slice pins s σ H x y v u Q I rx ry ⟨p, xs, i, z, ex, ey, h, e, q⟩ hs
  · exact ix_list value slice pins s σ H x y v u Q I rx ry ⟨p, xs, i, z, ex, ey, h, e, q⟩ hs
theorem ix_anyK (h : X.K = K := by rfl) : IxR X (rIxA K) := h ▸ ix_any
end
section
variable {K : PySem.W.Frag} {H H' : Hp} {p d : Addr} {xs : List V} {Q : VK}
theorem SqA.same (e : Same H H') (h : SqA K H p xs) : SqA K H' p xs := h.elim (fun h => .inl (sameT e h)) fun h => .inr (e.seq h)
def RowsA (K : PySem.W.Frag) (H : Hp) (p : Addr) (rows : List (List Nat)) : Prop := ∃ ps : List Addr, SqA K H p (ps.map V.ref) ∧ Paired (fun q r => SqT K H q (vN r)) ps rows
theorem RowsA.same {rows : List (List Nat)} (e : Same H H') (h : RowsA K H p rows) : RowsA K H' p rows := by
  obtain ⟨ps, h1, h2⟩ := h
  exact ⟨ps, h1.same e, My.Paired.imp' (R := fun q r => SqT K H q (vN r)) (fun _ r z => sameT (xs := vN r) e z) h2⟩
theorem RowsA.row {rows : List (List Nat)} {i : Nat} {r : List Nat} (h : RowsA K H p rows) (hi : rows[i]? = some r) : ∃ (q : Addr) (xs : List V), SqA K H p xs ∧ xs[i]? = some (.ref q) ∧ SqT K H q (vN r) := by
  obtain ⟨ps, h1, h2⟩ := h
  obtain ⟨q, h3, h4⟩ := Paired.get' h2 hi
  exact ⟨q, _, h1, by rw [List.getElem?_map, h3]; rfl, h4⟩
theorem RowsAt.a {rows : List (List Nat)} (h : RowsAt K H p rows) : RowsA K H p rows := by
  obtain ⟨ps, h1, h2⟩ := h
  exact ⟨ps, .inl h1, h2⟩
end
/-! ### a dict comprehension over any walk -/
section
variable {J : It} {n : Nat} {G : Hp → Prop} {Y : Nat → Hp → V → Hp → Prop}
theorem dc_it (w : Walk J n G Y) {g : TG} {tt : TT} {tk tv : TE} {vs : List Nat} {σ : L2.St} {H1 : Hp} {D : Addr} {Qd : Hp → Prop} (Pv : Nat → Hp → Prop) (h0 : Pv 0 (upd H1 D (.dK []))) (hG : ∀ i H, i ≤ n → Pv i H → G H)
    (hs : ∀ i x H H', i < n → Pv i H → Y i H x H' → g x (wipe σ vs) H' fun σ2 H2 => wipe σ2 vs = wipe σ vs ∧ tt σ2 H2 fun b H3 =>
      if b = true then tk σ2 H3 fun y H4 => tv σ2 H4 fun z H5 => ∃ kvs k, y = kV k ∧ H5 D = some (.dK kvs) ∧ kvs.length < sizeLine ∧ Pv (i + 1) (upd H5 D (.dK (putK kvs k z))) else Pv (i + 1) H3) (hd : ∀ H, Pv n H → Qd H) :
    ∃ W : Nat → Nat → Hp → Prop, (∃ m, W 0 m (upd H1 D (.dK []))) ∧ ∀ i m H, W i m H →
      (J.stop i H ∧ Qd H) ∨ (J.go i H ∧ ∃ Nx : Hp → Prop, (∀ H', Nx H' → ∃ m', m' < m ∧ W (i + 1) m' H') ∧ ∀ x H', J.yld i H x H' → g x (wipe σ vs) H' fun σ2 H2 => wipe σ2 vs = wipe σ vs ∧ tt σ2 H2 fun b H3 =>
        if b = true then tk σ2 H3 fun y H4 => tv σ2 H4 fun z H5 => ∃ kvs k, y = kV k ∧ H5 D = some (.dK kvs) ∧ kvs.length < sizeLine ∧ Nx (upd H5 D (.dK (putK kvs k z))) else Nx H3) := by
  refine ⟨fun i m H => m = n - i ∧ i ≤ n ∧ Pv i H, ⟨n, by simp, Nat.zero_le _, h0⟩, ?_⟩
  rintro i m H ⟨rfl, hi, p⟩
  have q := hG i H hi p
  by_cases hlt : i < n
  · exact .inr ⟨w.goes i H hlt q, Pv (i + 1), fun H' p' => ⟨n - (i + 1), by omega, rfl, hlt, p'⟩, fun x H' y => hs i x H H' hlt p (w.yields i H x H' hlt q y)⟩
  · have e : i = n := by omega
    subst e
    exact .inl ⟨w.stops H q, hd H p⟩
end
end My

set_option Elab.async false
set_option linter.all false
set_option maxRecDepth 100000
set_option maxHeartbeats 4000000
/-! A small machine: values as trees, a def's names as slots. Here: values, how they lie in the heap. -/
namespace Mi
open PySem PySem.Spec PyProof.Rows L2 My

inductive MV where
  | non | bl (b : Bool) | int (i : Int) | str (x : Str)
  | tup (xs : List MV) | lst (xs : List MV)
  /-- a dict whose keys are ints and texts; one whose keys are tuples -/
  | dk (ks : List Key) (vs : List MV) | dn (kvs vs : List MV)
  /-- an instance of an own class with slots -/
  | ins (C : Str) (vs : List MV)
  deriving Inhabited

/-- the program, the world, the written part -/
structure GG where
  P : Program
  w : World
  K : PySem.W.Frag
abbrev GX (X : Cx) : GG := ⟨X.prog, X.w, X.K⟩

mutual
/-- what a value is as a key -/
def nkM : MV → Option NestedKey
  | .non => some .none
  | .bl b => some (.num (if b = true then 1 else 0))
  | .int i => some (.num i)
  | .str x => some (.text x)
  | .tup ms => (nksM ms).map .tup
  | _ => none
def nksM : List MV → Option (List NestedKey)
  | [] => some []
  | m :: ms => (nkM m).bind fun k => (nksM ms).map (k :: ·)
end
/-- a dict with keys that are tuples -/
def DnO (G : GG) (a : Addr) (es : List (NestedKey × Addr × V)) : HO := .ext fun h => (a == sysModules) = false ∧ es.length ≤ sizeLine ∧ ∃ xs : List (NestedKey × Addr × Value),
  Paired (fun (p : NestedKey × Addr × V) (q : NestedKey × Addr × Value) => p.1 = q.1 ∧ p.2.1 = q.2.1 ∧ RelV p.2.2 q.2.2) es xs ∧
    ∃ o es' ep, h.get? a = some o ∧ o.ExactDict ∧ o.data = .dict es' ep ∧ es'.toList = xs.map (entryOfKey (nestedKind G.P G.w)) ∧ (xs.map (·.1)).Nodup
def zip3 : List NestedKey → List Addr → List V → List (NestedKey × Addr × V)
  | k :: ks, a :: as, v :: vs => (k, a, v) :: zip3 ks as vs
  | _, _, _ => []

/-- a tuple that is read: tracked (and not among what changes), or written -/
def TupM (K : PySem.W.Frag) (M : Addr → Prop) (H : Hp) (a : Addr) (vs : List V) : Prop :=
  (Rd H a (.tup vs) ∧ ¬ M a) ∨ ∃ (o : Obj) (its : Array Value) (n : Nat), K.lookup a = some o ∧ o.cls = .type "tuple" ∧ o.data = .seq its n ∧ its.size ≤ sizeLine ∧ Vals vs its.toList
/-- .. a list that is read -/
def LstM (K : PySem.W.Frag) (M : Addr → Prop) (H : Hp) (a : Addr) (vs : List V) : Prop :=
  (Rd H a (.lst vs) ∧ ¬ M a) ∨ ∃ (o : Obj) (its : Array Value) (n : Nat), K.lookup a = some o ∧ o.cls = .type "list" ∧ o.dict = none ∧ o.data = .seq its n ∧ its.size ≤ sizeLine ∧ Vals vs its.toList
mutual
/-- m lies in H as x, away from M -/
def Rep (G : GG) (M : Addr → Prop) (H : Hp) : MV → V → Prop
  | .non, x => x = .non
  | .bl b, x => x = .bl b
  | .int i, x => x = .int i
  | .str s, x => x = .str s
  | .tup ms, x => ∃ a vs, x = .ref a ∧ TupM G.K M H a vs ∧ Reps G M H ms vs
  | .lst ms, x => ∃ a vs, x = .ref a ∧ LstM G.K M H a vs ∧ True ∧ Reps G M H ms vs
  | .dk ks ms, x => ∃ a vs, x = .ref a ∧ H a = some (.dK (ks.zip vs)) ∧ ks.length = vs.length ∧ ¬ M a ∧ Reps G M H ms vs
  | .dn kms ms, x => ∃ a ks as vs, x = .ref a ∧ H a = some (DnO G a (zip3 ks as vs)) ∧ nksM kms = some ks ∧ ks.length = vs.length ∧ as.length = vs.length ∧ (∀ k ∈ ks, k.depth ≤ 8) ∧ ¬ M a ∧ Reps G M H kms (as.map V.ref) ∧ Reps G M H ms vs
  | .ins C ms, x => (C = ("" : Str) ∧ ∃ a o, x = .ref a ∧ H a = some o) ∨ ∃ a dx vs, x = .ref a ∧ H a = some (SlX.SlO a (He.ga G.K C) dx (vs.map some)) ∧ H dx = some (.xd []) ∧ ¬ M a ∧ ¬ M dx ∧ Reps G M H ms vs
def Reps (G : GG) (M : Addr → Prop) (H : Hp) : List MV → List V → Prop
  | [], vs => vs = []
  | m :: ms, vs => ∃ v r, vs = v :: r ∧ Rep G M H m v ∧ Reps G M H ms r
end
/-- m lies in H at a, as a thing that may be changed -/
def Own (G : GG) (M : Addr → Prop) (H : Hp) : MV → Addr → Prop
  | .lst ms, a => ∃ vs, H a = some (.lst vs) ∧ Reps G M H ms vs
  | .dk ks ms, a => ∃ vs, H a = some (.dK (ks.zip vs)) ∧ ks.length = vs.length ∧ Reps G M H ms vs
  | .dn kms ms, a => ∃ ks as vs, H a = some (DnO G a (zip3 ks as vs)) ∧ nksM kms = some ks ∧ ks.length = vs.length ∧ as.length = vs.length ∧ (∀ k ∈ ks, k.depth ≤ 8) ∧ Reps G M H kms (as.map V.ref) ∧ Reps G M H ms vs
  | .ins C _, a => C = ("" : Str) ∧ ∃ o, H a = some o
  | _, _ => False
/-- one of both -/
def RepB (G : GG) (M : Addr → Prop) (H : Hp) (m : MV) (x : V) : Prop := Rep G M H m x ∨ ∃ a, x = .ref a ∧ Own G M H m a

structure Keep (M : Addr → Prop) (H H' : Hp) : Prop where
  at_ : ∀ b o, ¬ M b → H b = some o → H' b = some o
  on : ∀ b o, H b = some o → ∃ o', H' b = some o'
def Trk (M : Addr → Prop) (H : Hp) : Prop := ∀ a, M a → ∃ o, H a = some o
section
variable {G : GG} {M M' : Addr → Prop} {H H' H2 : Hp} {a : Addr} {x : V}
theorem Keep.refl : Keep M H H := ⟨fun _ _ _ h => h, fun _ o h => ⟨o, h⟩⟩
theorem Keep.of_same (e : Same H H') : Keep M H H' := ⟨fun _ _ _ h => e _ _ h, fun _ o h => ⟨o, e _ _ h⟩⟩
theorem Keep.trans (k : Keep M H H') (k2 : Keep M' H' H2) (m : ∀ b o, H b = some o → M' b → M b) : Keep M H H2 :=
  ⟨fun b o n h => k2.at_ b o (fun z => n (m b o h z)) (k.at_ b o n h), fun b o h => let ⟨_, h1⟩ := k.on b o h; k2.on b _ h1⟩
theorem Keep.mono (k : Keep M H H') (m : ∀ b, M b → M' b) : Keep M' H H' := ⟨fun b o n h => k.at_ b o (fun z => n (m b z)) h, k.on⟩
theorem Trk.new (t : Trk M H) (n : H a = none) : ¬ M a := fun m => by
  obtain ⟨o, e⟩ := t a m
  rw [n] at e
  cases e
theorem Keep.isnone (k : Keep M H H') (n : H' a = none) : H a = none := by
  cases e : H a with
  | none => rfl
  | some o =>
    obtain ⟨_, e2⟩ := k.on _ _ e
    rw [n] at e2
    cases e2
theorem Rd.keep {u : HO} (k : Keep M H H') (n : ¬ M a) (h : Rd H a u) : Rd H' a u := h.elim (fun h => .inl (k.at_ _ _ n h)) fun ⟨o, h⟩ => .inr ⟨o, k.at_ _ _ n h⟩
theorem Rd.on {u : HO} (h : Rd H a u) : ∃ o, H a = some o := h.elim (fun h => ⟨_, h⟩) fun ⟨_, h⟩ => ⟨_, h⟩
theorem TupM.keep {K : PySem.W.Frag} {vs : List V} (k : Keep M H H') (m : ∀ b o, H b = some o → M' b → M b) (h : TupM K M H a vs) : TupM K M' H' a vs := by
  rcases h with ⟨h, n⟩ | h
  · obtain ⟨o, e⟩ := Rd.on h
    exact .inl ⟨Rd.keep k n h, fun z => n (m _ _ e z)⟩
  · exact .inr h
theorem LstM.keep {K : PySem.W.Frag} {vs : List V} (k : Keep M H H') (m : ∀ b o, H b = some o → M' b → M b) (h : LstM K M H a vs) : LstM K M' H' a vs := by
  rcases h with ⟨h, n⟩ | h
  · obtain ⟨o, e⟩ := Rd.on h
    exact .inl ⟨Rd.keep k n h, fun z => n (m _ _ e z)⟩
  · exact .inr h
theorem LstM.sq {K : PySem.W.Frag} {vs : List V} (h : LstM K M H a vs) : SqL K H a vs := h.elim (fun h => .inl h.1) fun h => .inr h
theorem LstM.of {K : PySem.W.Frag} {vs : List V} (h : Rd H a (.lst vs)) (n : ¬ M a) : LstM K M H a vs := .inl ⟨h, n⟩
theorem TupM.sq {K : PySem.W.Frag} {vs : List V} (h : TupM K M H a vs) : SqT K H a vs := h.elim (fun h => .inl h.1) fun h => .inr h
end
mutual
theorem Rep.keep {G : GG} {M M' : Addr → Prop} {H H' : Hp} (k : Keep M H H') (m : ∀ b o, H b = some o → M' b → M b) : ∀ (v : MV) (x : V), Rep G M H v x → Rep G M' H' v x
  | .non, _, h => by simp only [Rep] at h ⊢; exact h
  | .bl _, _, h => by simp only [Rep] at h ⊢; exact h
  | .int _, _, h => by simp only [Rep] at h ⊢; exact h
  | .str _, _, h => by simp only [Rep] at h ⊢; exact h
  | .tup ms, x, h => by
    simp only [Rep] at h ⊢
    obtain ⟨a, vs, e, h1, h2⟩ := h
    exact ⟨a, vs, e, h1.keep k m, Reps.keep k m ms vs h2⟩
  | .lst ms, x, h => by
    simp only [Rep] at h ⊢
    obtain ⟨a, vs, e, h1, _, h2⟩ := h
    exact ⟨a, vs, e, h1.keep k m, trivial, Reps.keep k m ms vs h2⟩
  | .dk ks ms, x, h => by
    simp only [Rep] at h ⊢
    obtain ⟨a, vs, e, h1, hl, n, h2⟩ := h
    exact ⟨a, vs, e, k.at_ _ _ n h1, hl, fun q => n (m _ _ h1 q), Reps.keep k m ms vs h2⟩
  | .dn kms ms, x, h => by
    simp only [Rep] at h ⊢
    obtain ⟨a, ks, as, vs, e, h1, hk, hl, hl2, hd, n, h2, h3⟩ := h
    exact ⟨a, ks, as, vs, e, k.at_ _ _ n h1, hk, hl, hl2, hd, fun q => n (m _ _ h1 q), Reps.keep k m kms _ h2, Reps.keep k m ms vs h3⟩
  | .ins C ms, x, h => by
    simp only [Rep] at h ⊢
    rcases h with ⟨e, a, o, e2, h⟩ | ⟨a, dx, vs, e, h1, h2, n, n2, h3⟩
    · obtain ⟨o', h'⟩ := k.on a o h
      exact .inl ⟨e, a, o', e2, h'⟩
    · exact .inr ⟨a, dx, vs, e, k.at_ _ _ n h1, k.at_ _ _ n2 h2, fun q => n (m _ _ h1 q), fun q => n2 (m _ _ h2 q), Reps.keep k m ms vs h3⟩
theorem Reps.keep {G : GG} {M M' : Addr → Prop} {H H' : Hp} (k : Keep M H H') (m : ∀ b o, H b = some o → M' b → M b) : ∀ (v : List MV) (x : List V), Reps G M H v x → Reps G M' H' v x
  | [], _, h => by simp only [Reps] at h ⊢; exact h
  | v :: vs, _, h => by
    simp only [Reps] at h ⊢
    obtain ⟨y, r, e, h1, h2⟩ := h
    exact ⟨y, r, e, Rep.keep k m v y h1, Reps.keep k m vs r h2⟩
end
section
variable {G : GG} {M M' : Addr → Prop} {H H' H2 : Hp} {a : Addr} {x : V} {v : MV}
theorem Own.keep (k : Keep M H H') (m : ∀ b o, H b = some o → M' b → M b) (e : ∀ o, H a = some o → H' a = some o) (h : Own G M H v a) : Own G M' H' v a := by
  cases v with
  | lst ms =>
    simp only [Own] at h ⊢
    obtain ⟨vs, h1, h2⟩ := h
    exact ⟨vs, e _ h1, h2.keep k m⟩
  | dk ks ms =>
    simp only [Own] at h ⊢
    obtain ⟨vs, h1, hl, h2⟩ := h
    exact ⟨vs, e _ h1, hl, h2.keep k m⟩
  | dn kms ms =>
    simp only [Own] at h ⊢
    obtain ⟨ks, as, vs, h1, hk, hl, hl2, hd, h2, h3⟩ := h
    exact ⟨ks, as, vs, e _ h1, hk, hl, hl2, hd, h2.keep k m, h3.keep k m⟩
  | ins C ms =>
    simp only [Own] at h ⊢
    obtain ⟨e1, o, h⟩ := h
    exact ⟨e1, o, e o h⟩
  | _ => simp only [Own] at h
theorem Own.on (h : Own G M H v a) : ∃ o, H a = some o := by
  cases v with
  | lst ms =>
    simp only [Own] at h
    obtain ⟨vs, h1, _⟩ := h
    exact ⟨_, h1⟩
  | dk ks ms =>
    simp only [Own] at h
    obtain ⟨vs, h1, _⟩ := h
    exact ⟨_, h1⟩
  | dn kms ms =>
    simp only [Own] at h
    obtain ⟨ks, as, vs, h1, _⟩ := h
    exact ⟨_, h1⟩
  | ins C ms =>
    simp only [Own] at h
    exact h.2
  | _ => simp only [Own] at h
/-- what may be changed, seen as what may not -/
theorem Own.rep (h : Own G M H v a) (n : ¬ M a) : Rep G M H v (.ref a) := by
  cases v with
  | lst ms =>
    simp only [Own] at h
    obtain ⟨vs, h1, h2⟩ := h
    simp only [Rep]
    exact ⟨a, vs, rfl, .of (.inl h1) n, trivial, h2⟩
  | dk ks ms =>
    simp only [Own] at h
    obtain ⟨vs, h1, hl, h2⟩ := h
    simp only [Rep]
    exact ⟨a, vs, rfl, h1, hl, n, h2⟩
  | dn kms ms =>
    simp only [Own] at h
    obtain ⟨ks, as, vs, h1, hk, hl, hl2, hd, h2, h3⟩ := h
    simp only [Rep]
    exact ⟨a, ks, as, vs, rfl, h1, hk, hl, hl2, hd, n, h2, h3⟩
  | ins C ms =>
    simp only [Own] at h
    obtain ⟨e1, o, h⟩ := h
    simp only [Rep]
    exact .inl ⟨e1, a, o, rfl, h⟩
  | _ => simp only [Own] at h
theorem RepB.keep (k : Keep M H H') (m : ∀ b o, H b = some o → M' b → M b) (e : ∀ a, x = .ref a → ∀ o, H a = some o → H' a = some o) (h : RepB G M H v x) : RepB G M' H' v x := by
  rcases h with h | ⟨a, rfl, h⟩
  · exact .inl (h.keep k m)
  · exact .inr ⟨a, rfl, h.keep k m (e a rfl)⟩
theorem RepB.same (e : Same H H') (h : RepB G M H v x) : RepB G M H' v x := h.keep (.of_same e) (fun _ _ _ z => z) fun _ _ _ z => e _ _ z
theorem Rep.same (e : Same H H') (h : Rep G M H v x) : Rep G M H' v x := h.keep (.of_same e) fun _ _ _ z => z
theorem Reps.same {vs : List MV} {xs : List V} (e : Same H H') (h : Reps G M H vs xs) : Reps G M H' vs xs := h.keep (.of_same e) fun _ _ _ z => z
theorem Rep.less (m : ∀ b, M' b → M b) (h : Rep G M H v x) : Rep G M' H v x := h.keep .refl fun _ _ _ z => m _ z
theorem Reps.len : ∀ {ms : List MV} {vs : List V}, Reps G M H ms vs → vs.length = ms.length
  | [], vs, h => by simp only [Reps] at h; rw [h]; rfl
  | m :: ms, vs, h => by
    simp only [Reps] at h
    obtain ⟨v, r, rfl, _, h2⟩ := h
    simp [Reps.len h2]
theorem Reps.get : ∀ {ms : List MV} {vs : List V} {i : Nat} {m : MV}, Reps G M H ms vs → ms[i]? = some m → ∃ v, vs[i]? = some v ∧ Rep G M H m v
  | [], vs, i, m, h, e => by simp at e
  | m :: ms, vs, 0, n, h, e => by
    simp only [Reps] at h
    obtain ⟨v, r, rfl, h1, h2⟩ := h
    simp at e
    subst e
    exact ⟨v, rfl, h1⟩
  | m :: ms, vs, i + 1, n, h, e => by
    simp only [Reps] at h
    obtain ⟨v, r, rfl, h1, h2⟩ := h
    simp at e ⊢
    exact Reps.get h2 e
theorem Reps.getV : ∀ {ms : List MV} {vs : List V} {i : Nat} {v : V}, Reps G M H ms vs → vs[i]? = some v → ∃ m, ms[i]? = some m ∧ Rep G M H m v
  | [], vs, i, m, h, e => by simp only [Reps] at h; subst h; simp at e
  | m :: ms, vs, 0, n, h, e => by
    simp only [Reps] at h
    obtain ⟨v, r, rfl, h1, h2⟩ := h
    simp at e
    subst e
    exact ⟨m, rfl, h1⟩
  | m :: ms, vs, i + 1, n, h, e => by
    simp only [Reps] at h
    obtain ⟨v, r, rfl, h1, h2⟩ := h
    simp at e ⊢
    exact Reps.getV h2 e
theorem Reps.app : ∀ {ms ns : List MV} {vs ws : List V}, Reps G M H ms vs → Reps G M H ns ws → Reps G M H (ms ++ ns) (vs ++ ws)
  | [], ns, vs, ws, h, h' => by simp only [Reps] at h; subst h; exact h'
  | m :: ms, ns, vs, ws, h, h' => by
    simp only [Reps] at h
    obtain ⟨v, r, rfl, h1, h2⟩ := h
    simp only [List.cons_append, Reps]
    exact ⟨v, _, rfl, h1, Reps.app h2 h'⟩
theorem Reps.one (h : Rep G M H v x) : Reps G M H [v] [x] := by
  simp only [Reps]
  exact ⟨x, [], rfl, h, rfl⟩
theorem Reps.nil : Reps G M H [] [] := by simp only [Reps]
theorem Reps.consI {ms : List MV} {vs : List V} (h : Rep G M H v x) (h2 : Reps G M H ms vs) : Reps G M H (v :: ms) (x :: vs) := by
  simp only [Reps]
  exact ⟨x, vs, rfl, h, h2⟩
theorem Reps.take : ∀ {ms : List MV} {vs : List V} (n : Nat), Reps G M H ms vs → Reps G M H (ms.take n) (vs.take n)
  | [], vs, n, h => by simp only [Reps] at h; subst h; simp only [List.take_nil]; exact Reps.nil
  | m :: ms, vs, 0, h => by simp only [List.take_zero]; exact Reps.nil
  | m :: ms, vs, n + 1, h => by
    simp only [Reps] at h
    obtain ⟨v, r, rfl, h1, h2⟩ := h
    simp only [List.take_succ_cons]
    exact Reps.consI h1 (Reps.take n h2)
theorem Reps.drop : ∀ {ms : List MV} {vs : List V} (n : Nat), Reps G M H ms vs → Reps G M H (ms.drop n) (vs.drop n)
  | [], vs, n, h => by simp only [Reps] at h; subst h; simp only [List.drop_nil]; exact Reps.nil
  | m :: ms, vs, 0, h => by simp only [List.drop_zero]; exact h
  | m :: ms, vs, n + 1, h => by
    simp only [Reps] at h
    obtain ⟨v, r, rfl, h1, h2⟩ := h
    simp only [List.drop_succ_cons]
    exact Reps.drop n h2
theorem Reps.rev : ∀ {ms : List MV} {vs : List V}, Reps G M H ms vs → Reps G M H ms.reverse vs.reverse
  | [], vs, h => by simp only [Reps] at h; subst h; exact Reps.nil
  | m :: ms, vs, h => by
    simp only [Reps] at h
    obtain ⟨v, r, rfl, h1, h2⟩ := h
    simp only [List.reverse_cons]
    exact Reps.app (Reps.rev h2) (Reps.one h1)
theorem Reps.set {y : V} {w : MV} (h' : Rep G M H w y) : ∀ {ms : List MV} {vs : List V} (i : Nat), Reps G M H ms vs → Reps G M H (ms.set i w) (vs.set i y)
  | [], vs, i, h => by simp only [Reps] at h; subst h; exact Reps.nil
  | m :: ms, vs, 0, h => by
    simp only [Reps] at h
    obtain ⟨v, r, rfl, h1, h2⟩ := h
    exact Reps.consI h' h2
  | m :: ms, vs, i + 1, h => by
    simp only [Reps] at h
    obtain ⟨v, r, rfl, h1, h2⟩ := h
    exact Reps.consI h1 (Reps.set h' i h2)
theorem Reps.all {ms : List MV} {vs : List V} (h : Reps G M H ms vs) : Paired (Rep G M H) ms vs := by
  induction ms generalizing vs with
  | nil =>
    simp only [Reps] at h
    subst h
    exact .nil
  | cons m ms ih =>
    simp only [Reps] at h
    obtain ⟨v, r, rfl, h1, h2⟩ := h
    exact .cons h1 (ih h2)
theorem Reps.of {ms : List MV} {vs : List V} (h : Paired (Rep G M H) ms vs) : Reps G M H ms vs := by
  induction h with
  | nil => exact Reps.nil
  | cons h1 _ ih => exact Reps.consI h1 ih
end
end Mi

set_option Elab.async false
set_option linter.all false
set_option maxRecDepth 100000
set_option maxHeartbeats 4000000
/-! cells, the state of a def, what stands between steps; the readings -/
namespace Mi
open PySem PySem.Spec PyProof.Rows L2 My

/-- what a slot holds: a value that no one changes; a list or dict that this def may change (own: made here; io: the caller's; lown, lio: the same, while it is walked) -/
inductive Kd where
  | val | own | io | lown | lio
  deriving DecidableEq
structure Cell where
  k : Kd
  v : MV
instance : Inhabited MV := ⟨.non⟩
instance : Inhabited Cell := ⟨⟨.val, .non⟩⟩
abbrev Sg := List (Option Cell)
/-- an exception: its class, what it keeps -/
structure Ex where
  cls : Str
  fs : List (Str × MV)
inductive R (α : Type) where
  | ok (a : α) (γ : Sg)
  | ex (e : Ex) (γ : Sg)
  | no
inductive RO where
  | nx (γ : Sg) | rt (c : Cell) (γ : Sg) | bk (γ : Sg) | ct (γ : Sg) | ex (e : Ex) (γ : Sg) | no
abbrev FE := Sg → R Cell
abbrev FT := Sg → R Bool
abbrev FA := Sg → R (List MV)
abbrev FS := Sg → RO

/-- a def's entry: the heap, what may not be touched (its own addresses among it), what is to stay, where the caller's lists lie, what is lent (walked) -/
structure Ent where
  H0 : Hp
  Mf : Addr → Prop
  F : Addr → HO → Prop
  io : Nat → Option Addr
  ln : Nat → Option (Addr × HO)
  lnF : ∀ j p, ln j = some p → F p.1 p.2
theorem Ent.ext' {Z Z' : Ent} (h1 : Z.H0 = Z'.H0) (h2 : Z.Mf = Z'.Mf) (h3 : Z.F = Z'.F) (h4 : Z.io = Z'.io) (h5 : Z.ln = Z'.ln) : Z = Z' := by
  cases Z
  cases Z'
  subst h1 h2 h3 h4 h5
  rfl
abbrev AM := Nat → Option Addr
def Mz (Z : Ent) (A : AM) : Addr → Prop := fun a => Z.Mf a ∨ ∃ i, A i = some a
/-- slot i, of which A knows o, holds c as x -/
def CellOk (G : GG) (Z : Ent) (A : AM) (H : Hp) (i : Nat) (c : Cell) (x : V) : Prop := match c.k with
  | .val => A i = none ∧ Rep G (Mz Z A) H c.v x
  | .own => ∃ a, A i = some a ∧ x = .ref a ∧ Own G (Mz Z A) H c.v a
  | .io => ∃ a, A i = some a ∧ x = .ref a ∧ Own G (Mz Z A) H c.v a
  | _ => A i = none ∧ ∃ a o, Z.ln i = some (a, o) ∧ x = .ref a ∧ Own G (Mz Z A) H c.v a
structure Sim (G : GG) (Z : Ent) (A : AM) (γ : Sg) (σ : L2.St) (H : Hp) : Prop where
  len : γ.length = σ.length
  cell : ∀ i c, γ[i]? = some (some c) → ∃ x, σ[i]? = some (some x) ∧ CellOk G Z A H i c x
  adr : ∀ i a, A i = some a → ∃ c, γ[i]? = some (some c) ∧ (∀ o, ¬ Z.F a o) ∧ match c.k with
    | .own => Z.H0 a = none ∧ ¬ Z.Mf a
    | .io => Z.io i = some a ∧ Z.Mf a
    | _ => False
  inj : ∀ i j a, A i = some a → A j = some a → i = j
  mf : ∀ a, Z.Mf a → ∃ o, H a = some o
  fr : ∀ b o, Z.F b o → H b = some o
  new : ∀ b o, Z.H0 b = some o → ∃ o', H b = some o'
def Le (A' A : AM) : Prop := ∀ i a, A' i = some a → A i = some a
theorem Le.refl {A : AM} : Le A A := fun _ _ h => h
theorem Le.trans {A A' A'' : AM} (h : Le A'' A') (h' : Le A' A) : Le A'' A := fun i a e => h' i a (h i a e)
theorem Le.mz {Z : Ent} {A A' : AM} (h : Le A' A) (a : Addr) : Mz Z A' a → Mz Z A a := fun m => m.elim .inl fun ⟨i, e⟩ => .inr ⟨i, h i a e⟩
/-- from one place to a later one -/
def Stp (Z : Ent) (A : AM) (H : Hp) (A' : AM) (H' : Hp) : Prop := Keep (Mz Z A) H H' ∧ ∀ b o, H b = some o → Mz Z A' b → Mz Z A b
theorem Stp.refl {Z : Ent} {A : AM} {H : Hp} : Stp Z A H A H := ⟨.refl, fun _ _ _ m => m⟩
theorem Stp.of {Z : Ent} {A A' : AM} {H H' : Hp} (le : Le A' A) (k : Keep (Mz Z A) H H') : Stp Z A H A' H' := ⟨k, fun b _ _ m => le.mz b m⟩
theorem Stp.trans {Z : Ent} {A A' A'' : AM} {H H' H'' : Hp} (s : Stp Z A H A' H') (s' : Stp Z A' H' A'' H'') : Stp Z A H A'' H'' :=
  ⟨s.1.trans s'.1 fun b o hb m => s.2 b o hb m, fun b o hb m => let ⟨o', hb'⟩ := s.1.on b o hb; s.2 b o hb (s'.2 b o' hb' m)⟩
theorem Stp.of_same {Z : Ent} {A : AM} {H H' : Hp} (e : Same H H') : Stp Z A H A H' := .of .refl (.of_same e)
section
variable {G : GG} {Z Z' : Ent} {A A' : AM} {γ γ' : Sg} {σ σ' : L2.St} {H H' : Hp} {M M' : Addr → Prop} {c : Cell} {x : V} {i : Nat}
/-- what a cell says stays -/
theorem CellOk.keep (hA : A' i = A i) (hln : ∀ p, Z.ln i = some p → Z'.ln i = some p ∧ (∀ u, H p.1 = some u → H' p.1 = some u)) (k : Keep (Mz Z A) H H') (m : ∀ b o, H b = some o → Mz Z' A' b → Mz Z A b)
    (e : ∀ a, A i = some a → ∀ u, H a = some u → H' a = some u) (h : CellOk G Z A H i c x) : CellOk G Z' A' H' i c x := by
  obtain ⟨kk, v⟩ := c
  cases kk with
  | val => exact ⟨hA.trans h.1, h.2.keep k m⟩
  | own => obtain ⟨a, e1, e2, h⟩ := h; exact ⟨a, hA.trans e1, e2, h.keep k m (e a e1)⟩
  | io => obtain ⟨a, e1, e2, h⟩ := h; exact ⟨a, hA.trans e1, e2, h.keep k m (e a e1)⟩
  | lown => obtain ⟨e1, a, o, e2, e3, h⟩ := h; exact ⟨hA.trans e1, a, o, (hln _ e2).1, e3, h.keep k m (hln _ e2).2⟩
  | lio => obtain ⟨e1, a, o, e2, e3, h⟩ := h; exact ⟨hA.trans e1, a, o, (hln _ e2).1, e3, h.keep k m (hln _ e2).2⟩
theorem CellOk.repB (h : CellOk G Z A H i c x) : RepB G (Mz Z A) H c.v x := by
  obtain ⟨kk, v⟩ := c
  cases kk with
  | val => exact .inl h.2
  | own => obtain ⟨a, e1, e2, h⟩ := h; exact .inr ⟨a, e2, h⟩
  | io => obtain ⟨a, e1, e2, h⟩ := h; exact .inr ⟨a, e2, h⟩
  | lown => obtain ⟨e1, a, o, _, e2, h⟩ := h; exact .inr ⟨a, e2, h⟩
  | lio => obtain ⟨e1, a, o, _, e2, h⟩ := h; exact .inr ⟨a, e2, h⟩
theorem Sim.trk (S : Sim G Z A γ σ H) : Trk (Mz Z A) H := fun a m => by
  rcases m with m | ⟨i, e⟩
  · exact S.mf a m
  · obtain ⟨c, h1, _, h4⟩ := S.adr i a e
    obtain ⟨y, h2, h3⟩ := S.cell i c h1
    obtain ⟨kk, v⟩ := c
    cases kk with
    | own => obtain ⟨b, e1, e2, h⟩ := h3; rw [e] at e1; cases e1; exact h.on
    | io => obtain ⟨b, e1, e2, h⟩ := h3; rw [e] at e1; cases e1; exact h.on
    | val => exact h4.elim
    | lown => exact h4.elim
    | lio => exact h4.elim
/-- the cells, seen from fewer addresses -/
theorem Sim.cellLe (S : Sim G Z A γ σ H) {i : Nat} (hA : A' i = A i) (le : ∀ b, Mz Z A' b → Mz Z A b) (h : CellOk G Z A H i c x) : CellOk G Z A' H i c x :=
  h.keep hA (fun p e => ⟨e, fun _ z => z⟩) .refl (fun b _ _ m => le b m) fun _ _ _ z => z
/-- more stands in the heap -/
theorem Sim.same (e : Same H H') (S : Sim G Z A γ σ H) : Sim G Z A γ σ H' where
  len := S.len
  cell := fun i c h => let ⟨x, h1, h2⟩ := S.cell i c h; ⟨x, h1, h2.keep rfl (fun p e1 => ⟨e1, fun _ z => e _ _ z⟩) (.of_same e) (fun _ _ _ z => z) fun _ _ _ z => e _ _ z⟩
  adr := S.adr
  inj := S.inj
  mf := fun a m => let ⟨o, h⟩ := S.mf a m; ⟨o, e _ _ h⟩
  fr := fun b o h => e _ _ (S.fr b o h)
  new := fun b o h => let ⟨o', h'⟩ := S.new b o h; ⟨o', e _ _ h'⟩
theorem Sim.h0 (S : Sim G Z A γ σ H) {a : Addr} (n : H a = none) : Z.H0 a = none := by
  cases e : Z.H0 a with
  | none => rfl
  | some o =>
    obtain ⟨_, e2⟩ := S.new _ _ e
    rw [n] at e2
    cases e2
theorem Sim.nF (S : Sim G Z A γ σ H) {a : Addr} (n : H a = none) : ∀ o, ¬ Z.F a o := fun o h => by
  have := S.fr _ _ h
  rw [n] at this
  cases this
end
/-- the entry with one more thing that is not to be touched: made, not yet in a slot -/
def Ent.wait (Z : Ent) (p : Addr) (o : HO) : Ent := ⟨Z.H0, fun a => Z.Mf a ∨ a = p, fun a u => Z.F a u ∨ (a = p ∧ u = o), Z.io, Z.ln, fun j p h => .inl (Z.lnF j p h)⟩
section
variable {G : GG} {Z : Ent} {A A' : AM} {γ γ' : Sg} {σ σ' : L2.St} {H H' : Hp} {p : Addr} {o : HO}
theorem mz_wait (a : Addr) : Mz (Z.wait p o) A a ↔ Mz Z A a ∨ a = p := by
  unfold Mz Ent.wait
  constructor
  · rintro ((h | h) | h)
    · exact .inl (.inl h)
    · exact .inr h
    · exact .inl (.inr h)
  · rintro ((h | h) | h)
    · exact .inl (.inl h)
    · exact .inr h
    · exact .inl (.inr h)
/-- a new thing waits -/
theorem Sim.wait (S : Sim G Z A γ σ H) (e : Same H H') (n : H p = none) (h : H' p = some o) : Sim G (Z.wait p o) A γ σ H' where
  len := S.len
  cell := fun i c hc => by
    obtain ⟨x, h1, h2⟩ := S.cell i c hc
    refine ⟨x, h1, CellOk.keep (Z := Z) (Z' := Z.wait p o) rfl (fun p e1 => ⟨e1, fun _ z => e _ _ z⟩) (.of_same e) (fun b u hb hm => ?_) (fun _ _ _ z => e _ _ z) h2⟩
    rcases (mz_wait b).mp hm with m | rfl
    · exact m
    · rw [n] at hb; cases hb
  adr := fun i a hi => by
    obtain ⟨c, h1, h2, h3⟩ := S.adr i a hi
    have na : a ≠ p := fun z => by
      obtain ⟨u, hu⟩ := S.trk a (.inr ⟨i, hi⟩)
      rw [z, n] at hu
      cases hu
    refine ⟨c, h1, fun u hu => hu.elim (h2 u) fun z => na z.1, ?_⟩
    obtain ⟨k, v⟩ := c
    cases k with
    | val => exact h3
    | own => exact ⟨h3.1, fun m => m.elim h3.2 na⟩
    | lown => exact h3
    | io => exact ⟨h3.1, .inl h3.2⟩
    | lio => exact h3
  inj := S.inj
  mf := fun a m => m.elim (fun m => let ⟨u, hu⟩ := S.mf a m; ⟨u, e _ _ hu⟩) fun z => ⟨o, z ▸ h⟩
  fr := fun b u hb => hb.elim (fun hb => e _ _ (S.fr b u hb)) fun ⟨z, z'⟩ => by rw [z, z']; exact h
  new := fun b u hb => let ⟨u', hu⟩ := S.new b u hb; ⟨u', e _ _ hu⟩
theorem Sim.waits (S : Sim G (Z.wait p o) A γ σ H) : H p = some o := S.fr p o (.inr ⟨rfl, rfl⟩)
theorem Sim.wait_ne (S : Sim G (Z.wait p o) A γ σ H) : ∀ i, A i ≠ some p := fun i e => by
  obtain ⟨c, _, h, _⟩ := S.adr i p e
  exact h o (.inr ⟨rfl, rfl⟩)
/-- it waits no more -/
theorem Sim.drop (S : Sim G (Z.wait p o) A γ σ H) : Sim G Z A γ σ H where
  len := S.len
  cell := fun i c hc => by
    obtain ⟨x, h1, h2⟩ := S.cell i c hc
    exact ⟨x, h1, CellOk.keep (Z := Z.wait p o) (Z' := Z) rfl (fun p e1 => ⟨e1, fun _ z => z⟩) .refl (fun b u hb hm => (mz_wait b).mpr (.inl hm)) (fun _ _ _ z => z) h2⟩
  adr := fun i a hi => by
    obtain ⟨c, h1, h2, h3⟩ := S.adr i a hi
    refine ⟨c, h1, fun u hu => h2 u (.inl hu), ?_⟩
    obtain ⟨k, v⟩ := c
    cases k with
    | val => exact h3
    | own => exact ⟨h3.1, fun m => h3.2 (.inl m)⟩
    | lown => exact h3
    | io => exact ⟨h3.1, h3.2.elim (fun m => m) fun z => absurd hi (by rw [z]; exact S.wait_ne i)⟩
    | lio => exact h3
  inj := S.inj
  mf := fun a m => S.mf a (.inl m)
  fr := fun b u hb => S.fr b u (.inl hb)
  new := S.new
end
/-- what stands behind an expression: a value; or a new thing of which no one else knows (H0: the heap ahead of the step) -/
def HeldS (G : GG) (Z : Ent) (A : AM) (γ : Sg) (σ : L2.St) (H0 H : Hp) (c : Cell) (x : V) : Prop := match c.k with
  | .val => Sim G Z A γ σ H ∧ Rep G (Mz Z A) H c.v x
  | .own => ∃ a o, x = .ref a ∧ H0 a = none ∧ ¬ Z.Mf a ∧ Own G (Mz (Z.wait a o) A) H c.v a ∧ Sim G (Z.wait a o) A γ σ H
  | _ => False
section
variable {G : GG} {Z : Ent} {A A' : AM} {γ γ' : Sg} {σ σ' : L2.St} {H H' H0 H00 : Hp} {c : Cell} {x : V} {v : MV}
theorem _root_.Mi.Own.rep' {a : Addr} {o : HO} (h : Own G (Mz (Z.wait a o) A) H v a) (S : Sim G (Z.wait a o) A γ σ H) (n : ¬ Z.Mf a) : Rep G (Mz Z A) H v (.ref a) :=
  Own.rep (h.keep .refl (fun b _ _ m => (mz_wait b).mpr (.inl m)) fun _ z => z) fun m => m.elim n fun ⟨i, e⟩ => S.wait_ne i e
theorem HeldS.sim (h : HeldS G Z A γ σ H0 H c x) : Sim G Z A γ σ H := by
  obtain ⟨k, v⟩ := c
  cases k with
  | val => exact h.1
  | own =>
    obtain ⟨a, o, _, _, _, _, S⟩ := h
    exact S.drop
  | io => exact h.elim
  | lown => exact h.elim
  | lio => exact h.elim
theorem HeldS.rep (h : HeldS G Z A γ σ H0 H c x) : Rep G (Mz Z A) H c.v x := by
  obtain ⟨k, v⟩ := c
  cases k with
  | val => exact h.2
  | own =>
    obtain ⟨a, o, rfl, _, n, h, S⟩ := h
    exact (h.rep' S n)
  | io => exact h.elim
  | lown => exact h.elim
  | lio => exact h.elim
theorem HeldS.old (e : ∀ a, H0 a = none → H00 a = none) (h : HeldS G Z A γ σ H0 H c x) : HeldS G Z A γ σ H00 H c x := by
  obtain ⟨k, v⟩ := c
  cases k with
  | val => exact h
  | own =>
    obtain ⟨a, o, e1, n, r⟩ := h
    exact ⟨a, o, e1, e a n, r⟩
  | io => exact h.elim
  | lown => exact h.elim
  | lio => exact h.elim
theorem HeldS.val (S : Sim G Z A γ σ H) (h : Rep G (Mz Z A) H v x) : HeldS G Z A γ σ H0 H ⟨.val, v⟩ x := ⟨S, h⟩
end
/-- an exception in the heap -/
def ExRep (G : GG) (M : Addr → Prop) (H : Hp) (e : Ex) (cls : Value) (d : Option Addr) : Prop :=
  cls = .ref (He.ga G.K e.cls) ∧ match e.fs with
    | [] => d = none
    | fs => ∃ a vs, d = some a ∧ H a = some (.xd ((fs.map (·.1)).zip vs)) ∧ ¬ M a ∧ Reps G M H (fs.map (·.2)) vs
/-- what follows an exception -/
def EndX (G : GG) (Z : Ent) (W : WX) (A : AM) (σ : L2.St) (H : Hp) (e : Ex) (γ' : Sg) : Prop := ∀ A' H' cls d, Sim G Z A' γ' σ H' → Le A' A → Keep (Mz Z A) H H' → ExRep G (Mz Z A') H' e cls d → W cls d σ H'
/-- what follows an expression -/
def EndE (G : GG) (Z : Ent) (W : WX) (A : AM) (σ : L2.St) (H : Hp) (Q : VK) : R Cell → Prop
  | .ok c γ' => ∀ x A' H', HeldS G Z A' γ' σ H H' c x → Le A' A → Keep (Mz Z A) H H' → Q x H'
  | .ex e γ' => EndX G Z W A σ H e γ'
  | .no => False
def tME (G : GG) (f : FE) (W : WX) : TE := fun σ H Q => ∃ Z A γ, Sim G Z A γ σ H ∧ EndE G Z W A σ H Q (f γ)
def RE (X : Cx) (e : Expr) (f : FE) : Prop := ∀ W : WX, Takes X W → PE X e (tME (GX X) f W)
def EndT (G : GG) (Z : Ent) (W : WX) (A : AM) (σ : L2.St) (H : Hp) (Q : Bool → Hp → Prop) : R Bool → Prop
  | .ok b γ' => ∀ A' H', Sim G Z A' γ' σ H' → Le A' A → Keep (Mz Z A) H H' → Q b H'
  | .ex e γ' => EndX G Z W A σ H e γ'
  | .no => False
def tMT (G : GG) (f : FT) (W : WX) : TT := fun σ H Q => ∃ Z A γ, Sim G Z A γ σ H ∧ EndT G Z W A σ H Q (f γ)
def RT (X : Cx) (e : Expr) (f : FT) : Prop := ∀ W : WX, Takes X W → PT X e (tMT (GX X) f W)
def EndA (G : GG) (Z : Ent) (W : WX) (A : AM) (σ : L2.St) (H : Hp) (Q : List V → Hp → Prop) : R (List MV) → Prop
  | .ok ms γ' => ∀ xs A' H', Sim G Z A' γ' σ H' → Le A' A → Keep (Mz Z A) H H' → Reps G (Mz Z A') H' ms xs → Q xs H'
  | .ex e γ' => EndX G Z W A σ H e γ'
  | .no => False
def tMA (G : GG) (f : FA) (W : WX) : TA := fun σ H Q => ∃ Z A γ, Sim G Z A γ σ H ∧ EndA G Z W A σ H Q (f γ)
def RA (X : Cx) (es : List Expr) (f : FA) : Prop := ∀ W : WX, Takes X W → PA X es (tMA (GX X) f W)
def EndS (G : GG) (Z : Ent) (W : WX) (D : Ends) (A : AM) (H : Hp) : RO → Prop
  | .nx γ' => ∀ σ' A' H', Sim G Z A' γ' σ' H' → Stp Z A H A' H' → D.nx σ' H'
  | .rt c γ' => ∀ x σ' A' H', HeldS G Z A' γ' σ' Z.H0 H' c x → D.rt x H'
  | .bk γ' => ∀ σ' A' H', Sim G Z A' γ' σ' H' → Stp Z A H A' H' → D.bk σ' H'
  | .ct γ' => ∀ σ' A' H', Sim G Z A' γ' σ' H' → Stp Z A H A' H' → D.ct σ' H'
  | .ex e γ' => ∀ σ' A' H' cls d, Sim G Z A' γ' σ' H' → Stp Z A H A' H' → ExRep G (Mz Z A') H' e cls d → W cls d σ' H'
  | .no => False
theorem EndS.mono {G : GG} {Z : Ent} {W : WX} {D : Ends} {A A1 : AM} {H H1 : Hp} {r : RO} (s : Stp Z A H A1 H1) (h : EndS G Z W D A H r) : EndS G Z W D A1 H1 r := by
  cases r with
  | nx γ => exact fun σ' A' H' S s' => h σ' A' H' S (s.trans s')
  | rt c γ => exact h
  | bk γ => exact fun σ' A' H' S s' => h σ' A' H' S (s.trans s')
  | ct γ => exact fun σ' A' H' S s' => h σ' A' H' S (s.trans s')
  | ex e γ => exact fun σ' A' H' cls d S s' => h σ' A' H' cls d S (s.trans s')
  | no => exact h
/-- other ends -/
theorem EndS.imp {G : GG} {Z : Ent} {W W' : WX} {D D' : Ends} {A A1 : AM} {H H1 : Hp} {r : RO} (h : EndS G Z W D A H r) (hn : ∀ σ' H', D.nx σ' H' → D'.nx σ' H') (hr : ∀ x H', D.rt x H' → D'.rt x H') (hb : ∀ σ' H', D.bk σ' H' → D'.bk σ' H') (hc : ∀ σ' H', D.ct σ' H' → D'.ct σ' H') (hw : ∀ c d σ H, W c d σ H → W' c d σ H) : EndS G Z W' D' A H r := by
  cases r with
  | nx γ => exact fun σ' A' H' S s' => hn _ _ (h σ' A' H' S s')
  | rt c γ => exact fun x σ' A' H' hs => hr _ _ (h x σ' A' H' hs)
  | bk γ => exact fun σ' A' H' S s' => hb _ _ (h σ' A' H' S s')
  | ct γ => exact fun σ' A' H' S s' => hc _ _ (h σ' A' H' S s')
  | ex e γ => exact fun σ' A' H' cls d S s' xr => hw _ _ _ _ (h σ' A' H' cls d S s' xr)
  | no => exact h
def tMS (G : GG) (f : FS) (W : WX) : TS := fun D σ H => ∃ Z A γ, Sim G Z A γ σ H ∧ EndS G Z W D A H (f γ)
def RS (X : Cx) (st : Stmt) (f : FS) : Prop := ∀ W : WX, Takes X W → PS X st (tMS (GX X) f W)
def RSs (X : Cx) (st : List Stmt) (f : FS) : Prop := ∀ W : WX, Takes X W → PSs X st (tMS (GX X) f W)

/-! weaker readings -/
theorem PE_imp {X : Cx} {e : Expr} {t t' : TE} (h : PE X e t) (i : ∀ σ H Q, t' σ H Q → t σ H Q) : PE X e t' := ⟨fun pins s σ H Q I q => h.run pins s σ H Q I (i _ _ _ q)⟩
theorem PT_imp {X : Cx} {e : Expr} {t t' : TT} (h : PT X e t) (i : ∀ σ H Q, t' σ H Q → t σ H Q) : PT X e t' := ⟨fun pins s σ H Q I q => h.run pins s σ H Q I (i _ _ _ q)⟩
theorem PA_imp {X : Cx} {e : List Expr} {t t' : TA} (h : PA X e t) (i : ∀ σ H Q, t' σ H Q → t σ H Q) : PA X e t' := ⟨fun pos pins s σ H Q I q => h.run pos pins s σ H Q I (i _ _ _ q)⟩
theorem PS_imp {X : Cx} {e : Stmt} {t t' : TS} (h : PS X e t) (i : ∀ D σ H, t' D σ H → t D σ H) : PS X e t' := ⟨fun pins s σ H D I q => h.run pins s σ H D I (i _ _ _ q)⟩
theorem PSs_imp {X : Cx} {e : List Stmt} {t t' : TS} (h : PSs X e t) (i : ∀ D σ H, t' D σ H → t D σ H) : PSs X e t' := ⟨fun pins s σ H D I q => h.run pins s σ H D I (i _ _ _ q)⟩
end Mi

set_option Elab.async false
set_option linter.all false
set_option maxRecDepth 100000
set_option maxHeartbeats 4000000
/-! operands, operators -/
namespace Mi
open PySem PySem.Spec PyProof.Rows L2 My

/-! ### several things that wait -/
theorem wait_comm {Z : Ent} {a b : Addr} {o u : HO} : (Z.wait a o).wait b u = (Z.wait b u).wait a o := by
  refine Ent.ext' rfl ?_ ?_ rfl rfl
  · funext c
    unfold Ent.wait
    simp only [or_assoc, or_comm (a := c = a)]
  · funext c q
    unfold Ent.wait
    simp only [or_assoc, or_comm (a := c = a ∧ q = o)]
def Ent.waits (Z : Ent) : List (Addr × HO) → Ent
  | [] => Z
  | p :: l => (Z.waits l).wait p.1 p.2
theorem waits_wait {Z : Ent} {a : Addr} {o : HO} : ∀ l : List (Addr × HO), (Z.wait a o).waits l = (Z.waits l).wait a o
  | [] => rfl
  | p :: l => by
    simp only [Ent.waits]
    rw [waits_wait l, wait_comm]
theorem waits_mz {Z : Ent} {A : AM} : ∀ (l : List (Addr × HO)) (a : Addr), Mz (Z.waits l) A a ↔ Mz Z A a ∨ ∃ p ∈ l, a = p.1
  | [], a => by simp [Ent.waits]
  | p :: l, a => by
    simp only [Ent.waits]
    rw [mz_wait, waits_mz l]
    simp only [List.mem_cons, exists_eq_or_imp, or_assoc, or_comm (a := a = p.1)]
theorem waits_H0 {Z : Ent} : ∀ l : List (Addr × HO), (Z.waits l).H0 = Z.H0
  | [] => rfl
  | p :: l => waits_H0 l
theorem waits_Mf {Z : Ent} {a : Addr} : ∀ l : List (Addr × HO), Z.Mf a → (Z.waits l).Mf a
  | [], h => h
  | p :: l, h => .inl (waits_Mf l h)
section
variable {G : GG} {Z : Ent} {A A' A0 : AM} {γ γ' : Sg} {σ σ' : L2.St} {H H' H0 H00 : Hp} {c : Cell} {x : V} {v : MV} {l : List (Addr × HO)}
theorem Sim.drops : ∀ {l : List (Addr × HO)}, Sim G (Z.waits l) A γ σ H → Sim G Z A γ σ H
  | [], S => S
  | _ :: _, S => Sim.drops (l := _) (Sim.drop S)
theorem Rep.drops (h : Rep G (Mz (Z.waits l) A) H v x) : Rep G (Mz Z A) H v x := h.less fun b m => (waits_mz l b).mpr (.inl m)
theorem HeldS.drops (h : HeldS G (Z.waits l) A γ σ H0 H c x) : HeldS G Z A γ σ H0 H c x := by
  obtain ⟨k, v⟩ := c
  cases k with
  | val => exact ⟨h.1.drops, h.2.drops⟩
  | own =>
    obtain ⟨a, o, e, n, nm, h1, S⟩ := h
    refine ⟨a, o, e, n, fun m => nm (waits_Mf l m), h1.keep .refl (fun b _ _ m => ?_) fun _ z => z, ?_⟩
    · rw [mz_wait] at m ⊢
      exact m.imp_left fun m => (waits_mz l b).mpr (.inl m)
    · rw [← waits_wait] at S
      exact S.drops
  | io => exact h.elim
  | lown => exact h.elim
  | lio => exact h.elim

/-- a value that was reckoned earlier, and is still known -/
def Hold (G : GG) (Z : Ent) (A : AM) (H : Hp) (v : MV) (x : V) : Prop := Rep G (Mz Z A) H v x ∨ ∃ a o, x = .ref a ∧ Z.F a o ∧ Own G (Mz Z A) H v a
theorem Hold.step (h : Hold G Z A H v x) (S : Sim G Z A γ σ H) (S' : Sim G Z A' γ' σ' H') (le : Le A' A) (k : Keep (Mz Z A) H H') : Hold G Z A' H' v x := by
  rcases h with h | ⟨a, o, e, f, h⟩
  · exact .inl (h.keep k fun b _ _ m => le.mz b m)
  · refine .inr ⟨a, o, e, f, h.keep k (fun b _ _ m => le.mz b m) fun u hu => ?_⟩
    have := S.fr a o f
    rw [this] at hu
    cases hu
    exact S'.fr a o f
theorem Hold.wait (h : Hold G Z A H v x) (S : Sim G Z A γ σ H) {a : Addr} {o : HO} (e : Same H H') (n : H a = none) : Hold G (Z.wait a o) A H' v x := by
  have m : ∀ b u, H b = some u → Mz (Z.wait a o) A b → Mz Z A b := fun b u hb m => ((mz_wait b).mp m).elim (fun m => m) fun z => by rw [z, n] at hb; cases hb
  rcases h with h | ⟨b, u, e1, f, h⟩
  · exact .inl (h.keep (.of_same e) m)
  · exact .inr ⟨b, u, e1, .inl f, h.keep (.of_same e) m fun _ z => e _ _ z⟩
theorem Hold.repB (h : Hold G Z A H v x) : RepB G (Mz Z A) H v x := h.imp_right fun ⟨a, _, e, _, h⟩ => ⟨a, e, h⟩
theorem Keep.waits (k : Keep (Mz (Z.waits l) A) H H') (n : ∀ p ∈ l, H0 p.1 = none) (k0 : Keep (Mz Z A0) H0 H) (le : Le A A0) : Keep (Mz Z A0) H0 H' :=
  k0.trans k fun b o hb m => by
    rcases (waits_mz l b).mp m with m | ⟨p, hp, rfl⟩
    · exact le.mz b m
    · rw [n p hp] at hb; cases hb
end

/-! ### operands: a slot that is looked at where it is needed, or an expression -/
inductive Opd where
  | sl (i : Nat) | ex (f : FE)
def oEv : Opd → FE
  | .sl i, γ => match γ[i]? with
    | some (some c) => .ok c γ
    | _ => .no
  | .ex f, γ => f γ
def oGet : Opd → Cell → Sg → Option MV
  | .sl i, _, γ => match γ[i]? with
    | some (some c) => some c.v
    | _ => none
  | .ex _, c, _ => some c.v
def HeldQ (G : GG) (Z : Ent) (A : AM) (γ : Sg) (σ : L2.St) (H0 H : Hp) (o : Opd) (c : Cell) (x : V) : Prop := match o with
  | .sl i => Sim G Z A γ σ H ∧ σ[i]? = some (some x)
  | .ex _ => HeldS G Z A γ σ H0 H c x
def EndQ (G : GG) (Z : Ent) (W : WX) (A : AM) (σ : L2.St) (H : Hp) (Q : VK) (o : Opd) : R Cell → Prop
  | .ok c γ' => ∀ x A' H', HeldQ G Z A' γ' σ H H' o c x → Le A' A → Keep (Mz Z A) H H' → Q x H'
  | .ex e γ' => EndX G Z W A σ H e γ'
  | .no => False
def tMQ (G : GG) (o : Opd) (W : WX) : TE := fun σ H Q => ∃ Z A γ, Sim G Z A γ σ H ∧ EndQ G Z W A σ H Q o (oEv o γ)
def RQ (X : Cx) (e : Expr) (o : Opd) : Prop := ∀ W : WX, Takes X W → PE X e (tMQ (GX X) o W)
section
variable {X : Cx} {e : Expr} {f : FE} {i : Nat}
theorem rq_ex (h : RE X e f) : RQ X e (.ex f) := h
theorem rq_sl (h : PE X e (tVar i)) : RQ X e (.sl i) := fun W tk => PE_imp h fun σ H Q ⟨Z, A, γ, S, h⟩ => by
  show ∃ v, _ ∧ _
  unfold oEv at h
  simp only at h
  cases e1 : γ[i]? with
  | none => rw [e1] at h; exact h.elim
  | some o =>
    cases o with
    | none => rw [e1] at h; exact h.elim
    | some c =>
      rw [e1] at h
      obtain ⟨x, h1, h2⟩ := S.cell i c e1
      exact ⟨x, h1, h x A H ⟨S, h1⟩ .refl .refl⟩
end
/-- between two operands -/
structure Stg (G : GG) (Z : Ent) (A0 : AM) (H0 : Hp) (l : List (Addr × HO)) (A : AM) (γ : Sg) (σ : L2.St) (H : Hp) : Prop where
  sim : Sim G (Z.waits l) A γ σ H
  le : Le A A0
  kp : Keep (Mz Z A0) H0 H
  nw : ∀ p ∈ l, H0 p.1 = none
/-- what is known of an operand later on -/
def Later (G : GG) (Z : Ent) (A : AM) (γ : Sg) (σ : L2.St) (H : Hp) (o : Opd) (c : Cell) (x : V) : Prop := match o with
  | .sl i => σ[i]? = some (some x)
  | .ex _ => Hold G Z A H c.v x
section
variable {G : GG} {Z : Ent} {A A' A0 : AM} {γ γ' : Sg} {σ σ' : L2.St} {H H' H0 H00 : Hp} {c d : Cell} {x y : V} {v : MV} {l : List (Addr × HO)} {o q : Opd} {W : WX}
theorem Stg.start (S : Sim G Z A γ σ H) : Stg G Z A H [] A γ σ H := ⟨S, .refl, .refl, fun _ h => nomatch h⟩
theorem Later.step (h : Later G Z A γ σ H o c x) (S : Sim G Z A γ σ H) (S' : Sim G Z A' γ' σ H') (le : Le A' A) (k : Keep (Mz Z A) H H') : Later G Z A' γ' σ H' o c x := by
  cases o with
  | sl i => exact h
  | ex f => exact Hold.step h S S' le k
theorem Later.repB (h : Later G Z A γ σ H o c x) (S : Sim G Z A γ σ H) (e : oGet o c γ = some v) : RepB G (Mz Z A) H v x := by
  cases o with
  | ex f =>
    have e : some c.v = some v := e
    cases e
    exact h.repB
  | sl i =>
    unfold oGet at e
    simp only at e
    split at e
    · rename_i c' hc
      cases e
      obtain ⟨y, h1, h2⟩ := S.cell i c' hc
      have h : σ[i]? = some (some x) := h
      rw [h] at h1
      cases h1
      exact h2.repB
    · cases e
/-- one operand more. Next: what is left to do -/
theorem Stg.run (T : Stg G Z A0 H0 l A γ σ H) {Q : VK}
    (h : match oEv o γ with
      | .ok c γ' => ∀ x l' A' H', Stg G Z A0 H0 l' A' γ' σ H' → (∀ q d y, Later G (Z.waits l) A γ σ H q d y → Later G (Z.waits l') A' γ' σ H' q d y) → Later G (Z.waits l') A' γ' σ H' o c x → Q x H'
      | .ex e γ' => EndX G Z W A0 σ H0 e γ'
      | .no => False) : tMQ G o W σ H Q := by
  refine ⟨Z.waits l, A, γ, T.sim, ?_⟩
  cases e1 : oEv o γ with
  | no => rw [e1] at h; exact h
  | ex e γ' =>
    rw [e1] at h
    intro A' H' cls d S le k xr
    refine h A' H' cls d S.drops (le.trans T.le) (k.waits T.nw T.kp T.le) ?_
    obtain ⟨h1, h2⟩ := xr
    refine ⟨h1, ?_⟩
    cases e2 : e.fs with
    | nil => rw [e2] at h2; exact h2
    | cons p ps =>
      rw [e2] at h2
      obtain ⟨a, vs, z1, z2, z3, z4⟩ := h2
      exact ⟨a, vs, z1, z2, fun m => z3 ((waits_mz l a).mpr (.inl m)), z4.keep .refl fun b _ _ m => (waits_mz l b).mpr (.inl m)⟩
  | ok c γ' =>
    rw [e1] at h
    intro x A' H' hq le k
    cases o with
    | sl i =>
      have e2 : γ' = γ := by
        unfold oEv at e1
        simp only at e1
        split at e1
        · cases e1; rfl
        · cases e1
      exact h x l A' H' ⟨hq.1, le.trans T.le, k.waits T.nw T.kp T.le, T.nw⟩ (fun q d y z => z.step T.sim hq.1 le k) hq.2
    | ex f =>
      have hq : HeldS G (Z.waits l) A' γ' σ H H' c x := hq
      obtain ⟨kk, v⟩ := c
      cases kk with
      | val => exact h x l A' H' ⟨hq.1, le.trans T.le, k.waits T.nw T.kp T.le, T.nw⟩ (fun q d y z => z.step T.sim hq.1 le k) (.inl hq.2)
      | own =>
        obtain ⟨a, ob, rfl, n, nm, h1, S⟩ := hq
        have n0 : H0 a = none := T.kp.isnone n
        refine h (.ref a) ((a, ob) :: l) A' H' ⟨S, le.trans T.le, k.waits T.nw T.kp T.le, fun p hp => ?_⟩ (fun q d y z => ?_) (.inr ⟨a, ob, rfl, .inr ⟨rfl, rfl⟩, h1⟩)
        · rcases List.mem_cons.mp hp with rfl | hp
          · exact n0
          · exact T.nw p hp
        · cases q with
          | sl i => exact z
          | ex f' =>
            show Hold _ _ _ _ _ _
            have z : Hold G (Z.waits l) A H d.v y := z
            have m : ∀ b u, H b = some u → Mz ((Z.waits l).wait a ob) A' b → Mz (Z.waits l) A b := fun b u hb m => ((mz_wait b).mp m).elim (fun m => le.mz b m) fun z => by rw [z, n] at hb; cases hb
            rcases z with z | ⟨b, u, e1, f1, z⟩
            · exact .inl (z.keep k m)
            · refine .inr ⟨b, u, e1, .inl f1, z.keep k m fun u' hu => ?_⟩
              have := T.sim.fr b u f1
              rw [this] at hu
              cases hu
              exact S.fr b u (.inl f1)
      | io => exact hq.elim
      | lown => exact hq.elim
      | lio => exact hq.elim
end

/-- what an operation gives: a value, or a new thing -/
def Res (G : GG) (M : Addr → Prop) (H H' : Hp) (c : Cell) (z : V) : Prop := match c.k with
  | .val => Rep G M H' c.v z
  | .own => ∃ a, z = .ref a ∧ H a = none ∧ Own G (fun b => M b ∨ b = a) H' c.v a
  | _ => False
section
variable {G : GG} {Z : Ent} {A A' A0 : AM} {γ γ' : Sg} {σ σ' : L2.St} {H H' H0 H00 : Hp} {c d : Cell} {x y z : V} {v : MV} {l : List (Addr × HO)} {W : WX}
theorem Res.held (S : Sim G Z A γ σ H) (e : Same H H') (r : Res G (Mz Z A) H H' c z) : HeldS G Z A γ σ H H' c z := by
  obtain ⟨k, v⟩ := c
  cases k with
  | val => exact ⟨S.same e, r⟩
  | own =>
    obtain ⟨a, rfl, n, h⟩ := r
    obtain ⟨o, ho⟩ := h.on
    refine ⟨a, o, rfl, n, fun m => ?_, h.keep .refl (fun b _ _ m => (mz_wait b).mp m) fun _ z => z, S.wait e n ho⟩
    obtain ⟨u, hu⟩ := S.mf a m
    rw [n] at hu
    cases hu
  | io => exact r.elim
  | lown => exact r.elim
  | lio => exact r.elim
/-- the end of an operation behind its operands -/
theorem Stg.fin (T : Stg G Z A0 H0 l A γ σ H) {Q : VK} (e : Same H H') (r : Res G (Mz (Z.waits l) A) H H' c z) (h : EndE G Z W A0 σ H0 Q (.ok c γ)) : Q z H' :=
  h z A H' ((r.held T.sim e).drops.old fun a n => T.kp.isnone n) T.le (Keep.waits (.of_same e) T.nw T.kp T.le)
end
/-- a place of two values, of one -/
def Op2 (X : Cx) (f : Value → Value → Sem Value) (g : MV → MV → Option Cell) : Prop :=
  ∃ r : R2, OpR X f r ∧ ∀ M v w c x y H Q, Trk M H → g v w = some c → RepB (GX X) M H v x → RepB (GX X) M H w y → (∀ z H', Same H H' → Res (GX X) M H H' c z → Q z H') → r x y H Q
def e2 (g : MV → MV → Option Cell) (o q : Opd) : FE := fun γ => match oEv o γ with
  | .ok c γ1 => (match oEv q γ1 with
    | .ok d γ2 => (match oGet o c γ2, oGet q d γ2 with
      | some v, some w => (match g v w with
        | some u => .ok u γ2
        | none => .no)
      | _, _ => .no)
    | .ex e γ2 => .ex e γ2
    | .no => .no)
  | .ex e γ1 => .ex e γ1
  | .no => .no
def e1 (g : MV → Option Cell) (o : Opd) : FE := fun γ => match oEv o γ with
  | .ok c γ1 => (match oGet o c γ1 with
    | some v => (match g v with
      | some u => .ok u γ1
      | none => .no)
    | none => .no)
  | .ex e γ1 => .ex e γ1
  | .no => .no
section
variable {X : Cx} {a b : Expr} {o q : Opd} {pos : Pos} {g : MV → MV → Option Cell} {g1 : MV → Option Cell}
/-- two operands, then what is asked of both -/
theorem two {r : R2} {W : WX} {σ : L2.St} {H : Hp} {Q : VK} (hr : ∀ M v w c x y H Q, Trk M H → g v w = some c → RepB (GX X) M H v x → RepB (GX X) M H w y → (∀ z H', Same H H' → Res (GX X) M H H' c z → Q z H') → r x y H Q)
    (h : tME (GX X) (e2 g o q) W σ H Q) : tMQ (GX X) o W σ H fun x H1 => tMQ (GX X) q W σ H1 fun y H2 => r x y H2 Q := by
  obtain ⟨Z, A, γ, S, h⟩ := h
  refine (Stg.start S).run ?_
  unfold e2 at h
  cases E1 : oEv o γ with
  | no => rw [E1] at h; exact h
  | ex e γ1 => rw [E1] at h; exact h
  | ok c γ1 =>
    rw [E1] at h
    simp only at h ⊢
    intro x l1 A1 H1 T1 _ L1
    refine T1.run ?_
    cases E2 : oEv q γ1 with
    | no => rw [E2] at h; exact h
    | ex e γ2 => rw [E2] at h; exact h
    | ok d γ2 =>
      rw [E2] at h
      simp only at h ⊢
      intro y l2 A2 H2 T2 up L2
      have L1' := up _ _ _ L1
      cases E3 : oGet o c γ2 with
      | none => rw [E3] at h; exact h.elim
      | some v =>
        cases E4 : oGet q d γ2 with
        | none => rw [E3, E4] at h; exact h.elim
        | some w =>
          rw [E3, E4] at h
          simp only at h
          cases E5 : g v w with
          | none => rw [E5] at h; exact h.elim
          | some u =>
            rw [E5] at h
            exact hr _ v w u x y H2 Q T2.sim.trk E5 (L1'.repB T2.sim E3) (L2.repB T2.sim E4) fun z H' e r => T2.fin e r h
theorem one {r : V → Hp → VK → Prop} {W : WX} {σ : L2.St} {H : Hp} {Q : VK} (hr : ∀ M v c x H Q, Trk M H → g1 v = some c → RepB (GX X) M H v x → (∀ z H', Same H H' → Res (GX X) M H H' c z → Q z H') → r x H Q)
    (h : tME (GX X) (e1 g1 o) W σ H Q) : tMQ (GX X) o W σ H fun x H1 => r x H1 Q := by
  obtain ⟨Z, A, γ, S, h⟩ := h
  refine (Stg.start S).run ?_
  unfold e1 at h
  cases E1 : oEv o γ with
  | no => rw [E1] at h; exact h
  | ex e γ1 => rw [E1] at h; exact h
  | ok c γ1 =>
    rw [E1] at h
    simp only at h ⊢
    intro x l1 A1 H1 T1 _ L1
    cases E3 : oGet o c γ1 with
    | none => rw [E3] at h; exact h.elim
    | some v =>
      rw [E3] at h
      simp only at h
      cases E5 : g1 v with
      | none => rw [E5] at h; exact h.elim
      | some u =>
        rw [E5] at h
        exact hr _ v u x H1 Q T1.sim.trk E5 (L1.repB T1.sim E3) fun z H' e r => T1.fin e r h
theorem re_bin {op : Operator} (P : Op2 X (binaryOp op) g) (ha : RQ X a o) (hb : RQ X b q) : RE X (.BinOp a op b pos) (e2 g o q) := fun W tk => by
  obtain ⟨r, hr, hm⟩ := P
  exact PE_imp (pe_op hr (ha W tk) (hb W tk)) fun σ H Q h => two hm h
theorem re_cmp {op : CmpOp} (P : Op2 X (compareOp op) g) (ha : RQ X a o) (hb : RQ X b q) (hm : behindInMarks op b = false) : RE X (.Compare a [op] [b] pos) (e2 g o q) := fun W tk => by
  obtain ⟨r, hr, hm'⟩ := P
  exact PE_imp (pe_cmpR hr (ha W tk) (hb W tk) hm) fun σ H Q h => two hm' h
def Op1 (X : Cx) (f : Value → Sem Value) (g : MV → Option Cell) : Prop :=
  ∃ r : V → Hp → VK → Prop, UnR X f r ∧ ∀ M v c x H Q, Trk M H → g v = some c → RepB (GX X) M H v x → (∀ z H', Same H H' → Res (GX X) M H H' c z → Q z H') → r x H Q
theorem re_un {op : UnaryOp} (P : Op1 X (unaryOp op) g1) (ha : RQ X a o) : RE X (.UnaryOp op a pos) (e1 g1 o) := fun W tk => by
  obtain ⟨r, hr, hm⟩ := P
  exact PE_imp (pe_un hr (ha W tk)) fun σ H Q h => one hm h
end
end Mi

set_option Elab.async false
set_option linter.all false
set_option maxRecDepth 100000
set_option maxHeartbeats 4000000
/-! names, constants, tests, displays, subscripts -/
namespace Mi
open PySem PySem.Spec PyProof.Rows L2 My

/-! ### names -/
def AM.del (A : AM) (i : Nat) : AM := fun j => if j = i then none else A j
theorem AM.del_le {A : AM} {i : Nat} : Le (A.del i) A := fun j a h => by
  unfold AM.del at h
  split at h
  · cases h
  · exact h
theorem AM.del_ne {A : AM} {i j : Nat} (h : j ≠ i) : A.del i j = A j := if_neg h
theorem AM.del_eq {A : AM} {i : Nat} : A.del i i = none := if_pos rfl
def eVar (i : Nat) : FE := fun γ => match γ[i]? with
  | some (some ⟨.val, v⟩) => .ok ⟨.val, v⟩ γ
  | some (some ⟨.own, v⟩) => .ok ⟨.val, v⟩ (γ.set i (some ⟨.val, v⟩))
  | _ => .no
def eC (v : MV) : FE := fun γ => .ok ⟨.val, v⟩ γ
section
variable {G : GG} {Z : Ent} {A A' A0 : AM} {γ γ' : Sg} {σ σ' : L2.St} {H H' H0 H00 : Hp} {c d : Cell} {x y z : V} {v : MV} {l : List (Addr × HO)} {W : WX}
/-- a list of one's own that is handed on stays as it is from then on -/
theorem Sim.freeze {i : Nat} (S : Sim G Z A γ σ H) (hi : γ[i]? = some (some ⟨.own, v⟩)) : ∃ a, σ[i]? = some (some (.ref a)) ∧ A i = some a ∧ Sim G Z (A.del i) (γ.set i (some ⟨.val, v⟩)) σ H ∧ Rep G (Mz Z (A.del i)) H v (.ref a) := by
  have hlt : i < γ.length := (List.getElem?_eq_some_iff.mp hi).1
  obtain ⟨x, h1, a, e, rfl, h2⟩ := S.cell i _ hi
  obtain ⟨c', hc', nf, hk⟩ := S.adr i a e
  rw [hi] at hc'
  cases hc'
  have less : ∀ b, Mz Z (A.del i) b → Mz Z A b := fun b m => AM.del_le.mz b m
  have na : ¬ Mz Z (A.del i) a := fun m => m.elim hk.2 fun ⟨j, hj⟩ => by
    have hji : j ≠ i := fun z => by rw [z, AM.del_eq] at hj; cases hj
    rw [AM.del_ne hji] at hj
    exact hji (S.inj j i a hj e)
  have rp : Rep G (Mz Z (A.del i)) H v (.ref a) := Own.rep (h2.keep .refl (fun b _ _ m => less b m) fun _ z => z) na
  refine ⟨a, h1, e, ⟨by rw [List.length_set]; exact S.len, fun j c hj => ?_, fun j b hj => ?_, fun j k b hj hk => S.inj j k b (AM.del_le j b hj) (AM.del_le k b hk), S.mf, S.fr, S.new⟩, rp⟩
  · by_cases hji : j = i
    · subst hji
      rw [List.getElem?_set_self hlt] at hj
      cases hj
      exact ⟨_, h1, AM.del_eq, rp⟩
    · rw [List.getElem?_set_ne (Ne.symm hji)] at hj
      obtain ⟨y, h3, h4⟩ := S.cell j c hj
      exact ⟨y, h3, S.cellLe (AM.del_ne hji) less h4⟩
  · have hji : j ≠ i := fun z => by rw [z, AM.del_eq] at hj; cases hj
    rw [AM.del_ne hji] at hj
    rw [List.getElem?_set_ne (Ne.symm hji)]
    exact S.adr j b hj
theorem EndE.var {i : Nat} {Q : VK} (S : Sim G Z A γ σ H) (h : EndE G Z W A σ H Q (eVar i γ)) : ∃ x, σ[i]? = some (some x) ∧ Q x H := by
  unfold eVar at h
  cases e : γ[i]? with
  | none => rw [e] at h; exact h.elim
  | some o =>
    cases o with
    | none => rw [e] at h; exact h.elim
    | some c =>
      rw [e] at h
      obtain ⟨k, v⟩ := c
      cases k with
      | val =>
        obtain ⟨x, h1, _, h2⟩ := S.cell i _ e
        exact ⟨x, h1, h x A H ⟨S, h2⟩ .refl .refl⟩
      | own =>
        obtain ⟨a, h1, _, S', h2⟩ := S.freeze e
        exact ⟨_, h1, h _ _ H ⟨S', h2⟩ AM.del_le .refl⟩
      | io => exact h.elim
      | lown => exact h.elim
      | lio => exact h.elim
end
section
variable {X : Cx} {a b e : Expr} {es : List Expr} {f : FE} {fa : FA} {o q : Opd} {pos : Pos} {g : MV → MV → Option Cell} {g1 : MV → Option Cell} {x : Str}
theorem re_var {i : Nat} (h : PE X e (tVar i)) : RE X e (eVar i) := fun W tk => PE_imp h fun σ H Q ⟨Z, A, γ, S, h⟩ => EndE.var S h
theorem re_const {u : V} {v : MV} (h : PE X e (tC u)) (r : ∀ M H, Rep (GX X) M H v u) : RE X e (eC v) := fun W tk => PE_imp h fun σ H Q ⟨Z, A, γ, S, h⟩ =>
  h u A H ⟨S, r _ _⟩ .refl .refl
theorem re_int {i j} : RE X (.Constant (.int i) j pos) (eC (.int i)) := re_const pe_int fun _ _ => by simp only [Rep]
theorem re_bl {b j} : RE X (.Constant (.bool b) j pos) (eC (.bl b)) := re_const pe_bl fun _ _ => by simp only [Rep]
theorem re_non {j} : RE X (.Constant .none j pos) (eC .non) := re_const pe_non fun _ _ => by simp only [Rep]
theorem re_str {x j} : RE X (.Constant (.str x) j pos) (eC (.str x)) := re_const pe_str fun _ _ => by simp only [Rep]
/-- a module's constant -/
theorem re_gint {i : Int} (hg : Gl X x) (hm : ∃ t, X.mg x = some (.int i t)) (hd : (x == ("__debug__" : Str)) = false := by decide) : RE X (.Name x pos) (eC (.int i)) := by
  obtain ⟨t, hm⟩ := hm
  exact re_const (pe_glob hg hm (v := .int i) ⟨t, rfl⟩ hd) fun _ _ => by simp only [Rep]
theorem re_gstr {i : Str} (hg : Gl X x) (hm : ∃ t, X.mg x = some (.str i t)) (hd : (x == ("__debug__" : Str)) = false := by decide) : RE X (.Name x pos) (eC (.str i)) := by
  obtain ⟨t, hm⟩ := hm
  exact re_const (pe_glob hg hm (v := .str i) ⟨t, rfl⟩ hd) fun _ _ => by simp only [Rep]

/-! ### tests -/
def truM : MV → Option Bool
  | .non => some false
  | .bl b => some b
  | .int i => some (i != 0)
  | .str y => if y.length ≤ sizeLine then some ((y.length : Int) != 0) else none
  | .tup xs => some (!xs.isEmpty)
  | .lst xs => some (!xs.isEmpty)
  | _ => none
theorem Reps.isEmpty {G : GG} {M : Addr → Prop} {H : Hp} {ms : List MV} {vs : List V} (h : Reps G M H ms vs) : vs.isEmpty = ms.isEmpty := by
  cases ms with
  | nil => simp only [Reps] at h; rw [h]; rfl
  | cons m ms =>
    simp only [Reps] at h
    obtain ⟨v, r, rfl, _, _⟩ := h
    rfl
theorem truM_ok {G : GG} {M : Addr → Prop} {H : Hp} {v : MV} {x : V} {k : Bool} (h : RepB G M H v x) (e : truM v = some k) : TruV G.K x H k := by
  cases v with
  | non => rcases h with h | ⟨a, _, h⟩ <;> simp only [Rep, Own] at h; subst h; cases e; rfl
  | bl b => rcases h with h | ⟨a, _, h⟩ <;> simp only [Rep, Own] at h; subst h; cases e; rfl
  | int b => rcases h with h | ⟨a, _, h⟩ <;> simp only [Rep, Own] at h; subst h; cases e; rfl
  | str b =>
    rcases h with h | ⟨a, _, h⟩ <;> simp only [Rep, Own] at h
    subst h
    unfold truM at e
    simp only at e
    split at e
    · rename_i hl
      cases e
      exact ⟨hl, rfl⟩
    · cases e
  | tup ms =>
    rcases h with h | ⟨a, _, h⟩ <;> simp only [Rep, Own] at h
    obtain ⟨a, vs, rfl, h1, h2⟩ := h
    cases e
    exact .inr (.inl ⟨vs, h1.sq, by rw [h2.isEmpty]⟩)
  | lst ms =>
    cases e
    rcases h with h | ⟨a, rfl, h⟩ <;> simp only [Rep, Own] at h
    · obtain ⟨a, vs, rfl, h1, _, h2⟩ := h
      exact .inl ⟨vs, h1.sq, by rw [h2.isEmpty]⟩
    · obtain ⟨vs, h1, h2⟩ := h
      exact .inl ⟨vs, .of h1, by rw [h2.isEmpty]⟩
  | dk _ _ => cases e
  | dn _ _ => cases e
  | ins _ _ => cases e
def tQ (o : Opd) : FT := fun γ => match oEv o γ with
  | .ok c γ1 => (match oGet o c γ1 with
    | some v => (match truM v with
      | some b => .ok b γ1
      | none => .no)
    | none => .no)
  | .ex e γ1 => .ex e γ1
  | .no => .no
/-- a value that must be a truth value, as a test -/
def tB (f : FE) : FT := fun γ => match f γ with
  | .ok ⟨.val, .bl b⟩ γ1 => .ok b γ1
  | .ex e γ1 => .ex e γ1
  | _ => .no
theorem Stg.finT {G : GG} {Z : Ent} {A A0 : AM} {γ : Sg} {σ : L2.St} {H H0 : Hp} {l : List (Addr × HO)} {W : WX} {Q : Bool → Hp → Prop} {b : Bool} (T : Stg G Z A0 H0 l A γ σ H) (h : EndT G Z W A0 σ H0 Q (.ok b γ)) : Q b H :=
  h A H T.sim.drops T.le T.kp
theorem rt_q (ha : RQ X e o) (he : ∀ whole, isTrue e X.env whole = (do let v ← whole; standAt e.pos; holding [v] (truthy v))) : RT X e (tQ o) := fun W tk => by
  refine PT_imp (pt_truth (ha W tk) he) fun σ H Q ⟨Z, A, γ, S, h⟩ => ?_
  refine (Stg.start S).run ?_
  unfold tQ at h
  cases E1 : oEv o γ with
  | no => rw [E1] at h; exact h
  | ex e γ1 => rw [E1] at h; exact h
  | ok c γ1 =>
    rw [E1] at h
    simp only at h ⊢
    intro x l1 A1 H1 T1 _ L1
    cases E3 : oGet o c γ1 with
    | none => rw [E3] at h; exact h.elim
    | some v =>
      rw [E3] at h
      simp only at h
      cases E5 : truM v with
      | none => rw [E5] at h; exact h.elim
      | some u =>
        rw [E5] at h
        exact ⟨u, truM_ok (G := GX X) (L1.repB T1.sim E3) E5, T1.finT h⟩
theorem tB_of {Z : Ent} {A : AM} {σ : L2.St} {H : Hp} {W : WX} {Q : Bool → Hp → Prop} {r : R Cell} {γ : Sg} (f : FE) (S : Sim (GX X) Z A γ σ H) (h : EndT (GX X) Z W A σ H Q (tB f γ)) : EndE (GX X) Z W A σ H (fun x H' => ∃ c, x = .bl c ∧ Q c H') (f γ) := by
  unfold tB at h
  cases E1 : f γ with
  | no => rw [E1] at h; exact h
  | ex e γ1 => rw [E1] at h; exact h
  | ok c γ1 =>
    rw [E1] at h
    obtain ⟨k, v⟩ := c
    cases k with
    | val =>
      cases v with
      | bl b =>
        intro x A' H' hs le kp
        have hr := hs.2
        simp only [Rep] at hr
        exact ⟨b, hr, h A' H' hs.1 le kp⟩
      | _ => exact h.elim
    | own => cases v <;> exact h.elim
    | io => cases v <;> exact h.elim
    | lown => cases v <;> exact h.elim
    | lio => cases v <;> exact h.elim
theorem rt_cmp {op : CmpOp} (P : Op2 X (compareOp op) g) (ha : RQ X a o) (hb : RQ X b q) (hm : behindInMarks op b = false) : RT X (.Compare a [op] [b] pos) (tB (e2 g o q)) := fun W tk => by
  obtain ⟨r, hr, hm'⟩ := P
  refine PT_imp (pt_cmpR hr (ha W tk) (hb W tk) hm) fun σ H Q ⟨Z, A, γ, S, h⟩ => ?_
  exact two hm' ⟨Z, A, γ, S, tB_of (r := .no) _ S h⟩
def tNt (f : FT) : FT := fun γ => match f γ with
  | .ok b γ1 => .ok (!b) γ1
  | .ex e γ1 => .ex e γ1
  | .no => .no
theorem rt_not {t : FT} (h : RT X a t) : RT X (.UnaryOp .Not a pos) (tNt t) := fun W tk => PT_imp (pt_not (h W tk)) fun σ H Q ⟨Z, A, γ, S, h⟩ => by
  refine ⟨Z, A, γ, S, ?_⟩
  unfold tNt at h
  cases E1 : t γ with
  | no => rw [E1] at h; exact h
  | ex e γ1 => rw [E1] at h; exact h
  | ok c γ1 => rw [E1] at h; exact h
def RW (X : Cx) (e : Expr) (f : FT) : Prop := ∀ W : WX, Takes X W → PW X e (tMT (GX X) f W)
def tAn (f g : FT) : FT := fun γ => match f γ with
  | .ok true γ1 => g γ1
  | r => r
def tOrr (f g : FT) : FT := fun γ => match f γ with
  | .ok false γ1 => g γ1
  | r => r
theorem EndT.mono {G : GG} {Z : Ent} {A A' : AM} {γ : Sg} {σ : L2.St} {H H' : Hp} {W : WX} {Q : Bool → Hp → Prop} {r : R Bool} (le : Le A' A) (k : Keep (Mz Z A) H H') (h : EndT G Z W A σ H Q r) : EndT G Z W A' σ H' Q r := by
  have k2 : ∀ {H2 : Hp}, Keep (Mz Z A') H' H2 → Keep (Mz Z A) H H2 := fun k' => k.trans k' fun b _ _ m => le.mz b m
  cases r with
  | no => exact h
  | ok b γ' => exact fun A2 H2 S le2 kk => h A2 H2 S (le2.trans le) (k2 kk)
  | ex e γ' => exact fun A2 H2 cls d S le2 kk => h A2 H2 cls d S (le2.trans le) (k2 kk)
theorem EndE.mono {G : GG} {Z : Ent} {A A' : AM} {σ : L2.St} {H H' : Hp} {W : WX} {Q : VK} {r : R Cell} (le : Le A' A) (k : Keep (Mz Z A) H H') (h : EndE G Z W A σ H Q r) : EndE G Z W A' σ H' Q r := by
  have k2 : ∀ {H2 : Hp}, Keep (Mz Z A') H' H2 → Keep (Mz Z A) H H2 := fun k' => k.trans k' fun b _ _ m => le.mz b m
  cases r with
  | no => exact h
  | ok b γ' => exact fun x A2 H2 hs le2 kk => h x A2 H2 (hs.old fun a n => k.isnone n) (le2.trans le) (k2 kk)
  | ex e γ' => exact fun A2 H2 cls d S le2 kk => h A2 H2 cls d S (le2.trans le) (k2 kk)
theorem EndA.mono {G : GG} {Z : Ent} {A A' : AM} {σ : L2.St} {H H' : Hp} {W : WX} {Q : List V → Hp → Prop} {r : R (List MV)} (le : Le A' A) (k : Keep (Mz Z A) H H') (h : EndA G Z W A σ H Q r) : EndA G Z W A' σ H' Q r := by
  have k2 : ∀ {H2 : Hp}, Keep (Mz Z A') H' H2 → Keep (Mz Z A) H H2 := fun k' => k.trans k' fun b _ _ m => le.mz b m
  cases r with
  | no => exact h
  | ok b γ' => exact fun x A2 H2 S le2 kk => h x A2 H2 S (le2.trans le) (k2 kk)
  | ex e γ' => exact fun A2 H2 cls d S le2 kk => h A2 H2 cls d S (le2.trans le) (k2 kk)
/-- a test, then what follows -/
theorem EndT.then {G : GG} {Z : Ent} {A : AM} {γ : Sg} {σ : L2.St} {H : Hp} {W : WX} {Q Q' : Bool → Hp → Prop} {r : R Bool} (h : EndT G Z W A σ H Q r) (i : ∀ b γ' A' H', r = .ok b γ' → Sim G Z A' γ' σ H' → Le A' A → Keep (Mz Z A) H H' → Q b H' → Q' b H') : EndT G Z W A σ H Q' r := by
  cases r with
  | no => exact h
  | ok b γ' => exact fun A2 H2 S le2 kk => i b γ' A2 H2 rfl S le2 kk (h A2 H2 S le2 kk)
  | ex e γ' => exact h
theorem rw_and1 {t : FT} (h : RT X a t) : RW X (.BoolOp .And [a] pos) t := fun W tk => pw_and1 (h W tk)
theorem rw_or1 {t : FT} (h : RT X a t) : RW X (.BoolOp .Or [a] pos) t := fun W tk => pw_or1 (h W tk)
theorem PW_imp {X : Cx} {e : Expr} {t t' : TT} (h : PW X e t) (i : ∀ σ H Q, t' σ H Q → t σ H Q) : PW X e t' := ⟨fun wh pins s σ H Q I q => h.run wh pins s σ H Q I (i _ _ _ q)⟩
theorem rw_and {t u : FT} {rest : List Expr} (ha : RT X a t) (hb : RW X (.BoolOp .And (b :: rest) pos) u) : RW X (.BoolOp .And (a :: b :: rest) pos) (tAn t u) := fun W tk =>
  PW_imp (pw_and (ha W tk) (hb W tk)) fun σ H Q ⟨Z, A, γ, S, h⟩ => by
    refine ⟨Z, A, γ, S, ?_⟩
    unfold tAn at h
    cases E1 : t γ with
    | no => rw [E1] at h; exact h
    | ex e γ1 => rw [E1] at h; exact h
    | ok c γ1 =>
      rw [E1] at h
      intro A' H' S' le k
      cases c with
      | true =>
        simp only [if_true]
        exact ⟨Z, A', γ1, S', EndT.mono (γ := γ) le k h⟩
      | false => exact h A' H' S' le k
theorem rw_or {t u : FT} {rest : List Expr} (ha : RT X a t) (hb : RW X (.BoolOp .Or (b :: rest) pos) u) : RW X (.BoolOp .Or (a :: b :: rest) pos) (tOrr t u) := fun W tk =>
  PW_imp (pw_or (ha W tk) (hb W tk)) fun σ H Q ⟨Z, A, γ, S, h⟩ => by
    refine ⟨Z, A, γ, S, ?_⟩
    unfold tOrr at h
    cases E1 : t γ with
    | no => rw [E1] at h; exact h
    | ex e γ1 => rw [E1] at h; exact h
    | ok c γ1 =>
      rw [E1] at h
      intro A' H' S' le k
      cases c with
      | false =>
        simp only [Bool.false_eq_true, if_false]
        exact ⟨Z, A', γ1, S', EndT.mono (γ := γ) le k h⟩
      | true => exact h A' H' S' le k
theorem rt_w {t : FT} (h : RW X a t) : RT X a t := fun W tk => (h W tk).pt
/-! as values -/
def eAn (f g : FE) : FE := fun γ => match f γ with
  | .ok ⟨.val, .bl true⟩ γ1 => g γ1
  | .ok ⟨.val, .bl false⟩ γ1 => .ok ⟨.val, .bl false⟩ γ1
  | .ok _ _ => .no
  | r => r
def eOr (f g : FE) : FE := fun γ => match f γ with
  | .ok ⟨.val, .bl true⟩ γ1 => .ok ⟨.val, .bl true⟩ γ1
  | .ok ⟨.val, .bl false⟩ γ1 => g γ1
  | .ok _ _ => .no
  | r => r
def eNt (f : FE) : FE := fun γ => match f γ with
  | .ok ⟨.val, .bl b⟩ γ1 => .ok ⟨.val, .bl (!b)⟩ γ1
  | .ok _ _ => .no
  | r => r
theorem re_one {op : BoolOp} (h : RE X a f) : RE X (.BoolOp op [a] pos) f := fun W tk => pe_one (h W tk)
theorem re_and {f2 : FE} {rest : List Expr} (ha : RE X a f) (hb : RE X (.BoolOp .And (b :: rest) pos) f2) : RE X (.BoolOp .And (a :: b :: rest) pos) (eAn f f2) := fun W tk =>
  PE_imp (pe_and (ha W tk) (hb W tk)) fun σ H Q ⟨Z, A, γ, S, h⟩ => by
    refine ⟨Z, A, γ, S, ?_⟩
    unfold eAn at h
    cases E1 : f γ with
    | no => rw [E1] at h; exact h
    | ex e γ1 => rw [E1] at h; exact h
    | ok c γ1 =>
      rw [E1] at h
      obtain ⟨k, v⟩ := c
      cases k with
      | val =>
        cases v with
        | bl b =>
          intro x A' H' hs le kp
          have hr := hs.2
          simp only [Rep] at hr
          cases b with
          | true => exact ⟨true, hr, ⟨Z, A', γ1, hs.1, EndE.mono le kp h⟩⟩
          | false => exact ⟨false, hr, h (.bl false) A' H' ⟨hs.1, by simp only [Rep]⟩ le kp⟩
        | _ => exact h.elim
      | own => cases v <;> exact h.elim
      | io => cases v <;> exact h.elim
      | lown => cases v <;> exact h.elim
      | lio => cases v <;> exact h.elim
theorem re_or {f2 : FE} {rest : List Expr} (ha : RE X a f) (hb : RE X (.BoolOp .Or (b :: rest) pos) f2) : RE X (.BoolOp .Or (a :: b :: rest) pos) (eOr f f2) := fun W tk =>
  PE_imp (pe_or (ha W tk) (hb W tk)) fun σ H Q ⟨Z, A, γ, S, h⟩ => by
    refine ⟨Z, A, γ, S, ?_⟩
    unfold eOr at h
    cases E1 : f γ with
    | no => rw [E1] at h; exact h
    | ex e γ1 => rw [E1] at h; exact h
    | ok c γ1 =>
      rw [E1] at h
      obtain ⟨k, v⟩ := c
      cases k with
      | val =>
        cases v with
        | bl b =>
          intro x A' H' hs le kp
          have hr := hs.2
          simp only [Rep] at hr
          cases b with
          | true => exact ⟨true, hr, h (.bl true) A' H' ⟨hs.1, by simp only [Rep]⟩ le kp⟩
          | false => exact ⟨false, hr, ⟨Z, A', γ1, hs.1, EndE.mono le kp h⟩⟩
        | _ => exact h.elim
      | own => cases v <;> exact h.elim
      | io => cases v <;> exact h.elim
      | lown => cases v <;> exact h.elim
      | lio => cases v <;> exact h.elim
theorem re_not (ha : RE X a f) : RE X (.UnaryOp .Not a pos) (eNt f) := fun W tk =>
  PE_imp (pe_not (ha W tk)) fun σ H Q ⟨Z, A, γ, S, h⟩ => by
    refine ⟨Z, A, γ, S, ?_⟩
    unfold eNt at h
    cases E1 : f γ with
    | no => rw [E1] at h; exact h
    | ex e γ1 => rw [E1] at h; exact h
    | ok c γ1 =>
      rw [E1] at h
      obtain ⟨k, v⟩ := c
      cases k with
      | val =>
        cases v with
        | bl b =>
          intro x A' H' hs le kp
          have hr := hs.2
          simp only [Rep] at hr
          exact ⟨b, hr, h (.bl (!b)) A' H' ⟨hs.1, by simp only [Rep]⟩ le kp⟩
        | _ => exact h.elim
      | own => cases v <;> exact h.elim
      | io => cases v <;> exact h.elim
      | lown => cases v <;> exact h.elim
      | lio => cases v <;> exact h.elim
/-! ### a if t else b -/
def eIf (t : FT) (f g : FE) : FE := fun γ => match t γ with
  | .ok true γ1 => f γ1
  | .ok false γ1 => g γ1
  | .ex e γ1 => .ex e γ1
  | .no => .no
theorem re_if {t : FT} {f2 : FE} (ht : RT X e t) (ha : RE X a f) (hb : RE X b f2) : RE X (.IfExp e a b pos) (eIf t f f2) := fun W tk =>
  PE_imp (pe_ifExp (ht W tk) (ha W tk) (hb W tk)) fun σ H Q ⟨Z, A, γ, S, h⟩ => by
    refine ⟨Z, A, γ, S, ?_⟩
    unfold eIf at h
    cases E1 : t γ with
    | no => rw [E1] at h; exact h
    | ex e γ1 => rw [E1] at h; exact h
    | ok c γ1 =>
      rw [E1] at h
      intro A' H' S' le k
      cases c with
      | true =>
        simp only [if_true]
        exact ⟨Z, A', γ1, S', EndE.mono le k h⟩
      | false =>
        simp only [Bool.false_eq_true, if_false]
        exact ⟨Z, A', γ1, S', EndE.mono le k h⟩
/-! ### lists of arguments, displays -/
def aNil : FA := fun γ => .ok [] γ
def aCons (f : FE) (r : FA) : FA := fun γ => match f γ with
  | .ok c γ1 => (match r γ1 with
    | .ok ms γ2 => .ok (c.v :: ms) γ2
    | .ex e γ2 => .ex e γ2
    | .no => .no)
  | .ex e γ1 => .ex e γ1
  | .no => .no
theorem ra_nil : RA X [] aNil := fun W tk => PA_imp pa_nil fun σ H Q ⟨Z, A, γ, S, h⟩ => h [] A H S .refl .refl Reps.nil
theorem ra_cons (ha : RE X a f) (hr : RA X es fa) (hs : starEach (a :: es) X.env = (false, eval a X.env) :: starEach es X.env := by rfl) : RA X (a :: es) (aCons f fa) := fun W tk =>
  PA_imp (pa_cons (ha W tk) (hr W tk) hs) fun σ H Q ⟨Z, A, γ, S, h⟩ => by
    refine ⟨Z, A, γ, S, ?_⟩
    unfold aCons at h
    cases E1 : f γ with
    | no => rw [E1] at h; exact h
    | ex e γ1 => rw [E1] at h; exact h
    | ok c γ1 =>
      rw [E1] at h
      simp only at h
      intro x A1 H1 hs le k
      refine ⟨Z, A1, γ1, hs.sim, ?_⟩
      cases E2 : fa γ1 with
      | no => rw [E2] at h; exact h
      | ex e γ2 =>
        rw [E2] at h
        exact fun A2 H2 cls d S le2 kk => h A2 H2 cls d S (le2.trans le) (k.trans kk fun b _ _ m => le.mz b m)
      | ok ms γ2 =>
        rw [E2] at h
        intro xs A2 H2 S2 le2 kk r2
        exact h (x :: xs) A2 H2 S2 (le2.trans le) (k.trans kk fun b _ _ m => le.mz b m) (Reps.consI (hs.rep.keep kk fun b _ _ m => le2.mz b m) r2)
/-- so many -/
def Lim (n : Nat) (fa : FA) : Prop := ∀ γ ms γ', fa γ = .ok ms γ' → ms.length = n
theorem lim_nil : Lim 0 aNil := fun γ ms γ' h => by
  unfold aNil at h
  cases h
  rfl
theorem lim_cons {n : Nat} (h : Lim n fa) : Lim (n + 1) (aCons f fa) := fun γ ms γ' e => by
  unfold aCons at e
  split at e
  · split at e
    · rename_i E
      cases e
      rw [List.length_cons, h _ _ _ E]
    · cases e
    · cases e
  · cases e
  · cases e
def eTup (fa : FA) : FE := fun γ => match fa γ with
  | .ok ms γ1 => .ok ⟨.val, .tup ms⟩ γ1
  | .ex e γ1 => .ex e γ1
  | .no => .no
def eLst (fa : FA) : FE := fun γ => match fa γ with
  | .ok ms γ1 => .ok ⟨.own, .lst ms⟩ γ1
  | .ex e γ1 => .ex e γ1
  | .no => .no
theorem re_tup {x1} {n : Nat} (ha : RA X es fa) (hn : Lim n fa) (hz : n ≤ 1000 := by decide) : RE X (.Tuple es x1 pos) (eTup fa) := fun W tk =>
  PE_imp (pe_tup (ha W tk)) fun σ H Q ⟨Z, A, γ, S, h⟩ => by
    refine ⟨Z, A, γ, S, ?_⟩
    unfold eTup at h
    cases E1 : fa γ with
    | no => rw [E1] at h; exact h
    | ex e γ1 => rw [E1] at h; exact h
    | ok ms γ1 =>
      rw [E1] at h
      intro xs A1 H1 S1 le k r
      refine ⟨by rw [r.len, hn _ _ _ E1, sizeLine_eq]; omega, fun p np => ?_⟩
      have e : Same H1 (upd H1 p (.tup xs)) := same_new np
      refine h (.ref p) A1 _ ⟨S1.same e, ?_⟩ le (k.trans (Keep.of_same e) fun b _ _ m => le.mz b m)
      simp only [Rep]
      exact ⟨p, xs, rfl, .inl ⟨.inl upd_same, S1.trk.new np⟩, r.same e⟩
theorem Res.newList {M : Addr → Prop} {H : Hp} {p : Addr} {ms : List MV} {xs : List V} (np : H p = none) (r : Reps (GX X) M H ms xs) : Res (GX X) M H (upd H p (.lst xs)) ⟨.own, .lst ms⟩ (.ref p) := by
  refine ⟨p, rfl, np, ?_⟩
  simp only [Own]
  refine ⟨xs, upd_same, r.keep (.of_same (same_new np)) fun b o hb m => ?_⟩
  rcases m with m | rfl
  · exact m
  · rw [np] at hb; cases hb
theorem re_lst {n : Nat} (ha : RA X es fa) (hn : Lim n fa) (hz : n ≤ 1000 := by decide) : RE X (.List es pos) (eLst fa) := fun W tk =>
  PE_imp (pe_lst (ha W tk)) fun σ H Q ⟨Z, A, γ, S, h⟩ => by
    refine ⟨Z, A, γ, S, ?_⟩
    unfold eLst at h
    cases E1 : fa γ with
    | no => rw [E1] at h; exact h
    | ex e γ1 => rw [E1] at h; exact h
    | ok ms γ1 =>
      rw [E1] at h
      intro xs A1 H1 S1 le k r
      refine ⟨by rw [r.len, hn _ _ _ E1, sizeLine_eq]; omega, fun p np => ?_⟩
      have e : Same H1 (upd H1 p (.lst xs)) := same_new np
      have r2 : HeldS (GX X) Z A1 γ1 σ H1 _ ⟨.own, .lst ms⟩ (.ref p) := Res.held S1 e (Res.newList np r)
      exact h (.ref p) A1 _ (r2.old fun a n => k.isnone n) le (k.trans (Keep.of_same e) fun b _ _ m => le.mz b m)
/-! ### subscripts -/
def ixM : MV → MV → Option Cell
  | .lst xs, .int i => (atI xs i).map fun v => ⟨.val, v⟩
  | .tup xs, .int i => (atI xs i).map fun v => ⟨.val, v⟩
  | .str z, .int i => if z.length ≤ sizeLine then (atI z.cps.toList i).map fun c => ⟨.val, .str ⟨#[c]⟩⟩ else none
  | _, _ => none
theorem Reps.at_ {G : GG} {M : Addr → Prop} {H : Hp} {ms : List MV} {vs : List V} {i : Int} {m : MV} (h : Reps G M H ms vs) (e : atI ms i = some m) : ∃ v, atI vs i = some v ∧ Rep G M H m v := by
  unfold atI at e ⊢
  rw [h.len]
  cases E : ixN ms.length i with
  | none => rw [E] at e; cases e
  | some j =>
    rw [E] at e
    exact h.get e
theorem re_ix (ha : RQ X a o) (hb : RQ X b q) (hs : PlainIx b := by intro _ _; rfl) : RE X (.Subscript a b pos) (e2 ixM o q) := fun W tk => by
  refine PE_imp (pe_ix ix_seq (ha W tk) (hb W tk) hs) fun σ H Q h => two (fun M v w c x y H Q tr e rv rw q => ?_) h
  cases v with
  | lst xs =>
    cases w with
    | int i =>
      rcases rw with rw | ⟨_, _, rw⟩ <;> simp only [Rep, Own] at rw
      subst rw
      unfold ixM at e
      simp only [Option.map_eq_some_iff] at e
      obtain ⟨m, e, rfl⟩ := e
      rcases rv with rv | ⟨p, rfl, rv⟩ <;> simp only [Rep, Own] at rv
      · obtain ⟨p, vs, rfl, h1, _, h2⟩ := rv
        obtain ⟨z, e1, r⟩ := h2.at_ e
        exact .inl ⟨p, vs, i, z, rfl, rfl, h1.sq, e1, q z H (.refl _) r⟩
      · obtain ⟨vs, h1, h2⟩ := rv
        obtain ⟨z, e1, r⟩ := h2.at_ e
        exact .inl ⟨p, vs, i, z, rfl, rfl, .of h1, e1, q z H (.refl _) r⟩
    | _ => cases e
  | tup xs =>
    cases w with
    | int i =>
      rcases rw with rw | ⟨_, _, rw⟩ <;> simp only [Rep, Own] at rw
      subst rw
      unfold ixM at e
      simp only [Option.map_eq_some_iff] at e
      obtain ⟨m, e, rfl⟩ := e
      rcases rv with rv | ⟨p, _, rv⟩ <;> simp only [Rep, Own] at rv
      obtain ⟨p, vs, rfl, h1, h2⟩ := rv
      obtain ⟨z, e1, r⟩ := h2.at_ e
      exact .inr (.inl ⟨p, vs, i, z, rfl, rfl, h1.sq, e1, q z H (.refl _) r⟩)
    | _ => cases e
  | str s =>
    cases w with
    | int i =>
      rcases rw with rw | ⟨_, _, rw⟩ <;> simp only [Rep, Own] at rw
      subst rw
      rcases rv with rv | ⟨p, _, rv⟩ <;> simp only [Rep, Own] at rv
      subst rv
      unfold ixM at e
      simp only at e
      split at e
      · rename_i hl
        simp only [Option.map_eq_some_iff] at e
        obtain ⟨m, e, rfl⟩ := e
        exact .inr (.inr ⟨s, i, m, rfl, rfl, hl, e, q _ H (.refl _) (by show Rep _ _ _ _ _; simp only [Rep])⟩)
      · cases e
    | _ => cases e
  | _ => cases w <;> cases e
end
end Mi

set_option Elab.async false
set_option linter.all false
set_option maxRecDepth 100000
set_option maxHeartbeats 4000000
/-! statements -/
namespace Mi
open PySem PySem.Spec PyProof.Rows L2 My

def AM.put (A : AM) (i : Nat) (a : Addr) : AM := fun j => if j = i then some a else A j
theorem AM.put_ne {A : AM} {i j : Nat} {a : Addr} (h : j ≠ i) : A.put i a j = A j := if_neg h
theorem AM.put_eq {A : AM} {i : Nat} {a : Addr} : A.put i a i = some a := if_pos rfl
/-- a slot that may be stored into -/
def canSet (γ : Sg) (i : Nat) : Bool := match γ[i]? with
  | some none => true
  | some (some ⟨.val, _⟩) => true
  | some (some ⟨.own, _⟩) => true
  | _ => false
theorem canSet_lt {γ : Sg} {i : Nat} (h : canSet γ i = true) : i < γ.length := by
  unfold canSet at h
  rcases Nat.lt_or_ge i γ.length with h1 | h1
  · exact h1
  · rw [List.getElem?_eq_none h1] at h; cases h
section
variable {G : GG} {Z : Ent} {A A' A0 : AM} {γ γ' : Sg} {σ σ' : L2.St} {H H' H0 H00 : Hp} {c d : Cell} {x y z : V} {v : MV} {W : WX}
/-- a slot is forgotten, whatever it held -/
theorem Sim.clear {i : Nat} (S : Sim G Z A γ σ H) : Sim G Z (A.del i) (γ.set i none) σ H := by
  have less : ∀ b, Mz Z (A.del i) b → Mz Z A b := fun b m => AM.del_le.mz b m
  refine ⟨by rw [List.length_set]; exact S.len, fun j c hj => ?_, fun j b hj => ?_, fun j k b hj hk => S.inj j k b (AM.del_le j b hj) (AM.del_le k b hk), S.mf, S.fr, S.new⟩
  · by_cases hji : j = i
    · subst hji
      rw [List.getElem?_set] at hj
      simp only [if_true] at hj
      split at hj <;> cases hj
    · rw [List.getElem?_set_ne (Ne.symm hji)] at hj
      obtain ⟨y, h3, h4⟩ := S.cell j c hj
      exact ⟨y, h3, S.cellLe (AM.del_ne hji) less h4⟩
  · have hji : j ≠ i := fun z => by rw [z, AM.del_eq] at hj; cases hj
    rw [AM.del_ne hji] at hj
    rw [List.getElem?_set_ne (Ne.symm hji)]
    exact S.adr j b hj
/-- a value comes to a slot -/
theorem Sim.setVal {i : Nat} (S : Sim G Z A γ σ H) (hl : i < γ.length) (r : Rep G (Mz Z A) H v x) : Sim G Z (A.del i) (γ.set i (some ⟨.val, v⟩)) (σ.set i (some x)) H := by
  have less : ∀ b, Mz Z (A.del i) b → Mz Z A b := fun b m => AM.del_le.mz b m
  have hs : i < σ.length := by rw [← S.len]; exact hl
  refine ⟨by rw [List.length_set, List.length_set]; exact S.len, fun j c hj => ?_, fun j b hj => ?_, fun j k b hj hk => S.inj j k b (AM.del_le j b hj) (AM.del_le k b hk), S.mf, S.fr, S.new⟩
  · by_cases hji : j = i
    · subst hji
      rw [List.getElem?_set_self hl] at hj
      cases hj
      exact ⟨x, List.getElem?_set_self hs, AM.del_eq, r.less less⟩
    · rw [List.getElem?_set_ne (Ne.symm hji)] at hj ⊢
      obtain ⟨y, h3, h4⟩ := S.cell j c hj
      exact ⟨y, h3, S.cellLe (AM.del_ne hji) less h4⟩
  · have hji : j ≠ i := fun z => by rw [z, AM.del_eq] at hj; cases hj
    rw [AM.del_ne hji] at hj
    rw [List.getElem?_set_ne (Ne.symm hji)]
    exact S.adr j b hj
/-- a new thing comes to a slot -/
theorem Sim.setOwn {i : Nat} {a : Addr} {o : HO} (S : Sim G (Z.wait a o) A γ σ H) (hl : i < γ.length) (h0 : Z.H0 a = none) (nm : ¬ Z.Mf a) (nf : ∀ o, ¬ Z.F a o) (r : Own G (Mz (Z.wait a o) A) H v a) :
    Sim G Z (A.put i a) (γ.set i (some ⟨.own, v⟩)) (σ.set i (some (.ref a))) H := by
  have less : ∀ b, Mz Z (A.put i a) b → Mz (Z.wait a o) A b := fun b m => (mz_wait b).mpr (m.elim (fun m => .inl (.inl m)) fun ⟨j, hj⟩ => by
    by_cases hji : j = i
    · rw [hji, AM.put_eq] at hj
      cases hj
      exact .inr rfl
    · rw [AM.put_ne hji] at hj
      exact .inl (.inr ⟨j, hj⟩))
  have hs : i < σ.length := by rw [← S.len]; exact hl
  refine ⟨by rw [List.length_set, List.length_set]; exact S.len, fun j c hj => ?_, fun j b hj => ?_, fun j k b hj hk => ?_, S.drop.mf, S.drop.fr, S.new⟩
  · by_cases hji : j = i
    · subst hji
      rw [List.getElem?_set_self hl] at hj
      cases hj
      exact ⟨_, List.getElem?_set_self hs, a, AM.put_eq, rfl, r.keep .refl (fun b _ _ m => less b m) fun _ z => z⟩
    · rw [List.getElem?_set_ne (Ne.symm hji)] at hj ⊢
      obtain ⟨y, h3, h4⟩ := S.cell j c hj
      exact ⟨y, h3, CellOk.keep (Z := Z.wait a o) (Z' := Z) (AM.put_ne hji) (fun p e => ⟨e, fun _ z => z⟩) .refl (fun b _ _ m => less b m) (fun _ _ _ z => z) h4⟩
  · by_cases hji : j = i
    · subst hji
      rw [AM.put_eq] at hj
      cases hj
      exact ⟨_, List.getElem?_set_self hl, nf, h0, nm⟩
    · rw [AM.put_ne hji] at hj
      rw [List.getElem?_set_ne (Ne.symm hji)]
      exact S.drop.adr j b hj
  · by_cases hji : j = i
    · by_cases hki : k = i
      · rw [hji, hki]
      · rw [hji, AM.put_eq] at hj
        cases hj
        rw [AM.put_ne hki] at hk
        exact absurd hk (S.wait_ne k)
    · rw [AM.put_ne hji] at hj
      by_cases hki : k = i
      · rw [hki, AM.put_eq] at hk
        cases hk
        exact absurd hj (S.wait_ne j)
      · rw [AM.put_ne hki] at hk
        exact S.inj j k b hj hk
/-- what an expression gave comes to a slot -/
theorem HeldS.store {i : Nat} (S0 : Sim G Z A0 γ' σ' H0) (h : HeldS G Z A γ σ H0 H c x) (hl : i < γ.length) : ∃ A', Sim G Z A' (γ.set i (some c)) (σ.set i (some x)) H ∧ ∀ b o, H0 b = some o → Mz Z A' b → Mz Z A b := by
  obtain ⟨k, v⟩ := c
  cases k with
  | val => exact ⟨_, h.1.setVal hl h.2, fun b _ _ m => AM.del_le.mz b m⟩
  | own =>
    obtain ⟨a, o, rfl, n, nm, r, S⟩ := h
    refine ⟨_, S.setOwn hl (S0.h0 n) nm (S0.nF n) r, fun b o hb m => m.elim .inl fun ⟨j, hj⟩ => ?_⟩
    by_cases hji : j = i
    · rw [hji, AM.put_eq] at hj
      cases hj
      rw [n] at hb
      cases hb
    · rw [AM.put_ne hji] at hj
      exact .inr ⟨j, hj⟩
  | io => exact h.elim
  | lown => exact h.elim
  | lio => exact h.elim
end

/-! ### blocks -/
def sNil : FS := fun γ => .nx γ
def sSeq (f g : FS) : FS := fun γ => match f γ with
  | .nx γ1 => g γ1
  | r => r
def PO' (X : Cx) : Prop := PassesOwn (model X.prog X.w) X.A X.env X.xe
/-- statements stand where exceptions pass -/
def QS (X : Cx) (st : Stmt) (f : FS) : Prop := PO' X → RS X st f
def QSs (X : Cx) (st : List Stmt) (f : FS) : Prop := PO' X → RSs X st f
section
variable {X : Cx} {a b e : Expr} {es : List Expr} {f : FE} {fa : FA} {o q : Opd} {pos : Pos} {g : MV → MV → Option Cell} {g1 : MV → Option Cell} {x : Str} {st : Stmt} {sts sts2 : List Stmt} {s s2 : FS} {t : FT}
theorem qs_nil : QSs X [] sNil := fun _ W tk => PSs_imp pss_nil fun D σ H ⟨Z, A, γ, S, h⟩ => h σ A H S .refl
theorem qs_cons (h1 : QS X st s) (h2 : QSs X sts s2) : QSs X (st :: sts) (sSeq s s2) := fun po W tk => PSs_imp (pss_cons (h1 po W tk) (h2 po W tk)) fun D σ H ⟨Z, A, γ, S, h⟩ => by
  refine ⟨Z, A, γ, S, ?_⟩
  unfold sSeq at h
  cases E : s γ with
  | nx γ1 =>
    rw [E] at h
    exact fun σ' A' H' S' s' => ⟨Z, A', γ1, S', h.mono s'⟩
  | rt c γ1 => rw [E] at h; exact h
  | bk γ1 => rw [E] at h; exact h
  | ct γ1 => rw [E] at h; exact h
  | ex e γ1 => rw [E] at h; exact h
  | no => rw [E] at h; exact h
theorem qs_one (h1 : QS X st s) : QSs X [st] s := fun po W tk => pss_one (h1 po W tk)
theorem qs_pass : QS X (.Pass pos) sNil := fun _ W tk => PS_imp ps_pass fun D σ H ⟨Z, A, γ, S, h⟩ => h σ A H S .refl
def sBreak : FS := fun γ => .bk γ
def sCont : FS := fun γ => .ct γ
theorem qs_break : QS X (.Break pos) sBreak := fun _ W tk => PS_imp ps_break fun D σ H ⟨Z, A, γ, S, h⟩ => h σ A H S .refl
theorem qs_cont : QS X (.Continue pos) sCont := fun _ W tk => PS_imp ps_continue fun D σ H ⟨Z, A, γ, S, h⟩ => h σ A H S .refl
def sExpr (f : FE) : FS := fun γ => match f γ with
  | .ok _ γ1 => .nx γ1
  | .ex e γ1 => .ex e γ1
  | .no => .no
theorem qs_expr (ha : RE X e f) (hs : swapsWith e none pos.line X.env = pure false := by rfl) : QS X (.Expr e pos) (sExpr f) := fun _ W tk => PS_imp (ps_expr (ha W tk) hs) fun D σ H ⟨Z, A, γ, S, h⟩ => by
  refine ⟨Z, A, γ, S, ?_⟩
  unfold sExpr at h
  cases E : f γ with
  | ok c γ1 => rw [E] at h; exact fun x A' H' hs le k => h σ A' H' hs.sim (.of le k)
  | ex e γ1 => rw [E] at h; exact fun A' H' cls d S' le k xr => h σ A' H' cls d S' (.of le k) xr
  | no => rw [E] at h; exact h
def sRet (f : FE) : FS := fun γ => match f γ with
  | .ok c γ1 => .rt c γ1
  | .ex e γ1 => .ex e γ1
  | .no => .no
theorem qs_ret (ha : RE X e f) : QS X (.Return (some e) pos) (sRet f) := fun _ W tk => PS_imp (ps_ret (ha W tk)) fun D σ H ⟨Z, A, γ, S, h⟩ => by
  refine ⟨Z, A, γ, S, ?_⟩
  unfold sRet at h
  cases E : f γ with
  | ok c γ1 => rw [E] at h; exact fun x A' H' hs le k => h x σ A' H' (hs.old fun a n => S.h0 n)
  | ex e γ1 => rw [E] at h; exact fun A' H' cls d S' le k xr => h σ A' H' cls d S' (.of le k) xr
  | no => rw [E] at h; exact h
def sRetN : FS := fun γ => .rt ⟨.val, .non⟩ γ
theorem qs_retN : QS X (.Return none pos) sRetN := fun _ W tk => PS_imp ps_retN fun D σ H ⟨Z, A, γ, S, h⟩ => h .non σ A H ⟨S, by simp only [Rep]⟩
/-- a list of one's own is handed out -/
def sRetV (i : Nat) : FS := fun γ => match γ[i]? with
  | some (some ⟨.val, v⟩) => .rt ⟨.val, v⟩ γ
  | some (some ⟨.own, v⟩) => .rt ⟨.own, v⟩ (γ.set i none)
  | _ => .no
theorem qs_retV {i : Nat} (ha : PE X e (tVar i)) : QS X (.Return (some e) pos) (sRetV i) := fun _ W tk => PS_imp (ps_ret ha) fun D σ H ⟨Z, A, γ, S, h⟩ => by
  show ∃ v, _ ∧ _
  unfold sRetV at h
  cases E : γ[i]? with
  | none => rw [E] at h; exact h.elim
  | some o =>
    cases o with
    | none => rw [E] at h; exact h.elim
    | some c =>
      rw [E] at h
      obtain ⟨k, v⟩ := c
      cases k with
      | val =>
        obtain ⟨x, h1, _, h2⟩ := S.cell i _ E
        exact ⟨x, h1, h x σ A H ⟨S, h2⟩⟩
      | own =>
        obtain ⟨x, h1, a, e, rfl, h2⟩ := S.cell i _ E
        obtain ⟨c', hc', nf, hk⟩ := S.adr i a e
        rw [E] at hc'
        cases hc'
        obtain ⟨o, ho⟩ := h2.on
        refine ⟨_, h1, h (.ref a) σ (A.del i) H ⟨a, o, rfl, hk.1, hk.2, ?_, ?_⟩⟩
        · refine h2.keep .refl (fun b _ _ m => ?_) fun _ z => z
          rcases (mz_wait b).mp m with m | rfl
          · exact AM.del_le.mz b m
          · exact .inr ⟨i, e⟩
        · have less : ∀ b, Mz (Z.wait a o) (A.del i) b → Mz Z A b := fun b m => ((mz_wait b).mp m).elim (fun m => AM.del_le.mz b m) fun z => .inr ⟨i, z ▸ e⟩
          refine ⟨by rw [List.length_set]; exact S.len, fun j c hj => ?_, fun j b hj => ?_, fun j k b hj hk => S.inj j k b (AM.del_le j b hj) (AM.del_le k b hk),
            fun b m => m.elim (S.mf b) fun z => ⟨o, z ▸ ho⟩, fun b u hb => hb.elim (S.fr b u) fun ⟨z, z'⟩ => by rw [z, z']; exact ho, S.new⟩
          · by_cases hji : j = i
            · subst hji
              rw [List.getElem?_set] at hj
              simp only [if_true] at hj
              split at hj <;> cases hj
            · rw [List.getElem?_set_ne (Ne.symm hji)] at hj
              obtain ⟨y, h3, h4⟩ := S.cell j c hj
              exact ⟨y, h3, CellOk.keep (Z := Z) (Z' := Z.wait a o) (AM.del_ne hji) (fun p e => ⟨e, fun _ z => z⟩) .refl (fun b _ _ m => less b m) (fun _ _ _ z => z) h4⟩
          · have hji : j ≠ i := fun z => by rw [z, AM.del_eq] at hj; cases hj
            rw [AM.del_ne hji] at hj
            rw [List.getElem?_set_ne (Ne.symm hji)]
            obtain ⟨c, h3, h4, h5⟩ := S.adr j b hj
            have nb : b ≠ a := fun z => hji (S.inj j i a (z ▸ hj) e)
            refine ⟨c, h3, fun u hu => hu.elim (h4 u) fun z => nb z.1, ?_⟩
            obtain ⟨k, w⟩ := c
            cases k with
            | val => exact h5
            | own => exact ⟨h5.1, fun m => m.elim h5.2 nb⟩
            | lown => exact h5
            | io => exact ⟨h5.1, .inl h5.2⟩
            | lio => exact h5
      | io => exact h.elim
      | lown => exact h.elim
      | lio => exact h.elim
def sIf (t : FT) (s s2 : FS) : FS := fun γ => match t γ with
  | .ok true γ1 => s γ1
  | .ok false γ1 => s2 γ1
  | .ex e γ1 => .ex e γ1
  | .no => .no
theorem qs_if (ht : RT X e t) (h1 : QSs X sts s) (h2 : QSs X sts2 s2) : QS X (.If e sts sts2 pos) (sIf t s s2) := fun po W tk => PS_imp (ps_if (ht W tk) (h1 po W tk) (h2 po W tk)) fun D σ H ⟨Z, A, γ, S, h⟩ => by
  refine ⟨Z, A, γ, S, ?_⟩
  unfold sIf at h
  cases E : t γ with
  | no => rw [E] at h; exact h
  | ex e γ1 => rw [E] at h; exact fun A' H' cls d S' le k xr => h σ A' H' cls d S' (.of le k) xr
  | ok b γ1 =>
    rw [E] at h
    intro A' H' S' le k
    cases b with
    | true => simp only [if_true]; exact ⟨Z, A', γ1, S', h.mono (.of le k)⟩
    | false => simp only [Bool.false_eq_true, if_false]; exact ⟨Z, A', γ1, S', h.mono (.of le k)⟩
/-- so many turns at most -/
def whileM (t : FT) (s : FS) : Nat → FS
  | 0, _ => .no
  | n + 1, γ => match t γ with
    | .ok true γ1 => (match s γ1 with
      | .nx γ2 => whileM t s n γ2
      | .ct γ2 => whileM t s n γ2
      | .bk γ2 => .nx γ2
      | .rt c γ2 => .rt c γ2
      | .ex e γ2 => .ex e γ2
      | .no => .no)
    | .ok false γ1 => .nx γ1
    | .ex e γ1 => .ex e γ1
    | .no => .no
def sWhile (n : Nat) (t : FT) (s : FS) : FS := whileM t s n
theorem qs_while {n : Nat} (ht : RT X e t) (h1 : QSs X sts s) : QS X (.While e sts [] pos) (sWhile n t s) := fun po W tk => PS_imp (ps_while po (ht W tk) (h1 po W tk)) fun D σ H ⟨Z, A, γ, S, h⟩ => by
  refine ⟨fun m σ H => ∃ A γ, Sim (GX X) Z A γ σ H ∧ EndS (GX X) Z W D A H (whileM t s m γ), ⟨n, A, γ, S, h⟩, ?_⟩
  rintro m σ H ⟨A, γ, S, h⟩
  refine ⟨Z, A, γ, S, ?_⟩
  cases m with
  | zero => exact h.elim
  | succ m =>
    unfold whileM at h
    cases E : t γ with
    | no => rw [E] at h; exact h
    | ex e γ1 => rw [E] at h; exact fun A' H' cls d S' le k xr => h σ A' H' cls d S' (.of le k) xr
    | ok b γ1 =>
      rw [E] at h
      intro A' H' S' le k
      cases b with
      | false => simp only [Bool.false_eq_true, if_false]; exact h σ A' H' S' (.of le k)
      | true =>
        simp only [if_true]
        refine ⟨fun σ' H' => ∃ A γ, Sim (GX X) Z A γ σ' H' ∧ EndS (GX X) Z W D A H' (whileM t s m γ), fun σ' H' q => ⟨m, Nat.lt_succ_self m, q⟩, Z, A', γ1, S', ?_⟩
        simp only at h
        replace h := h.mono (.of le k)
        cases E2 : s γ1 with
        | nx γ2 => rw [E2] at h; exact fun σ' A2 H2 S2 s2 => ⟨A2, γ2, S2, h.mono s2⟩
        | ct γ2 => rw [E2] at h; exact fun σ' A2 H2 S2 s2 => ⟨A2, γ2, S2, h.mono s2⟩
        | bk γ2 => rw [E2] at h; exact fun σ' A2 H2 S2 s2 => h σ' A2 H2 S2 s2
        | rt c γ2 => rw [E2] at h; exact h
        | ex e γ2 => rw [E2] at h; exact h
        | no => rw [E2] at h; exact h
/-! ### stores to names -/
def sSet (i : Nat) (f : FE) : FS := fun γ => match f γ with
  | .ok c γ1 => if canSet γ1 i then .nx (γ1.set i (some c)) else .no
  | .ex e γ1 => .ex e γ1
  | .no => .no
/-- the end of a store to a name -/
theorem set_end {Z : Ent} {A : AM} {γ : Sg} {σ : L2.St} {H : Hp} {W : WX} {D : Ends} {i : Nat} (S : Sim (GX X) Z A γ σ H) (h : EndS (GX X) Z W D A H (sSet i f γ)) : EndE (GX X) Z W A σ H (fun x H1 => gName i x σ H1 D.nx) (f γ) := by
  unfold sSet at h
  cases E : f γ with
  | no => rw [E] at h; exact h
  | ex e γ1 => rw [E] at h; exact fun A' H' cls d S' le k xr => h σ A' H' cls d S' (.of le k) xr
  | ok c γ1 =>
    rw [E] at h
    simp only at h
    intro x A' H' hs le k
    cases E2 : canSet γ1 i with
    | false => rw [E2] at h; exact h.elim
    | true =>
      rw [E2] at h
      simp only [if_true] at h
      obtain ⟨A2, S2, m2⟩ := hs.store S (canSet_lt E2)
      exact h _ A2 H' S2 ⟨k, fun b o hb m => le.mz b (m2 b o hb m)⟩
theorem qs_set {i : Nat} {pos' : Pos} (hN : X.N.Nodup) (hi : X.N[i]? = some x) (hx : Loc X.env.scope x) (ha : RE X e f) (hs : swapsWith e (some (.Name x pos')) pos.line X.env = pure false := by rfl) (hf : X.fn x = true ∨ X.env.scope.names.lookup x = some .local := by first | exact .inl rfl | exact .inr rfl | assumption) :
    QS X (.Assign [.Name x pos'] e pos) (sSet i f) := fun _ W tk => PS_imp (ps_set hN hi hx (ha W tk) hs hf) fun D σ H ⟨Z, A, γ, S, h⟩ => ⟨Z, A, γ, S, set_end S h⟩
/-! a, b = x, y; a, b, c = x, y, z -/
def put2 (i j : Nat) (c d : Cell) (γ : Sg) : RO := if canSet γ i && canSet γ j then .nx ((γ.set i (some c)).set j (some d)) else .no
def sPar (i j : Nat) (f f2 : FE) : FS := fun γ => match f γ with
  | .ok c γ1 => (match f2 γ1 with
    | .ok d γ2 => put2 i j c d γ2
    | .ex e γ2 => .ex e γ2
    | .no => .no)
  | .ex e γ1 => .ex e γ1
  | .no => .no
def put3 (i j l : Nat) (c d u : Cell) (γ : Sg) : RO := if canSet γ i && canSet γ j && canSet γ l then .nx (((γ.set i (some c)).set j (some d)).set l (some u)) else .no
def sPar3 (i j l : Nat) (f f2 f3 : FE) : FS := fun γ => match f γ with
  | .ok c γ1 => (match f2 γ1 with
    | .ok d γ2 => (match f3 γ2 with
      | .ok u γ3 => put3 i j l c d u γ3
      | .ex e γ3 => .ex e γ3
      | .no => .no)
    | .ex e γ2 => .ex e γ2
    | .no => .no)
  | .ex e γ1 => .ex e γ1
  | .no => .no
end
/-! ### what is held while more is reckoned -/
/-- held: a value, or a thing that waits -/
def Wait (G : GG) (Z Z1 : Ent) (A : AM) (H0 H : Hp) (c : Cell) (x : V) : Prop := match c.k with
  | .val => Z1 = Z ∧ Rep G (Mz Z1 A) H c.v x
  | .own => ∃ a o, x = .ref a ∧ H0 a = none ∧ ¬ Z.Mf a ∧ (∀ u, ¬ Z.F a u) ∧ Z1 = Z.wait a o ∧ Own G (Mz Z1 A) H c.v a
  | _ => False
section
variable {G : GG} {Z Z1 Z2 : Ent} {A A' A0 : AM} {γ γ' : Sg} {σ σ' : L2.St} {H H' H0 H00 : Hp} {c d : Cell} {x y z : V} {v : MV} {W : WX}
theorem HeldS.wait (S0 : Sim G Z A0 γ' σ' H0) (h : HeldS G Z A γ σ H0 H c x) : ∃ Z1, Sim G Z1 A γ σ H ∧ Wait G Z Z1 A H0 H c x ∧ (∀ {A γ σ H}, Sim G Z1 A γ σ H → Sim G Z A γ σ H) ∧ Z1.H0 = Z.H0 ∧ ∀ a, Mz Z1 A a → Mz Z A a ∨ H0 a = none := by
  obtain ⟨k, v⟩ := c
  cases k with
  | val => exact ⟨Z, h.1, ⟨rfl, h.2⟩, fun S => S, rfl, fun a m => .inl m⟩
  | own =>
    obtain ⟨a, o, rfl, n, nm, r, S⟩ := h
    exact ⟨_, S, ⟨a, o, rfl, n, nm, S0.nF n, rfl, r⟩, fun S => S.drop, rfl, fun b m => by
      rcases (mz_wait b).mp m with m | rfl
      · exact .inl m
      · exact .inr n⟩
  | io => exact h.elim
  | lown => exact h.elim
  | lio => exact h.elim
theorem Wait.step (h : Wait G Z Z1 A H0 H c x) (S : Sim G Z1 A γ σ H) (S' : Sim G Z1 A' γ' σ' H') (le : Le A' A) (k : Keep (Mz Z1 A) H H') : Wait G Z Z1 A' H0 H' c x := by
  obtain ⟨kk, v⟩ := c
  cases kk with
  | val => exact ⟨h.1, h.2.keep k fun b _ _ m => le.mz b m⟩
  | own =>
    obtain ⟨a, o, rfl, n, nm, nf, rfl, r⟩ := h
    refine ⟨a, o, rfl, n, nm, nf, rfl, r.keep k (fun b _ _ m => le.mz b m) fun u hu => ?_⟩
    rw [S.waits] at hu
    cases hu
    exact S'.waits
  | io => exact h.elim
  | lown => exact h.elim
  | lio => exact h.elim
/-- it comes to a slot; another thing, of a further entry, goes on waiting -/
theorem Wait.put {i : Nat} (h0 : ∀ a, H0 a = none → Z.H0 a = none) (h : Wait G Z Z1 A H0 H c x) (S : Sim G Z1 A γ σ H) (hl : i < γ.length) : ∃ A', Sim G Z A' (γ.set i (some c)) (σ.set i (some x)) H ∧ ∀ b, Mz Z A' b → Mz Z1 A b := by
  obtain ⟨kk, v⟩ := c
  cases kk with
  | val =>
    obtain ⟨rfl, r⟩ := h
    exact ⟨_, S.setVal hl r, fun b m => AM.del_le.mz b m⟩
  | own =>
    obtain ⟨a, o, rfl, n, nm, nf, rfl, r⟩ := h
    refine ⟨_, S.setOwn hl (h0 a n) nm nf r, fun b m => (mz_wait b).mpr (m.elim (fun m => .inl (.inl m)) fun ⟨j, hj⟩ => ?_)⟩
    by_cases hji : j = i
    · rw [hji, AM.put_eq] at hj
      cases hj
      exact .inr rfl
    · rw [AM.put_ne hji] at hj
      exact .inl (.inr ⟨j, hj⟩)
  | io => exact h.elim
  | lown => exact h.elim
  | lio => exact h.elim
theorem Wait.keep' (h : Wait G Z Z1 A H0 H c x) (S : Sim G Z1 A γ σ H) (S' : Sim G Z1 A' γ' σ' H') (k : Keep (Mz Z1 A) H H') (m : ∀ b o, H b = some o → Mz Z1 A' b → Mz Z1 A b) : Wait G Z Z1 A' H0 H' c x := by
  obtain ⟨kk, v⟩ := c
  cases kk with
  | val => exact ⟨h.1, h.2.keep k m⟩
  | own =>
    obtain ⟨a, o, rfl, n, nm, nf, rfl, r⟩ := h
    refine ⟨a, o, rfl, n, nm, nf, rfl, r.keep k m fun u hu => ?_⟩
    rw [S.waits] at hu
    cases hu
    exact S'.waits
  | io => exact h.elim
  | lown => exact h.elim
  | lio => exact h.elim
end
section
variable {X : Cx} {a b c : Expr} {f f2 f3 : FE} {pos : Pos}
theorem canSet_set {γ : Sg} {i j : Nat} {c : Option Cell} (h : i < γ.length) : i < (γ.set j c).length := by rw [List.length_set]; exact h
theorem par_core {i j : Nat} (hij : i ≠ j) {W : WX} {D : Ends} {σ : L2.St} {H : Hp} {R : List V → Hp → Prop} (hR : ∀ v w H2, D.nx ((σ.set i (some v)).set j (some w)) H2 → R [v, w] H2) (h : tMS (GX X) (sPar i j f f2) W D σ H) :
    tCons (tME (GX X) f W) (tCons (tME (GX X) f2 W) tNil) σ H R := by
    obtain ⟨Z, A, γ, S, h⟩ := h
    refine ⟨Z, A, γ, S, ?_⟩
    unfold sPar at h
    cases E1 : f γ with
    | no => rw [E1] at h; exact h
    | ex e γ1 => rw [E1] at h; exact fun A' H' cls d S' le k xr => h σ A' H' cls d S' (.of le k) xr
    | ok c γ1 =>
      rw [E1] at h
      simp only at h
      intro v A1 H1 hs1 le1 k1
      obtain ⟨Z1, S1, w1, un1, z1, m1⟩ := hs1.wait S
      refine ⟨Z1, A1, γ1, S1, ?_⟩
      cases E2 : f2 γ1 with
      | no => rw [E2] at h; exact h
      | ex e γ2 =>
        rw [E2] at h
        intro A2 H2 cls d S2 le2 k2 xr
        refine h σ A2 H2 cls d (un1 S2) ⟨k1.trans k2 fun b o hb m => (m1 b m).elim (fun m => le1.mz b m) fun n => (by rw [n] at hb; cases hb), fun b o hb m => (le2.trans le1).mz b m⟩ ⟨xr.1, ?_⟩
        have q := xr.2
        revert q
        cases e.fs with
        | nil => exact fun q => q
        | cons p ps =>
          rintro ⟨a, vs, q1, q2, q3, q4⟩
          have less : ∀ b, Mz Z A2 b → Mz Z1 A2 b := fun b m => by
            obtain ⟨kk, vv⟩ := c
            cases kk with
            | val => rw [w1.1]; exact m
            | own => obtain ⟨_, _, _, _, _, _, e, _⟩ := w1; rw [e]; exact (mz_wait b).mpr (.inl m)
            | io => exact w1.elim
            | lown => exact w1.elim
            | lio => exact w1.elim
          exact ⟨a, vs, q1, q2, fun m => q3 (less a m), q4.keep .refl fun b _ _ m => less b m⟩
      | ok d γ2 =>
        rw [E2] at h
        intro w A2 H2 hs2 le2 k2
        simp only [put2] at h
        cases E3 : canSet γ2 i && canSet γ2 j with
        | false => rw [E3] at h; exact h.elim
        | true =>
          rw [E3] at h
          simp only [Bool.and_eq_true] at E3
          obtain ⟨ci, cj⟩ := E3
          obtain ⟨Z2, S2, w2, un2, z2, m2⟩ := hs2.wait S1
          obtain ⟨A3, S3, m3⟩ := w2.put (i := j) (fun a n => by rw [z1]; exact S.h0 (k1.isnone n)) S2 (canSet_lt cj)
          have w1' := w1.keep' S1 S3 k2 fun b o hb m => (m2 b (m3 b m)).elim (fun m => le2.mz b m) fun n => by rw [n] at hb; cases hb
          obtain ⟨A4, S4, m4⟩ := w1'.put (i := i) (fun a n => S.h0 n) S3 (canSet_set (canSet_lt ci))
          rw [List.set_comm _ _ (Ne.symm hij), List.set_comm _ _ (Ne.symm hij)] at S4
          have k12 : Keep (Mz Z A) H H2 := k1.trans k2 fun b o hb m => (m1 b m).elim (fun m => le1.mz b m) fun n => by rw [n] at hb; cases hb
          refine hR v w H2 (h _ A4 H2 S4 ⟨k12, fun b o hb m => ?_⟩)
          obtain ⟨o1, hb1⟩ := k1.on b o hb
          rcases m2 b (m3 b (m4 b m)) with m | n
          · rcases m1 b (le2.mz b m) with m | n
            · exact le1.mz b m
            · rw [n] at hb; cases hb
          · rw [n] at hb1; cases hb1
theorem qs_par {i j : Nat} {x y : Str} {px py pt : Pos} {kt k2 pt2} (hc : X.calm = true) (hN : X.N.Nodup) (hi : X.N[i]? = some x) (hj : X.N[j]? = some y) (hij : i ≠ j)
    (hx : X.env.scope.names.lookup x = some .local) (hy : X.env.scope.names.lookup y = some .local) (ha : RE X a f) (hb : RE X b f2)
    (hw : swappedStores [.Tuple [.Name x px, .Name y py] kt pt] (.Tuple [a, b] k2 pt2) X.env = pure (some [x, y]))
    (hs : swapsWithSole [.Tuple [.Name x px, .Name y py] kt pt] (.Tuple [a, b] k2 pt2) pos.line X.env = pure false := by rfl)
    (h1 : starEach [a, b] X.env = (false, eval a X.env) :: starEach [b] X.env := by rfl) (h2 : starEach [b] X.env = (false, eval b X.env) :: starEach [] X.env := by rfl) :
    QS X (.Assign [.Tuple [.Name x px, .Name y py] kt pt] (.Tuple [a, b] k2 pt2) pos) (sPar i j f f2) := fun _ W tk =>
  PS_imp (ps_par hc hN hi hj hij hx hy (pa_cons (ha W tk) (pa_cons (hb W tk) pa_nil h2) h1) hw hs) fun D σ H h => par_core hij (fun v w H2 q => ⟨v, w, rfl, q⟩) h
theorem EndS.same' {G : GG} {Z : Ent} {W : WX} {D : Ends} {A : AM} {H : Hp} {r : RO} (h : EndS G Z W D A H r) : EndS G Z W { D with nx := fun σ H => ∀ H', Same H H' → D.nx σ H' } A H r := by
  cases r with
  | nx γ => exact fun σ' A' H' S st H'' e => h σ' A' H'' (S.same e) (st.trans (.of_same e))
  | rt c γ => exact h
  | bk γ => exact h
  | ct γ => exact h
  | ex e γ => exact h
  | no => exact h
/-- .. where the names stand in cells: by way of a tuple -/
theorem qs_parA {i j : Nat} {x y : Str} {px py pt : Pos} {kt k2 pt2} (hc : X.calm = true) (hN : X.N.Nodup) (hi : X.N[i]? = some x) (hj : X.N[j]? = some y) (hij : i ≠ j) (hx : Loc X.env.scope x) (hy : Loc X.env.scope y) (ha : RE X a f) (hb : RE X b f2)
    (hs : swapsWithSole [.Tuple [.Name x px, .Name y py] kt pt] (.Tuple [a, b] k2 pt2) pos.line X.env = pure false := by rfl) (hw : swappedStores [.Tuple [.Name x px, .Name y py] kt pt] (.Tuple [a, b] k2 pt2) X.env = pure none := by rfl)
    (h0 : (assignEach [.Tuple [.Name x px, .Name y py] kt pt] X.env).map (·.2) = [assign (.Tuple [.Name x px, .Name y py] kt pt) X.env] := by rfl)
    (h1 : starEach [a, b] X.env = (false, eval a X.env) :: starEach [b] X.env := by rfl) (h2 : starEach [b] X.env = (false, eval b X.env) :: starEach [] X.env := by rfl)
    (hn : (assignEach [.Name x px, .Name y py] X.env).length = 2 := by rfl) (hst : (assignEach [.Name x px, .Name y py] X.env).findIdx? (·.1) = none := by rfl)
    (hc1 : (assignEach [.Name x px, .Name y py] X.env).map (·.2) = assign (.Name x px) X.env :: (assignEach [.Name y py] X.env).map (·.2) := by rfl) (hc2 : (assignEach [.Name y py] X.env).map (·.2) = assign (.Name y py) X.env :: (assignEach [] X.env).map (·.2) := by rfl)
    (hf : X.fn x = true ∨ X.env.scope.names.lookup x = some .local := by first | exact .inl rfl | exact .inr rfl) (hf2 : X.fn y = true ∨ X.env.scope.names.lookup y = some .local := by first | exact .inl rfl | exact .inr rfl) :
    QS X (.Assign [.Tuple [.Name x px, .Name y py] kt pt] (.Tuple [a, b] k2 pt2) pos) (sPar i j f f2) := fun _ W tk =>
  PS_imp (ps_asg (pe_tup (pa_cons (ha W tk) (pa_cons (hb W tk) pa_nil h2) h1)) (pg_tup hc (pgs_cons (pg_name hN hi hx hf) (pgs_cons (pg_name hN hj hy hf2) pgs_nil hc2) hc1) hn hst) hs hw h0) fun D σ H ⟨Z, A, γ, S, h⟩ => by
    unfold tAsg tTup
    exact par_core hij (D := { D with nx := fun σ H => ∀ H', Same H H' → D.nx σ H' }) (fun v w H2 q => ⟨by show 2 ≤ sizeLine; rw [sizeLine_eq]; omega, fun p np => ⟨p, [v, w], rfl, .inl (.inl upd_same), rfl, v, [w], rfl, w, [], rfl, rfl, q _ (same_new np)⟩⟩) ⟨Z, A, γ, S, h.same'⟩
theorem par3_core {i j l : Nat} (hij : i ≠ j) (hil : i ≠ l) (hjl : j ≠ l) {W : WX} {D : Ends} {σ : L2.St} {H : Hp} {R : List V → Hp → Prop} (hR : ∀ v w y H2, D.nx (((σ.set i (some v)).set j (some w)).set l (some y)) H2 → R [v, w, y] H2) (h : tMS (GX X) (sPar3 i j l f f2 f3) W D σ H) :
    tCons (tME (GX X) f W) (tCons (tME (GX X) f2 W) (tCons (tME (GX X) f3 W) tNil)) σ H R := by
    obtain ⟨Z, A, γ, S, h⟩ := h
    have xdrop : ∀ {Z Z1 : Ent} {A1 A2 : AM} {H0 H1 H2 : Hp} {c : Cell} {v : V} {e : Ex} {cls : Value} {d : Option Addr}, Wait (GX X) Z Z1 A1 H0 H1 c v → ExRep (GX X) (Mz Z1 A2) H2 e cls d → ExRep (GX X) (Mz Z A2) H2 e cls d := fun {Z Z1 A1 A2 H0 H1 H2 c v e cls d} w1 xr => by
      refine ⟨xr.1, ?_⟩
      have q := xr.2
      revert q
      cases e.fs with
      | nil => exact fun q => q
      | cons p ps =>
        rintro ⟨a, vs, q1, q2, q3, q4⟩
        have less : ∀ b, Mz Z A2 b → Mz Z1 A2 b := fun b m => by
          obtain ⟨kk, vv⟩ := c
          cases kk with
          | val => rw [w1.1]; exact m
          | own => obtain ⟨_, _, _, _, _, _, e, _⟩ := w1; rw [e]; exact (mz_wait b).mpr (.inl m)
          | io => exact w1.elim
          | lown => exact w1.elim
          | lio => exact w1.elim
        exact ⟨a, vs, q1, q2, fun m => q3 (less a m), q4.keep .refl fun b _ _ m => less b m⟩
    refine ⟨Z, A, γ, S, ?_⟩
    unfold sPar3 at h
    cases E1 : f γ with
    | no => rw [E1] at h; exact h
    | ex e γ1 => rw [E1] at h; exact fun A' H' cls d S' le k xr => h σ A' H' cls d S' (.of le k) xr
    | ok c γ1 =>
      rw [E1] at h
      simp only at h
      intro v A1 H1 hs1 le1 k1
      obtain ⟨Z1, S1, w1, un1, z1, m1⟩ := hs1.wait S
      refine ⟨Z1, A1, γ1, S1, ?_⟩
      cases E2 : f2 γ1 with
      | no => rw [E2] at h; exact h
      | ex e γ2 =>
        rw [E2] at h
        exact fun A2 H2 cls d S2 le2 k2 xr => h σ A2 H2 cls d (un1 S2) ⟨k1.trans k2 fun b o hb m => (m1 b m).elim (fun m => le1.mz b m) fun n => (by rw [n] at hb; cases hb), fun b o hb m => (le2.trans le1).mz b m⟩ (xdrop w1 xr)
      | ok d γ2 =>
        rw [E2] at h
        simp only at h
        intro w A2 H2 hs2 le2 k2
        obtain ⟨Z2, S2, w2, un2, z2, m2⟩ := hs2.wait S1
        have k12 : Keep (Mz Z A) H H2 := k1.trans k2 fun b o hb m => (m1 b m).elim (fun m => le1.mz b m) fun n => by rw [n] at hb; cases hb
        have m12 : ∀ b o, H b = some o → Mz Z2 A2 b → Mz Z A b := fun b o hb m => by
          obtain ⟨o1, hb1⟩ := k1.on b o hb
          rcases m2 b m with m | n
          · rcases m1 b (le2.mz b m) with m | n
            · exact le1.mz b m
            · rw [n] at hb; cases hb
          · rw [n] at hb1; cases hb1
        refine ⟨Z2, A2, γ2, S2, ?_⟩
        cases E4 : f3 γ2 with
        | no => rw [E4] at h; exact h
        | ex e γ3 =>
          rw [E4] at h
          exact fun A3 H3 cls d S3 le3 k3 xr => h σ A3 H3 cls d (un1 (un2 S3)) ⟨k12.trans k3 m12, fun b o hb m => (le3.trans (le2.trans le1)).mz b m⟩ (xdrop w1 (xdrop w2 xr))
        | ok u γ3 =>
          rw [E4] at h
          intro y A3 H3 hs3 le3 k3
          simp only [put3] at h
          cases E3 : canSet γ3 i && canSet γ3 j && canSet γ3 l with
          | false => rw [E3] at h; exact h.elim
          | true =>
            rw [E3] at h
            simp only [Bool.and_eq_true] at E3
            obtain ⟨⟨ci, cj⟩, cl⟩ := E3
            obtain ⟨Z3, S3, w3, un3, z3, m3⟩ := hs3.wait S2
            obtain ⟨A4, S4, m4⟩ := w3.put (i := l) (fun a n => by rw [z2, z1]; exact S.h0 (k1.isnone (k2.isnone n))) S3 (canSet_lt cl)
            have w2' := w2.keep' S2 S4 k3 fun b o hb m => (m3 b (m4 b m)).elim (fun m => le3.mz b m) fun n => by rw [n] at hb; cases hb
            obtain ⟨A5, S5, m5⟩ := w2'.put (i := j) (fun a n => by rw [z1]; exact S.h0 (k1.isnone n)) S4 (canSet_set (canSet_lt cj))
            have k13 : Keep (Mz Z1 A1) H1 H3 := k2.trans k3 fun b o hb m => (m2 b m).elim (fun m => le2.mz b m) fun n => by rw [n] at hb; cases hb
            have w1' := w1.keep' S1 S5 k13 fun b o hb m => by
              obtain ⟨o2, hb2⟩ := k2.on b o hb
              rcases m3 b (m4 b (m5 b m)) with m | n
              · rcases m2 b (le3.mz b m) with m | n
                · exact le2.mz b m
                · rw [n] at hb; cases hb
              · rw [n] at hb2; cases hb2
            obtain ⟨A6, S6, m6⟩ := w1'.put (i := i) (fun a n => S.h0 n) S5 (canSet_set (canSet_set (canSet_lt ci)))
            rw [List.set_comm _ _ (Ne.symm hij), List.set_comm _ _ (Ne.symm hij), List.set_comm _ _ (Ne.symm hil), List.set_comm _ _ (Ne.symm hil), List.set_comm _ _ (Ne.symm hjl), List.set_comm _ _ (Ne.symm hjl)] at S6
            refine hR v w y H3 (h _ A6 H3 S6 ⟨k12.trans k3 m12, fun b o hb m => ?_⟩)
            obtain ⟨o2, hb2⟩ := k12.on b o hb
            rcases m3 b (m4 b (m5 b (m6 b m))) with m | n
            · exact m12 b o hb (le3.mz b m)
            · rw [n] at hb2; cases hb2
theorem qs_par3 {i j l : Nat} {x y z : Str} {px py pz pt : Pos} {kt k2 pt2} (hc : X.calm = true) (hN : X.N.Nodup) (hi : X.N[i]? = some x) (hj : X.N[j]? = some y) (hl : X.N[l]? = some z) (hij : i ≠ j) (hil : i ≠ l) (hjl : j ≠ l)
    (hx : X.env.scope.names.lookup x = some .local) (hy : X.env.scope.names.lookup y = some .local) (hz : X.env.scope.names.lookup z = some .local) (ha : RE X a f) (hb : RE X b f2) (hcc : RE X c f3)
    (hw : swappedStores [.Tuple [.Name x px, .Name y py, .Name z pz] kt pt] (.Tuple [a, b, c] k2 pt2) X.env = pure (some [x, y, z]))
    (hs : swapsWithSole [.Tuple [.Name x px, .Name y py, .Name z pz] kt pt] (.Tuple [a, b, c] k2 pt2) pos.line X.env = pure false := by rfl)
    (h1 : starEach [a, b, c] X.env = (false, eval a X.env) :: starEach [b, c] X.env := by rfl) (h2 : starEach [b, c] X.env = (false, eval b X.env) :: starEach [c] X.env := by rfl) (h3 : starEach [c] X.env = (false, eval c X.env) :: starEach [] X.env := by rfl) :
    QS X (.Assign [.Tuple [.Name x px, .Name y py, .Name z pz] kt pt] (.Tuple [a, b, c] k2 pt2) pos) (sPar3 i j l f f2 f3) := fun _ W tk =>
  PS_imp (ps_par3 hc hN hi hj hl hij hil hjl hx hy hz (pa_cons (ha W tk) (pa_cons (hb W tk) (pa_cons (hcc W tk) pa_nil h3) h2) h1) hw hs) fun D σ H h => par3_core hij hil hjl (fun v w y H2 q => ⟨v, w, y, rfl, q⟩) h
theorem qs_par3A {i j l : Nat} {x y z : Str} {px py pz pt : Pos} {kt k2 pt2} (hc : X.calm = true) (hN : X.N.Nodup) (hi : X.N[i]? = some x) (hj : X.N[j]? = some y) (hl : X.N[l]? = some z) (hij : i ≠ j) (hil : i ≠ l) (hjl : j ≠ l) (hx : Loc X.env.scope x) (hy : Loc X.env.scope y) (hz : Loc X.env.scope z) (ha : RE X a f) (hb : RE X b f2) (hcc : RE X c f3)
    (hs : swapsWithSole [.Tuple [.Name x px, .Name y py, .Name z pz] kt pt] (.Tuple [a, b, c] k2 pt2) pos.line X.env = pure false := by rfl) (hw : swappedStores [.Tuple [.Name x px, .Name y py, .Name z pz] kt pt] (.Tuple [a, b, c] k2 pt2) X.env = pure none := by rfl)
    (h0 : (assignEach [.Tuple [.Name x px, .Name y py, .Name z pz] kt pt] X.env).map (·.2) = [assign (.Tuple [.Name x px, .Name y py, .Name z pz] kt pt) X.env] := by rfl)
    (h1 : starEach [a, b, c] X.env = (false, eval a X.env) :: starEach [b, c] X.env := by rfl) (h2 : starEach [b, c] X.env = (false, eval b X.env) :: starEach [c] X.env := by rfl) (h3 : starEach [c] X.env = (false, eval c X.env) :: starEach [] X.env := by rfl)
    (hn : (assignEach [.Name x px, .Name y py, .Name z pz] X.env).length = 3 := by rfl) (hst : (assignEach [.Name x px, .Name y py, .Name z pz] X.env).findIdx? (·.1) = none := by rfl)
    (hc1 : (assignEach [.Name x px, .Name y py, .Name z pz] X.env).map (·.2) = assign (.Name x px) X.env :: (assignEach [.Name y py, .Name z pz] X.env).map (·.2) := by rfl) (hc2 : (assignEach [.Name y py, .Name z pz] X.env).map (·.2) = assign (.Name y py) X.env :: (assignEach [.Name z pz] X.env).map (·.2) := by rfl)
    (hc3 : (assignEach [.Name z pz] X.env).map (·.2) = assign (.Name z pz) X.env :: (assignEach [] X.env).map (·.2) := by rfl)
    (hf : X.fn x = true ∨ X.env.scope.names.lookup x = some .local := by first | exact .inl rfl | exact .inr rfl) (hf2 : X.fn y = true ∨ X.env.scope.names.lookup y = some .local := by first | exact .inl rfl | exact .inr rfl) (hf3 : X.fn z = true ∨ X.env.scope.names.lookup z = some .local := by first | exact .inl rfl | exact .inr rfl) :
    QS X (.Assign [.Tuple [.Name x px, .Name y py, .Name z pz] kt pt] (.Tuple [a, b, c] k2 pt2) pos) (sPar3 i j l f f2 f3) := fun _ W tk =>
  PS_imp (ps_asg (pe_tup (pa_cons (ha W tk) (pa_cons (hb W tk) (pa_cons (hcc W tk) pa_nil h3) h2) h1)) (pg_tup hc (pgs_cons (pg_name hN hi hx hf) (pgs_cons (pg_name hN hj hy hf2) (pgs_cons (pg_name hN hl hz hf3) pgs_nil hc3) hc2) hc1) hn hst) hs hw h0) fun D σ H ⟨Z, A, γ, S, h⟩ => by
    unfold tAsg tTup
    exact par3_core hij hil hjl (D := { D with nx := fun σ H => ∀ H', Same H H' → D.nx σ H' }) (fun v w y H2 q => ⟨by show 3 ≤ sizeLine; rw [sizeLine_eq]; omega, fun p np => ⟨p, [v, w, y], rfl, .inl (.inl upd_same), rfl, v, [w, y], rfl, w, [y], rfl, y, [], rfl, rfl, q _ (same_new np)⟩⟩) ⟨Z, A, γ, S, h.same'⟩
end
end Mi

set_option Elab.async false
set_option linter.all false
set_option maxRecDepth 100000
set_option maxHeartbeats 4000000
/-! targets, for -/
namespace Mi
open PySem PySem.Spec PyProof.Rows L2 My

/-! ### targets -/
inductive Tg where
  | nm (i : Nat) | tp (ts : List Tg)
mutual
def asgM : Tg → MV → Sg → Option Sg
  | .nm i, v, γ => if canSet γ i then some (γ.set i (some ⟨.val, v⟩)) else none
  | .tp ts, .tup vs, γ => asgMs ts vs γ
  | .tp _, _, _ => none
def asgMs : List Tg → List MV → Sg → Option Sg
  | [], [], γ => some γ
  | t :: ts, v :: vs, γ => (asgM t v γ).bind (asgMs ts vs)
  | _, _, _ => none
end
mutual
def Tg.slots : Tg → List Nat
  | .nm i => [i]
  | .tp ts => Tg.slotss ts
def Tg.slotss : List Tg → List Nat
  | [] => []
  | t :: ts => t.slots ++ Tg.slotss ts
end
def tMG (G : GG) (t : Tg) : TG := fun x σ H Q => ∃ Z A γ v, Sim G Z A γ σ H ∧ Rep G (Mz Z A) H v x ∧ ∃ γ', asgM t v γ = some γ' ∧ ∀ σ' A', Sim G Z A' γ' σ' H → Le A' A → (∀ i, i ∉ t.slots → σ'[i]? = σ[i]?) → Q σ' H
def tMGs (G : GG) (ts : List Tg) : TGs := fun xs σ H Q => ∃ Z A γ vs, Sim G Z A γ σ H ∧ Reps G (Mz Z A) H vs xs ∧ ∃ γ', asgMs ts vs γ = some γ' ∧ ∀ σ' A', Sim G Z A' γ' σ' H → Le A' A → (∀ i, i ∉ Tg.slotss ts → σ'[i]? = σ[i]?) → Q σ' H
def RG (X : Cx) (e : Expr) (t : Tg) : Prop := PG X e (tMG (GX X) t)
def RGs (X : Cx) (es : List Expr) (ts : List Tg) : Prop := PGs X es (tMGs (GX X) ts)
theorem PG_imp {X : Cx} {e : Expr} {t t' : TG} (h : PG X e t) (i : ∀ v σ H Q, t' v σ H Q → t v σ H Q) : PG X e t' := ⟨fun pins s σ H v u Q I r q => h.run pins s σ H v u Q I r (i _ _ _ _ q)⟩
theorem PGs_imp {X : Cx} {e : List Expr} {t t' : TGs} (h : PGs X e t) (i : ∀ v σ H Q, t' v σ H Q → t v σ H Q) : PGs X e t' := ⟨fun pins s σ H v u Q I r q => h.run pins s σ H v u Q I r (i _ _ _ _ q)⟩
theorem Reps.less {G : GG} {M M' : Addr → Prop} {H : Hp} {vs : List MV} {xs : List V} (m : ∀ b, M' b → M b) (h : Reps G M H vs xs) : Reps G M' H vs xs := h.keep .refl fun _ _ _ z => m _ z
section
variable {X : Cx} {a b e : Expr} {es : List Expr} {f : FE} {o q : Opd} {pos : Pos} {x : Str} {s : FS} {sts : List Stmt}
theorem rg_nm {i : Nat} (hN : X.N.Nodup) (hi : X.N[i]? = some x) (hx : Loc X.env.scope x) (hf : X.fn x = true ∨ X.env.scope.names.lookup x = some .local := by first | exact .inl rfl | exact .inr rfl | assumption) : RG X (.Name x pos) (.nm i) :=
  PG_imp (pg_name hN hi hx hf) fun v σ H Q ⟨Z, A, γ, m, S, r, γ', e, h⟩ => by
    simp only [asgM] at e
    split at e
    · rename_i hc
      cases e
      exact h _ _ (S.setVal (canSet_lt hc) r) AM.del_le fun j hj => List.getElem?_set_ne (fun z => hj (by rw [Tg.slots, z]; exact List.mem_singleton_self _))
    · cases e
theorem rgs_nil : RGs X [] [] := PGs_imp pgs_nil fun v σ H Q ⟨Z, A, γ, vs, S, r, γ', e, h⟩ => by
  cases vs with
  | nil =>
    simp only [Reps] at r
    simp only [asgMs] at e
    cases e
    exact ⟨r, h σ A S .refl fun _ _ => rfl⟩
  | cons v vs => simp only [asgMs] at e; cases e
theorem rgs_cons {t : Tg} {ts : List Tg} (h1 : RG X e t) (h2 : RGs X es ts) (hs : (assignEach (e :: es) X.env).map (·.2) = assign e X.env :: (assignEach es X.env).map (·.2) := by rfl) : RGs X (e :: es) (t :: ts) :=
  PGs_imp (pgs_cons h1 h2 hs) fun xs σ H Q ⟨Z, A, γ, vs, S, r, γ', e, h⟩ => by
    cases vs with
    | nil => simp only [asgMs] at e; cases e
    | cons v vs =>
      simp only [Reps] at r
      obtain ⟨x, xr, rfl, r1, r2⟩ := r
      simp only [asgMs] at e
      cases E : asgM t v γ with
      | none => rw [E] at e; cases e
      | some γ1 =>
        rw [E] at e
        refine ⟨x, xr, rfl, Z, A, γ, v, S, r1, γ1, E, fun σ1 A1 S1 le1 o1 => ?_⟩
        refine ⟨Z, A1, γ1, vs, S1, r2.less fun b m => le1.mz b m, γ', e, fun σ2 A2 S2 le2 o2 => h σ2 A2 S2 (le2.trans le1) fun i hi => ?_⟩
        simp only [Tg.slotss, List.mem_append, not_or] at hi
        rw [o2 i hi.2, o1 i hi.1]
theorem rg_tp {k : Nat} {ts : List Tg} (hc : X.calm = true) (h : RGs X es ts) (hn : (assignEach es X.env).length = ts.length := by rfl) (hst : (assignEach es X.env).findIdx? (·.1) = none := by rfl) : RG X (.Tuple es k pos) (.tp ts) :=
  PG_imp (pg_tup hc h hn hst) fun x σ H Q ⟨Z, A, γ, v, S, r, γ', e, h⟩ => by
    cases v with
    | tup vs =>
      simp only [Rep] at r
      obtain ⟨p, xs, rfl, h1, h2⟩ := r
      simp only [asgM] at e
      refine ⟨p, xs, rfl, h1.sq, ?_, Z, A, γ, vs, S, h2, γ', e, h⟩
      have len : ∀ (ts : List Tg) (vs : List MV) (γ γ' : Sg), asgMs ts vs γ = some γ' → vs.length = ts.length := by
        intro ts
        induction ts with
        | nil => intro vs γ γ' e; cases vs <;> simp only [asgMs] at e <;> first | rfl | cases e
        | cons t ts ih =>
          intro vs γ γ' e
          cases vs with
          | nil => simp only [asgMs] at e; cases e
          | cons v vs =>
            simp only [asgMs] at e
            cases E : asgM t v γ with
            | none => rw [E] at e; cases e
            | some γ1 =>
              rw [E] at e
              rw [List.length_cons, List.length_cons, ih vs γ1 γ' e]
      rw [h2.len]
      exact len ts vs γ γ' e
    | _ => simp only [asgM] at e; cases e
/-- target = e, any target -/
def sAsg (t : Tg) (f : FE) : FS := fun γ => match f γ with
  | .ok c γ1 => (match asgM t c.v γ1 with
    | some γ2 => .nx γ2
    | none => .no)
  | .ex e γ1 => .ex e γ1
  | .no => .no
theorem qs_asg {t : Tg} {tg : Expr} (ha : RE X e f) (hg : RG X tg t) (hs : swapsWithSole [tg] e pos.line X.env = pure false := by rfl) (hw : swappedStores [tg] e X.env = pure none := by rfl)
    (h1 : (assignEach [tg] X.env).map (·.2) = [assign tg X.env] := by rfl) : QS X (.Assign [tg] e pos) (sAsg t f) := fun _ W tk => PS_imp (ps_asg (ha W tk) hg hs hw h1) fun D σ H ⟨Z, A, γ, S, h⟩ => by
  refine ⟨Z, A, γ, S, ?_⟩
  unfold sAsg at h
  cases E1 : f γ with
  | no => rw [E1] at h; exact h
  | ex e γ1 => rw [E1] at h; exact fun A' H' cls d S' le k xr => h σ A' H' cls d S' (.of le k) xr
  | ok c γ1 =>
    rw [E1] at h
    simp only at h
    intro x A1 H1 hs le k
    cases E2 : asgM t c.v γ1 with
    | none => rw [E2] at h; exact h.elim
    | some γ2 =>
      rw [E2] at h
      exact ⟨Z, A1, γ1, c.v, hs.sim, hs.rep, γ2, E2, fun σ' A' S' le' _ => h σ' A' H1 S' (.of (le'.trans le) k)⟩
end

/-! ### what is walked -/
structure ItOk (G : GG) (J : It) (ms : List MV) (P : Ent → AM → Hp → Prop) (src : Addr → Prop) : Prop where
  stp : ∀ {Z A γ σ H A' γ' σ' H'}, P Z A H → Sim G Z A γ σ H → Sim G Z A' γ' σ' H' → Stp Z A H A' H' → P Z A' H'
  wait : ∀ {Z : Ent} {A H H' p o}, P Z A H → Same H H' → H p = none → P (Z.wait p o) A H'
  rew : ∀ {Z : Ent} {A H p o o'}, ¬ src p → P (Z.wait p o) A H → P (Z.wait p o') A (upd H p o')
  at_ : ∀ {Z A H a}, P Z A H → src a → ∃ o, H a = some o
  go : ∀ {Z i A H}, i < ms.length → P Z A H → J.go i H
  stop : ∀ {Z A H}, P Z A H → J.stop ms.length H
  yld : ∀ {Z i A γ σ H x H'}, P Z A H → Sim G Z A γ σ H → i < ms.length → J.yld i H x H' → Same H H' ∧ ∃ m, ms[i]? = some m ∧ Rep G (Mz Z A) H' m x
abbrev FI := Sg → R (List MV)
def EndI (G : GG) (Z : Ent) (W : WX) (A : AM) (σ : L2.St) (H : Hp) (R' : It → Hp → Prop) : R (List MV) → Prop
  | .ok ms γ' => ∀ J l A' H' P src, Stg G Z A H l A' γ' σ H' → ItOk G J ms P src → P (Z.waits l) A' H' → R' J H'
  | .ex e γ' => EndX G Z W A σ H e γ'
  | .no => False
def tMI (G : GG) (fi : FI) (W : WX) : TI := fun σ H R' => ∃ Z A γ, Sim G Z A γ σ H ∧ EndI G Z W A σ H R' (fi γ)
def RI (X : Cx) (tg e : Expr) (fi : FI) : Prop := ∀ W : WX, Takes X W → PI X tg e (tMI (GX X) fi W)
theorem PI_imp {X : Cx} {tg e : Expr} {t t' : TI} (h : PI X tg e t) (i : ∀ σ H R, t' σ H R → t σ H R) : PI X tg e t' := ⟨fun pins s σ H R I q => h.run pins s σ H R I (i _ _ _ q)⟩
/-- the ends, from the entry with things that wait -/
theorem Stg.ends {G : GG} {Z : Ent} {A A0 : AM} {γ : Sg} {σ : L2.St} {H H0 : Hp} {l : List (Addr × HO)} {W : WX} {D : Ends} {r : RO} (T : Stg G Z A0 H0 l A γ σ H) (h : EndS G Z W D A0 H0 r) : EndS G (Z.waits l) W D A H r := by
  have st : ∀ {A' H'}, Stp (Z.waits l) A H A' H' → Stp Z A0 H0 A' H' := fun {A' H'} s => ⟨Keep.waits s.1 T.nw T.kp T.le, fun b o hb m => by
    obtain ⟨o', hb'⟩ := T.kp.on b o hb
    rcases (waits_mz l b).mp (s.2 b o' hb' ((waits_mz l b).mpr (.inl m))) with m | ⟨p, hp, rfl⟩
    · exact T.le.mz b m
    · rw [T.nw p hp] at hb; cases hb⟩
  cases r with
  | nx γ' => exact fun σ' A' H' S s => h σ' A' H' S.drops (st s)
  | rt c γ' => exact fun x σ' A' H' hs => h x σ' A' H' (by rw [waits_H0] at hs; exact hs.drops)
  | bk γ' => exact fun σ' A' H' S s => h σ' A' H' S.drops (st s)
  | ct γ' => exact fun σ' A' H' S s => h σ' A' H' S.drops (st s)
  | ex e γ' =>
    intro σ' A' H' cls d S s xr
    refine h σ' A' H' cls d S.drops (st s) ⟨xr.1, ?_⟩
    have q := xr.2
    revert q
    cases e.fs with
    | nil => exact fun q => q
    | cons p ps =>
      rintro ⟨a, vs, q1, q2, q3, q4⟩
      exact ⟨a, vs, q1, q2, fun m => q3 ((waits_mz l a).mpr (.inl m)), q4.keep .refl fun b _ _ m => (waits_mz l b).mpr (.inl m)⟩
  | no => exact h
def forM (t : Tg) (s : FS) : List MV → FS
  | [], γ => .nx γ
  | m :: ms, γ => match asgM t m γ with
    | none => .no
    | some γ1 => match s γ1 with
      | .nx γ2 => forM t s ms γ2
      | .ct γ2 => forM t s ms γ2
      | .bk γ2 => .nx γ2
      | .rt c γ2 => .rt c γ2
      | .ex e γ2 => .ex e γ2
      | .no => .no
def sFor (t : Tg) (fi : FI) (s : FS) : FS := fun γ => match fi γ with
  | .ok ms γ1 => forM t s ms γ1
  | .ex e γ1 => .ex e γ1
  | .no => .no
section
variable {X : Cx} {a b e : Expr} {es : List Expr} {f : FE} {o q : Opd} {pos : Pos} {x : Str} {s : FS} {sts : List Stmt} {fi : FI}
theorem qs_for {t : Tg} {tg : Expr} (hc : X.calm = true) (hi : RI X tg e fi) (hg : RG X tg t) (hb : QSs X sts s) (hs : ∀ x, foldedSetIterable e X.env x = pure x := by intro _; rfl) : QS X (.For tg e sts [] pos) (sFor t fi s) := fun po W tk =>
  PS_imp (ps_for po hc (hi W tk) hg (hb po W tk) hs) fun D σ H ⟨Z, A, γ, S, h⟩ => by
    refine ⟨Z, A, γ, S, ?_⟩
    unfold sFor at h
    cases E1 : fi γ with
    | no => rw [E1] at h; exact h
    | ex e γ1 => rw [E1] at h; exact fun A' H' cls d S' le k xr => h σ A' H' cls d S' (.of le k) xr
    | ok ms γ1 =>
      rw [E1] at h
      simp only at h
      intro J l A1 H1 P src T K p1
      refine ⟨fun i m σ' H' => m = ms.length - i ∧ i ≤ ms.length ∧ ∃ A' γ', Sim (GX X) (Z.waits l) A' γ' σ' H' ∧ P (Z.waits l) A' H' ∧ EndS (GX X) (Z.waits l) W D A' H' (forM t s (ms.drop i) γ'),
        ⟨ms.length, by simp, Nat.zero_le _, A1, γ1, T.sim, p1, T.ends h⟩, ?_⟩
      rintro i m σ' H' ⟨rfl, hi, A', γ', S', p', h'⟩
      by_cases hlt : i < ms.length
      · refine .inr ⟨K.go hlt p', fun σ3 H3 => ∃ A3 γ3, Sim (GX X) (Z.waits l) A3 γ3 σ3 H3 ∧ P (Z.waits l) A3 H3 ∧ EndS (GX X) (Z.waits l) W D A3 H3 (forM t s (ms.drop (i + 1)) γ3), fun σ3 H3 q => ⟨ms.length - (i + 1), by omega, rfl, hlt, q⟩, fun x H2 y => ?_⟩
        obtain ⟨e2, m, hm, r2⟩ := K.yld p' S' hlt y
        have em : ms.drop i = m :: ms.drop (i + 1) := by
          rw [List.drop_eq_getElem_cons hlt]
          rw [List.getElem?_eq_getElem hlt] at hm
          rw [Option.some.inj hm]
        rw [em] at h'
        simp only [forM] at h'
        have S2 := S'.same e2
        have st2 : Stp (Z.waits l) A' H' A' H2 := .of_same e2
        have p2 := K.stp p' S' S2 st2
        replace h' := h'.mono st2
        cases E2 : asgM t m γ' with
        | none => rw [E2] at h'; exact h'.elim
        | some γ2 =>
          rw [E2] at h'
          refine ⟨_, A', γ', m, S2, r2, γ2, E2, fun σ3 A3 S3 le3 _ => ?_⟩
          have st3 : Stp (Z.waits l) A' H2 A3 H2 := .of le3 .refl
          have p3 := K.stp p2 S2 S3 st3
          replace h' := h'.mono st3
          refine ⟨_, A3, γ2, S3, ?_⟩
          simp only at h'
          cases E3 : s γ2 with
          | nx γ4 => rw [E3] at h'; exact fun σ4 A4 H4 S4 st4 => ⟨A4, γ4, S4, K.stp p3 S3 S4 st4, h'.mono st4⟩
          | ct γ4 => rw [E3] at h'; exact fun σ4 A4 H4 S4 st4 => ⟨A4, γ4, S4, K.stp p3 S3 S4 st4, h'.mono st4⟩
          | bk γ4 => rw [E3] at h'; exact h'
          | rt c γ4 => rw [E3] at h'; exact h'
          | ex e γ4 => rw [E3] at h'; exact h'
          | no => rw [E3] at h'; exact h'
      · have e : i = ms.length := by omega
        subst e
        rw [List.drop_length] at h'
        exact .inl ⟨K.stop p', h' σ' A' H' S' .refl⟩
end
/-! ### lent while it is walked -/
def Ent.lend (Z : Ent) (j : Nat) (a : Addr) (o : HO) : Ent := ⟨Z.H0, fun b => Z.Mf b ∨ b = a, fun b u => Z.F b u ∨ (b = a ∧ u = o), Z.io, fun i => if i = j then some (a, o) else Z.ln i, fun i p h => by
  by_cases hi : i = j
  · rw [if_pos hi] at h
    cases h
    exact .inr ⟨rfl, rfl⟩
  · rw [if_neg hi] at h
    exact .inl (Z.lnF i p h)⟩
/-- slot j is lent while s runs -/
def sLend (j : Nat) (s : FS) : FS := fun γ => match γ[j]? with
  | some (some ⟨.own, v⟩) => (match s (γ.set j (some ⟨.lown, v⟩)) with
    | .nx γ' => (match γ'[j]? with
      | some (some ⟨.lown, v'⟩) => .nx (γ'.set j (some ⟨.own, v'⟩))
      | _ => .no)
    | .rt c γ' => (match γ'[j]? with
      | some (some ⟨.lown, _⟩) => .rt c (γ'.set j none)
      | _ => .no)
    | .ex e γ' => (match γ'[j]? with
      | some (some ⟨.lown, _⟩) => .ex e (γ'.set j none)
      | _ => .no)
    | _ => .no)
  | _ => s γ
theorem lend_mz {Z : Ent} {A : AM} {j : Nat} {a : Addr} {o : HO} (e : A j = some a) (b : Addr) : Mz (Z.lend j a o) (A.del j) b ↔ Mz Z A b := by
  unfold Mz Ent.lend
  constructor
  · rintro ((h | rfl) | ⟨i, h⟩)
    · exact .inl h
    · exact .inr ⟨j, e⟩
    · exact .inr ⟨i, AM.del_le i b h⟩
  · rintro (h | ⟨i, h⟩)
    · exact .inl (.inl h)
    · by_cases hi : i = j
      · rw [hi, e] at h
        cases h
        exact .inl (.inr rfl)
      · exact .inr ⟨i, by rw [AM.del_ne hi]; exact h⟩
section
variable {G : GG} {Z : Ent} {A A' A0 : AM} {γ γ' : Sg} {σ σ' : L2.St} {H H' H0 H00 : Hp} {c d : Cell} {x y z : V} {v : MV} {W : WX} {j : Nat} {a : Addr} {o : HO}
theorem Sim.lend (S : Sim G Z A γ σ H) (hj : γ[j]? = some (some ⟨.own, v⟩)) : ∃ a o, A j = some a ∧ H a = some o ∧ Z.H0 a = none ∧ ¬ Z.Mf a ∧ (∀ u, ¬ Z.F a u) ∧ Sim G (Z.lend j a o) (A.del j) (γ.set j (some ⟨.lown, v⟩)) σ H := by
  have hlt : j < γ.length := (List.getElem?_eq_some_iff.mp hj).1
  obtain ⟨x, h1, a, e, rfl, h2⟩ := S.cell j _ hj
  obtain ⟨c', hc', nf, hk⟩ := S.adr j a e
  rw [hj] at hc'
  cases hc'
  obtain ⟨o, ho⟩ := h2.on
  refine ⟨a, o, e, ho, hk.1, hk.2, nf, by rw [List.length_set]; exact S.len, fun i c hi => ?_, fun i b hi => ?_, fun i k b hi hk => S.inj i k b (AM.del_le i b hi) (AM.del_le k b hk),
    fun b m => m.elim (S.mf b) fun z => ⟨o, z ▸ ho⟩, fun b u hb => hb.elim (S.fr b u) fun ⟨z, z'⟩ => by rw [z, z']; exact ho, S.new⟩
  · by_cases hij : i = j
    · subst hij
      rw [List.getElem?_set_self hlt] at hi
      cases hi
      exact ⟨_, h1, AM.del_eq, a, o, if_pos rfl, rfl, h2.keep .refl (fun b _ _ m => (lend_mz e b).mp m) fun _ z => z⟩
    · rw [List.getElem?_set_ne (Ne.symm hij)] at hi
      obtain ⟨y, h3, h4⟩ := S.cell i c hi
      exact ⟨y, h3, CellOk.keep (Z := Z) (Z' := Z.lend j a o) (AM.del_ne hij) (fun p q => ⟨(if_neg hij).trans q, fun _ z => z⟩) .refl (fun b _ _ m => (lend_mz e b).mp m) (fun _ _ _ z => z) h4⟩
  · have hij : i ≠ j := fun z => by rw [z, AM.del_eq] at hi; cases hi
    rw [AM.del_ne hij] at hi
    rw [List.getElem?_set_ne (Ne.symm hij)]
    obtain ⟨c, h3, h4, h5⟩ := S.adr i b hi
    have nb : b ≠ a := fun z => hij (S.inj i j a (z ▸ hi) e)
    refine ⟨c, h3, fun u hu => hu.elim (h4 u) fun z => nb z.1, ?_⟩
    obtain ⟨k, w⟩ := c
    cases k with
    | val => exact h5
    | own => exact ⟨h5.1, fun m => m.elim h5.2 nb⟩
    | lown => exact h5
    | io => exact ⟨h5.1, .inl h5.2⟩
    | lio => exact h5
theorem Sim.lend_ne (S : Sim G (Z.lend j a o) A γ σ H) : ∀ i, A i ≠ some a := fun i e => by
  obtain ⟨c, _, h, _⟩ := S.adr i a e
  exact h o (.inr ⟨rfl, rfl⟩)
/-- back -/
theorem Sim.back {v : MV} (S : Sim G (Z.lend j a o) A γ σ H) (h0 : Z.H0 a = none) (nm : ¬ Z.Mf a) (nf : ∀ u, ¬ Z.F a u) (hj : γ[j]? = some (some ⟨.lown, v⟩)) : Sim G Z (A.put j a) (γ.set j (some ⟨.own, v⟩)) σ H := by
  have hlt : j < γ.length := (List.getElem?_eq_some_iff.mp hj).1
  obtain ⟨x, h1, e0, a', o', hl, rfl, h2⟩ := S.cell j _ hj
  have hl : (if j = j then some (a, o) else Z.ln j) = some (a', o') := hl
  rw [if_pos rfl] at hl
  cases hl
  have mm : ∀ b, Mz Z (A.put j a) b → Mz (Z.lend j a o) A b := fun b m => m.elim (fun m => .inl (.inl m)) fun ⟨i, hi⟩ => by
    by_cases hij : i = j
    · rw [hij, AM.put_eq] at hi
      cases hi
      exact .inl (.inr rfl)
    · rw [AM.put_ne hij] at hi
      exact .inr ⟨i, hi⟩
  refine ⟨by rw [List.length_set]; exact S.len, fun i c hi => ?_, fun i b hi => ?_, fun i k b hi hk => ?_, fun b m => S.mf b (.inl m), fun b u hb => S.fr b u (.inl hb), S.new⟩
  · by_cases hij : i = j
    · subst hij
      rw [List.getElem?_set_self hlt] at hi
      cases hi
      exact ⟨_, h1, a, AM.put_eq, rfl, h2.keep .refl (fun b _ _ m => mm b m) fun _ z => z⟩
    · rw [List.getElem?_set_ne (Ne.symm hij)] at hi
      obtain ⟨y, h3, h4⟩ := S.cell i c hi
      refine ⟨y, h3, CellOk.keep (Z := Z.lend j a o) (Z' := Z) (AM.put_ne hij) (fun p q => ⟨?_, fun _ z => z⟩) .refl (fun b _ _ m => mm b m) (fun _ _ _ z => z) h4⟩
      have q : (if i = j then some (a, o) else Z.ln i) = some p := q
      rw [if_neg hij] at q
      exact q
  · by_cases hij : i = j
    · subst hij
      rw [AM.put_eq] at hi
      cases hi
      exact ⟨_, List.getElem?_set_self hlt, nf, h0, nm⟩
    · rw [AM.put_ne hij] at hi
      rw [List.getElem?_set_ne (Ne.symm hij)]
      obtain ⟨c, h3, h4, h5⟩ := S.adr i b hi
      refine ⟨c, h3, fun u hu => h4 u (.inl hu), ?_⟩
      obtain ⟨k, w⟩ := c
      cases k with
      | val => exact h5
      | own => exact ⟨h5.1, fun m => h5.2 (.inl m)⟩
      | lown => exact h5
      | io => exact ⟨h5.1, h5.2.elim (fun m => m) fun z => absurd hi (by rw [z]; exact S.lend_ne i)⟩
      | lio => exact h5
  · by_cases hij : i = j
    · by_cases hkj : k = j
      · rw [hij, hkj]
      · rw [hij, AM.put_eq] at hi
        cases hi
        rw [AM.put_ne hkj] at hk
        exact absurd hk (S.lend_ne k)
    · rw [AM.put_ne hij] at hi
      by_cases hkj : k = j
      · rw [hkj, AM.put_eq] at hk
        cases hk
        exact absurd hi (S.lend_ne i)
      · rw [AM.put_ne hkj] at hk
        exact S.inj i k b hi hk
/-- not back: the slot is forgotten -/
theorem Sim.unlend {v : MV} (S : Sim G (Z.lend j a o) A γ σ H) (hj : γ[j]? = some (some ⟨.lown, v⟩)) : Sim G Z A (γ.set j none) σ H := by
  have mm : ∀ b, Mz Z A b → Mz (Z.lend j a o) A b := fun b m => m.imp_left .inl
  refine ⟨by rw [List.length_set]; exact S.len, fun i c hi => ?_, fun i b hi => ?_, S.inj, fun b m => S.mf b (.inl m), fun b u hb => S.fr b u (.inl hb), S.new⟩
  · by_cases hij : i = j
    · subst hij
      rw [List.getElem?_set] at hi
      simp only [if_true] at hi
      split at hi <;> cases hi
    · rw [List.getElem?_set_ne (Ne.symm hij)] at hi
      obtain ⟨y, h3, h4⟩ := S.cell i c hi
      refine ⟨y, h3, CellOk.keep (Z := Z.lend j a o) (Z' := Z) rfl (fun p q => ⟨?_, fun _ z => z⟩) .refl (fun b _ _ m => mm b m) (fun _ _ _ z => z) h4⟩
      have q : (if i = j then some (a, o) else Z.ln i) = some p := q
      rw [if_neg hij] at q
      exact q
  · obtain ⟨c, h3, h4, h5⟩ := S.adr i b hi
    have hij : i ≠ j := by
      rintro rfl
      rw [hj] at h3
      cases h3
      exact h5
    rw [List.getElem?_set_ne (Ne.symm hij)]
    refine ⟨c, h3, fun u hu => h4 u (.inl hu), ?_⟩
    obtain ⟨k, w⟩ := c
    cases k with
    | val => exact h5
    | own => exact ⟨h5.1, fun m => h5.2 (.inl m)⟩
    | lown => exact h5
    | io => exact ⟨h5.1, h5.2.elim (fun m => m) fun z => absurd hi (by rw [z]; exact S.lend_ne i)⟩
    | lio => exact h5
theorem lend_wait {b : Addr} {u : HO} : (Z.lend j a o).wait b u = (Z.wait b u).lend j a o := by
  refine Ent.ext' rfl ?_ ?_ rfl rfl
  · funext c
    unfold Ent.wait Ent.lend
    simp only [or_assoc, or_comm (a := c = a)]
  · funext c q
    unfold Ent.wait Ent.lend
    simp only [or_assoc, or_comm (a := c = a ∧ q = o)]
theorem HeldS.unlend {v : MV} (h : HeldS G (Z.lend j a o) A γ σ H0 H c x) (hj : γ[j]? = some (some ⟨.lown, v⟩)) : HeldS G Z A (γ.set j none) σ H0 H c x := by
  have mm : ∀ b, Mz Z A b → Mz (Z.lend j a o) A b := fun b m => m.imp_left .inl
  obtain ⟨kk, w⟩ := c
  cases kk with
  | val => exact ⟨h.1.unlend hj, h.2.less mm⟩
  | own =>
    obtain ⟨b, u, e, n, nm, r, S⟩ := h
    refine ⟨b, u, e, n, fun m => nm (.inl m), r.keep .refl (fun d _ _ m => ?_) fun _ z => z, ?_⟩
    · rw [mz_wait] at m ⊢
      exact m.imp_left (mm d)
    · rw [lend_wait] at S
      exact S.unlend hj
  | io => exact h.elim
  | lown => exact h.elim
  | lio => exact h.elim
end
theorem qs_lend {X : Cx} {st : Stmt} {s : FS} (j : Nat) (h1 : QS X st s) : QS X st (sLend j s) := fun po W tk => PS_imp (h1 po W tk) fun D σ H ⟨Z, A, γ, S, h⟩ => by
  unfold sLend at h
  split at h
  · rename_i v hj
    obtain ⟨a, o, e, ho, h0, nm, nf, S1⟩ := S.lend hj
    have hlt : j < γ.length := (List.getElem?_eq_some_iff.mp hj).1
    refine ⟨_, _, _, S1, ?_⟩
    have kk : ∀ {H'}, Keep (Mz (Z.lend j a o) (A.del j)) H H' → Keep (Mz Z A) H H' := fun k => k.mono fun b m => (lend_mz e b).mp m
    cases E : s (γ.set j (some ⟨.lown, v⟩)) with
    | nx γ' =>
      rw [E] at h
      simp only at h
      split at h
      · rename_i v' hj'
        intro σ' A' H' S' st
        refine h σ' _ H' (S'.back h0 nm nf hj') ⟨kk st.1, fun b u hb m => ?_⟩
        rcases m with m | ⟨i, hi⟩
        · exact .inl m
        · by_cases hij : i = j
          · rw [hij, AM.put_eq] at hi
            cases hi
            exact .inr ⟨j, e⟩
          · rw [AM.put_ne hij] at hi
            exact (lend_mz e b).mp (st.2 b u hb (.inr ⟨i, hi⟩))
      · exact h.elim
    | rt c γ' =>
      rw [E] at h
      simp only at h
      split at h
      · rename_i v' hj'
        exact fun x σ' A' H' hs => h x σ' A' H' (hs.unlend hj')
      · exact h.elim
    | ex e' γ' =>
      rw [E] at h
      simp only at h
      split at h
      · rename_i v' hj'
        intro σ' A' H' cls d S' st xr
        refine h σ' A' H' cls d (S'.unlend hj') ⟨kk st.1, fun b u hb m => ?_⟩ ⟨xr.1, ?_⟩
        · exact (lend_mz e b).mp (st.2 b u hb (m.imp_left .inl))
        · have q := xr.2
          revert q
          cases e'.fs with
          | nil => exact fun q => q
          | cons p ps =>
            rintro ⟨b, vs, q1, q2, q3, q4⟩
            exact ⟨b, vs, q1, q2, fun m => q3 (m.imp_left .inl), q4.keep .refl fun b _ _ m => m.imp_left .inl⟩
      · exact h.elim
    | bk γ' => rw [E] at h; exact h.elim
    | ct γ' => rw [E] at h; exact h.elim
    | no => rw [E] at h; exact h.elim
  · exact ⟨Z, A, γ, S, h⟩
end Mi

set_option Elab.async false
set_option linter.all false
set_option maxRecDepth 100000
set_option maxHeartbeats 4000000
/-! what is walked: lists, tuples, texts, ranges, enumerate, zip -/
namespace Mi
open PySem PySem.Spec PyProof.Rows L2 My RZ

section
variable {G : GG} {Z : Ent} {A A' A0 : AM} {γ γ' : Sg} {σ σ' : L2.St} {H H' H0 H00 : Hp} {c d : Cell} {x y z : V} {v : MV} {l : List (Addr × HO)} {o q : Opd} {W : WX}
theorem Hold.stp (h : Hold G Z A H v x) (S : Sim G Z A γ σ H) (S' : Sim G Z A' γ' σ' H') (s : Stp Z A H A' H') : Hold G Z A' H' v x := by
  rcases h with h | ⟨a, o, e, f, h⟩
  · exact .inl (h.keep s.1 s.2)
  · refine .inr ⟨a, o, e, f, h.keep s.1 s.2 fun u hu => ?_⟩
    have := S.fr a o f
    rw [this] at hu
    cases hu
    exact S'.fr a o f
/-- an operand that stays while it is walked -/
def walkable (o : Opd) (c : Cell) : Bool := match o with
  | .ex _ => true
  | .sl _ => match c.k with
    | .own => false
    | .io => false
    | _ => true
theorem Later.hold (h : Later G Z A γ σ H o c x) (S : Sim G Z A γ σ H) (hw : walkable o c = true) (hc : ∀ i, o = .sl i → γ[i]? = some (some c)) : Hold G Z A H c.v x := by
  cases o with
  | ex f => exact h
  | sl i =>
    obtain ⟨y, h1, h2⟩ := S.cell i c (hc i rfl)
    have h : σ[i]? = some (some x) := h
    rw [h] at h1
    cases h1
    obtain ⟨k, v⟩ := c
    cases k with
    | val => exact .inl h2.2
    | own => cases hw
    | io => cases hw
    | lown => obtain ⟨_, a, u, e, rfl, r⟩ := h2; exact .inr ⟨a, u, rfl, Z.lnF i _ e, r⟩
    | lio => obtain ⟨_, a, u, e, rfl, r⟩ := h2; exact .inr ⟨a, u, rfl, Z.lnF i _ e, r⟩
theorem oEv_sl {i : Nat} (e : oEv (.sl i) γ = .ok c γ') : γ' = γ ∧ γ[i]? = some (some c) := by
  unfold oEv at e
  simp only at e
  split at e
  · rename_i c' hc
    cases e
    exact ⟨rfl, hc⟩
  · cases e
theorem Hold.lst {ms : List MV} (h : Hold G Z A H (.lst ms) x) : ∃ a vs, x = .ref a ∧ SqL G.K H a vs ∧ Reps G (Mz Z A) H ms vs := by
  rcases h with h | ⟨a, o, rfl, _, h⟩
  · simp only [Rep] at h
    obtain ⟨a, vs, rfl, h1, _, h2⟩ := h
    exact ⟨a, vs, rfl, h1.sq, h2⟩
  · simp only [Own] at h
    obtain ⟨vs, h1, h2⟩ := h
    exact ⟨a, vs, rfl, .of h1, h2⟩
theorem Hold.tup {ms : List MV} (h : Hold G Z A H (.tup ms) x) : ∃ a vs, x = .ref a ∧ SqT G.K H a vs ∧ Reps G (Mz Z A) H ms vs := by
  rcases h with h | ⟨a, o, rfl, _, h⟩
  · simp only [Rep] at h
    obtain ⟨a, vs, rfl, h1, h2⟩ := h
    exact ⟨a, vs, rfl, h1.sq, h2⟩
  · simp only [Own] at h
theorem Hold.str {s : Str} (h : Hold G Z A H (.str s) x) : x = .str s := by
  rcases h with h | ⟨a, o, rfl, _, h⟩
  · simp only [Rep] at h; exact h
  · simp only [Own] at h
end
section
variable {G : GG} {Z : Ent} {A : AM} {H H' : Hp} {v : MV} {x : V} {p a : Addr} {o o' : HO}
theorem Hold.wait' (h : Hold G Z A H v x) (e : Same H H') (n : H p = none) : Hold G (Z.wait p o) A H' v x := by
  have m : ∀ b u, H b = some u → Mz (Z.wait p o) A b → Mz Z A b := fun b u hb m => ((mz_wait b).mp m).elim (fun m => m) fun z => by rw [z, n] at hb; cases hb
  rcases h with h | ⟨b, u, e1, f, h⟩
  · exact .inl (h.keep (.of_same e) m)
  · exact .inr ⟨b, u, e1, .inl f, h.keep (.of_same e) m fun _ z => e _ _ z⟩
theorem Keep.upd {M : Addr → Prop} (m : M p) : Keep M H (L2.upd H p o) :=
  ⟨fun b u n h => by rw [upd_ne (show b ≠ p from fun z => n (by rw [z]; exact m))]; exact h, fun b u h => by
    by_cases e : b = p
    · subst e; exact ⟨_, upd_same⟩
    · exact ⟨u, by rw [upd_ne e]; exact h⟩⟩
theorem wait_same (b : Addr) : Mz (Z.wait p o') A b → Mz (Z.wait p o) A b := fun m => (mz_wait b).mpr ((mz_wait b).mp m)
theorem wait_in : Mz (Z.wait p o) A p := (mz_wait p).mpr (.inr rfl)
theorem Hold.rew (n : p ≠ a) (h : Hold G (Z.wait p o) A H v (.ref a)) : Hold G (Z.wait p o') A (L2.upd H p o') v (.ref a) := by
  rcases h with h | ⟨b, u, e, f, h⟩
  · exact .inl (h.keep (Keep.upd wait_in) fun b _ _ m => wait_same b m)
  · cases e
    refine .inr ⟨a, u, rfl, f.elim .inl fun z => absurd z.1.symm n, h.keep (Keep.upd wait_in) (fun b _ _ m => wait_same b m) fun _ z => by rw [upd_ne (Ne.symm n)]; exact z⟩
theorem Hold.rewT {ms : List MV} (h : Hold G (Z.wait p o) A H (.tup ms) x) : Hold G (Z.wait p o') A (L2.upd H p o') (.tup ms) x := by
  rcases h with h | ⟨b, u, e, f, h⟩
  · exact .inl (h.keep (Keep.upd wait_in) fun b _ _ m => wait_same b m)
  · simp only [Own] at h
/-- a list that stands in the written part -/
def WrL (K : PySem.W.Frag) (a : Addr) (vs : List V) : Prop := ∃ (o : Obj) (its : Array Value) (n : Nat), K.lookup a = some o ∧ o.cls = .type "list" ∧ o.dict = none ∧ o.data = .seq its n ∧ its.size ≤ sizeLine ∧ Vals vs its.toList
/-- a list that is walked: w: written, else tracked -/
def HoldL (G : GG) (Z : Ent) (A : AM) (H : Hp) (ms : List MV) (a : Addr) : Bool → Prop
  | true => ∃ vs, WrL G.K a vs ∧ Reps G (Mz Z A) H ms vs
  | false => Hold G Z A H (.lst ms) (.ref a) ∧ ∃ o, H a = some o
theorem HoldL.lst {ms : List MV} {w : Bool} (h : HoldL G Z A H ms a w) : ∃ b vs, V.ref a = .ref b ∧ SqL G.K H b vs ∧ Reps G (Mz Z A) H ms vs := by
  cases w with
  | true =>
    obtain ⟨vs, h1, h2⟩ := h
    exact ⟨a, vs, rfl, .inr h1, h2⟩
  | false =>
    obtain ⟨b, vs, e, h1, h2⟩ := h.1.lst
    exact ⟨b, vs, e, h1, h2⟩
theorem HoldL.split {ms : List MV} (h : Hold G Z A H (.lst ms) (.ref a)) : ∃ w, HoldL G Z A H ms a w := by
  cases e : H a with
  | some o => exact ⟨false, h, o, e⟩
  | none =>
    refine ⟨true, ?_⟩
    rcases h with h | ⟨b, u, e1, f, h⟩
    · simp only [Rep] at h
      obtain ⟨b, vs, e2, h1, _, h2⟩ := h
      cases e2
      rcases h1 with ⟨h1, _⟩ | h1
      · obtain ⟨o, h1⟩ := Rd.on h1
        rw [e] at h1
        cases h1
      · exact ⟨vs, h1, h2⟩
    · cases e1
      obtain ⟨o, h⟩ := h.on
      rw [e] at h
      cases h
theorem HoldL.stp {ms : List MV} {w : Bool} {A' : AM} {γ γ' : Sg} {σ σ' : L2.St} (h : HoldL G Z A H ms a w) (S : Sim G Z A γ σ H) (S' : Sim G Z A' γ' σ' H') (s : Stp Z A H A' H') : HoldL G Z A' H' ms a w := by
  cases w with
  | true =>
    obtain ⟨vs, h1, h2⟩ := h
    exact ⟨vs, h1, h2.keep s.1 s.2⟩
  | false =>
    obtain ⟨h1, o, h2⟩ := h
    exact ⟨h1.stp S S' s, s.1.on a o h2⟩
theorem HoldL.wait' {ms : List MV} {w : Bool} (h : HoldL G Z A H ms a w) (e : Same H H') (n : H p = none) : HoldL G (Z.wait p o) A H' ms a w := by
  have m : ∀ b u, H b = some u → Mz (Z.wait p o) A b → Mz Z A b := fun b u hb m => ((mz_wait b).mp m).elim (fun m => m) fun z => by rw [z, n] at hb; cases hb
  cases w with
  | true =>
    obtain ⟨vs, h1, h2⟩ := h
    exact ⟨vs, h1, h2.keep (.of_same e) m⟩
  | false =>
    obtain ⟨h1, u, h2⟩ := h
    exact ⟨h1.wait' e n, u, e _ _ h2⟩
theorem HoldL.rew {ms : List MV} {w : Bool} (n : w = false → p ≠ a) (h : HoldL G (Z.wait p o) A H ms a w) : HoldL G (Z.wait p o') A (L2.upd H p o') ms a w := by
  cases w with
  | true =>
    obtain ⟨vs, h1, h2⟩ := h
    exact ⟨vs, h1, h2.keep (Keep.upd wait_in) fun b _ _ m => wait_same b m⟩
  | false =>
    obtain ⟨h1, u, h2⟩ := h
    exact ⟨h1.rew (n rfl), u, by rw [upd_ne (Ne.symm (n rfl))]; exact h2⟩
theorem HoldL.on {ms : List MV} {w : Bool} (e : w = false) (h : HoldL G Z A H ms a w) : ∃ o, H a = some o := by
  subst e
  exact h.2
end
def seqM : MV → Option (List MV)
  | .lst ms => some ms
  | .tup ms => some ms
  | .str z => some (z.cps.toList.map fun c => .str ⟨#[c]⟩)
  | _ => none
def fSeq (o : Opd) : FI := fun γ => match oEv o γ with
  | .ok c γ1 => if walkable o c then (match seqM c.v with
    | some ms => .ok ms γ1
    | none => .no) else .no
  | .ex e γ1 => .ex e γ1
  | .no => .no
/-- iter of a value: a list, a tuple, a text -/
def seqIt (K : PySem.W.Frag) (x : V) (H : Hp) (R : It → Hp → Prop) : Prop :=
  (∃ a, x = .ref a ∧ (∃ xs, SqL K H a xs) ∧ R (Itl K a) H) ∨ (∃ a, x = .ref a ∧ (∃ xs, SqT K H a xs) ∧ R (Itt K a) H) ∨ ∃ z, x = .str z ∧ R (Its z) H
theorem pi_seq {X : Cx} {tg l : Expr} {tl : TE} (hl : PE X l tl) : PI X tg l (fun σ H R => tl σ H fun x H1 => seqIt X.K x H1 R) := by
  refine ⟨fun pins s σ H R I h => ?_⟩
  refine thn (hl.run pins s σ H _ I h) fun v s1 ⟨x, H1, I1, r1, q1⟩ => ?_
  rcases q1 with ⟨a, e, ⟨xs, hq⟩, q⟩ | ⟨a, e, ⟨xs, hq⟩, q⟩ | ⟨z, e, q⟩
  · subst e
    cases r1
    obtain ⟨its, rv, p, hz⟩ := I1.list hq
    refine wpAny_pyIter_list p.isList ?_
    refine ⟨s1.heap.objs.size, [s1.heap.objs.size], _, _, H1, rfl, I1.kept (t' := s1.toks) fun b o e => Heap.get?_push_of_some _ e, turn_list a _, ⟨_, Heap.get?_push_size _ rfl, rfl, rfl⟩, fun b hb => ?_, q⟩
    have e : b = s1.heap.objs.size := by simpa using hb
    subst e
    exact I1.fpOk (Nat.le_refl _) (I1.hok.fresh (Nat.le_refl _))
  · subst e
    cases r1
    obtain ⟨its, rv, p, hz⟩ := I1.tuple hq
    refine wpAny_pyIter_tuple (show s1.heap.IsTuple a its.toArray from p) ?_
    refine ⟨s1.heap.objs.size, [s1.heap.objs.size], _, _, H1, rfl, I1.kept (t' := s1.toks) fun b o e => Heap.get?_push_of_some _ e, turn_tuple a _, ⟨_, Heap.get?_push_size _ rfl, rfl, rfl⟩, fun b hb => ?_, q⟩
    have e : b = s1.heap.objs.size := by simpa using hb
    subst e
    exact I1.fpOk (Nat.le_refl _) (I1.hok.fresh (Nat.le_refl _))
  · subst e
    obtain ⟨t, rfl⟩ := r1
    cases ha : z.cps.all (· < 128)
    · exact wpAny_pyIter_wide ha (pi_one (tk := s1.toks) I1 _ (turn_str _ z t "str_iterator" (.inr rfl)) ⟨_, Heap.get?_push_size _ rfl, rfl, rfl⟩ q)
    · exact wpAny_pyIter_ascii ha (pi_one (tk := s1.toks) I1 _ (turn_str _ z t "str_ascii_iterator" (.inl rfl)) ⟨_, Heap.get?_push_size _ rfl, rfl, rfl⟩ q)
section
variable {G : GG} {Z : Ent} {ms : List MV} {a : Addr} {w : Bool}
theorem it_list : ItOk G (Itl G.K a) ms (fun Z A H => HoldL G Z A H ms a w) (fun b => w = false ∧ b = a) where
  stp := fun p S S' s => p.stp S S' s
  wait := fun p e n => p.wait' e n
  rew := fun n p => p.rew (fun z e => n ⟨z, e⟩)
  at_ := fun p e => by obtain ⟨e1, e⟩ := e; subst e; exact p.on e1
  go := fun {Z i A H} hi p => by
    obtain ⟨b, vs, e, h1, h2⟩ := p.lst
    cases e
    obtain ⟨v, hv, _⟩ := h2.get (List.getElem?_eq_getElem hi)
    exact ⟨vs, v, h1, hv⟩
  stop := fun {Z A H} p => by
    obtain ⟨b, vs, e, h1, h2⟩ := p.lst
    cases e
    exact ⟨vs, h1, by rw [h2.len]; exact Nat.le_refl _⟩
  yld := fun {Z i A γ σ H x H'} p S hi y => by
    obtain ⟨b, vs, e, h1, h2⟩ := p.lst
    cases e
    obtain ⟨v, hv, r⟩ := h2.get (List.getElem?_eq_getElem hi)
    obtain ⟨e, y⟩ := y
    subst e
    have := y vs h1
    rw [hv] at this
    cases this
    exact ⟨.refl _, _, List.getElem?_eq_getElem hi, r⟩
theorem it_tup : ItOk G (Itt G.K a) ms (fun Z A H => Hold G Z A H (.tup ms) (.ref a)) (fun b => False) where
  stp := fun p S S' s => p.stp S S' s
  wait := fun p e n => p.wait' e n
  rew := fun n p => p.rewT
  at_ := fun p e => e.elim
  go := fun {Z i A H} hi p => by
    obtain ⟨b, vs, e, h1, h2⟩ := p.tup
    cases e
    obtain ⟨v, hv, _⟩ := h2.get (List.getElem?_eq_getElem hi)
    exact ⟨vs, v, h1, hv⟩
  stop := fun {Z A H} p => by
    obtain ⟨b, vs, e, h1, h2⟩ := p.tup
    cases e
    exact ⟨vs, h1, by rw [h2.len]; exact Nat.le_refl _⟩
  yld := fun {Z i A γ σ H x H'} p S hi y => by
    obtain ⟨b, vs, e, h1, h2⟩ := p.tup
    cases e
    obtain ⟨v, hv, r⟩ := h2.get (List.getElem?_eq_getElem hi)
    obtain ⟨e, y⟩ := y
    subst e
    have := y vs h1
    rw [hv] at this
    cases this
    exact ⟨.refl _, _, List.getElem?_eq_getElem hi, r⟩
theorem it_str {z : Str} : ItOk G (Its z) (z.cps.toList.map fun c => .str ⟨#[c]⟩) (fun Z A H => True) (fun b => False) where
  stp := fun _ _ _ _ => trivial
  wait := fun _ _ _ => trivial
  rew := fun _ _ => trivial
  at_ := fun _ e => e.elim
  go := fun {Z i A H} hi p => by
    show i < z.cps.size
    simpa using hi
  stop := fun {Z A H} p => by
    show z.cps.size ≤ _
    simp
  yld := fun {Z i A γ σ H x H'} p S hi y => by
    obtain ⟨rfl, c, hc, rfl⟩ := y
    refine ⟨.refl _, .str ⟨#[c]⟩, ?_, by simp only [Rep]⟩
    rw [List.getElem?_map, Array.getElem?_toList, hc]
    rfl
theorem it_rng {lo : Int} {n : Nat} : ItOk G (Itr lo n) ((List.range n).map fun k => .int (lo + (k : Nat))) (fun Z A H => True) (fun b => False) where
  stp := fun _ _ _ _ => trivial
  wait := fun _ _ _ => trivial
  rew := fun _ _ => trivial
  at_ := fun _ e => e.elim
  go := fun {Z i A H} hi p => by
    show i < n
    simpa using hi
  stop := fun {Z A H} p => by
    show n ≤ _
    simp
  yld := fun {Z i A γ σ H x H'} p S hi y => by
    obtain ⟨rfl, rfl⟩ := y
    have hn : i < n := by simpa using hi
    refine ⟨.refl _, .int (lo + i), ?_, by simp only [Rep]⟩
    rw [List.getElem?_map, List.getElem?_range hn]
    rfl
/-- pairs, new at each turn -/
def pairsM (ms ns : List MV) : List MV := List.zipWith (fun m n => .tup [m, n]) ms ns
theorem pairsM_get {ms ns : List MV} {i : Nat} {m n : MV} (h1 : ms[i]? = some m) (h2 : ns[i]? = some n) : (pairsM ms ns)[i]? = some (.tup [m, n]) := by
  unfold pairsM
  rw [List.getElem?_zipWith, h1, h2]
theorem rep_pair {A : AM} {γ : Sg} {σ : L2.St} {H : Hp} {T : Addr} {x y : V} {m n : MV} (S : Sim G Z A γ σ H) (hT : H T = none) (r1 : Rep G (Mz Z A) H m x) (r2 : Rep G (Mz Z A) H n y) : Rep G (Mz Z A) (upd H T (.tup [x, y])) (.tup [m, n]) (.ref T) := by
  have e : Same H (upd H T (.tup [x, y])) := same_new hT
  simp only [Rep]
  exact ⟨T, [x, y], rfl, .inl ⟨.inl upd_same, S.trk.new hT⟩, Reps.consI (r1.same e) (Reps.one (r2.same e))⟩
def enumM (ms : List MV) : List MV := pairsM ((List.range ms.length).map fun k => .int ((k : Nat) : Int)) ms
theorem enumM_len (ms : List MV) : (enumM ms).length = ms.length := by unfold enumM pairsM; simp
theorem it_enum {w : Bool} : ItOk G (Ite G.K a) (enumM ms) (fun Z A H => HoldL G Z A H ms a w) (fun b => w = false ∧ b = a) where
  stp := fun p S S' s => p.stp S S' s
  wait := fun p e n => p.wait' e n
  rew := fun n p => p.rew (fun z e => n ⟨z, e⟩)
  at_ := fun p e => by obtain ⟨e1, e⟩ := e; subst e; exact p.on e1
  go := fun {Z i A H} hi p => by
    rw [enumM_len] at hi
    obtain ⟨b, vs, e, h1, h2⟩ := p.lst
    cases e
    obtain ⟨v, hv, _⟩ := h2.get (List.getElem?_eq_getElem hi)
    exact ⟨vs, v, h1, hv⟩
  stop := fun {Z A H} p => by
    rw [enumM_len]
    obtain ⟨b, vs, e, h1, h2⟩ := p.lst
    cases e
    exact ⟨vs, h1, by rw [h2.len]; exact Nat.le_refl _⟩
  yld := fun {Z i A γ σ H x H'} p S hi y => by
    rw [enumM_len] at hi
    obtain ⟨b, vs, e, h1, h2⟩ := p.lst
    cases e
    obtain ⟨v, hv, r⟩ := h2.get (List.getElem?_eq_getElem hi)
    obtain ⟨T, w, rfl, hT, rfl, hw⟩ := y
    have := hw vs h1
    rw [hv] at this
    cases this
    exact ⟨same_new hT, _, pairsM_get (by rw [List.getElem?_map, List.getElem?_range hi]; rfl) (List.getElem?_eq_getElem hi), rep_pair S hT (by simp only [Rep]) r⟩
theorem it_enumT : ItOk G (Iet G.K a) (enumM ms) (fun Z A H => Hold G Z A H (.tup ms) (.ref a)) (fun b => False) where
  stp := fun p S S' s => p.stp S S' s
  wait := fun p e n => p.wait' e n
  rew := fun n p => p.rewT
  at_ := fun p e => e.elim
  go := fun {Z i A H} hi p => by
    rw [enumM_len] at hi
    obtain ⟨b, vs, e, h1, h2⟩ := p.tup
    cases e
    obtain ⟨v, hv, _⟩ := h2.get (List.getElem?_eq_getElem hi)
    exact ⟨vs, v, h1, hv⟩
  stop := fun {Z A H} p => by
    rw [enumM_len]
    obtain ⟨b, vs, e, h1, h2⟩ := p.tup
    cases e
    exact ⟨vs, h1, by rw [h2.len]⟩
  yld := fun {Z i A γ σ H x H'} p S hi y => by
    rw [enumM_len] at hi
    obtain ⟨b, vs, e, h1, h2⟩ := p.tup
    cases e
    obtain ⟨v, hv, r⟩ := h2.get (List.getElem?_eq_getElem hi)
    obtain ⟨T, w, rfl, hT, rfl, hw⟩ := y
    have := hw vs h1
    rw [hv] at this
    cases this
    exact ⟨same_new hT, _, pairsM_get (by rw [List.getElem?_map, List.getElem?_range hi]; rfl) (List.getElem?_eq_getElem hi), rep_pair S hT (by simp only [Rep]) r⟩
end
section
variable {X : Cx} {tg a b e : Expr} {es elts : List Expr} {f : FE} {fa : FA} {o q : Opd} {pos p tpos : Pos} {x : Str} {s : FS} {sts : List Stmt} {fi : FI} {kk : Nat}
theorem ri_seq (ha : RQ X e o) : RI X tg e (fSeq o) := fun W tk => PI_imp (pi_seq (ha W tk)) fun σ H R ⟨Z, A, γ, S, h⟩ => by
  refine (Stg.start S).run ?_
  unfold fSeq at h
  cases E1 : oEv o γ with
  | no => rw [E1] at h; exact h
  | ex e γ1 => rw [E1] at h; exact h
  | ok c γ1 =>
    rw [E1] at h
    simp only at h ⊢
    intro x l1 A1 H1 T1 _ L1
    split at h
    · rename_i hw
      have hd := L1.hold T1.sim hw fun i e => by
        subst e
        obtain ⟨e1, e2⟩ := oEv_sl E1
        rw [e1]
        exact e2
      obtain ⟨k, v⟩ := c
      cases v with
      | lst ms =>
        obtain ⟨a, vs, rfl, h1, h2⟩ := hd.lst
        obtain ⟨w, hl⟩ := HoldL.split hd
        exact .inl ⟨a, rfl, ⟨vs, h1⟩, h _ l1 A1 H1 _ _ T1 it_list hl⟩
      | tup ms =>
        obtain ⟨a, vs, rfl, h1, h2⟩ := hd.tup
        exact .inr (.inl ⟨a, rfl, ⟨vs, h1⟩, h _ l1 A1 H1 _ _ T1 it_tup hd⟩)
      | str z =>
        have := hd.str
        exact .inr (.inr ⟨z, this, h _ l1 A1 H1 _ _ T1 it_str trivial⟩)
      | _ => exact h.elim
    · exact h.elim
/-! range -/
def rangeM1 : List MV → Option (List MV)
  | [.int j] => if -(2 ^ 62) ≤ j ∧ j < 2 ^ 62 then some ((List.range j.toNat).map fun k => .int ((0 : Int) + (k : Nat))) else none
  | _ => none
def rangeM2 : List MV → Option (List MV)
  | [.int i, .int j] => if -(2 ^ 62) ≤ i ∧ i < 2 ^ 62 ∧ -(2 ^ 62) ≤ j ∧ j < 2 ^ 62 then some ((List.range (j - i).toNat).map fun k => .int (i + (k : Nat))) else none
  | _ => none
def fArgs (g : List MV → Option (List MV)) (fa : FA) : FI := fun γ => match fa γ with
  | .ok ms γ1 => (match g ms with
    | some r => .ok r γ1
    | none => .no)
  | .ex e γ1 => .ex e γ1
  | .no => .no
theorem EndA.fin {G : GG} {Z : Ent} {A A1 : AM} {γ : Sg} {σ : L2.St} {H H1 : Hp} (S1 : Sim G Z A1 γ σ H1) (le : Le A1 A) (k : Keep (Mz Z A) H H1) : Stg G Z A H [] A1 γ σ H1 := ⟨S1, le, k, fun _ h => nomatch h⟩
theorem ri_range1 (hg : Gl X "range") (hm : X.mg "range" = none) (ha : RA X [a] fa) (hs : starEach [a] X.env = [(false, eval a X.env)] := by rfl) : RI X tg (.Call (.Name "range" p) [a] [] pos) (fArgs rangeM1 fa) := fun W tk =>
  PI_imp (pi_range1 hg hm (ha W tk) hs) fun σ H R ⟨Z, A, γ, S, h⟩ => by
    refine ⟨Z, A, γ, S, ?_⟩
    unfold fArgs at h
    cases E1 : fa γ with
    | no => rw [E1] at h; exact h
    | ex e γ1 => rw [E1] at h; exact h
    | ok ms γ1 =>
      rw [E1] at h
      simp only at h
      intro xs A1 H1 S1 le k r
      cases E2 : rangeM1 ms with
      | none => rw [E2] at h; exact h.elim
      | some rr =>
        rw [E2] at h
        unfold rangeM1 at E2
        split at E2
        · rename_i j
          simp only [Reps, Rep] at r
          obtain ⟨v, w, rfl, rfl, rfl⟩ := r
          split at E2
          · rename_i hb
            cases E2
            exact ⟨j, rfl, hb.1, hb.2, h _ [] A1 H1 _ _ (EndA.fin S1 le k) it_rng trivial⟩
          · cases E2
        · cases E2
theorem ri_range2 (hg : Gl X "range") (hm : X.mg "range" = none) (ha : RA X [a, b] fa) (hs : starEach [a, b] X.env = [(false, eval a X.env), (false, eval b X.env)] := by rfl) (hs2 : starEach [b] X.env = [(false, eval b X.env)] := by rfl) :
    RI X tg (.Call (.Name "range" p) [a, b] [] pos) (fArgs rangeM2 fa) := fun W tk =>
  PI_imp (pi_range2 hg hm (ha W tk) hs hs2) fun σ H R ⟨Z, A, γ, S, h⟩ => by
    refine ⟨Z, A, γ, S, ?_⟩
    unfold fArgs at h
    cases E1 : fa γ with
    | no => rw [E1] at h; exact h
    | ex e γ1 => rw [E1] at h; exact h
    | ok ms γ1 =>
      rw [E1] at h
      simp only at h
      intro xs A1 H1 S1 le k r
      cases E2 : rangeM2 ms with
      | none => rw [E2] at h; exact h.elim
      | some rr =>
        rw [E2] at h
        unfold rangeM2 at E2
        split at E2
        · rename_i i j
          simp only [Reps, Rep] at r
          obtain ⟨v, w, rfl, rfl, v2, w2, rfl, rfl, rfl⟩ := r
          split at E2
          · rename_i hb
            cases E2
            exact ⟨i, j, rfl, hb, h _ [] A1 H1 _ _ (EndA.fin S1 le k) it_rng trivial⟩
          · cases E2
        · cases E2
/-! enumerate, zip -/
def fEnum (o : Opd) : FI := fun γ => match oEv o γ with
  | .ok c γ1 => if walkable o c then (match c.v with
    | .lst ms => .ok (enumM ms) γ1
    | .tup ms => .ok (enumM ms) γ1
    | _ => .no) else .no
  | .ex e γ1 => .ex e γ1
  | .no => .no
def iEnA (K : PySem.W.Frag) (ta : TA) : TI := fun σ H R => ta σ H fun vs H1 => ∃ a, vs = [.ref a] ∧ ((∃ xs, SqL K H1 a xs ∧ R (Ite K a) H1) ∨ ∃ xs, SqT K H1 a xs ∧ R (Iet K a) H1)
theorem pi_enumA {ta : TA} (hg : Gl X "enumerate") (hm : X.mg "enumerate" = none) (ha : PA X [e] ta) (hs : starEach [e] X.env = [(false, eval e X.env)] := by rfl) :
    PI X (.Tuple elts kk tpos) (.Call (.Name "enumerate" p) [e] [] pos) (iEnA X.K ta) := by
  refine ⟨fun pins s σ H R I h => ?_⟩
  refine Call_ (ld_blt I hg hm boot_enumerate (PyProof.Rows.callWith_type1 (thn (ha.run pos pins s σ H _ I h) fun us s1 ⟨vs, H1, I1, r1, q1⟩ => ?_) hs rfl))
  · obtain ⟨a, ex, q1⟩ := q1
    subst ex
    cases r1 with
    | cons r rr =>
      cases rr
      cases r
      rcases q1 with ⟨xs, hq, q⟩ | ⟨xs, hq, q⟩
      · obtain ⟨its, rv, p', hz⟩ := I1.list hq
        refine call_enumerate_list p'.isList fun h' he hit hsz hk => wpAny_pyIter_enum he ?_
        have I2 : L2.Inv X pins σ H1 { s1 with heap := h' } := I1.kept (t' := s1.toks) hk
        refine ⟨s1.heap.objs.size + 1, [s1.heap.objs.size + 1, s1.heap.objs.size], _, _, H1, rfl, I2, turn_enum a (s1.heap.objs.size + 1) s1.heap.objs.size, ⟨⟨.none, he⟩, hit, Nat.succ_ne_self _⟩, fun b hb => ?_, q⟩
        have hle : s1.heap.objs.size ≤ b := by
          rcases (show b = s1.heap.objs.size + 1 ∨ b = s1.heap.objs.size by simpa using hb) with z | z
          · rw [z]; exact Nat.le_add_right _ _
          · rw [z]; exact Nat.le_refl _
        exact I1.fpOk hle (I1.hok.fresh hle)
      · obtain ⟨its, rv, p', hz⟩ := I1.tuple hq
        have hal : a < s1.heap.objs.size := p'.lt
        refine call_enum1 (begins_tuple a its.toArray) (show s1.heap.IsTuple a its.toArray from p') fun h' he hit hsz hk => wpAny_pyIter_enum he ?_
        have I2 : L2.Inv X pins σ H1 { s1 with heap := h' } := I1.kept (t' := s1.toks) hk
        refine ⟨s1.heap.objs.size + 1, [s1.heap.objs.size + 1, s1.heap.objs.size], _, _, H1, rfl, I2, turn_enumT a (s1.heap.objs.size + 1) s1.heap.objs.size (Nat.succ_ne_self _) (Nat.ne_of_lt hal) (Nat.ne_of_lt (Nat.lt_succ_of_lt hal)), ⟨⟨.none, he⟩, ⟨_, hit, rfl, rfl⟩⟩, fun b hb => ?_, q⟩
        have hle : s1.heap.objs.size ≤ b := by
          rcases (show b = s1.heap.objs.size + 1 ∨ b = s1.heap.objs.size by simpa using hb) with z | z
          · rw [z]; exact Nat.le_add_right _ _
          · rw [z]; exact Nat.le_refl _
        exact I1.fpOk hle (I1.hok.fresh hle)
theorem ri_enum (hg : Gl X "enumerate") (hm : X.mg "enumerate" = none) (ha : RQ X e o) (hs : starEach [e] X.env = (false, eval e X.env) :: starEach [] X.env := by rfl) : RI X (.Tuple elts kk tpos) (.Call (.Name "enumerate" p) [e] [] pos) (fEnum o) := fun W tk =>
  PI_imp (pi_enumA hg hm (pa_cons (ha W tk) pa_nil hs) hs) fun σ H R ⟨Z, A, γ, S, h⟩ => by
    refine (Stg.start S).run ?_
    unfold fEnum at h
    cases E1 : oEv o γ with
    | no => rw [E1] at h; exact h
    | ex e γ1 => rw [E1] at h; exact h
    | ok c γ1 =>
      rw [E1] at h
      simp only at h ⊢
      intro x l1 A1 H1 T1 _ L1
      split at h
      · rename_i hw
        have hd := L1.hold T1.sim hw fun i e => by
          subst e
          obtain ⟨e1, e2⟩ := oEv_sl E1
          rw [e1]
          exact e2
        obtain ⟨k, v⟩ := c
        cases v with
        | lst ms =>
          obtain ⟨a, vs, rfl, h1, h2⟩ := hd.lst
          obtain ⟨w, hl⟩ := HoldL.split hd
          exact ⟨a, rfl, .inl ⟨vs, h1, h _ l1 A1 H1 _ _ T1 it_enum hl⟩⟩
        | tup ms =>
          obtain ⟨a, vs, rfl, h1, h2⟩ := hd.tup
          exact ⟨a, rfl, .inr ⟨vs, h1, h _ l1 A1 H1 _ _ T1 it_enumT hd⟩⟩
        | _ => exact h.elim
      · exact h.elim
def fZip (o q : Opd) : FI := fun γ => match oEv o γ with
  | .ok c γ1 => if walkable o c then (match oEv q γ1 with
    | .ok d γ2 => if walkable q d then (match c.v, d.v with
      | .lst ms, .lst ns => .ok (pairsM ms ns) γ2
      | .tup ms, .tup ns => .ok (pairsM ms ns) γ2
      | _, _ => .no) else .no
    | .ex e γ2 => .ex e γ2
    | .no => .no) else .no
  | .ex e γ1 => .ex e γ1
  | .no => .no
end
section
variable {G : GG} {Z : Ent} {ms ns : List MV} {a b : Addr}
theorem pairsM_len : (pairsM ms ns).length = min ms.length ns.length := by unfold pairsM; simp
theorem it_zip {w w2 : Bool} : ItOk G (Itz G.K a b) (pairsM ms ns) (fun Z A H => HoldL G Z A H ms a w ∧ HoldL G Z A H ns b w2) (fun c => (w = false ∧ c = a) ∨ (w2 = false ∧ c = b)) where
  stp := fun p S S' s => ⟨p.1.stp S S' s, p.2.stp S S' s⟩
  wait := fun p e n => ⟨p.1.wait' e n, p.2.wait' e n⟩
  rew := fun n p => ⟨p.1.rew (fun z e => n (.inl ⟨z, e⟩)), p.2.rew (fun z e => n (.inr ⟨z, e⟩))⟩
  at_ := fun p e => by
    rcases e with ⟨e1, e⟩ | ⟨e1, e⟩
    · subst e; exact p.1.on e1
    · subst e; exact p.2.on e1
  go := fun {Z i A H} hi p => by
    rw [pairsM_len] at hi
    obtain ⟨_, vs, e, h1, h2⟩ := p.1.lst
    cases e
    obtain ⟨_, ws, e, h3, h4⟩ := p.2.lst
    cases e
    obtain ⟨v, hv, _⟩ := h2.get (List.getElem?_eq_getElem (show i < ms.length by omega))
    obtain ⟨w, hw, _⟩ := h4.get (List.getElem?_eq_getElem (show i < ns.length by omega))
    exact ⟨vs, ws, v, w, h1, h3, hv, hw⟩
  stop := fun {Z A H} p => by
    rw [pairsM_len]
    obtain ⟨_, vs, e, h1, h2⟩ := p.1.lst
    cases e
    obtain ⟨_, ws, e, h3, h4⟩ := p.2.lst
    cases e
    exact ⟨vs, ws, h1, h3, by rw [h2.len, h4.len]; omega⟩
  yld := fun {Z i A γ σ H x H'} p S hi y => by
    rw [pairsM_len] at hi
    obtain ⟨_, vs, e, h1, h2⟩ := p.1.lst
    cases e
    obtain ⟨_, ws, e, h3, h4⟩ := p.2.lst
    cases e
    obtain ⟨v, hv, r⟩ := h2.get (List.getElem?_eq_getElem (show i < ms.length by omega))
    obtain ⟨w, hw, r'⟩ := h4.get (List.getElem?_eq_getElem (show i < ns.length by omega))
    obtain ⟨T, x1, y1, rfl, hT, rfl, e1, e2⟩ := y
    have q1 := e1 vs h1
    rw [hv] at q1
    cases q1
    have q2 := e2 ws h3
    rw [hw] at q2
    cases q2
    exact ⟨same_new hT, _, pairsM_get (List.getElem?_eq_getElem _) (List.getElem?_eq_getElem _), rep_pair S hT r r'⟩
theorem it_zipT : ItOk G (ItzT G.K a b) (pairsM ms ns) (fun Z A H => Hold G Z A H (.tup ms) (.ref a) ∧ Hold G Z A H (.tup ns) (.ref b)) (fun c => False) where
  stp := fun p S S' s => ⟨p.1.stp S S' s, p.2.stp S S' s⟩
  wait := fun p e n => ⟨p.1.wait' e n, p.2.wait' e n⟩
  rew := fun n p => ⟨p.1.rewT, p.2.rewT⟩
  at_ := fun p e => e.elim
  go := fun {Z i A H} hi p => by
    rw [pairsM_len] at hi
    obtain ⟨_, vs, e, h1, h2⟩ := p.1.tup
    cases e
    obtain ⟨_, ws, e, h3, h4⟩ := p.2.tup
    cases e
    obtain ⟨v, hv, _⟩ := h2.get (List.getElem?_eq_getElem (show i < ms.length by omega))
    obtain ⟨w, hw, _⟩ := h4.get (List.getElem?_eq_getElem (show i < ns.length by omega))
    exact ⟨vs, ws, v, w, h1, h3, hv, hw⟩
  stop := fun {Z A H} p => by
    rw [pairsM_len]
    obtain ⟨_, vs, e, h1, h2⟩ := p.1.tup
    cases e
    obtain ⟨_, ws, e, h3, h4⟩ := p.2.tup
    cases e
    exact ⟨vs, ws, h1, h3, by rw [h2.len, h4.len]; omega⟩
  yld := fun {Z i A γ σ H x H'} p S hi y => by
    rw [pairsM_len] at hi
    obtain ⟨_, vs, e, h1, h2⟩ := p.1.tup
    cases e
    obtain ⟨_, ws, e, h3, h4⟩ := p.2.tup
    cases e
    obtain ⟨v, hv, r⟩ := h2.get (List.getElem?_eq_getElem (show i < ms.length by omega))
    obtain ⟨w, hw, r'⟩ := h4.get (List.getElem?_eq_getElem (show i < ns.length by omega))
    obtain ⟨T, x1, y1, rfl, hT, rfl, e1, e2⟩ := y
    have q1 := e1 vs h1
    rw [hv] at q1
    cases q1
    have q2 := e2 ws h3
    rw [hw] at q2
    cases q2
    exact ⟨same_new hT, _, pairsM_get (List.getElem?_eq_getElem _) (List.getElem?_eq_getElem _), rep_pair S hT r r'⟩
end
section
variable {X : Cx} {tg a b e : Expr} {es elts : List Expr} {f : FE} {fa : FA} {o q : Opd} {pos p tpos : Pos} {kk : Nat}
/-- what is known of an operand, in the entry with more that waits -/
theorem Hold.up {G : GG} {Z Z' : Ent} {A A' : AM} {γ γ' : Sg} {σ : L2.St} {H H' : Hp} {c : Cell} {x : V} (f : FE) (up : ∀ q d y, Later G Z A γ σ H q d y → Later G Z' A' γ' σ H' q d y) (h : Hold G Z A H c.v x) : Hold G Z' A' H' c.v x := up (.ex f) c x h
theorem ri_zip (hg : Gl X "zip") (hm : X.mg "zip" = none) (ha : RQ X a o) (hb : RQ X b q)
    (hs : starEach [a, b] X.env = (false, eval a X.env) :: starEach [b] X.env := by rfl) (hs2 : starEach [b] X.env = (false, eval b X.env) :: starEach [] X.env := by rfl) (hpl : (backTo pos (starEach [b] X.env)).any (·.1) = false := by rfl) :
    RI X (.Tuple elts kk tpos) (.Call (.Name "zip" p) [a, b] [] pos) (fZip o q) := fun W tk =>
  PI_imp (pi_zipA hg hm (pa_cons (ha W tk) (pa_cons (hb W tk) pa_nil hs2) hs) hs hpl) fun σ H R ⟨Z, A, γ, S, h⟩ => by
    refine (Stg.start S).run ?_
    unfold fZip at h
    cases E1 : oEv o γ with
    | no => rw [E1] at h; exact h
    | ex e γ1 => rw [E1] at h; exact h
    | ok c γ1 =>
      rw [E1] at h
      simp only at h ⊢
      intro x l1 A1 H1 T1 _ L1
      split at h
      · rename_i hw
        have hd := L1.hold T1.sim hw fun i e => by
          subst e
          obtain ⟨e1, e2⟩ := oEv_sl E1
          rw [e1]
          exact e2
        refine T1.run ?_
        cases E2 : oEv q γ1 with
        | no => rw [E2] at h; exact h
        | ex e γ2 => rw [E2] at h; exact h
        | ok d γ2 =>
          rw [E2] at h
          simp only at h ⊢
          intro y l2 A2 H2 T2 up L2
          split at h
          · rename_i hw2
            have hd2 := L2.hold T2.sim hw2 fun i e => by
              subst e
              obtain ⟨e1, e2⟩ := oEv_sl E2
              rw [e1]
              exact e2
            have hd' := Hold.up (eC .non) up hd
            obtain ⟨k, v⟩ := c
            obtain ⟨k2, v2⟩ := d
            cases v with
            | lst ms =>
              cases v2 with
              | lst ns =>
                obtain ⟨a1, vs, rfl, h1, h2⟩ := hd'.lst
                obtain ⟨a2, ws, rfl, h3, h4⟩ := hd2.lst
                obtain ⟨w, hl⟩ := HoldL.split hd'
                obtain ⟨w2, hl2⟩ := HoldL.split hd2
                exact ⟨a1, a2, vs, ws, rfl, .inl ⟨h1, h3, h _ l2 A2 H2 _ _ T2 it_zip ⟨hl, hl2⟩⟩⟩
              | _ => exact h.elim
            | tup ms =>
              cases v2 with
              | tup ns =>
                obtain ⟨a1, vs, rfl, h1, h2⟩ := hd'.tup
                obtain ⟨a2, ws, rfl, h3, h4⟩ := hd2.tup
                exact ⟨a1, a2, vs, ws, rfl, .inr ⟨h1, h3, h _ l2 A2 H2 _ _ T2 it_zipT ⟨hd', hd2⟩⟩⟩
              | _ => exact h.elim
            | _ => cases v2 <;> exact h.elim
          · exact h.elim
      · exact h.elim
end
end Mi

set_option Elab.async false
set_option linter.all false
set_option maxRecDepth 100000
set_option maxHeartbeats 4000000
/-! list comprehensions -/
namespace Mi
open PySem PySem.Spec PyProof.Rows L2 My

def wipeG (γ : Sg) : List Nat → Sg
  | [] => γ
  | v :: vs => (wipeG γ vs).set v none
def valOf (γ : Sg) (v : Nat) : Option Cell := match γ[v]? with
  | some (some ⟨.val, m⟩) => some ⟨.val, m⟩
  | _ => none
/-- behind a block: its own slots hold what they held as values -/
def backG (γ1 : Sg) : List Nat → Sg → Sg
  | [], γ => γ
  | v :: vs, γ => (backG γ1 vs γ).set v (valOf γ1 v)
section
variable {G : GG} {Z : Ent} {A A' A0 A1 : AM} {γ γ' γ1 : Sg} {σ σ' : L2.St} {H H' H0 H1 : Hp} {c d : Cell} {x y z : V} {v : MV} {l : List (Addr × HO)} {W : WX} {vs : List Nat}
theorem Sim.clear2 {i : Nat} (S : Sim G Z A γ σ H) : Sim G Z (A.del i) (γ.set i none) (σ.set i none) H := by
  have S' := S.clear (i := i)
  refine ⟨by rw [List.length_set, List.length_set]; exact S.len, fun j c hj => ?_, S'.adr, S'.inj, S'.mf, S'.fr, S'.new⟩
  have hji : j ≠ i := by
    rintro rfl
    rw [List.getElem?_set] at hj
    simp only [if_true] at hj
    split at hj <;> cases hj
  rw [List.getElem?_set_ne (Ne.symm hji)]
  exact S'.cell j c hj
theorem Sim.wipe (S : Sim G Z A γ σ H) : ∀ vs : List Nat, ∃ A', Le A' A ∧ Sim G Z A' (wipeG γ vs) (L2.wipe σ vs) H
  | [] => ⟨A, .refl, S⟩
  | v :: vs => by
    obtain ⟨A', le, S'⟩ := Sim.wipe S vs
    exact ⟨_, AM.del_le.trans le, S'.clear2⟩
theorem wipeG_len (γ : Sg) : ∀ vs : List Nat, (wipeG γ vs).length = γ.length
  | [] => rfl
  | v :: vs => by unfold wipeG; rw [List.length_set, wipeG_len γ vs]
theorem wipeG_at {γ : Sg} {i : Nat} : ∀ {vs : List Nat}, i ∈ vs → (wipeG γ vs)[i]? = none ∨ (wipeG γ vs)[i]? = some none
  | [], h => by cases h
  | v :: vs, h => by
    unfold wipeG
    by_cases e : v = i
    · subst e
      rw [List.getElem?_set]
      simp only [if_true]
      split
      · exact .inr rfl
      · exact .inl rfl
    · rw [List.getElem?_set_ne e]
      exact wipeG_at ((List.mem_cons.mp h).elim (fun z => absurd z.symm e) fun h => h)
theorem wipeG_out {γ : Sg} {i : Nat} : ∀ {vs : List Nat}, i ∉ vs → (wipeG γ vs)[i]? = γ[i]?
  | [], h => rfl
  | v :: vs, h => by
    unfold wipeG
    rw [List.getElem?_set_ne (fun e => h (by rw [e]; exact List.mem_cons_self)), wipeG_out fun z => h (List.mem_cons_of_mem _ z)]
theorem wipe_out' {σ : L2.St} {i : Nat} : ∀ {vs : List Nat}, i ∉ vs → (L2.wipe σ vs)[i]? = σ[i]?
  | [], h => rfl
  | v :: vs, h => by
    unfold L2.wipe
    rw [List.getElem?_set_ne (fun e => h (by rw [e]; exact List.mem_cons_self)), wipe_out' fun z => h (List.mem_cons_of_mem _ z)]
theorem wipe_at' {σ : L2.St} {i : Nat} : ∀ {vs : List Nat}, i ∈ vs → (L2.wipe σ vs)[i]? = if i < σ.length then some none else none
  | [], h => by cases h
  | v :: vs, h => by
    unfold L2.wipe
    by_cases e : v = i
    · subst e
      rw [List.getElem?_set]
      simp only [if_true, L2.wipe_length]
    · rw [List.getElem?_set_ne e]
      exact wipe_at' ((List.mem_cons.mp h).elim (fun z => absurd z.symm e) fun h => h)
theorem wipe_eq {σ σ' : L2.St} (hl : σ'.length = σ.length) (h : ∀ i, i ∉ vs → σ'[i]? = σ[i]?) : L2.wipe σ' vs = L2.wipe σ vs := by
  apply List.ext_getElem?
  intro i
  by_cases hi : i ∈ vs
  · rw [wipe_at' hi, wipe_at' hi, hl]
  · rw [wipe_out' hi, wipe_out' hi, h i hi]
theorem wipe_wipe {σ : L2.St} : L2.wipe (L2.wipe σ vs) vs = L2.wipe σ vs := wipe_eq (L2.wipe_length σ vs) fun i hi => wipe_out' hi
theorem backG_len : ∀ vs : List Nat, (backG γ1 vs γ).length = γ.length
  | [] => rfl
  | v :: vs => by unfold backG; rw [List.length_set, backG_len vs]
theorem backG_out {i : Nat} : ∀ {vs : List Nat}, i ∉ vs → (backG γ1 vs γ)[i]? = γ[i]?
  | [], h => rfl
  | v :: vs, h => by
    unfold backG
    rw [List.getElem?_set_ne (fun e => h (by rw [e]; exact List.mem_cons_self)), backG_out fun z => h (List.mem_cons_of_mem _ z)]
theorem backG_at {i : Nat} {c : Cell} : ∀ {vs : List Nat}, i ∈ vs → (backG γ1 vs γ)[i]? = some (some c) → γ1[i]? = some (some c) ∧ c.k = .val
  | [], h, _ => by cases h
  | v :: vs, h, e => by
    unfold backG at e
    by_cases hv : v = i
    · subst hv
      rw [List.getElem?_set] at e
      simp only [if_true] at e
      split at e
      · have e := Option.some.inj e
        unfold valOf at e
        split at e
        · rename_i m hm
          cases e
          exact ⟨hm, rfl⟩
        · cases e
      · cases e
    · rw [List.getElem?_set_ne hv] at e
      exact backG_at ((List.mem_cons.mp h).elim (fun z => absurd z.symm hv) fun h => h) e
/-- behind the block -/
theorem Sim.backG {Z1 : Ent} (S1 : Sim G Z1 A1 γ1 σ H1) (S : Sim G Z A γ (L2.wipe σ vs) H) (hg : ∀ i ∈ vs, γ[i]? = none ∨ γ[i]? = some none) (k : Keep (Mz Z1 A1) H1 H) (m : ∀ b o, H1 b = some o → Mz Z A b → Mz Z1 A1 b) : Sim G Z A (Mi.backG γ1 vs γ) σ H := by
  refine ⟨by rw [backG_len, S.len, L2.wipe_length], fun i c hi => ?_, fun i a hi => ?_, S.inj, S.mf, S.fr, S.new⟩
  · by_cases hv : i ∈ vs
    · obtain ⟨e1, e2⟩ := backG_at hv hi
      obtain ⟨x, h1, h2⟩ := S1.cell i c e1
      obtain ⟨kk, w⟩ := c
      cases e2
      refine ⟨x, h1, ?_, h2.2.keep k m⟩
      cases e3 : A i with
      | none => rfl
      | some a =>
        obtain ⟨c', h3, _⟩ := S.adr i a e3
        rcases hg i hv with e | e <;> rw [e] at h3 <;> cases h3
    · rw [backG_out hv] at hi
      obtain ⟨x, h1, h2⟩ := S.cell i c hi
      rw [wipe_out' hv] at h1
      exact ⟨x, h1, h2⟩
  · obtain ⟨c', h3, h4⟩ := S.adr i a hi
    have hv : i ∉ vs := fun hv => by rcases hg i hv with e | e <;> rw [e] at h3 <;> cases h3
    exact ⟨c', by rw [backG_out hv]; exact h3, h4⟩
/-- the thing that waits has changed -/
theorem Sim.rew {p : Addr} {o o' : HO} (nf : ∀ u, ¬ Z.F p u) (S : Sim G (Z.wait p o) A γ σ H) : Sim G (Z.wait p o') A γ σ (L2.upd H p o') := by
  have k : Keep (Mz (Z.wait p o) A) H (L2.upd H p o') := Keep.upd wait_in
  refine ⟨S.len, fun i c hi => ?_, fun i a hi => ?_, S.inj, fun a m => ?_, fun b u hb => ?_, fun b u hb => let ⟨u', h'⟩ := S.new b u hb; k.on b u' h'⟩
  · obtain ⟨x, h1, h2⟩ := S.cell i c hi
    refine ⟨x, h1, CellOk.keep (Z := Z.wait p o) (Z' := Z.wait p o') rfl (fun q e => ⟨e, fun u z => ?_⟩) k (fun b _ _ m => wait_same b m) (fun a e u z => ?_) h2⟩
    · have hf : Z.F q.1 q.2 := Z.lnF i q e
      rw [upd_ne (show q.1 ≠ p from fun z => nf q.2 (z ▸ hf))]
      exact z
    · rw [upd_ne (show a ≠ p from fun z => S.wait_ne i (z ▸ e))]
      exact z
  · obtain ⟨c, h1, h2, h3⟩ := S.adr i a hi
    have na : a ≠ p := fun z => S.wait_ne i (z ▸ hi)
    exact ⟨c, h1, fun u hu => hu.elim (fun hu => h2 u (.inl hu)) fun z => na z.1, h3⟩
  · obtain ⟨u, hu⟩ := S.mf a m
    exact k.on a u hu
  · rcases hb with hb | ⟨rfl, rfl⟩
    · rw [upd_ne (show b ≠ p from fun z => nf u (z ▸ hb))]
      exact S.fr b u (.inl hb)
    · exact upd_same
end

mutual
theorem asgM_len : ∀ (t : Tg) (v : MV) (γ γ' : Sg), asgM t v γ = some γ' → γ'.length = γ.length
  | .nm i, v, γ, γ', e => by
    simp only [asgM] at e
    split at e
    · cases e; rw [List.length_set]
    · cases e
  | .tp ts, .tup vs, γ, γ', e => by
    simp only [asgM] at e
    exact asgMs_len ts vs γ γ' e
  | .tp _, .non, _, _, e | .tp _, .bl _, _, _, e | .tp _, .int _, _, _, e | .tp _, .str _, _, _, e | .tp _, .lst _, _, _, e | .tp _, .dk _ _, _, _, e | .tp _, .dn _ _, _, _, e | .tp _, .ins _ _, _, _, e => by simp only [asgM] at e; cases e
theorem asgMs_len : ∀ (ts : List Tg) (vs : List MV) (γ γ' : Sg), asgMs ts vs γ = some γ' → γ'.length = γ.length
  | [], [], γ, γ', e => by simp only [asgMs] at e; cases e; rfl
  | t :: ts, v :: vs, γ, γ', e => by
    simp only [asgMs] at e
    cases E : asgM t v γ with
    | none => rw [E] at e; cases e
    | some γ1 =>
      rw [E] at e
      rw [asgMs_len ts vs γ1 γ' e, asgM_len t v γ γ1 E]
  | [], _ :: _, _, _, e | _ :: _, [], _, _, e => by simp only [asgMs] at e; cases e
end
def compM (t : Tg) (tt : FT) (f : FE) (vs : List Nat) : List MV → Sg → Option (List MV × Sg)
  | [], γ => some ([], γ)
  | m :: ms, γ => match asgM t m γ with
    | none => none
    | some γ1 => match tt γ1 with
      | .ok true γ2 => (match f γ2 with
        | .ok c γ3 => (compM t tt f vs ms (wipeG γ3 vs)).map fun r => (c.v :: r.1, r.2)
        | _ => none)
      | .ok false γ2 => compM t tt f vs ms (wipeG γ2 vs)
      | _ => none
def eComp (t : Tg) (fi : FI) (tt : FT) (f : FE) (vs : List Nat) : FE := fun γ => match fi γ with
  | .ok ms γ1 => if ms.length ≤ sizeLine then (match compM t tt f vs ms (wipeG γ1 vs) with
    | some (rs, γ2) => .ok ⟨.own, .lst rs⟩ (backG γ1 vs γ2)
    | none => .no) else .no
  | .ex e γ1 => .ex e γ1
  | .no => .no
def tYesM : FT := fun γ => .ok true γ
def RTs (X : Cx) (ifs : List Expr) (t : FT) : Prop := ∀ W : WX, Takes X W → PTs X ifs (tMT (GX X) t W)
theorem PTs_imp {X : Cx} {e : List Expr} {t t' : TT} (h : PTs X e t) (i : ∀ σ H Q, t' σ H Q → t σ H Q) : PTs X e t' := ⟨fun pins s σ H Q I q => h.run pins s σ H Q I (i _ _ _ q)⟩
theorem rts_nil {X : Cx} : RTs X [] tYesM := fun W tk => PTs_imp pts_nil fun σ H Q ⟨Z, A, γ, S, h⟩ => h A H S .refl .refl
theorem rts_one {X : Cx} {c : Expr} {t : FT} (h : RT X c t) : RTs X [c] t := fun W tk => pts_one (h W tk)
def Bot : WX := fun _ _ _ _ => False
theorem takes_bot {X : Cx} : Takes X Bot := fun u s' ⟨_, _, _, _, _, _, _, _, _, _, _, _, _, _, _, _, h⟩ => h.elim
/-- the reading of a comprehension, from what it computes -/
theorem comp_end {X : Cx} {t : Tg} {fi : FI} {tt : FT} {f : FE} {vs : List Nat} {W : WX} (hsub : ∀ i ∈ t.slots, i ∈ vs) {σ : L2.St} {H : Hp} {Q : VK} (h : tME (GX X) (eComp t fi tt f vs) W σ H Q) :
    tLc (tMI (GX X) fi W) (tMG (GX X) t) (tMT (GX X) tt Bot) (tME (GX X) f Bot) vs σ H Q := by
  obtain ⟨Z, A, γ, S, h⟩ := h
  refine ⟨Z, A, γ, S, ?_⟩
  unfold eComp at h
  cases E1 : fi γ with
  | no => rw [E1] at h; exact h
  | ex e γ1 => rw [E1] at h; exact h
  | ok ms γ1 =>
    rw [E1] at h
    simp only at h
    intro J l A1 H1 P src T K p1 D nD
    split at h
    rotate_left
    · exact h.elim
    rename_i hz
    cases E2 : compM t tt f vs ms (wipeG γ1 vs) with
    | none => rw [E2] at h; exact h.elim
    | some r =>
      obtain ⟨all, γf⟩ := r
      rw [E2] at h
      simp only at h
      have S1 := T.sim
      have nsrc : ¬ src D := fun hs => by
        obtain ⟨o, ho⟩ := K.at_ p1 hs
        rw [nD] at ho
        cases ho
      have eD : Same H1 (upd H1 D (.lst [])) := same_new nD
      have Sw := S1.wait eD nD (o := .lst []) upd_same
      obtain ⟨A2, le2, S2⟩ := Sw.wipe vs
      have nf : ∀ u, ¬ (Z.waits l).F D u := S1.nF nD
      have pw : P ((Z.waits l).wait D (.lst [])) A1 (upd H1 D (.lst [])) := K.wait p1 eD nD
      refine ⟨fun i m H' => m = ms.length - i ∧ i ≤ ms.length ∧ ∃ A' γ' acc rs rest, Sim (GX X) ((Z.waits l).wait D (.lst acc)) A' γ' (L2.wipe σ vs) H' ∧ (∀ j ∈ vs, γ'[j]? = none ∨ γ'[j]? = some none) ∧ Reps (GX X) (Mz ((Z.waits l).wait D (.lst acc)) A') H' rs acc ∧
          P ((Z.waits l).wait D (.lst acc)) A' H' ∧ compM t tt f vs (ms.drop i) γ' = some (rest, γf) ∧ rs ++ rest = all ∧ Le A' A1 ∧ Keep (Mz (Z.waits l) A1) H1 H' ∧ rs.length ≤ i,
        ⟨ms.length, by simp, Nat.zero_le _, A2, wipeG γ1 vs, [], [], all, S2, fun j hj => wipeG_at hj, Reps.nil, ?_, by rw [List.drop_zero]; exact E2, rfl, le2, .of_same eD, Nat.le_refl _⟩, ?_⟩
      · exact K.stp pw Sw S2 (.of le2 .refl)
      · rintro i m H' ⟨rfl, hi, A', γ', acc, rs, rest, S', hv, hrs, p', hc, hall, le', k', hri⟩
        by_cases hlt : i < ms.length
        · refine .inr ⟨K.go hlt p', fun H3 => i + 1 ≤ ms.length ∧ ∃ A3 γ3 acc3 rs3 rest3, Sim (GX X) ((Z.waits l).wait D (.lst acc3)) A3 γ3 (L2.wipe σ vs) H3 ∧ (∀ j ∈ vs, γ3[j]? = none ∨ γ3[j]? = some none) ∧ Reps (GX X) (Mz ((Z.waits l).wait D (.lst acc3)) A3) H3 rs3 acc3 ∧
              P ((Z.waits l).wait D (.lst acc3)) A3 H3 ∧ compM t tt f vs (ms.drop (i + 1)) γ3 = some (rest3, γf) ∧ rs3 ++ rest3 = all ∧ Le A3 A1 ∧ Keep (Mz (Z.waits l) A1) H1 H3 ∧ rs3.length ≤ i + 1,
            fun H3 q => ⟨ms.length - (i + 1), by omega, rfl, q.1, q.2⟩, fun x H2 y => ?_⟩
          obtain ⟨e2, m, hm, r2⟩ := K.yld p' S' hlt y
          have em : ms.drop i = m :: ms.drop (i + 1) := by
            rw [List.drop_eq_getElem_cons hlt]
            rw [List.getElem?_eq_getElem hlt] at hm
            rw [Option.some.inj hm]
          rw [em] at hc
          simp only [compM] at hc
          have S2 := S'.same e2
          have st2 : Stp ((Z.waits l).wait D (.lst acc)) A' H' A' H2 := .of_same e2
          have p2 := K.stp p' S' S2 st2
          -- from the start to a later place
          have kk : ∀ {A3 H3}, Le A3 A' → Keep (Mz ((Z.waits l).wait D (.lst acc)) A') H' H3 → Keep (Mz (Z.waits l) A1) H1 H3 := fun {A3 H3} le3 k3 => k'.trans k3 fun b o hb m => by
            rcases (mz_wait b).mp m with m | rfl
            · exact le'.mz b m
            · rw [nD] at hb; cases hb
          cases E3 : asgM t m γ' with
          | none => rw [E3] at hc; cases hc
          | some γ2 =>
            rw [E3] at hc
            simp only at hc
            refine ⟨_, A', γ', m, S2, r2, γ2, E3, fun σ3 A3 S3 le3 out3 => ⟨?_, ?_⟩⟩
            · rw [← wipe_wipe (σ := σ)]
              exact wipe_eq (by rw [← S3.len, ← S2.len]; exact (asgM_len _ _ _ _ E3)) fun j hj => out3 j fun z => hj (hsub j z)
            have hw : L2.wipe σ3 vs = L2.wipe σ vs := by
              rw [← wipe_wipe (σ := σ)]
              exact wipe_eq (by rw [← S3.len, ← S2.len]; exact (asgM_len _ _ _ _ E3)) fun j hj => out3 j fun z => hj (hsub j z)
            refine ⟨_, A3, γ2, S3, ?_⟩
            cases E4 : tt γ2 with
            | no => rw [E4] at hc; cases hc
            | ex e γ3 => rw [E4] at hc; cases hc
            | ok b γ3 =>
              rw [E4] at hc
              intro A4 H4 S4 le4 k4
              have k4' : Keep (Mz ((Z.waits l).wait D (.lst acc)) A') H' H4 := (Keep.of_same e2).trans (k4.mono fun b m => le3.mz b m) fun _ _ _ m => m
              have p4 := K.stp p2 S2 S4 (.of (le4.trans le3) (k4.mono fun b m => le3.mz b m))
              cases b with
              | false =>
                simp only at hc
                simp only [Bool.false_eq_true, if_false]
                obtain ⟨A5, le5, S5⟩ := S4.wipe vs
                rw [hw] at S5
                have l5 : Le A5 A' := le5.trans (le4.trans le3)
                exact ⟨hlt, A5, wipeG γ3 vs, acc, rs, rest, S5, fun j hj => wipeG_at hj, hrs.keep k4' fun b _ _ m => l5.mz b m, K.stp p4 S4 S5 (.of le5 .refl), hc, hall, l5.trans le', kk l5 k4', by omega⟩
              | true =>
                simp only at hc
                simp only [if_true]
                refine ⟨_, A4, γ3, S4, ?_⟩
                cases E5 : f γ3 with
                | no => rw [E5] at hc; cases hc
                | ex e γ5 => rw [E5] at hc; cases hc
                | ok c γ5 =>
                  rw [E5] at hc
                  intro yv A5 H5 hs5 le5 k5
                  have S5 := hs5.sim
                  have l5 : Le A5 A' := le5.trans (le4.trans le3)
                  have k5' : Keep (Mz ((Z.waits l).wait D (.lst acc)) A') H' H5 := k4'.trans (k5.mono fun b m => (le4.trans le3).mz b m) fun _ _ _ m => m
                  have hD5 := S5.waits
                  have hrs5 := hrs.keep k5' fun b _ _ m => l5.mz b m
                  simp only [Option.map_eq_some_iff] at hc
                  obtain ⟨⟨rest', γr⟩, hc, hr⟩ := hc
                  have hr1 : c.v :: rest' = rest := congrArg Prod.fst hr
                  have hr2 : γr = γf := congrArg Prod.snd hr
                  subst hr2
                  refine ⟨acc, hD5, by rw [hrs5.len]; omega, hlt, ?_⟩
                  have S6 := Sim.rew (o' := .lst (acc ++ [yv])) nf S5
                  obtain ⟨A7, le7, S7⟩ := S6.wipe vs
                  rw [hw] at S7
                  have ku : Keep (Mz ((Z.waits l).wait D (.lst acc)) A5) H5 (upd H5 D (.lst (acc ++ [yv]))) := Keep.upd wait_in
                  have l7 : Le A7 A' := le7.trans l5
                  have k7 : Keep (Mz ((Z.waits l).wait D (.lst acc)) A') H' (upd H5 D (.lst (acc ++ [yv]))) := k5'.trans (ku.mono fun b m => l5.mz b m) fun _ _ _ m => m
                  refine ⟨A7, wipeG γ5 vs, acc ++ [yv], rs ++ [c.v], rest', S7, fun j hj => wipeG_at hj, ?_, ?_, hc, ?_, l7.trans le', kk l7 k7, by rw [List.length_append, List.length_singleton]; omega⟩
                  · refine Reps.app (hrs5.keep ku fun b _ _ m => le7.mz b (wait_same b m)) (Reps.one (hs5.rep.keep ku fun b _ _ m => le7.mz b (wait_same b m)))
                  · have p5 := K.stp p4 S4 S5 (.of le5 k5)
                    have p6 := K.rew (o' := .lst (acc ++ [yv])) nsrc p5
                    exact K.stp p6 S6 S7 (.of le7 .refl)
                  · rw [List.append_assoc, ← hall, ← hr1]
                    rfl
        · have e : i = ms.length := by omega
          subst e
          rw [List.drop_length] at hc
          simp only [compM] at hc
          cases hc
          rw [List.append_nil] at hall
          subst hall
          refine .inl ⟨K.stop p', ?_⟩
          have k0 : Keep (Mz Z A) H H' := Keep.waits k' T.nw T.kp T.le
          have nD0 : H D = none := T.kp.isnone nD
          have S'' := S'
          rw [← waits_wait] at S''
          have Sz : Sim (GX X) (Z.wait D (.lst acc)) A' γf (L2.wipe σ vs) H' := S''.drops
          refine h (.ref D) A' H' ⟨D, .lst acc, rfl, nD0, fun m => ?_, ?_, ?_⟩ (le'.trans T.le) k0
          · obtain ⟨o, ho⟩ := S.mf D m
            rw [nD0] at ho
            cases ho
          · simp only [Own]
            exact ⟨acc, S'.waits, hrs.keep .refl fun b _ _ m => by
              rw [mz_wait] at m ⊢
              exact m.imp_left fun m => (waits_mz l b).mpr (.inl m)⟩
          · exact Sim.backG S1 Sz hv k' fun b o hb m => by
              rcases (mz_wait b).mp m with m | rfl
              · exact (waits_mz l b).mpr (.inl (le'.mz b m))
              · rw [nD] at hb; cases hb
section
variable {X : Cx} {elt tg iter : Expr} {ifs : List Expr} {scope : Scope} {own : List (Str × Nat)} {pos : Pos} {t : Tg} {fi : FI} {tt : FT} {f : FE}
theorem re_lc (hc : X.calm = true) (hN : X.N.Nodup) (hi : RI X tg iter fi) (ok : BlkOk X.N X.env.scope scope own)
    (hg : ∀ (s : Shared) (H : Hp) (C : Addr) (cl : List (Str × Addr)) (fp : List Addr), RG (X.blk s H scope (compEnvC scope cl C X.env) fp) tg t)
    (ht : ∀ (s : Shared) (H : Hp) (C : Addr) (cl : List (Str × Addr)) (fp : List Addr), RTs (X.blk s H scope (compEnvC scope cl C X.env) fp) ifs tt)
    (he : ∀ (s : Shared) (H : Hp) (C : Addr) (cl : List (Str × Addr)) (fp : List Addr), RE (X.blk s H scope (compEnvC scope cl C X.env) fp) elt f)
    (hsub : ∀ i ∈ t.slots, i ∈ own.map (·.2) := by decide) (hs : ∀ x, foldedSetIterable iter X.env x = pure x := by intro _; rfl) :
    RE X (.ListComp elt [⟨tg, iter, ifs, 0⟩] scope pos) (eComp t fi tt f (own.map (·.2))) := fun W tk =>
  PE_imp (pe_lc (g := tMG (GX X) t) (tt := tMT (GX X) tt Bot) (te := tME (GX X) f Bot) hc hN (hi W tk) ok (fun s H C cl fp => hg s H C cl fp) (fun s H C cl fp => ht s H C cl fp Bot takes_bot) (fun s H C cl fp => he s H C cl fp Bot takes_bot) hs) fun σ H Q h => comp_end hsub h
/-- name = [..] on one line, the name a local -/
theorem qs_setLc {i : Nat} {y : Str} {py spos : Pos} (hc : X.calm = true) (hN : X.N.Nodup) (hy : X.N[i]? = some y) (hyl : X.env.scope.names.lookup y = some .local)
    (hsw : swapsWith (.ListComp elt [⟨tg, iter, ifs, 0⟩] scope pos) (some (.Name y py)) spos.line X.env = pure true) (hi : RI X tg iter fi) (ok : BlkOk X.N X.env.scope scope own)
    (hg : ∀ (s : Shared) (H : Hp) (C : Addr) (cl : List (Str × Addr)) (fp : List Addr), RG (X.blk s H scope (compEnvC scope cl C X.env) fp) tg t)
    (ht : ∀ (s : Shared) (H : Hp) (C : Addr) (cl : List (Str × Addr)) (fp : List Addr), RTs (X.blk s H scope (compEnvC scope cl C X.env) fp) ifs tt)
    (he : ∀ (s : Shared) (H : Hp) (C : Addr) (cl : List (Str × Addr)) (fp : List Addr), RE (X.blk s H scope (compEnvC scope cl C X.env) fp) elt f)
    (hsub : ∀ i ∈ t.slots, i ∈ own.map (·.2) := by decide) (hs : ∀ x, foldedSetIterable iter X.env x = pure x := by intro _; rfl) :
    QS X (.Assign [.Name y py] (.ListComp elt [⟨tg, iter, ifs, 0⟩] scope pos) spos) (sSet i (eComp t fi tt f (own.map (·.2)))) := fun _ W tk =>
  PS_imp (ps_setLc (g := tMG (GX X) t) (tt := tMT (GX X) tt Bot) (te := tME (GX X) f Bot) hc hN hy hyl hsw (hi W tk) ok (fun s H C cl fp => hg s H C cl fp) (fun s H C cl fp => ht s H C cl fp Bot takes_bot) (fun s H C cl fp => he s H C cl fp Bot takes_bot) hs) fun D σ H ⟨Z, A, γ, S, h⟩ => comp_end hsub ⟨Z, A, γ, S, set_end S h⟩
end
end Mi

set_option Elab.async false
set_option linter.all false
set_option maxRecDepth 100000
set_option maxHeartbeats 4000000
/-! dicts with keys that are tuples; keys; finding, putting -/
namespace Mi
open PySem PySem.Spec PyProof.Rows L2 My

mutual
/-- x lies in H as the key k -/
def KeyR (K : PySem.W.Frag) (H : Hp) : NestedKey → V → Prop
  | .none, x => x = .non
  | .num i, x => x = .int i ∨ ∃ b, x = .bl b ∧ i = if b = true then 1 else 0
  | .text z, x => x = .str z
  | .tup ks, x => ∃ a vs, x = .ref a ∧ SqT K H a vs ∧ KeyRs K H ks vs
def KeyRs (K : PySem.W.Frag) (H : Hp) : List NestedKey → List V → Prop
  | [], vs => vs = []
  | k :: ks, vs => ∃ v r, vs = v :: r ∧ KeyR K H k v ∧ KeyRs K H ks r
end
mutual
theorem keyR_of {G : GG} {M : Addr → Prop} {H : Hp} : ∀ (m : MV) (k : NestedKey) (x : V), nkM m = some k → Rep G M H m x → KeyR G.K H k x
  | .non, k, x, e, h => by simp only [nkM] at e; cases e; simp only [Rep] at h; simp only [KeyR]; exact h
  | .bl b, k, x, e, h => by simp only [nkM] at e; cases e; simp only [Rep] at h; simp only [KeyR]; exact .inr ⟨b, h, rfl⟩
  | .int i, k, x, e, h => by simp only [nkM] at e; cases e; simp only [Rep] at h; simp only [KeyR]; exact .inl h
  | .str i, k, x, e, h => by simp only [nkM] at e; cases e; simp only [Rep] at h; simp only [KeyR]; exact h
  | .tup ms, k, x, e, h => by
    simp only [nkM, Option.map_eq_some_iff] at e
    obtain ⟨ks, e, rfl⟩ := e
    simp only [Rep] at h
    obtain ⟨a, vs, rfl, h1, h2⟩ := h
    simp only [KeyR]
    exact ⟨a, vs, rfl, h1.sq, keyRs_of ms ks vs e h2⟩
  | .lst _, k, x, e, h => by simp only [nkM] at e; cases e
  | .dk _ _, k, x, e, h => by simp only [nkM] at e; cases e
  | .dn _ _, k, x, e, h => by simp only [nkM] at e; cases e
  | .ins _ _, k, x, e, h => by simp only [nkM] at e; cases e
theorem keyRs_of {G : GG} {M : Addr → Prop} {H : Hp} : ∀ (m : List MV) (k : List NestedKey) (x : List V), nksM m = some k → Reps G M H m x → KeyRs G.K H k x
  | [], k, x, e, h => by simp only [nksM] at e; cases e; simp only [Reps] at h; simp only [KeyRs]; exact h
  | m :: ms, k, x, e, h => by
    simp only [nksM, Option.bind_eq_some_iff, Option.map_eq_some_iff] at e
    obtain ⟨k1, e1, ks, e2, rfl⟩ := e
    simp only [Reps] at h
    obtain ⟨v, r, rfl, h1, h2⟩ := h
    simp only [KeyRs]
    exact ⟨v, r, rfl, keyR_of m k1 v e1 h1, keyRs_of ms ks r e2 h2⟩
end
mutual
theorem KeyR.is {X : Cx} {pins : List (Addr × Obj)} {σ : L2.St} {H : Hp} {s : Shared} (I : L2.Inv X pins σ H s) : ∀ (k : NestedKey) (x : V) (u : Value), KeyR X.K H k x → RelV x u → NestedIs s.heap k u
  | .none, x, u, h, r => by simp only [KeyR] at h; subst h; cases r; exact .none
  | .num i, x, u, h, r => by
    simp only [KeyR] at h
    rcases h with rfl | ⟨b, rfl, e⟩
    · obtain ⟨t, rfl⟩ := r
      exact .int i t
    · cases r
      exact .bool e
  | .text z, x, u, h, r => by
    simp only [KeyR] at h
    subst h
    obtain ⟨t, rfl⟩ := r
    exact .text z t
  | .tup ks, x, u, h, r => by
    simp only [KeyR] at h
    obtain ⟨a, vs, rfl, h1, h2⟩ := h
    cases r
    obtain ⟨its, rv, ⟨o, ho, hc, n, hd⟩, _⟩ := I.tuple h1
    exact .tup ho hc hd (KeyRs.is I ks vs its h2 rv)
theorem KeyRs.is {X : Cx} {pins : List (Addr × Obj)} {σ : L2.St} {H : Hp} {s : Shared} (I : L2.Inv X pins σ H s) : ∀ (k : List NestedKey) (x : List V) (u : List Value), KeyRs X.K H k x → Vals x u → NestedAll s.heap k u
  | [], x, u, h, r => by simp only [KeyRs] at h; subst h; cases r; exact .nil
  | k :: ks, x, u, h, r => by
    simp only [KeyRs] at h
    obtain ⟨v, w, rfl, h1, h2⟩ := h
    cases r with
    | cons r1 r2 => exact .cons (KeyR.is I k v _ h1 r1) (KeyRs.is I ks w _ h2 r2)
end
abbrev Ent3 := List (NestedKey × Addr × V)
def esGet (es : Ent3) (k : NestedKey) : Option V := (es.find? fun e => decide (e.1 = k)).map (·.2.2)
def esPut (es : Ent3) (k : NestedKey) (b : Addr) (v : V) : Ent3 := if (esGet es k).isSome then es.map (fun e => if e.1 = k then (e.1, e.2.1, v) else e) else es ++ [(k, b, v)]
/-- what stands at a: a dict with these entries -/
structure DnAt (G : GG) (H : Hp) (a : Addr) (es : Ent3) : Prop where
  at_ : H a = some (DnO G a es)
  keys : ∀ e ∈ es, KeyR G.K H e.1 (.ref e.2.1) ∧ e.1.depth ≤ 8
section
variable {X : Cx} {pins : List (Addr × Obj)} {σ : L2.St} {H : Hp} {s : Shared} {a b : Addr} {es : Ent3} {k : NestedKey} {v : V} {o : Option V} {A : Around} {E : Value → Shared → Prop} {u r : Value}
abbrev knd (X : Cx) := nestedKind X.prog X.w
abbrev Prd (es : Ent3) (xs : List (NestedKey × Addr × Value)) : Prop := Paired (fun (p : NestedKey × Addr × V) (q : NestedKey × Addr × Value) => p.1 = q.1 ∧ p.2.1 = q.2.1 ∧ RelV p.2.2 q.2.2) es xs
theorem DnAt.get (d : DnAt (GX X) H a es) (I : L2.Inv X pins σ H s) : (a == sysModules) = false ∧ es.length ≤ sizeLine ∧ ∃ xs, Prd es xs ∧ s.heap.DictOfH (knd X) a xs := by
  obtain ⟨⟨h1, h2, xs, hp, o, es', ep, h3, h4, h5, h6, h7⟩, _, _⟩ := I.hok a _ d.at_
  refine ⟨h1, h2, xs, hp, o, es', ep, h3, h4, h5, h6, fun x hx => ?_, h7⟩
  obtain ⟨i, hi, e⟩ := List.getElem_of_mem hx
  obtain ⟨y, hy, r⟩ := My.Paired.get' hp (show xs[i]? = some x by rw [List.getElem?_eq_getElem hi, e])
  obtain ⟨k1, k2⟩ := d.keys y (List.mem_of_getElem? hy)
  refine ⟨?_, by rw [← r.1]; exact k2⟩
  rw [← r.1, ← r.2.1]
  exact KeyR.is I _ _ _ k1 rfl
theorem Prd.find {es : Ent3} {xs : List (NestedKey × Addr × Value)} (h : Prd es xs) (k : NestedKey) : RelO (esGet es k) ((atKey xs k).map (·.2)) := by
  unfold esGet atKey
  induction h with
  | nil => exact trivial
  | cons r _ ih =>
    rw [List.find?_cons, List.find?_cons, ← r.1]
    split
    · exact r.2.2
    · exact ih
theorem Prd.put {es : Ent3} {xs : List (NestedKey × Addr × Value)} (h : Prd es xs) (k : NestedKey) (b : Addr) (rv : RelV v r) : Prd (esPut es k b v) (storedH xs k b r) := by
  have hf := h.find k
  unfold esPut storedH
  have e : (esGet es k).isSome = (atKey xs k).isSome := by
    have q := hf.isSome_eq
    rw [Option.isSome_map] at q
    exact q
  rw [e]
  split
  · have go : ∀ {es : Ent3} {xs : List (NestedKey × Addr × Value)}, Prd es xs → Prd (es.map fun e => if e.1 = k then (e.1, e.2.1, v) else e) (xs.map (putAt k r)) := by
      intro es xs h
      induction h with
      | nil => exact .nil
      | @cons p q es xs r1 _ ih =>
        refine .cons ?_ ih
        unfold putAt
        show (if p.1 = k then (p.1, p.2.1, v) else p).1 = (if q.1 = k then (q.1, q.2.1, r) else q).1 ∧ (if p.1 = k then (p.1, p.2.1, v) else p).2.1 = (if q.1 = k then (q.1, q.2.1, r) else q).2.1 ∧ RelV (if p.1 = k then (p.1, p.2.1, v) else p).2.2 (if q.1 = k then (q.1, q.2.1, r) else q).2.2
        by_cases e : p.1 = k
        · rw [if_pos e, if_pos (by rw [← r1.1]; exact e)]
          exact ⟨r1.1, r1.2.1, rv⟩
        · rw [if_neg e, if_neg (by rw [← r1.1]; exact e)]
          exact r1
    exact go h
  · exact My.Paired.snoc (R := fun (p : NestedKey × Addr × V) (q : NestedKey × Addr × Value) => p.1 = q.1 ∧ p.2.1 = q.2.1 ∧ RelV p.2.2 q.2.2) ⟨rfl, rfl, rv⟩ h
theorem key_is (I : L2.Inv X pins σ H s) (h : KeyR X.K H k (.ref b)) (hd : k.depth ≤ 8) : (knd X).is s.heap k b := ⟨KeyR.is I _ _ _ h rfl, hd⟩
theorem knd_room {A : Around} (hu : A.units + 64 < cLine) : (knd X).room A.in1 := by
  show A.units + 1 + 8 < cLine
  omega
/-- d[k] -/
theorem dn_getItem {Q : Value → Shared → Prop} (hu : A.units + 64 < cLine) (I : L2.Inv X pins σ H s) (d : DnAt (GX X) H a es) (hk : KeyR X.K H k (.ref b)) (hd : k.depth ≤ 8) (g : esGet es k = some v)
    (h : ∀ w' s', L2.Inv X pins σ H s' → RelV v w' → Q w' s') : wpAny (model X.prog X.w) A (getItem (.ref a) (.ref b)) Q E s := by
  obtain ⟨h1, h2, xs, hp, dd⟩ := d.get I
  obtain ⟨w', hw, rw'⟩ := RelO.some_of (v := v) (o := (atKey xs k).map (·.2)) (by rw [← g]; exact hp.find k)
  obtain ⟨p, hp', hp2⟩ := Option.map_eq_some_iff.mp hw
  refine wpAny_getItem_heap (knd_room hu) (key_is I hk hd) dd hp' ?_
  rw [hp2]
  exact h w' _ (I.tok _) rw'
theorem dn_in {Q : Value → Shared → Prop} (hu : A.units + 64 < cLine) (I : L2.Inv X pins σ H s) (d : DnAt (GX X) H a es) (hk : KeyR X.K H k (.ref b)) (hd : k.depth ≤ 8)
    (h : ∀ s', L2.Inv X pins σ H s' → Q (.bool (esGet es k).isSome) s') : wpAny (model X.prog X.w) A (compareOp .In (.ref b) (.ref a)) Q E s := by
  obtain ⟨h1, h2, xs, hp, dd⟩ := d.get I
  refine wpAny_in_heap (knd_room hu) (key_is I hk hd) h1 dd ?_
  have q := (hp.find k).isSome_eq
  rw [Option.isSome_map] at q
  rw [← q]
  exact h _ (I.tok _)
theorem dn_notIn {Q : Value → Shared → Prop} (hu : A.units + 64 < cLine) (I : L2.Inv X pins σ H s) (d : DnAt (GX X) H a es) (hk : KeyR X.K H k (.ref b)) (hd : k.depth ≤ 8)
    (h : ∀ s', L2.Inv X pins σ H s' → Q (.bool (!(esGet es k).isSome)) s') : wpAny (model X.prog X.w) A (compareOp .NotIn (.ref b) (.ref a)) Q E s := by
  obtain ⟨h1, h2, xs, hp, dd⟩ := d.get I
  refine wpAny_notIn_heap (knd_room hu) (key_is I hk hd) h1 dd ?_
  have q := (hp.find k).isSome_eq
  rw [Option.isSome_map] at q
  rw [← q]
  exact h _ (I.tok _)
theorem dn_setItem {Q : Unit → Shared → Prop} (hu : A.units + 64 < cLine) (I : L2.Inv X pins σ H s) (d : DnAt (GX X) H a es) (hk : KeyR X.K H k (.ref b)) (hd : k.depth ≤ 8) (hz : es.length < sizeLine) (rv : RelV v r)
    (h : ∀ s', L2.Inv X pins σ (upd H a (DnO (GX X) a (esPut es k b v))) s' → Q () s') : wpAny (model X.prog X.w) A (setItem (.ref a) (.ref b) r) Q E s := by
  obtain ⟨h1, h2, xs, hp, dd⟩ := d.get I
  have hl : (esPut es k b v).length ≤ sizeLine := by
    unfold esPut
    split
    · rw [List.length_map]; omega
    · rw [List.length_append, List.length_singleton]; omega
  refine wpAny_setItem_heap (hsz := by rw [← My.Paired.len hp]; exact h2) (knd_room hu) (key_is I hk hd) dd fun h' dd' hs => h _ ?_
  obtain ⟨q, es', ep, hq, h3, h4, h5, _, h6⟩ := dd'
  refine d_write I (by rw [d.at_]; exact trivial) hs ⟨q, hq⟩ ⟨⟨h1, hl, _, hp.put k b rv, q, es', ep, hq, h3, h4, h5, h6⟩, ⟨q, hq⟩, fun g1 g2 ⟨z1, z2, zs, zp, zo, ze, zep, z3, z4⟩ hk => ⟨z1, z2, zs, zp, zo, ze, zep, hk _ z3, z4⟩⟩
end
/-! ### finding and putting, in the small machine -/
section
variable {κ : Type} [DecidableEq κ]
def dFind : List κ → List MV → κ → Option MV
  | k' :: ks, v :: vs, k => if k' = k then some v else dFind ks vs k
  | _, _, _ => none
/-- the values with one of them changed -/
def dVals (ks : List κ) (vs : List MV) (k : κ) (v : MV) : List MV := List.zipWith (fun k' v' => if k' = k then v else v') ks vs
theorem dFind_some {ks : List κ} {vs : List MV} {k : κ} : ∀ {ks : List κ} {vs : List MV}, ks.length = vs.length → ((dFind ks vs k).isSome = true ↔ k ∈ ks) := by
  intro ks
  induction ks with
  | nil => intro vs h; simp [dFind]
  | cons a ks ih =>
    intro vs h
    cases vs with
    | nil => cases h
    | cons v vs =>
      simp only [dFind]
      by_cases e : a = k
      · simp [e]
      · rw [if_neg e, ih (by simpa using h)]
        simp [Ne.symm e]
end
def keyM : MV → Option Key
  | .int i => some (.inl i)
  | .str x => some (.inr x)
  | _ => none
theorem keyM_rep {G : GG} {M : Addr → Prop} {H : Hp} {m : MV} {k : Key} {x : V} (e : keyM m = some k) (h : Rep G M H m x) : x = kV k := by
  cases m <;> simp only [keyM] at e <;> cases e <;> simp only [Rep] at h <;> exact h
section
variable {κ : Type} [DecidableEq κ] {G : GG} {M : Addr → Prop} {H : Hp}
theorem find_rep {k : κ} : ∀ {ks : List κ} {ms : List MV} {vs : List V}, Reps G M H ms vs → ks.length = vs.length → (∀ m, dFind ks ms k = some m → ∃ v, valV (ks.zip vs) k = some v ∧ Rep G M H m v) ∧ (dFind ks ms k = none → valV (ks.zip vs) k = none)
  | [], ms, vs, h, hl => ⟨fun m e => by simp [dFind] at e, fun _ => rfl⟩
  | a :: ks, [], vs, h, hl => by simp only [Reps] at h; subst h; cases hl
  | a :: ks, m :: ms, vs, h, hl => by
    simp only [Reps] at h
    obtain ⟨v, r, rfl, h1, h2⟩ := h
    obtain ⟨i1, i2⟩ := find_rep (k := k) h2 (by simpa using hl)
    simp only [dFind, List.zip_cons_cons]
    by_cases e : a = k
    · rw [valV_pos e]
      simp only [if_pos e]
      exact ⟨fun m' e' => by cases e'; exact ⟨v, rfl, h1⟩, fun e' => by cases e'⟩
    · rw [valV_neg e]
      simp only [if_neg e]
      exact ⟨i1, i2⟩
theorem vals_rep {k : κ} {w : MV} {y : V} (hw : Rep G M H w y) : ∀ {ks : List κ} {ms : List MV} {vs : List V}, Reps G M H ms vs → ks.length = vs.length → Reps G M H (dVals ks ms k w) (List.zipWith (fun k' v' => if k' = k then y else v') ks vs)
  | [], ms, vs, h, hl => by cases vs with | nil => exact Reps.nil | cons _ _ => cases hl
  | a :: ks, [], vs, h, hl => by simp only [Reps] at h; subst h; cases hl
  | a :: ks, m :: ms, vs, h, hl => by
    simp only [Reps] at h
    obtain ⟨v, r, rfl, h1, h2⟩ := h
    unfold dVals
    rw [List.zipWith_cons_cons, List.zipWith_cons_cons]
    refine Reps.consI ?_ (vals_rep hw h2 (by simpa using hl))
    split
    · exact hw
    · exact h1
theorem putK_in {k : κ} {y : V} : ∀ {ks : List κ} {vs : List V}, ks.length = vs.length → k ∈ ks → putK (ks.zip vs) k y = ks.zip (List.zipWith (fun k' v' => if k' = k then y else v') ks vs) := by
  intro ks vs hl hk
  have hany : ((ks.zip vs).any fun kv => decide (kv.1 = k)) = true := by
    obtain ⟨i, hi, e⟩ := List.getElem_of_mem hk
    refine List.any_eq_true.mpr ⟨(ks[i], vs[i]'(by omega)), ?_, decide_eq_true e⟩
    exact List.mem_of_getElem? (i := i) (by simp [List.getElem?_zip_eq_some, hi, show i < vs.length by omega])
  unfold putK
  rw [if_pos hany]
  clear hany hk
  induction ks generalizing vs with
  | nil => rfl
  | cons a ks ih =>
    cases vs with
    | nil => cases hl
    | cons v vs =>
      simp only [List.zip_cons_cons, List.map_cons, List.zipWith_cons_cons]
      rw [ih (by simpa using hl)]
      congr 1
      split <;> rfl
theorem putK_out {k : κ} {y : V} {ks : List κ} {vs : List V} (hl : ks.length = vs.length) (hk : k ∉ ks) : putK (ks.zip vs) k y = (ks ++ [k]).zip (vs ++ [y]) := by
  have hany : ((ks.zip vs).any fun kv => decide (kv.1 = k)) = false := by
    rw [Bool.eq_false_iff]
    intro h
    obtain ⟨p, hp, e⟩ := List.any_eq_true.mp h
    exact hk (by rw [← of_decide_eq_true e]; exact (List.of_mem_zip hp).1)
  unfold putK
  rw [if_neg (by rw [hany]; decide), List.zip_append hl]
  rfl
end
section
variable {G : GG} {M : Addr → Prop} {H : Hp}
theorem zip3_find {k : NestedKey} : ∀ {ks : List NestedKey} {as : List Addr} {ms : List MV} {vs : List V}, Reps G M H ms vs → ks.length = vs.length → as.length = vs.length → (∀ m, dFind ks ms k = some m → ∃ v, esGet (zip3 ks as vs) k = some v ∧ Rep G M H m v) ∧ (dFind ks ms k = none → esGet (zip3 ks as vs) k = none)
  | [], as, ms, vs, h, hl, ha => ⟨fun m e => by simp [dFind] at e, fun _ => by simp [zip3, esGet]⟩
  | a :: ks, as, [], vs, h, hl, ha => by simp only [Reps] at h; subst h; cases hl
  | a :: ks, [], m :: ms, vs, h, hl, ha => by
    simp only [Reps] at h
    obtain ⟨v, r, rfl, h1, h2⟩ := h
    cases ha
  | a :: ks, b :: as, m :: ms, vs, h, hl, ha => by
    simp only [Reps] at h
    obtain ⟨v, r, rfl, h1, h2⟩ := h
    obtain ⟨i1, i2⟩ := zip3_find (k := k) (as := as) h2 (by simpa using hl) (by simpa using ha)
    simp only [dFind, zip3]
    unfold esGet at i1 i2 ⊢
    rw [List.find?_cons]
    by_cases e : a = k
    · simp only [if_pos e, decide_eq_true e, Option.map_some]
      exact ⟨fun m' e' => by cases e'; exact ⟨v, rfl, h1⟩, fun e' => by cases e'⟩
    · simp only [if_neg e, decide_eq_false e]
      exact ⟨i1, i2⟩
theorem zip3_len : ∀ {ks : List NestedKey} {as : List Addr} {vs : List V}, ks.length = vs.length → as.length = vs.length → (zip3 ks as vs).length = vs.length
  | [], as, vs, h, _ => by cases vs with | nil => rfl | cons _ _ => cases h
  | k :: ks, [], vs, h, h' => by cases vs with | nil => cases h | cons _ _ => cases h'
  | k :: ks, a :: as, [], h, _ => by cases h
  | k :: ks, a :: as, v :: vs, h, h' => by simp only [zip3, List.length_cons]; rw [zip3_len (by simpa using h) (by simpa using h')]
theorem zip3_app {k : NestedKey} {b : Addr} {y : V} : ∀ {ks : List NestedKey} {as : List Addr} {vs : List V}, ks.length = vs.length → as.length = vs.length → zip3 (ks ++ [k]) (as ++ [b]) (vs ++ [y]) = zip3 ks as vs ++ [(k, b, y)]
  | [], as, vs, h, h' => by
    cases vs with
    | nil => cases as with | nil => rfl | cons _ _ => cases h'
    | cons _ _ => cases h
  | k :: ks, [], vs, h, h' => by cases vs with | nil => cases h | cons _ _ => cases h'
  | k :: ks, a :: as, [], h, _ => by cases h
  | k :: ks, a :: as, v :: vs, h, h' => by simp only [zip3, List.cons_append]; rw [zip3_app (by simpa using h) (by simpa using h')]
theorem zip3_map {k : NestedKey} {y : V} : ∀ {ks : List NestedKey} {as : List Addr} {vs : List V}, ks.length = vs.length → as.length = vs.length → (zip3 ks as vs).map (fun e => if e.1 = k then (e.1, e.2.1, y) else e) = zip3 ks as (List.zipWith (fun k' v' => if k' = k then y else v') ks vs)
  | [], as, vs, h, h' => by simp [zip3]
  | k' :: ks, [], vs, h, h' => by cases vs with | nil => cases h | cons _ _ => cases h'
  | k' :: ks, a :: as, [], h, _ => by cases h
  | k' :: ks, a :: as, v :: vs, h, h' => by
    simp only [zip3, List.map_cons, List.zipWith_cons_cons]
    rw [zip3_map (by simpa using h) (by simpa using h')]
    congr 1
    split <;> rfl
theorem zip3_keys : ∀ {kms : List MV} {ks : List NestedKey} {as : List Addr} {vs : List V}, nksM kms = some ks → Reps G M H kms (as.map V.ref) → (∀ k ∈ ks, k.depth ≤ 8) → ∀ e ∈ zip3 ks as vs, KeyR G.K H e.1 (.ref e.2.1) ∧ e.1.depth ≤ 8
  | [], ks, as, vs, e, h, hd => by simp only [nksM] at e; cases e; simp [zip3]
  | m :: ms, ks, as, vs, e, h, hd => by
    simp only [nksM, Option.bind_eq_some_iff, Option.map_eq_some_iff] at e
    obtain ⟨k1, e1, ks', e2, rfl⟩ := e
    cases as with
    | nil => simp only [Reps, List.map_nil] at h; obtain ⟨v, r, h, _⟩ := h; cases h
    | cons a as =>
      simp only [Reps, List.map_cons] at h
      obtain ⟨v, r, h, h1, h2⟩ := h
      cases h
      cases vs with
      | nil => simp [zip3]
      | cons v vs =>
        simp only [zip3, List.mem_cons]
        rintro e (rfl | he)
        · exact ⟨keyR_of m k1 _ e1 h1, hd _ List.mem_cons_self⟩
        · exact zip3_keys e2 h2 (fun k hk => hd k (List.mem_cons_of_mem _ hk)) e he
end
end Mi

set_option Elab.async false
set_option linter.all false
set_option maxRecDepth 100000
set_option maxHeartbeats 4000000
/-! subscripts of dicts too; stores; methods that change -/
namespace Mi
open PySem PySem.Spec PyProof.Rows L2 My

/-! ### a thing of one's own has changed -/
section
variable {G : GG} {Z : Ent} {A A' A0 : AM} {γ γ' : Sg} {σ σ' : L2.St} {H H' H0 : Hp} {c d : Cell} {x y z : V} {v v' : MV} {l : List (Addr × HO)} {W : WX} {j : Nat} {a : Addr} {kd : Kd}
/-- the kinds that may be changed -/
def Kd.mine : Kd → Bool
  | .own => true
  | .io => true
  | _ => false
theorem Sim.mine (S : Sim G Z A γ σ H) (hj : γ[j]? = some (some ⟨kd, v⟩)) (hk : kd.mine = true) : ∃ a, σ[j]? = some (some (.ref a)) ∧ A j = some a ∧ Own G (Mz Z A) H v a ∧ ∀ o, ¬ Z.F a o := by
  obtain ⟨x, h1, h2⟩ := S.cell j _ hj
  cases kd with
  | own =>
    obtain ⟨a, e, rfl, h⟩ := h2
    obtain ⟨_, _, nf, _⟩ := S.adr j a e
    exact ⟨a, h1, e, h, nf⟩
  | io =>
    obtain ⟨a, e, rfl, h⟩ := h2
    obtain ⟨_, _, nf, _⟩ := S.adr j a e
    exact ⟨a, h1, e, h, nf⟩
  | val => cases hk
  | lown => cases hk
  | lio => cases hk
theorem Sim.mut (S : Sim G Z A γ σ H) (hj : γ[j]? = some (some ⟨kd, v⟩)) (hk : kd.mine = true) (ha : A j = some a) (e : ∀ b o, b ≠ a → H b = some o → H' b = some o) (h : Own G (Mz Z A) H' v' a) : Sim G Z A (γ.set j (some ⟨kd, v'⟩)) σ H' ∧ Keep (Mz Z A) H H' := by
  have hlt : j < γ.length := (List.getElem?_eq_some_iff.mp hj).1
  have ma : Mz Z A a := .inr ⟨j, ha⟩
  obtain ⟨oa, hoa⟩ := h.on
  obtain ⟨_, _, nf, _⟩ := S.adr j a ha
  have k : Keep (Mz Z A) H H' := ⟨fun b o n hb => e b o (fun z => n (z ▸ ma)) hb, fun b o hb => by
    by_cases hb' : b = a
    · exact ⟨oa, hb' ▸ hoa⟩
    · exact ⟨o, e b o hb' hb⟩⟩
  obtain ⟨x, h1, h2⟩ := S.cell j _ hj
  refine ⟨⟨by rw [List.length_set]; exact S.len, fun i c hi => ?_, fun i b hi => ?_, S.inj, fun b m => let ⟨o, ho⟩ := S.mf b m; k.on b o ho, fun b o hb => e b o (fun z => nf o (z ▸ hb)) (S.fr b o hb), fun b o hb => let ⟨o', ho⟩ := S.new b o hb; k.on b o' ho⟩, k⟩
  · by_cases hij : i = j
    · subst hij
      rw [List.getElem?_set_self hlt] at hi
      cases hi
      cases kd with
      | own => obtain ⟨b, e1, rfl, _⟩ := h2; rw [ha] at e1; cases e1; exact ⟨_, h1, a, ha, rfl, h⟩
      | io => obtain ⟨b, e1, rfl, _⟩ := h2; rw [ha] at e1; cases e1; exact ⟨_, h1, a, ha, rfl, h⟩
      | val => cases hk
      | lown => cases hk
      | lio => cases hk
    · rw [List.getElem?_set_ne (Ne.symm hij)] at hi
      obtain ⟨y, h3, h4⟩ := S.cell i c hi
      refine ⟨y, h3, CellOk.keep (Z := Z) (Z' := Z) rfl (fun p q => ⟨q, fun u hu => ?_⟩) k (fun _ _ _ m => m) (fun b hb u hu => ?_) h4⟩
      · exact e _ _ (fun z => nf p.2 (z ▸ Z.lnF i p q)) hu
      · exact e _ _ (fun z => hij (S.inj i j a (z ▸ hb) ha)) hu
  · by_cases hij : i = j
    · subst hij
      obtain ⟨c, h3, h4, h5⟩ := S.adr i b hi
      rw [hj] at h3
      cases h3
      exact ⟨_, List.getElem?_set_self hlt, h4, h5⟩
    · rw [List.getElem?_set_ne (Ne.symm hij)]
      exact S.adr i b hi
end

/-! ### d[k], as a subscript by values -/
def dGetM : MV → MV → Option MV
  | .dk ks ms, m => (keyM m).bind (dFind ks ms)
  | .dn kms ms, .tup ts => (nkM (.tup ts)).bind fun k => if k.depth ≤ 8 then (nksM kms).bind fun ks => dFind ks ms k else none
  | _, _ => none
def atM (v w : MV) : Option Cell := (ixM v w).or ((dGetM v w).map fun m => ⟨.val, m⟩)
/-- d[y] by values, for both kinds of dicts -/
def DGt (G : GG) (H : Hp) (a : Addr) (y : V) (r : Option V) : Prop :=
  (∃ kvs k, Rd H a (.dK kvs) ∧ y = kV k ∧ r = valV kvs k) ∨ ∃ es k b, DnAt G H a es ∧ y = .ref b ∧ KeyR G.K H k (.ref b) ∧ k.depth ≤ 8 ∧ r = esGet es k
def rIxDt (G : GG) : R2 := fun x y H Q => ∃ a v, x = .ref a ∧ DGt G H a y (some v) ∧ Q v H
section
variable {X : Cx}
theorem ix_dict (hu : X.A.units + 64 < cLine) : IxR X (rIxDt (GX X)) := by
  intro value slice pins s σ H x y v u Q I rx ry h hs
  obtain ⟨a, w, rfl, g, q⟩ := h
  cases rx
  rcases g with ⟨kvs, k, e, rfl, l⟩ | ⟨es, k, b, d, rfl, hk, hd, l⟩
  · have g : DGet H a (kV k) (some w) := .inl ⟨kvs, k, e, rfl, l⟩
    exact tail_any (dict_typeIs I g) slot_dict_getitem.lookup (d_getItem (by omega) I g ry fun w' s' I' rw' => ⟨w, H, I', rw', q⟩) hs
  · cases ry
    obtain ⟨_, _, xs, _, dd⟩ := d.get I
    exact tail_any dd.typeIs slot_dict_getitem.lookup (dn_getItem hu I d hk hd l.symm fun w' s' I' rw' => ⟨w, H, I', rw', q⟩) hs
theorem nk_rep {G : GG} {M : Addr → Prop} {H : Hp} {ts : List MV} {y : V} {k : NestedKey} (e : nkM (.tup ts) = some k) (h : RepB G M H (.tup ts) y) : ∃ b, y = .ref b ∧ KeyR G.K H k (.ref b) := by
  rcases h with h | ⟨_, _, h⟩
  · have hk := keyR_of _ _ _ e h
    simp only [Rep] at h
    obtain ⟨b, _, rfl, _⟩ := h
    exact ⟨b, rfl, hk⟩
  · simp only [Own] at h
theorem key_rep {G : GG} {M : Addr → Prop} {H : Hp} {m : MV} {y : V} {k : Key} (e : keyM m = some k) (h : RepB G M H m y) : y = kV k := by
  rcases h with h | ⟨_, _, h⟩
  · exact keyM_rep e h
  · cases m <;> first | (simp only [Own] at h; done) | cases e
theorem dk_repB {G : GG} {M : Addr → Prop} {H : Hp} {ks : List Key} {ms : List MV} {x : V} (h : RepB G M H (.dk ks ms) x) : ∃ a vs, x = .ref a ∧ Rd H a (.dK (ks.zip vs)) ∧ ks.length = vs.length ∧ Reps G M H ms vs := by
  rcases h with h | ⟨a, rfl, h⟩
  · simp only [Rep] at h
    obtain ⟨a, vs, rfl, h1, h2, _, h3⟩ := h
    exact ⟨a, vs, rfl, .inl h1, h2, h3⟩
  · simp only [Own] at h
    obtain ⟨vs, h1, h2, h3⟩ := h
    exact ⟨a, vs, rfl, .inl h1, h2, h3⟩
theorem dn_repB {G : GG} {M : Addr → Prop} {H : Hp} {kms ms : List MV} {x : V} (h : RepB G M H (.dn kms ms) x) : ∃ a ks as vs, x = .ref a ∧ DnAt G H a (zip3 ks as vs) ∧ nksM kms = some ks ∧ ks.length = vs.length ∧ as.length = vs.length ∧ Reps G M H ms vs := by
  rcases h with h | ⟨a, rfl, h⟩
  · simp only [Rep] at h
    obtain ⟨a, ks, as, vs, rfl, h1, h2, h3, h4, h5, _, h6, h7⟩ := h
    exact ⟨a, ks, as, vs, rfl, ⟨h1, zip3_keys h2 h6 h5⟩, h2, h3, h4, h7⟩
  · simp only [Own] at h
    obtain ⟨ks, as, vs, h1, h2, h3, h4, h5, h6, h7⟩ := h
    exact ⟨a, ks, as, vs, rfl, ⟨h1, zip3_keys h2 h6 h5⟩, h2, h3, h4, h7⟩
/-- what dGetM finds is there; what it does not find, is not -/
theorem dGetM_ok {G : GG} {M : Addr → Prop} {H : Hp} {v w m : MV} {x y : V} (e : dGetM v w = some m) (hv : RepB G M H v x) (hw : RepB G M H w y) : ∃ a u, x = .ref a ∧ DGt G H a y (some u) ∧ Rep G M H m u := by
  cases v with
  | dk ks ms =>
    simp only [dGetM, Option.bind_eq_some_iff] at e
    obtain ⟨k, e1, e2⟩ := e
    obtain ⟨a, vs, rfl, h1, h2, h3⟩ := dk_repB hv
    obtain ⟨u, f1, f2⟩ := (find_rep (k := k) h3 h2).1 m e2
    exact ⟨a, u, rfl, .inl ⟨_, k, h1, key_rep e1 hw, f1.symm⟩, f2⟩
  | dn kms ms =>
    cases w with
    | tup ts =>
      simp only [dGetM, Option.bind_eq_some_iff] at e
      obtain ⟨k, e1, e2⟩ := e
      split at e2
      · rename_i hd
        obtain ⟨ks, e3, e4⟩ := Option.bind_eq_some_iff.mp e2
        obtain ⟨a, ks', as, vs, rfl, h1, h2, h3, h4, h5⟩ := dn_repB hv
        rw [e3] at h2
        cases h2
        obtain ⟨u, f1, f2⟩ := (zip3_find (k := k) (as := as) h5 h3 h4).1 m e4
        obtain ⟨b, rfl, hk⟩ := nk_rep e1 hw
        exact ⟨a, u, rfl, .inr ⟨_, k, b, h1, rfl, hk, hd, f1.symm⟩, f2⟩
      · cases e2
    | _ => simp only [dGetM] at e; cases e
  | _ => simp only [dGetM] at e; cases e
theorem ixM_ok {G : GG} {M : Addr → Prop} {H : Hp} {v w : MV} {c : Cell} {x y : V} {Q : VK} (e : ixM v w = some c) (rv : RepB G M H v x) (rw : RepB G M H w y) (q : ∀ z, Rep G M H c.v z → c.k = .val → Q z H) : rIx G.K x y H Q := by
  cases v with
  | lst xs =>
    cases w with
    | int i =>
      rcases rw with rw | ⟨_, _, rw⟩ <;> simp only [Rep, Own] at rw
      subst rw
      unfold ixM at e
      simp only [Option.map_eq_some_iff] at e
      obtain ⟨m, e, rfl⟩ := e
      rcases rv with rv | ⟨p, rfl, rv⟩ <;> simp only [Rep, Own] at rv
      · obtain ⟨p, vs, rfl, h1, _, h2⟩ := rv
        obtain ⟨z, e1, r⟩ := h2.at_ e
        exact .inl ⟨p, vs, i, z, rfl, rfl, h1.sq, e1, q z r rfl⟩
      · obtain ⟨vs, h1, h2⟩ := rv
        obtain ⟨z, e1, r⟩ := h2.at_ e
        exact .inl ⟨p, vs, i, z, rfl, rfl, .of h1, e1, q z r rfl⟩
    | _ => cases e
  | tup xs =>
    cases w with
    | int i =>
      rcases rw with rw | ⟨_, _, rw⟩ <;> simp only [Rep, Own] at rw
      subst rw
      unfold ixM at e
      simp only [Option.map_eq_some_iff] at e
      obtain ⟨m, e, rfl⟩ := e
      rcases rv with rv | ⟨p, _, rv⟩ <;> simp only [Rep, Own] at rv
      obtain ⟨p, vs, rfl, h1, h2⟩ := rv
      obtain ⟨z, e1, r⟩ := h2.at_ e
      exact .inr (.inl ⟨p, vs, i, z, rfl, rfl, h1.sq, e1, q z r rfl⟩)
    | _ => cases e
  | str s =>
    cases w with
    | int i =>
      rcases rw with rw | ⟨_, _, rw⟩ <;> simp only [Rep, Own] at rw
      subst rw
      rcases rv with rv | ⟨p, _, rv⟩ <;> simp only [Rep, Own] at rv
      subst rv
      unfold ixM at e
      simp only at e
      split at e
      · rename_i hl
        simp only [Option.map_eq_some_iff] at e
        obtain ⟨m, e, rfl⟩ := e
        exact .inr (.inr ⟨s, i, m, rfl, rfl, hl, e, q _ (by simp only [Rep]) rfl⟩)
      · cases e
    | _ => cases e
  | _ => cases w <;> cases e
variable {a b e : Expr} {es : List Expr} {f : FE} {fa : FA} {o q : Opd} {pos : Pos} {x : Str}
theorem re_at (hu : X.A.units + 64 < cLine) (ha : RQ X a o) (hb : RQ X b q) (hs : PlainIx b := by intro _ _; rfl) : RE X (.Subscript a b pos) (e2 atM o q) := fun W tk => by
  refine PE_imp (pe_ix (ix_seq.or (ix_dict hu)) (ha W tk) (hb W tk) hs) fun σ H Q h => two (r := fun x y H Q => rIx X.K x y H Q ∨ rIxDt (GX X) x y H Q) (fun M v w c x y H Q tr e rv rw q => ?_) h
  unfold atM at e
  cases E : ixM v w with
  | some c' =>
    rw [E] at e
    cases e
    exact .inl (ixM_ok E rv rw fun z r hk => q z H (.refl _) (by obtain ⟨k, m⟩ := c; cases hk; exact r))
  | none =>
    rw [E] at e
    simp only [Option.or, Option.map_eq_some_iff] at e
    obtain ⟨m, e, rfl⟩ := e
    obtain ⟨p, u, rfl, g, r⟩ := dGetM_ok e rv rw
    exact .inr ⟨p, u, rfl, g, q u H (.refl _) r⟩

/-! ### xs[i] = e, d[k] = e -/
def dPutM : MV → MV → MV → Option MV
  | .dk ks ms, m, w => (keyM m).bind fun k => if (dFind ks ms k).isSome then some (.dk ks (dVals ks ms k w)) else if ks.length < sizeLine then some (.dk (ks ++ [k]) (ms ++ [w])) else none
  | .dn kms ms, .tup ts, w => (nkM (.tup ts)).bind fun k => if k.depth ≤ 8 then (nksM kms).bind fun ks => if (dFind ks ms k).isSome then some (.dn kms (dVals ks ms k w)) else if ks.length < sizeLine then some (.dn (kms ++ [.tup ts]) (ms ++ [w])) else none else none
  | _, _, _ => none
def stM : MV → MV → MV → Option MV
  | .lst xs, .int i, w => (ixN xs.length i).map fun j => .lst (xs.set j w)
  | v, m, w => dPutM v m w
def rSetDt (G : GG) : TSet := fun o i v H Q =>
  (∃ a kvs k, o = .ref a ∧ H a = some (.dK kvs) ∧ i = kV k ∧ ((putK kvs k v).length ≤ sizeLine ∨ (putK kvs k v).length = kvs.length) ∧ Q (upd H a (.dK (putK kvs k v)))) ∨
  ∃ a es k b, o = .ref a ∧ DnAt G H a es ∧ i = .ref b ∧ KeyR G.K H k (.ref b) ∧ k.depth ≤ 8 ∧ ((esPut es k b v).length ≤ sizeLine ∨ (esPut es k b v).length = es.length) ∧ Q (upd H a (DnO G a (esPut es k b v)))
theorem set_dict (hu : X.A.units + 64 < cLine) : PSet X (rSetDt (GX X)) := by
  intro pins s σ H o i v ov iv u Q I ro ri rv h
  rcases h with ⟨a, kvs, k, rfl, e, rfl, hl, q⟩ | ⟨a, es, k, b, rfl, d, rfl, hk, hd, hl, q⟩
  · cases ro
    obtain ⟨z, hsd, vs, rel, dd⟩ := dk_of I.hok e
    replace hl : (putK kvs k v).length ≤ sizeLine := hl.elim id fun h => by rw [h]; exact z
    refine wpAny_setItem_pairs (hsz := by rw [← rel.length]; exact z) (kV_is ri) dd fun h' dd' hs => ?_
    have he : ∃ q, h'.get? a = some q := let ⟨q, _, _, hq, _⟩ := dd'; ⟨q, hq⟩
    exact ⟨_, d_write I (by rw [e]; exact True.intro) hs he (dk_new hl hsd (rel.put k rv) dd'), q⟩
  · cases ro
    cases ri
    obtain ⟨h1, h2, xs, hp, dd⟩ := d.get I
    replace hl : (esPut es k b v).length ≤ sizeLine := hl.elim id fun h => by rw [h]; exact h2
    refine wpAny_setItem_heap (hsz := by rw [← My.Paired.len hp]; exact h2) (knd_room hu) (key_is I hk hd) dd fun h' dd' hs => ?_
    obtain ⟨q', es', ep, hq, h3, h4, h5, _, h6⟩ := dd'
    exact ⟨_, d_write (ob := DnO (GX X) a (esPut es k b v)) I (by rw [d.at_]; exact trivial) hs ⟨q', hq⟩ ⟨⟨h1, hl, _, hp.put k b rv, q', es', ep, hq, h3, h4, h5, h6⟩, ⟨q', hq⟩, fun g1 g2 ⟨z1, z2, zs, zp, zo, ze, zep, z3, z4⟩ hk => ⟨z1, z2, zs, zp, zo, ze, zep, hk _ z3, z4⟩⟩, q⟩
theorem PSet.or {t t' : TSet} (h : PSet X t) (h' : PSet X t') : PSet X (fun o i v H Q => t o i v H Q ∨ t' o i v H Q) := by
  intro pins s σ H o i v ov iv u Q I ro ri rv q
  rcases q with q | q
  · exact h pins s σ H o i v ov iv u Q I ro ri rv q
  · exact h' pins s σ H o i v ov iv u Q I ro ri rv q
theorem zipW_len {κ : Type} [DecidableEq κ] {k : κ} {y : V} {ks : List κ} {vs : List V} (h : ks.length = vs.length) : (List.zipWith (fun k' v' => if k' = k then y else v') ks vs).length = vs.length := by simp [h]
theorem nksM_snoc {m : MV} {k : NestedKey} (h2 : nkM m = some k) : ∀ {ms : List MV} {ks : List NestedKey}, nksM ms = some ks → nksM (ms ++ [m]) = some (ks ++ [k])
  | [], ks, h => by
    simp only [nksM] at h
    cases h
    simp only [List.nil_append, nksM, h2]
    rfl
  | a :: ms, ks, h => by
    simp only [nksM, Option.bind_eq_some_iff, Option.map_eq_some_iff] at h
    obtain ⟨k1, e1, ks', e2, rfl⟩ := h
    simp only [List.cons_append, nksM, e1, nksM_snoc h2 e2]
    rfl
/-- what stM says is what a store does -/
theorem stM_ok {G : GG} {M : Addr → Prop} {H : Hp} {v m w v' : MV} {y u : V} {a : Addr} {Q : Hp → Prop} (tr : Trk M H) (ma : M a) (oa : Own G M H v a) (hm : RepB G M H m y) (hw : Rep G M H w u) (e : stM v m w = some v')
    (q : ∀ H', (∀ b o, b ≠ a → H b = some o → H' b = some o) → Own G M H' v' a → Q H') : rSetL (.ref a) y u H Q ∨ rSetDt G (.ref a) y u H Q := by
  have out : ∀ o b (o' : HO), b ≠ a → H b = some o' → upd H a o b = some o' := fun o b o' n h => by rw [upd_ne n]; exact h
  have kp : ∀ o, Keep M H (upd H a o) := fun o => ⟨fun b o' n h => out o b o' (fun z => n (z ▸ ma)) h, fun b o' h => by
    by_cases hb : b = a
    · exact ⟨_, by rw [hb]; exact upd_same⟩
    · exact ⟨o', out o b o' hb h⟩⟩
  cases v with
  | lst xs =>
    cases m with
    | int i =>
      simp only [stM, Option.map_eq_some_iff] at e
      obtain ⟨j, hj, rfl⟩ := e
      rcases hm with hm | ⟨_, _, hm⟩ <;> simp only [Rep, Own] at hm
      subst hm
      simp only [Own] at oa
      obtain ⟨vs, h1, h2⟩ := oa
      refine .inl ⟨a, vs, i, j, rfl, rfl, h1, by rw [h2.len]; exact hj, q _ (fun b o => out _ b o) ?_⟩
      simp only [Own]
      exact ⟨_, upd_same, (Reps.set hw j h2).keep (kp _) fun _ _ _ m => m⟩
    | _ => simp only [stM, dPutM] at e; cases e
  | dk ks ms =>
    have e : dPutM (.dk ks ms) m w = some v' := e
    simp only [dPutM, Option.bind_eq_some_iff] at e
    obtain ⟨k, e1, e2⟩ := e
    simp only [Own] at oa
    obtain ⟨vs, h1, hl, h2⟩ := oa
    have hlm : ks.length = ms.length := by rw [hl, h2.len]
    right
    left
    split at e2
    · rename_i hin
      cases e2
      have hin' : k ∈ ks := (dFind_some (k := k) (vs := ms) (ks := ks) hlm).mp hin
      refine ⟨a, _, k, rfl, h1, key_rep e1 hm, ?_, ?_⟩
      · right
        rw [putK_in hl hin', List.length_zip, List.length_zip, zipW_len hl]
      · refine q _ (fun b o => out _ b o) ?_
        simp only [Own]
        rw [putK_in hl hin']
        exact ⟨_, upd_same, by rw [zipW_len hl]; exact hl, (vals_rep hw h2 hl).keep (kp _) fun _ _ _ m => m⟩
    · rename_i hin
      split at e2
      · rename_i hz
        cases e2
        have hin' : k ∉ ks := fun h => hin ((dFind_some (k := k) (vs := ms) (ks := ks) hlm).mpr h)
        refine ⟨a, _, k, rfl, h1, key_rep e1 hm, ?_, ?_⟩
        · left
          rw [putK_out hl hin', List.length_zip, List.length_append, List.length_append]
          simp only [List.length_singleton]
          omega
        · refine q _ (fun b o => out _ b o) ?_
          simp only [Own]
          rw [putK_out hl hin']
          exact ⟨_, upd_same, by simp [hl], (Reps.app h2 (Reps.one hw)).keep (kp _) fun _ _ _ m => m⟩
      · cases e2
  | dn kms ms =>
    cases m with
    | tup ts =>
      have e : dPutM (.dn kms ms) (.tup ts) w = some v' := e
      simp only [dPutM, Option.bind_eq_some_iff] at e
      obtain ⟨k, e1, e2⟩ := e
      split at e2
      · rename_i hd
        obtain ⟨ks, e3, e4⟩ := Option.bind_eq_some_iff.mp e2
        simp only [Own] at oa
        obtain ⟨ks', as, vs, h1, h2, h3, h4, h5, h6, h7⟩ := oa
        rw [e3] at h2
        cases h2
        have hlm : ks.length = ms.length := by rw [h3, h7.len]
        have hda : DnAt G H a (zip3 ks as vs) := ⟨h1, zip3_keys e3 h6 h5⟩
        obtain ⟨b, rfl, hk⟩ := nk_rep e1 hm
        right
        right
        split at e4
        · rename_i hin
          cases e4
          obtain ⟨m', hm'⟩ := Option.isSome_iff_exists.mp hin
          obtain ⟨u', f1, _⟩ := (zip3_find (k := k) (as := as) h7 h3 h4).1 m' hm'
          have ep : esPut (zip3 ks as vs) k b u = zip3 ks as (List.zipWith (fun k' v' => if k' = k then u else v') ks vs) := by
            unfold esPut
            rw [if_pos (by rw [f1]; rfl)]
            exact zip3_map h3 h4
          refine ⟨a, _, k, b, rfl, hda, rfl, hk, hd, ?_, ?_⟩
          · right
            rw [ep, zip3_len (by rw [zipW_len h3]; exact h3) (by rw [zipW_len h3]; exact h4), zip3_len h3 h4, zipW_len h3]
          · refine q _ (fun b o => out _ b o) ?_
            simp only [Own]
            rw [ep]
            exact ⟨ks, as, _, upd_same, e3, by rw [zipW_len h3]; exact h3, by rw [zipW_len h3]; exact h4, h5, h6.keep (kp _) fun _ _ _ m => m, (vals_rep hw h7 h3).keep (kp _) fun _ _ _ m => m⟩
        · rename_i hin
          split at e4
          · rename_i hz
            cases e4
            have hno : dFind ks ms k = none := by
              cases E : dFind ks ms k with
              | none => rfl
              | some _ => rw [E] at hin; exact absurd rfl hin
            have f1 := (zip3_find (k := k) (as := as) h7 h3 h4).2 hno
            have ep : esPut (zip3 ks as vs) k b u = zip3 (ks ++ [k]) (as ++ [b]) (vs ++ [u]) := by
              unfold esPut
              rw [if_neg (by rw [f1]; decide)]
              exact (zip3_app h3 h4).symm
            refine ⟨a, _, k, b, rfl, hda, rfl, hk, hd, ?_, ?_⟩
            · left
              rw [ep, zip3_len (by simp [h3]) (by simp [h4])]
              simp
              omega
            · refine q _ (fun b o => out _ b o) ?_
              simp only [Own]
              rw [ep]
              have hkm : Rep G M H (.tup ts) (.ref b) := by
                rcases hm with h | ⟨_, _, h⟩
                · exact h
                · simp only [Own] at h
              refine ⟨ks ++ [k], as ++ [b], vs ++ [u], upd_same, ?_, by simp [h3], by simp [h4], fun k' hk' => ?_, ?_, (Reps.app h7 (Reps.one hw)).keep (kp _) fun _ _ _ m => m⟩
              · exact nksM_snoc e1 e3
              · rcases List.mem_append.mp hk' with h | h
                · exact h5 k' h
                · rw [List.mem_singleton.mp h]; exact hd
              · rw [List.map_append]
                exact (Reps.app h6 (Reps.one hkm)).keep (kp _) fun _ _ _ m => m
          · cases e4
      · cases e2
    | _ => simp only [stM, dPutM] at e; cases e
  | _ => cases m <;> (simp only [stM, dPutM] at e; cases e)
end
end Mi

set_option Elab.async false
set_option linter.all false
set_option maxRecDepth 100000
set_option maxHeartbeats 4000000
/-! stores as statements; methods that change; methods that look -/
namespace Mi
open PySem PySem.Spec PyProof.Rows L2 My

def hasC (γ : Sg) (j : Nat) : Bool := match γ[j]? with
  | some (some _) => true
  | _ => false
/-- slot j[q] = f -/
def sSt (j : Nat) (q : Opd) (f : FE) : FS := fun γ => match f γ with
  | .ok c γ1 => if hasC γ1 j then (match oEv q γ1 with
    | .ok d γ2 => (match oGet q d γ2, γ2[j]? with
      | some m, some (some ⟨kd, v⟩) => if kd.mine then (match stM v m c.v with
        | some v' => .nx (γ2.set j (some ⟨kd, v'⟩))
        | none => .no) else .no
      | _, _ => .no)
    | .ex e γ2 => .ex e γ2
    | .no => .no) else .no
  | .ex e γ1 => .ex e γ1
  | .no => .no
theorem Sim.slot {G : GG} {Z : Ent} {A : AM} {γ : Sg} {σ : L2.St} {H : Hp} {j : Nat} (S : Sim G Z A γ σ H) (h : hasC γ j = true) : ∃ x, σ[j]? = some (some x) := by
  unfold hasC at h
  split at h
  · rename_i c hc
    obtain ⟨x, h1, _⟩ := S.cell j c hc
    exact ⟨x, h1⟩
  · cases h
section
variable {X : Cx} {a b e : Expr} {es : List Expr} {f : FE} {fa : FA} {o q : Opd} {pos tpos : Pos} {x : Str} {j : Nat}
theorem qs_st (hu : X.A.units + 64 < cLine) (ho : PE X a (tVar j)) (hi : RQ X b q) (he : RE X e f)
    (hs : swapsWithSole [.Subscript a b tpos] e pos.line X.env = pure false := by rfl) (hw : swappedStores [.Subscript a b tpos] e X.env = pure none := by rfl)
    (h1 : (assignEach [.Subscript a b tpos] X.env).map (·.2) = [assign (.Subscript a b tpos) X.env] := by rfl)
    (ha : ∀ v, assign (.Subscript a b tpos) X.env v = (do
      let ov ← holding [v] (eval a X.env)
      let iv ← holding [v, ov] (eval b X.env)
      standAt tpos
      holding [v, ov, iv] (setItem ov iv v)
      release [v, ov, iv] []) := by intro _; rfl) : QS X (.Assign [.Subscript a b tpos] e pos) (sSt j q f) := fun _ W tk =>
  PS_imp (ps_asg (he W tk) (pg_sub ho (hi W tk) (PSet.or set_list (set_dict hu)) ha) hs hw h1) fun D σ H ⟨Z, A, γ, S, h⟩ => by
    refine ⟨Z, A, γ, S, ?_⟩
    unfold sSt at h
    cases E1 : f γ with
    | no => rw [E1] at h; exact h
    | ex e γ1 => rw [E1] at h; exact fun A' H' cls d S' le k xr => h σ A' H' cls d S' (.of le k) xr
    | ok c γ1 =>
      rw [E1] at h
      simp only at h
      intro u A1 H1 hs1 le1 k1
      have S1 := hs1.sim
      have r1 := hs1.rep
      split at h
      rotate_left
      · exact h.elim
      rename_i hh
      obtain ⟨x, hx⟩ := S1.slot hh
      refine ⟨x, hx, ?_⟩
      refine (Stg.start S1).run (Q := fun y H2 => rSetL x y u H2 (fun H3 => D.nx σ H3) ∨ rSetDt (GX X) x y u H2 (fun H3 => D.nx σ H3)) ?_
      cases E2 : oEv q γ1 with
      | no => rw [E2] at h; exact h
      | ex e γ2 =>
        rw [E2] at h
        exact fun A' H' cls d S' le k xr => h σ A' H' cls d S' ((Stp.of le1 k1).trans (.of le k)) xr
      | ok d γ2 =>
        rw [E2] at h
        simp only at h ⊢
        intro y l2 A2 H2 T2 up L2
        have k02 : Keep (Mz Z A) H H2 := k1.trans T2.kp fun b o hb m => le1.mz b m
        cases E3 : oGet q d γ2 with
        | none => rw [E3] at h; exact h.elim
        | some m =>
          rw [E3] at h
          cases E4 : γ2[j]? with
          | none => rw [E4] at h; exact h.elim
          | some oc =>
            cases oc with
            | none => rw [E4] at h; exact h.elim
            | some cj =>
              obtain ⟨kd, v⟩ := cj
              rw [E4] at h
              simp only at h
              split at h
              · rename_i hk
                cases E5 : stM v m c.v with
                | none => rw [E5] at h; exact h.elim
                | some v' =>
                  rw [E5] at h
                  obtain ⟨p, hp1, hp2, hp3, hp4⟩ := T2.sim.mine E4 hk
                  rw [hx] at hp1
                  cases hp1
                  have ru : Rep (GX X) (Mz (Z.waits l2) A2) H2 c.v u := r1.keep T2.kp fun b o hb m => by
                    rcases (waits_mz l2 b).mp m with m | ⟨p, hp, rfl⟩
                    · exact T2.le.mz b m
                    · rw [T2.nw p hp] at hb; cases hb
                  refine stM_ok T2.sim.trk (.inr ⟨j, hp2⟩) hp3 (L2.repB T2.sim E3) ru E5 fun H' out own' => ?_
                  obtain ⟨S3, k3⟩ := T2.sim.mut E4 hk hp2 out own'
                  have k3' : Keep (Mz Z A1) H1 H' := Keep.waits k3 T2.nw T2.kp T2.le
                  exact h σ A2 H' S3.drops ((Stp.of le1 k1).trans (.of T2.le k3'))
              · exact h.elim
/-! ### o.m(..), where o is a slot, and is changed -/
abbrev MutF := MV → List MV → Option (MV × MV)
def MutR (X : Cx) (id : String) (g : MutF) : Prop :=
  ∃ r, MtR X id r ∧ ∀ M v ms v' w a vs H Q, Trk M H → M a → g v ms = some (v', w) → Own (GX X) M H v a → Reps (GX X) M H ms vs →
    (∀ z H', (∀ b o, b ≠ a → H b = some o → H' b = some o) → Own (GX X) M H' v' a → Rep (GX X) M H' w z → Q z H') → r (.ref a) vs H Q
/-- the kind of thing a method is of -/
def isTy (T : String) : MV → Bool
  | .lst _ => T == "list"
  | .dk _ _ => T == "dict"
  | _ => false
def eMut (T : String) (g : MutF) (j : Nat) (fa : FA) : FE := fun γ => match γ[j]? with
  | some (some ⟨kd, v⟩) => if isTy T v then (match fa γ with
    | .ok ms γ1 => (match γ1[j]? with
      | some (some ⟨kd, v⟩) => if kd.mine then (match g v ms with
        | some (v', w) => .ok ⟨.val, w⟩ (γ1.set j (some ⟨kd, v'⟩))
        | none => .no) else .no
      | _ => .no)
    | .ex e γ1 => .ex e γ1
    | .no => .no) else .no
  | _ => .no
theorem isTy_ok {G : GG} {M : Addr → Prop} {H : Hp} {T : String} {v : MV} {y : V} (h : isTy T v = true) (r : RepB G M H v y) : tyV G.K T y H := by
  cases v with
  | lst ms =>
    have h : (T == "list") = true := h
    have e := eq_of_beq h
    rcases r with r | ⟨a, rfl, r⟩ <;> simp only [Rep, Own] at r
    · obtain ⟨a, vs, rfl, h1, _⟩ := r
      exact .inl ⟨e, vs, h1.sq⟩
    · obtain ⟨vs, h1, _⟩ := r
      exact .inl ⟨e, vs, .of h1⟩
  | dk ks ms =>
    have h : (T == "dict") = true := h
    have e := eq_of_beq h
    rcases r with r | ⟨a, rfl, r⟩ <;> simp only [Rep, Own] at r
    · obtain ⟨a, vs, rfl, h1, _⟩ := r
      exact .inr (.inr (.inl ⟨e, .inl ⟨_, h1⟩⟩))
    · obtain ⟨vs, h1, _⟩ := r
      exact .inr (.inr (.inl ⟨e, .inl ⟨_, h1⟩⟩))
  | _ => cases h
section
variable {X : Cx} {a b e e1 : Expr} {es : List Expr} {f : FE} {fa : FA} {o q : Opd} {pos apos cpos : Pos} {x name : Str} {j : Nat} {T id : String} {g : MutF}
/-- behind the arguments: the change -/
theorem mut_end {Z : Ent} {A A1 : AM} {γ1 : Sg} {σ : L2.St} {H H1 : Hp} {W : WX} {Q : VK} {r : V → List V → Hp → VK → Prop} {p : Addr} {ms : List MV} {vs : List V} (hx : σ[j]? = some (some (.ref p)))
    (hr : ∀ M v ms v' w a vs H Q, Trk M H → M a → g v ms = some (v', w) → Own (GX X) M H v a → Reps (GX X) M H ms vs →
      (∀ z H', (∀ b o, b ≠ a → H b = some o → H' b = some o) → Own (GX X) M H' v' a → Rep (GX X) M H' w z → Q z H') → r (.ref a) vs H Q)
    (S1 : Sim (GX X) Z A1 γ1 σ H1) (le : Le A1 A) (k : Keep (Mz Z A) H H1) (rs : Reps (GX X) (Mz Z A1) H1 ms vs)
    (h : EndE (GX X) Z W A σ H Q (match γ1[j]? with
      | some (some ⟨kd, v⟩) => if kd.mine then (match g v ms with
        | some (v', w) => .ok ⟨.val, w⟩ (γ1.set j (some ⟨kd, v'⟩))
        | none => .no) else .no
      | _ => .no)) : r (.ref p) vs H1 Q := by
  cases E4 : γ1[j]? with
  | none => rw [E4] at h; exact h.elim
  | some oc =>
    cases oc with
    | none => rw [E4] at h; exact h.elim
    | some cj =>
      obtain ⟨kd, v⟩ := cj
      rw [E4] at h
      simp only at h
      split at h
      · rename_i hk
        cases E5 : g v ms with
        | none => rw [E5] at h; exact h.elim
        | some vw =>
          obtain ⟨v', w⟩ := vw
          rw [E5] at h
          obtain ⟨p', hp1, hp2, hp3, hp4⟩ := S1.mine E4 hk
          rw [hx] at hp1
          cases hp1
          refine hr _ v ms v' w p vs H1 Q S1.trk (.inr ⟨j, hp2⟩) E5 hp3 rs fun z H' out own' rw' => ?_
          obtain ⟨S3, k3⟩ := S1.mut E4 hk hp2 out own'
          exact h z A1 H' ⟨S3, rw'⟩ le (k.trans k3 fun b _ _ m => le.mz b m)
      · exact h.elim
theorem re_mut (pa : PlainAttrs T) (slot : Slot T name id) (hty : typeOf (.builtin id) = pure (.type "method_descriptor")) (hm : MutR X id g) (ho : PE X a (tVar j)) (ha : RA X (e1 :: es) fa)
    (hbase : attributeBase a name X.env (eval a X.env) = eval a X.env := by rfl)
    (hfew : ((backTo cpos (starEach (e1 :: es) X.env)).all (fun x => !x.1) && (backToKw cpos (keywordEach [] X.env)).all (fun x => x.1.isSome)
      && decide ((e1 :: es).length + ([] : List Keyword).length + (if ([] : List Keyword).isEmpty then 0 else 1) < 30)) = true := by rfl)
    (hline : (apos.endLine == cpos.line) = true := by rfl) (hs : starEach (e1 :: es) X.env = (false, eval e1 X.env) :: starEach es X.env := by rfl) (hplain : (backTo cpos (starEach es X.env)).any (·.1) = false := by rfl) :
    RE X (.Call (.Attribute a name apos) (e1 :: es) [] cpos) (eMut T g j fa) := fun W tk => by
  obtain ⟨r, hm, hr⟩ := hm
  refine PE_imp (pe_bm pa slot hty hm ho (ha W tk) hbase hfew hline hs hplain) fun σ H Q ⟨Z, A, γ, S, h⟩ => ?_
  unfold eMut at h
  cases E0 : γ[j]? with
  | none => rw [E0] at h; exact h.elim
  | some oc =>
    cases oc with
    | none => rw [E0] at h; exact h.elim
    | some c0 =>
      obtain ⟨k0, v0⟩ := c0
      rw [E0] at h
      simp only at h
      split at h
      · rename_i ht
        obtain ⟨x, h1, h2⟩ := S.cell j _ E0
        refine ⟨x, h1, isTy_ok (G := GX X) ht h2.repB, Z, A, γ, S, ?_⟩
        cases E1 : fa γ with
        | no => rw [E1] at h; exact h
        | ex e γ1 => rw [E1] at h; exact h
        | ok ms γ1 =>
          rw [E1] at h
          intro vs A1 H1 S1 le k rs
          have hx : ∃ p, x = .ref p := by
            rcases h2.repB with r | ⟨p, rfl, _⟩
            · cases v0 <;> first | cases ht | (simp only [Rep] at r; obtain ⟨p, _, rfl, _⟩ := r; exact ⟨p, rfl⟩)
            · exact ⟨p, rfl⟩
          obtain ⟨p, rfl⟩ := hx
          exact mut_end h1 hr S1 le k rs h
      · exact h.elim
theorem re_mut0 (pa : PlainAttrs T) (slot : Slot T name id) (hty : typeOf (.builtin id) = pure (.type "method_descriptor")) (hm : MutR X id g) (ho : PE X a (tVar j))
    (hbase : attributeBase a name X.env (eval a X.env) = eval a X.env := by rfl) (hline : (apos.endLine == cpos.line) = true := by rfl) :
    RE X (.Call (.Attribute a name apos) [] [] cpos) (eMut T g j aNil) := fun W tk => by
  obtain ⟨r, hm, hr⟩ := hm
  refine PE_imp (pe_bm0 pa slot hty hm ho hbase hline) fun σ H Q ⟨Z, A, γ, S, h⟩ => ?_
  unfold eMut at h
  cases E0 : γ[j]? with
  | none => rw [E0] at h; exact h.elim
  | some oc =>
    cases oc with
    | none => rw [E0] at h; exact h.elim
    | some c0 =>
      obtain ⟨k0, v0⟩ := c0
      rw [E0] at h
      simp only at h
      split at h
      · rename_i ht
        obtain ⟨x, h1, h2⟩ := S.cell j _ E0
        have hx : ∃ p, x = .ref p := by
          rcases h2.repB with r | ⟨p, rfl, _⟩
          · cases v0 <;> first | cases ht | (simp only [Rep] at r; obtain ⟨p, _, rfl, _⟩ := r; exact ⟨p, rfl⟩)
          · exact ⟨p, rfl⟩
        obtain ⟨p, rfl⟩ := hx
        refine ⟨_, h1, isTy_ok (G := GX X) ht h2.repB, ?_⟩
        have E1 : aNil γ = .ok [] γ := rfl
        rw [E1] at h
        exact mut_end h1 hr S .refl .refl Reps.nil h
      · exact h.elim
/-! the methods -/
def appM : MutF
  | .lst xs, [m] => if xs.length < sizeLine then some (.lst (xs ++ [m]), .non) else none
  | _, _ => none
theorem out_upd {H : Hp} {a : Addr} {o : HO} : ∀ b o', b ≠ a → H b = some o' → upd H a o b = some o' := fun b o' n h => by rw [upd_ne n]; exact h
theorem kp_upd {H : Hp} {a : Addr} {o : HO} {M : Addr → Prop} (ma : M a) : Keep M H (upd H a o) := Keep.upd ma
theorem mut_append : MutR X "list.append" appM := by
  refine ⟨_, mt_append, fun M v ms v' w a vs H Q tr ma e oa rs q => ?_⟩
  unfold appM at e
  split at e
  · rename_i xs m
    split at e
    · rename_i hz
      cases e
      simp only [Own] at oa
      obtain ⟨ys, h1, h2⟩ := oa
      simp only [Reps] at rs
      obtain ⟨y, r, rfl, r1, rfl⟩ := rs
      refine ⟨a, ys, y, rfl, rfl, h1, by rw [h2.len]; exact hz, q .non _ out_upd ?_ (by simp only [Rep])⟩
      simp only [Own]
      exact ⟨_, upd_same, (Reps.app h2 (Reps.one r1)).keep (kp_upd ma) fun _ _ _ m => m⟩
    · cases e
  · cases e
def popM : MutF
  | .lst xs, [] => (xs[xs.length - 1]?).map fun m => (.lst xs.dropLast, m)
  | _, _ => none
theorem mut_pop : MutR X "list.pop" popM := by
  refine ⟨_, mt_pop, fun M v ms v' w a vs H Q tr ma e oa rs q => ?_⟩
  unfold popM at e
  split at e
  · rename_i xs
    simp only [Option.map_eq_some_iff] at e
    obtain ⟨m, hm, e⟩ := e
    cases e
    simp only [Own] at oa
    obtain ⟨ys, h1, h2⟩ := oa
    simp only [Reps] at rs
    subst rs
    obtain ⟨y, hy, ry⟩ := h2.get hm
    refine ⟨a, ys, y, rfl, rfl, h1, by rw [h2.len]; exact hy, q y _ out_upd ?_ (ry.keep (kp_upd ma) fun _ _ _ m => m)⟩
    simp only [Own]
    refine ⟨_, upd_same, ?_⟩
    rw [List.dropLast_eq_take, List.dropLast_eq_take, h2.len]
    exact (Reps.take _ h2).keep (kp_upd ma) fun _ _ _ m => m
  · cases e
end
end
end Mi

set_option Elab.async false
set_option linter.all false
set_option maxRecDepth 100000
set_option maxHeartbeats 4000000
/-! defs: what they promise, where nothing guards (no repr is under way); calls -/
namespace Mi
open PySem PySem.Spec PyProof.Rows L2 My

/-- a def that keeps a promise, where nothing guards -/
structure FnG (P : Program) (w : World) (K : PySem.W.Frag) (mg : Str → Option Value) (base : Heap) (k : Nat) (f : Addr) (fd : FuncData) (ps : List Str) (sp : Sp) : Prop where
  len : ∀ vs H Q E, sp vs H Q E → vs.length = ps.length
  run : ∀ (A : Around) (outer : List Env) (s : Shared) (H : Hp) (args : Args) (us : List Value) (vs : List V) (Q : VK) (E : XK),
    Room k A → A.guards = some [] → Env0 P w K mg base A outer s H → BindsTo s fd args (ps.zip us) → Vals vs us → sp vs H Q E → codeAny (model P w) A (.call (.ref f) args) (CR (CX P w) outer P w H s Q E) s
theorem FnG.mono {P : Program} {w : World} {K : PySem.W.Frag} {mg : Str → Option Value} {base : Heap} {j k : Nat} {f : Addr} {fd : FuncData} {ps : List Str} {sp : Sp} (F : FnG P w K mg base j f fd ps sp) (h : j ≤ k) : FnG P w K mg base k f fd ps sp :=
  ⟨F.len, fun A outer s H args us vs Q E hr => F.run A outer s H args us vs Q E (hr.mono h)⟩
/-- a def by its body -/
theorem fnG_of {P : Program} {w : World} {K : PySem.W.Frag} {mg : Str → Option Value} {base : Heap} {k : Nat} {f : Addr} {name qual : Str} {params : Arguments} {body : List Stmt} {scope : Scope} {dV kV doc pm cdv ct oc : Value} {an od : Option Addr} {osl : Array (Option Value)}
    {N ps : List Str} {sp : Sp} (lk : K.lookup f = some ⟨oc, od, .func (PySem.W.fnOf name qual params body scope dV kV doc pm an cdv ct), osl⟩) (hcd : PySem.W.codeIn K cdv qual = true) (S : FnScope N ps scope)
    (hlen : ∀ vs H Q E, sp vs H Q E → vs.length = ps.length)
    (hbody : ∀ (A : Around) (outer : List Env) (s : Shared) (H : Hp) (vs : List V) (Q : VK) (E : XK), Room k (A.deeper (envOfC qual scope s.heap.objs.size f cdv)) → A.guards = some [] → sp vs H Q E →
      ∃ t, PSs (cxOf (CX P w) P w K mg base N qual scope f cdv A outer s H E) body t ∧ t { nx := fun _ H' => Q .non H', rt := Q } (start N vs) H) :
    FnG P w K mg base (k + 1) f (PySem.W.fnOf name qual params body scope dV kV doc pm an cdv ct) ps sp := by
  refine ⟨hlen, fun A outer s H args us vs Q E hr hgd e0 hb r hsp => ?_⟩
  have hl := hlen vs H Q E hsp
  have kIn : K.In s.heap := e0.mod.kin.keeps fun b o e => (e0.bs b o e).1
  have noLim : s.heap.NoLimit := e0.mod.nolimit.keeps fun b o e => (e0.bs b o e).1
  have kinds : ∀ y ∈ ps.zip us, scope.names.lookup y.1 = some .local ∨ (scope.names.lookup y.1 = some .cell ∧ ((cellsFrom (s.heap.objs.size + 1) scope.names []).lookup y.1).isSome = true) := by
    rintro ⟨n, v⟩ hy
    exact (S.par n (List.of_mem_zip hy).1).imp_right fun q => ⟨q, PySem.W.cellsFrom_some _ _ _ (.inl q)⟩
  refine codeAny_call_function hr.depth (kIn _ _ lk) rfl S.co S.gen rfl (PySem.W.codeRec_of kIn hcd) (hb _ _ _ _ ?_)
  refine wpAny_newFunctionEnv_cells S.kind kinds fun env he s1 x => ?_
  subst he
  refine ⟨noLim.keeps x.toInCall.keep, codeAny_func ?_⟩
  obtain ⟨t, ht, hq⟩ := hbody A outer s H vs Q E (hr.deeper _) hgd hsp
  have I := inv_start (CX := CX P w) (E := E) S hr.hd e0 hl r x
  refine wpAny_mono (ht.run [] s1 (start N vs) H _ I hq) (fun fl s' hs => ?_) fun e s' hs => hs
  cases fl with
  | ret u =>
    obtain ⟨v, σ', H', J, rv, q⟩ := hs
    exact ⟨v, H', J.os, J.bare, J.base, J.hok, rv, q⟩
  | next =>
    obtain ⟨σ', H', J, q⟩ := hs
    exact ⟨.non, H', J.os, J.bare, J.base, J.hok, rfl, q⟩
  | brk => exact (hs.elim fun _ h => h.elim fun _ h => h.2).elim
  | cont => exact (hs.elim fun _ h => h.elim fun _ h => h.2).elim
section
variable {X : Cx} {k : Nat} {f : Addr} {fd : FuncData} {ps : List Str} {sp : Sp} {x : Str} {p pos : Pos} {e : Expr} {es : List Expr} {t : TA} {dvs : List V} {ds : List Value}
/-- the callee runs; E may lean on the caller's slots -/
theorem run_fnG {E : L2.St → XK} {pins : List (Addr × Obj)} {σ : L2.St} {H : Hp} {s : Shared} {Q : VK} {us : List Value} {vs : List V} (F : FnG X.prog X.w X.K X.mg X.base k f fd ps sp) (hr : Room k X.A) (hgd : X.A.guards = some []) (hb : Binds X.K fd ps ds) (hd : Vals dvs ds)
    (hx : ∀ (pins : List (Addr × Obj)) (H : Hp) (s : Shared) (e : Value) (s' : Shared), L2.Inv X pins σ H s → CX X.prog X.w X.stack H s (E σ) e s' → X.xe e s') (I : L2.Inv X pins σ H s) (r : Vals vs us) (h : sp (vs ++ dvs) H Q (E σ)) :
    wpAny (model X.prog X.w) X.A (call (.ref f) us) (EP X pins σ Q) X.xe s := by
  have r2 : Vals (vs ++ dvs) (us ++ ds) := r.append hd
  have hl : (us ++ ds).length = ps.length := by rw [← r2.length]; exact F.len _ _ _ _ h
  have run := F.run X.A X.stack s H ⟨us, []⟩ (us ++ ds) (vs ++ dvs) Q (E σ) hr hgd I.env0 (hb s us I.kIn hl) r2 h
  refine wpAny_call (codeAny_mono run fun r s' hq => ?_)
  cases r with
  | error e => exact hx pins H s e s' I hq
  | ok fl => cases fl <;> first | exact I.after hq | exact hq.elim
def tCallG (sp : Sp) (dvs : List V) (E : L2.St → XK) (t : TA) : TE := fun σ H Q => t σ H fun vs H1 => sp (vs ++ dvs) H1 Q (E σ)
theorem pe_callG {E : L2.St → XK} (F : FnG X.prog X.w X.K X.mg X.base k f fd ps sp) (hr : Room k X.A) (hgd : X.A.guards = some []) (hg : Gl X x) (hm : X.mg x = some (.ref f)) (hk : PySem.W.keepIn X.K (.ref f) = true) (hb : Binds X.K fd ps ds) (hd : Vals dvs ds)
    (hx : ∀ σ (pins : List (Addr × Obj)) (H : Hp) (s : Shared) (e : Value) (s' : Shared), L2.Inv X pins σ H s → CX X.prog X.w X.stack H s (E σ) e s' → X.xe e s') (ha : PA X (e :: es) t) (hdb : (x == ("__debug__" : Str)) = false)
    (he : starEach (e :: es) X.env = (false, eval e X.env) :: starEach es X.env) (hpl : (backTo pos (starEach es X.env)).any (·.1) = false) : PE X (.Call (.Name x p) (e :: es) [] pos) (tCallG sp dvs E t) := by
  refine ⟨fun pins s σ H Q I h => wpAny_Call_Name_kw (ld_glob I hg hm ?_ hdb)⟩
  exact PySem.W.callWith_K (h₀ := X.base) I.ok.mod.kin hk (thn (ha.run pos pins s σ H _ I h) fun us s1 ⟨vs, H1, I1, r, q⟩ => ⟨I1.kIn, run_fnG F hr hgd hb hd (hx σ) I1 r q⟩) he hpl
theorem pe_callG0 {E : L2.St → XK} (F : FnG X.prog X.w X.K X.mg X.base k f fd ps sp) (hr : Room k X.A) (hgd : X.A.guards = some []) (hg : Gl X x) (hm : X.mg x = some (.ref f)) (hk : PySem.W.keepIn X.K (.ref f) = true) (hb : Binds X.K fd ps ds) (hd : Vals dvs ds)
    (hx : ∀ σ (pins : List (Addr × Obj)) (H : Hp) (s : Shared) (e : Value) (s' : Shared), L2.Inv X pins σ H s → CX X.prog X.w X.stack H s (E σ) e s' → X.xe e s') (hdb : (x == ("__debug__" : Str)) = false) : PE X (.Call (.Name x p) [] [] pos) (tCallG sp dvs E tNil) :=
  ⟨fun pins s σ H Q I h => wpAny_Call_Name_kw (ld_glob I hg hm (PySem.W.callWith_K0 I.kIn hk (run_fnG (us := []) F hr hgd hb hd (hx σ) I .nil h)) hdb)⟩
end

/-! ### what a def of the small machine promises -/
/-- out: what the list that may be changed (io) holds behind the call -/
inductive RF where
  | rt (c : Cell) (out : Option MV) | ex (e : Ex) (out : Option MV) | no
/-- the arguments lie in H; the one at io may be changed -/
structure ArgsM (G : GG) (M : Addr → Prop) (H : Hp) (io : Option Nat) (ms : List MV) (vs : List V) : Prop where
  len : vs.length = ms.length
  at_ : ∀ i m x, ms[i]? = some m → vs[i]? = some x → io ≠ some i → Rep G M H m x
  io_ : ∀ i, io = some i → ∃ m a, ms[i]? = some m ∧ vs[i]? = some (.ref a) ∧ M a ∧ Own G M H m a
/-- behind the call -/
structure After (G : GG) (M : Addr → Prop) (io : Option Nat) (vs : List V) (out : Option MV) (H H' : Hp) : Prop where
  keep : ∀ b o, (∀ i, io = some i → vs[i]? ≠ some (.ref b)) → H b = some o → H' b = some o
  out : ∀ i, io = some i → ∃ a m, vs[i]? = some (.ref a) ∧ out = some m ∧ Own G M H' m a
  on : ∀ b o, H b = some o → ∃ o', H' b = some o'
/-- the end of a call: a value, or a thing made since, of which no one else knows -/
def Done (G : GG) (M : Addr → Prop) (io : Option Nat) (vs : List V) (H H' : Hp) (c : Cell) (x : V) (out : Option MV) : Prop := match c.k with
  | .val => After G M io vs out H H' ∧ Rep G M H' c.v x
  | .own => ∃ a, x = .ref a ∧ H a = none ∧ After G (fun b => M b ∨ b = a) io vs out H H' ∧ Own G (fun b => M b ∨ b = a) H' c.v a
  | _ => False
def spM (P : Program) (w : World) (K : PySem.W.Frag) (n : Nat) (io : Option Nat) (F : List MV → RF) : Sp := fun vs H Q E => vs.length = n ∧ ∃ (M : Addr → Prop) (ms : List MV),
  Trk M H ∧ ArgsM ⟨P, w, K⟩ M H io ms vs ∧ match F ms with
    | .rt c out => ∀ x H', Done ⟨P, w, K⟩ M io vs H H' c x out → Q x H'
    | .ex e out => ∀ cls d H', After ⟨P, w, K⟩ M io vs out H H' → ExRep ⟨P, w, K⟩ M H' e cls d → E cls d H'
    | .no => False
/-- the slots at the entry -/
def initG (io : Option Nat) (n : Nat) (ms : List MV) : Sg := (ms.mapIdx fun i m => some ⟨if io = some i then .io else .val, m⟩) ++ List.replicate (n - ms.length) none
def outG (io : Option Nat) (γ : Sg) : Option (Option MV) := match io with
  | none => some none
  | some i => match γ[i]? with
    | some (some ⟨.io, m⟩) => some (some m)
    | _ => none
def finM (io : Option Nat) : RO → RF
  | .nx γ => match outG io γ with
    | some o => .rt ⟨.val, .non⟩ o
    | none => .no
  | .rt c γ => match outG io γ with
    | some o => .rt c o
    | none => .no
  | .ex e γ => match outG io γ with
    | some o => .ex e o
    | none => .no
  | _ => .no
/-- a def: its slots, its body -/
def runM (io : Option Nat) (n : Nat) (body : FS) (ms : List MV) : RF := finM io (body (initG io n ms))
section
variable {G : GG} {M : Addr → Prop} {H H' : Hp} {io : Option Nat} {ms : List MV} {vs : List V} {n : Nat} {N ps : List Str}
theorem initG_at {i : Nat} {m : MV} (h : ms[i]? = some m) : (initG io n ms)[i]? = some (some ⟨if io = some i then .io else .val, m⟩) := by
  have hl : i < ms.length := (List.getElem?_eq_some_iff.mp h).1
  unfold initG
  rw [List.getElem?_append_left (by simpa using hl), List.getElem?_mapIdx, h]
  rfl
theorem initG_out {i : Nat} (h : ms.length ≤ i) (c : Cell) : (initG io n ms)[i]? ≠ some (some c) := by
  unfold initG
  rw [List.getElem?_append_right (by simpa using h), List.getElem?_replicate]
  split <;> simp
/-- the entry of a def -/
def entE (H : Hp) (M : Addr → Prop) (io : Option Nat) (vs : List V) : Ent := ⟨H, M, fun b o => H b = some o ∧ ∀ i, io = some i → vs[i]? ≠ some (.ref b), fun i => if io = some i then (match vs[i]? with
  | some (.ref a) => some a
  | _ => none) else none, fun _ => none, fun _ _ h => by cases h⟩
theorem Sim.entry (tr : Trk M H) (ar : ArgsM G M H io ms vs) (hn : vs.length ≤ N.length) : Sim G (entE H M io vs) (entE H M io vs).io (initG io N.length ms) (start N vs) H := by
  have ioA : ∀ i a, (entE H M io vs).io i = some a → io = some i ∧ vs[i]? = some (.ref a) := fun i a h => by
    have h : (if io = some i then (match vs[i]? with | some (.ref a) => some a | _ => none) else none) = some a := h
    split at h
    · rename_i hi
      split at h
      · rename_i e; cases h; exact ⟨hi, e⟩
      · cases h
    · cases h
  have Aio : ∀ i a, io = some i → vs[i]? = some (.ref a) → (entE H M io vs).io i = some a := fun i a h e => by
    show (if io = some i then (match vs[i]? with | some (.ref a) => some a | _ => none) else none) = some a
    rw [if_pos h, e]
  have less : ∀ b, Mz (entE H M io vs) (entE H M io vs).io b → M b := fun b m => m.elim id fun ⟨i, e⟩ => by
    obtain ⟨h1, h2⟩ := ioA i b e
    obtain ⟨m, a, _, e3, ma, _⟩ := ar.io_ i h1
    rw [h2] at e3
    cases e3
    exact ma
  have stv : ∀ i x, vs[i]? = some x → (start N vs)[i]? = some (some x) := fun i x e => by
    have hl : i < vs.length := (List.getElem?_eq_some_iff.mp e).1
    unfold L2.start
    rw [List.getElem?_append_left (by simpa using hl), List.getElem?_map, e]
    rfl
  refine ⟨?_, fun i c hi => ?_, fun i a hi => ?_, fun i j a hi hj => ?_, fun a m => tr a m, fun b o h => h.1, fun b o h => ⟨o, h⟩⟩
  · unfold initG L2.start
    simp [ar.len]
  · rcases Nat.lt_or_ge i ms.length with hl | hl
    · obtain ⟨m, hm⟩ : ∃ m, ms[i]? = some m := ⟨_, List.getElem?_eq_getElem hl⟩
      obtain ⟨x, hx⟩ : ∃ x, vs[i]? = some x := ⟨_, List.getElem?_eq_getElem (by rw [ar.len]; exact hl)⟩
      rw [initG_at hm] at hi
      cases hi
      refine ⟨x, stv i x hx, ?_⟩
      by_cases hio : io = some i
      · obtain ⟨m', a, e1, e2, ma, ow⟩ := ar.io_ i hio
        rw [hm] at e1
        cases e1
        rw [hx] at e2
        cases e2
        rw [if_pos hio]
        exact ⟨a, Aio i a hio hx, rfl, ow.keep .refl (fun b _ _ m => less b m) fun _ z => z⟩
      · rw [if_neg hio]
        refine ⟨?_, (ar.at_ i m x hm hx hio).less less⟩
        show (if io = some i then _ else none) = none
        rw [if_neg hio]
    · exact absurd hi (initG_out hl c)
  · obtain ⟨h1, h2⟩ := ioA i a hi
    obtain ⟨m, a', e1, e2, ma, ow⟩ := ar.io_ i h1
    rw [h2] at e2
    cases e2
    refine ⟨_, initG_at e1, fun o h => h.2 i h1 h2, ?_⟩
    rw [if_pos h1]
    exact ⟨hi, ma⟩
  · obtain ⟨h1, _⟩ := ioA i a hi
    obtain ⟨h2, _⟩ := ioA j a hj
    rw [h1] at h2
    exact Option.some.inj h2
theorem Sim.exit {A : AM} {γ : Sg} {σ : L2.St} {out : Option MV} (S : Sim G (entE H M io vs) A γ σ H') (e : outG io γ = some out) : After G M io vs out H H' := by
  refine ⟨fun b o n h => S.fr b o ⟨h, n⟩, fun i hi => ?_, S.new⟩
  subst hi
  unfold outG at e
  simp only at e
  split at e
  · rename_i m hm
    cases e
    obtain ⟨x, h1, a, h2, rfl, ow⟩ := S.cell i _ hm
    obtain ⟨c, h3, _, h4⟩ := S.adr i a h2
    rw [hm] at h3
    cases h3
    have h5 : (if (some i : Option Nat) = some i then (match vs[i]? with | some (.ref a) => some a | _ => none) else none) = some a := h4.1
    rw [if_pos rfl] at h5
    split at h5
    · rename_i a' e'
      cases h5
      exact ⟨a, m, e', rfl, ow.keep .refl (fun b _ _ m => .inl m) fun _ z => z⟩
    · cases h5
  · cases e
theorem Sim.exitW {A : AM} {γ : Sg} {σ : L2.St} {out : Option MV} {p : Addr} {o : HO} (S : Sim G ((entE H M io vs).wait p o) A γ σ H') (e : outG io γ = some out) : After G (fun b => M b ∨ b = p) io vs out H H' := by
  have af := S.drop.exit e
  refine ⟨af.keep, fun i hi => ?_, af.on⟩
  obtain ⟨a, m, e1, e2, _⟩ := af.out i hi
  refine ⟨a, m, e1, e2, ?_⟩
  subst hi
  unfold outG at e
  simp only at e
  split at e
  · rename_i m' hm
    cases e
    cases e2
    obtain ⟨x, h1, a', h2, rfl, ow⟩ := S.cell i _ hm
    obtain ⟨c, h3, _, h4⟩ := S.adr i a' h2
    rw [hm] at h3
    cases h3
    have h5 : (if (some i : Option Nat) = some i then (match vs[i]? with | some (.ref a) => some a | _ => none) else none) = some a' := h4.1
    rw [if_pos rfl, e1] at h5
    cases h5
    exact ow.keep .refl (fun b _ _ m => .inl m) fun _ z => z
  · cases e
theorem HeldS.ret {A : AM} {γ : Sg} {σ : L2.St} {c : Cell} {x : V} {out : Option MV} (h : HeldS G (entE H M io vs) A γ σ H H' c x) (e : outG io γ = some out) : Done G M io vs H H' c x out := by
  obtain ⟨k, v⟩ := c
  cases k with
  | val => exact ⟨h.1.exit e, h.2.less fun b m => .inl m⟩
  | own =>
    obtain ⟨a, o, rfl, n, nm, ow, S⟩ := h
    exact ⟨a, rfl, n, S.exitW e, ow.keep .refl (fun b _ _ m => (mz_wait b).mpr (m.imp_left .inl)) fun _ z => z⟩
  | io => exact h.elim
  | lown => exact h.elim
  | lio => exact h.elim
theorem Done.keep {c : Cell} {x : V} {out : Option MV} (h : Done G M io vs H H' c x out) : ∀ b o, (∀ i, io = some i → vs[i]? ≠ some (.ref b)) → H b = some o → H' b = some o := by
  obtain ⟨k, v⟩ := c
  cases k with
  | val => exact h.1.keep
  | own => obtain ⟨a, _, _, af, _⟩ := h; exact af.keep
  | io => exact h.elim
  | lown => exact h.elim
  | lio => exact h.elim
theorem Done.res {c : Cell} {x : V} {out : Option MV} (h : Done G M io vs H H' c x out) : Res G M H H' c x := by
  obtain ⟨k, v⟩ := c
  cases k with
  | val => exact h.2
  | own => obtain ⟨a, e, n, af, r⟩ := h; exact ⟨a, e, n, r⟩
  | io => exact h.elim
  | lown => exact h.elim
  | lio => exact h.elim
theorem ExRep.less {M' : Addr → Prop} {e : Ex} {cls : Value} {d : Option Addr} (m : ∀ b, M' b → M b) (h : ExRep G M H e cls d) : ExRep G M' H e cls d := by
  refine ⟨h.1, ?_⟩
  have q := h.2
  revert q
  cases e.fs with
  | nil => exact fun q => q
  | cons p ps =>
    rintro ⟨a, vs, q1, q2, q3, q4⟩
    exact ⟨a, vs, q1, q2, fun z => q3 (m a z), q4.keep .refl fun b _ _ z => m b z⟩
end
/-- a def of the module, by its name, as the small machine has it -/
def FnM (P : Program) (w : World) (K : PySem.W.Frag) (mg : Str → Option Value) (base : Heap) (k : Nat) (x : Str) (ps : List Str) (io : Option Nat) (F : List MV → RF) : Prop :=
  ∃ fd, FnG P w K mg base k (He.ga K x) fd ps (spM P w K ps.length io F) ∧ Binds K fd ps [] ∧ PySem.W.keepIn K (.ref (He.ga K x)) = true ∧ mg x = some (.ref (He.ga K x))
section
variable {P : Program} {w : World} {K : PySem.W.Frag} {mg : Str → Option Value} {base : Heap} {k : Nat} {x : Str} {st : Stmt} {N ps : List Str} {io : Option Nat} {body : FS}
theorem entry_ok {f : Addr} {qual : Str} {cdv : Value} {A : Around} {outer : List Env} {s : Shared} {H : Hp} {vs : List V} {Q : VK} {E : XK} {sts : List Stmt} {sc : Scope} (S : FnScope N ps sc)
    (hb : QSs (cxOf (CX P w) P w K mg base N qual sc f cdv A outer s H E) sts body) (h : spM P w K ps.length io (runM io N.length body) vs H Q E) :
    ∃ t, PSs (cxOf (CX P w) P w K mg base N qual sc f cdv A outer s H E) sts t ∧ t { nx := fun _ H' => Q .non H', rt := Q } (start N vs) H := by
  have hpl : ps.length ≤ N.length := by have := congrArg List.length S.pre; rw [List.length_take] at this; omega
  obtain ⟨hl, M, ms, tr, ar, h⟩ := h
  refine ⟨_, hb (passes_of rfl) (fun cls d _ H => E cls d H) (takes_of rfl rfl rfl rfl), entE H M io vs, _, _, Sim.entry tr ar (by omega), ?_⟩
  unfold runM at h
  cases e : body (initG io N.length ms) with
  | nx γ' =>
    rw [e] at h
    simp only [finM] at h
    cases e2 : outG io γ' with
    | none => rw [e2] at h; exact h.elim
    | some out =>
      rw [e2] at h
      exact fun σ' A' H' S' _ => h .non H' ⟨S'.exit e2, by simp only [Rep]⟩
  | rt c γ' =>
    rw [e] at h
    simp only [finM] at h
    cases e2 : outG io γ' with
    | none => rw [e2] at h; exact h.elim
    | some out =>
      rw [e2] at h
      exact fun x σ' A' H' hs => h x H' (hs.ret e2)
  | ex e' γ' =>
    rw [e] at h
    simp only [finM] at h
    cases e2 : outG io γ' with
    | none => rw [e2] at h; exact h.elim
    | some out =>
      rw [e2] at h
      exact fun σ' A' H' cls d S' _ xr => h cls d H' (S'.exit e2) (xr.less fun b m => .inl m)
  | bk γ' => rw [e] at h; exact h.elim
  | ct γ' => rw [e] at h; exact h.elim
  | no => rw [e] at h; exact h.elim
theorem DefIn.fnM (D : DefIn K mg x st) (S : FnScope N ps (defScope st))
    (hb : ∀ (kV doc pm : Value) (an : Option Addr) (cdv ct : Value) (us : List Value), us.length = ps.length → bindArgs (PySem.W.fnOf x x (defArgs st) (defBody st) (defScope st) .none kV doc pm an cdv ct) ⟨us, []⟩ = pure (ps.zip us))
    (hbody : ∀ (cdv : Value) (A : Around) (outer : List Env) (s : Shared) (H : Hp) (E : XK), Room k (cxOf (CX P w) P w K mg base N x (defScope st) (He.ga K x) cdv A outer s H E).A → (cxOf (CX P w) P w K mg base N x (defScope st) (He.ga K x) cdv A outer s H E).A.guards = some [] →
      QSs (cxOf (CX P w) P w K mg base N x (defScope st) (He.ga K x) cdv A outer s H E) (defBody st) body) : FnM P w K mg base (k + 1) x ps io (runM io N.length body) := by
  obtain ⟨fd, F⟩ := D.fd
  have Fb := F.bindsN hb
  obtain ⟨oc, od, dV, kV, doc, pm, an, cdv, ct, osl, rfl, lk, hcd, _, _⟩ := F.ex
  exact ⟨_, fnG_of lk hcd S (fun vs H Q E h => h.1) fun A outer s H vs Q E hr hgd h => entry_ok S (hbody cdv A outer s H E hr hgd) h, Fb, F.kp, D.gl⟩
end
/-! ### calls -/
def eCall (F : List MV → RF) (fa : FA) : FE := fun γ => match fa γ with
  | .ok ms γ1 => (match F ms with
    | .rt c _ => .ok c γ1
    | .ex e _ => .ex e γ1
    | .no => .no)
  | .ex e γ1 => .ex e γ1
  | .no => .no
section
variable {X : Cx} {k j n : Nat} {ps : List Str} {x : Str} {p pos : Pos} {e : Expr} {es : List Expr} {F : List MV → RF} {fa : FA} {W : WX}
theorem xpass (tk : Takes X W) (σ : L2.St) (pins : List (Addr × Obj)) (H : Hp) (s : Shared) (e : Value) (s' : Shared) (I : L2.Inv X pins σ H s) (c : CX X.prog X.w X.stack H s (fun cls d H => W cls d σ H) e s') : X.xe e s' :=
  tk e s' (XE.of_call I (fun _ _ _ h => h) c)
/-- behind the arguments: the call -/
theorem call_end {Z : Ent} {A A1 : AM} {γ1 : Sg} {σ : L2.St} {H H1 : Hp} {Q : VK} {ms : List MV} {xs : List V} (S1 : Sim (GX X) Z A1 γ1 σ H1) (le : Le A1 A) (k : Keep (Mz Z A) H H1) (rs : Reps (GX X) (Mz Z A1) H1 ms xs) (hn : ms.length = n)
    (h : EndE (GX X) Z W A σ H Q (match F ms with
      | .rt c _ => .ok c γ1
      | .ex e _ => .ex e γ1
      | .no => .no)) : spM X.prog X.w X.K n none F (xs ++ []) H1 Q fun cls d H => W cls d σ H := by
  rw [List.append_nil]
  refine ⟨by rw [rs.len]; exact hn, Mz Z A1, ms, S1.trk, ⟨rs.len, fun i m x hm hx _ => ?_, fun i hi => by cases hi⟩, ?_⟩
  · obtain ⟨y, hy, r⟩ := rs.get hm
    rw [hx] at hy
    cases hy
    exact r
  · cases E : F ms with
    | no => rw [E] at h; exact h
    | rt c out =>
      rw [E] at h
      intro x H' dn
      have e : Same H1 H' := fun b o hb => dn.keep b o (fun i hi => by cases hi) hb
      exact h x A1 H' ((Res.held S1 e dn.res).old fun a n => k.isnone n) le (k.trans (.of_same e) fun b _ _ m => le.mz b m)
    | ex e out =>
      rw [E] at h
      intro cls d H' af r
      have e : Same H1 H' := fun b o hb => af.keep b o (fun i hi => by cases hi) hb
      exact h A1 H' cls d (S1.same e) le (k.trans (.of_same e) fun b _ _ m => le.mz b m) r
theorem re_call (D : FnM X.prog X.w X.K X.mg X.base k x ps none F) (hr : Room j X.A) (hgd : X.A.guards = some []) (hg : Gl X x) (ha : RA X (e :: es) fa) (hl : Lim ps.length fa) (hk : k ≤ j := by decide) (hdb : (x == ("__debug__" : Str)) = false := by decide)
    (he : starEach (e :: es) X.env = (false, eval e X.env) :: starEach es X.env := by rfl) (hpl : (backTo pos (starEach es X.env)).any (·.1) = false := by rfl) : RE X (.Call (.Name x p) (e :: es) [] pos) (eCall F fa) := fun W tk => by
  obtain ⟨fd, G, b, kp, m⟩ := D
  refine PE_imp (pe_callG (E := fun σ cls d H => W cls d σ H) G (hr.mono hk) hgd hg m kp b .nil (xpass tk) (ha W tk) hdb he hpl) fun σ H Q ⟨Z, A, γ, S, h⟩ => ⟨Z, A, γ, S, ?_⟩
  unfold eCall at h
  cases E : fa γ with
  | no => rw [E] at h; exact h
  | ex e γ1 => rw [E] at h; exact h
  | ok ms γ1 =>
    rw [E] at h
    exact fun xs A1 H1 S1 le k rs => call_end S1 le k rs (hl _ _ _ E) h
theorem re_call0 (D : FnM X.prog X.w X.K X.mg X.base k x ps none F) (hr : Room j X.A) (hgd : X.A.guards = some []) (hg : Gl X x) (hl : ps.length = 0) (hk : k ≤ j := by decide) (hdb : (x == ("__debug__" : Str)) = false := by decide) : RE X (.Call (.Name x p) [] [] pos) (eCall F aNil) := fun W tk => by
  obtain ⟨fd, G, b, kp, m⟩ := D
  refine PE_imp (pe_callG0 (E := fun σ cls d H => W cls d σ H) G (hr.mono hk) hgd hg m kp b .nil (xpass tk) hdb) fun σ H Q ⟨Z, A, γ, S, h⟩ => ?_
  have E : aNil γ = .ok [] γ := rfl
  unfold eCall at h
  rw [E] at h
  exact call_end (xs := []) S .refl .refl Reps.nil hl.symm h
end
/-! calls with a list that may be changed: slot j, at the hole -/
abbrev FH := Sg → R (List (Option MV))
def hNil : FH := fun γ => .ok [] γ
def hCons (f : FE) (r : FH) : FH := fun γ => match f γ with
  | .ok c γ1 => (match r γ1 with
    | .ok ms γ2 => .ok (some c.v :: ms) γ2
    | .ex e γ2 => .ex e γ2
    | .no => .no)
  | .ex e γ1 => .ex e γ1
  | .no => .no
def hHole (j : Nat) (r : FH) : FH := fun γ => if hasC γ j then (match r γ with
  | .ok ms γ2 => .ok (none :: ms) γ2
  | .ex e γ2 => .ex e γ2
  | .no => .no) else .no
/-- the values; x at the hole -/
def HRs (G : GG) (M : Addr → Prop) (H : Hp) (x : V) : List (Option MV) → List V → Prop
  | [], vs => vs = []
  | some m :: ms, vs => ∃ v r, vs = v :: r ∧ Rep G M H m v ∧ HRs G M H x ms r
  | none :: ms, vs => ∃ r, vs = x :: r ∧ HRs G M H x ms r
def EndH (G : GG) (Z : Ent) (W : WX) (A : AM) (σ : L2.St) (H : Hp) (j : Nat) (Q : List V → Hp → Prop) : R (List (Option MV)) → Prop
  | .ok ms γ' => ∀ xs A' H', Sim G Z A' γ' σ H' → Le A' A → Keep (Mz Z A) H H' → (∀ x, σ[j]? = some (some x) → HRs G (Mz Z A') H' x ms xs) → Q xs H'
  | .ex e γ' => EndX G Z W A σ H e γ'
  | .no => False
def tMH (G : GG) (f : FH) (j : Nat) (W : WX) : TA := fun σ H Q => ∃ Z A γ, Sim G Z A γ σ H ∧ EndH G Z W A σ H j Q (f γ)
def RH (X : Cx) (es : List Expr) (f : FH) (j : Nat) : Prop := ∀ W : WX, Takes X W → PA X es (tMH (GX X) f j W)
/-- so many, the hole there -/
def HLim (n i : Nat) (f : FH) : Prop := ∀ γ ms γ', f γ = .ok ms γ' → ms.length = n ∧ (∀ l : Nat, ms[l]? = some none ↔ l = i)
def NoHole (n : Nat) (f : FH) : Prop := ∀ γ ms γ', f γ = .ok ms γ' → ms.length = n ∧ ∀ l : Nat, ms[l]? ≠ some none
theorem nohole_nil : NoHole 0 hNil := fun γ ms γ' h => by unfold hNil at h; cases h; exact ⟨rfl, fun l => by simp⟩
theorem nohole_cons {n : Nat} {f : FE} {r : FH} (h : NoHole n r) : NoHole (n + 1) (hCons f r) := fun γ ms γ' e => by
  unfold hCons at e
  split at e
  · split at e
    · rename_i E
      cases e
      obtain ⟨h1, h2⟩ := h _ _ _ E
      exact ⟨by rw [List.length_cons, h1], fun l => by cases l with | zero => simp | succ l => simpa using h2 l⟩
    · cases e
    · cases e
  · cases e
  · cases e
theorem hlim_hole {n j : Nat} {r : FH} (h : NoHole n r) : HLim (n + 1) 0 (hHole j r) := fun γ ms γ' e => by
  unfold hHole at e
  split at e
  · split at e
    · rename_i E
      cases e
      obtain ⟨h1, h2⟩ := h _ _ _ E
      exact ⟨by rw [List.length_cons, h1], fun l => by cases l with | zero => simp | succ l => simpa using h2 l⟩
    · cases e
    · cases e
  · cases e
theorem hlim_cons {n i : Nat} {f : FE} {r : FH} (h : HLim n i r) : HLim (n + 1) (i + 1) (hCons f r) := fun γ ms γ' e => by
  unfold hCons at e
  split at e
  · split at e
    · rename_i E
      cases e
      obtain ⟨h1, h2⟩ := h _ _ _ E
      exact ⟨by rw [List.length_cons, h1], fun l => by cases l with | zero => simp | succ l => simpa using h2 l⟩
    · cases e
    · cases e
  · cases e
  · cases e
def eCallIo (F : List MV → RF) (j : Nat) (fa : FH) : FE := fun γ => match fa γ with
  | .ok ms γ1 => (match γ1[j]? with
    | some (some ⟨kd, v⟩) => if kd.mine then (match F (ms.map fun o => o.getD v) with
      | .rt c (some m) => .ok c (γ1.set j (some ⟨kd, m⟩))
      | .ex e (some m) => .ex e (γ1.set j (some ⟨kd, m⟩))
      | _ => .no) else .no
    | _ => .no)
  | .ex e γ1 => .ex e γ1
  | .no => .no
theorem HRs.keep {G : GG} {M M' : Addr → Prop} {H H' : Hp} {x : V} (k : Keep M H H') (m : ∀ b o, H b = some o → M' b → M b) : ∀ {ms : List (Option MV)} {vs : List V}, HRs G M H x ms vs → HRs G M' H' x ms vs
  | [], _, h => h
  | some v :: ms, _, h => let ⟨y, r, e, h1, h2⟩ := h; ⟨y, r, e, h1.keep k m, h2.keep k m⟩
  | none :: ms, _, h => let ⟨r, e, h2⟩ := h; ⟨r, e, h2.keep k m⟩
theorem HRs.len {G : GG} {M : Addr → Prop} {H : Hp} {x : V} : ∀ {ms : List (Option MV)} {vs : List V}, HRs G M H x ms vs → vs.length = ms.length
  | [], vs, h => by have h : vs = [] := h; rw [h]; rfl
  | some m :: ms, vs, h => by obtain ⟨v, r, rfl, _, h2⟩ := h; simp [h2.len]
  | none :: ms, vs, h => by obtain ⟨r, rfl, h2⟩ := h; simp [h2.len]
theorem HRs.at_ {G : GG} {M : Addr → Prop} {H : Hp} {x : V} : ∀ {ms : List (Option MV)} {vs : List V} {i : Nat}, HRs G M H x ms vs → (∀ m, ms[i]? = some (some m) → ∃ v, vs[i]? = some v ∧ Rep G M H m v) ∧ (ms[i]? = some none → vs[i]? = some x)
  | [], vs, i, h => ⟨fun m e => by simp at e, fun e => by simp at e⟩
  | some m :: ms, vs, 0, h => by
    obtain ⟨v, r, rfl, h1, h2⟩ := h
    exact ⟨fun m' e => by simp at e; subst e; exact ⟨v, rfl, h1⟩, fun e => by simp at e⟩
  | some m :: ms, vs, i + 1, h => by
    obtain ⟨v, r, rfl, h1, h2⟩ := h
    simpa using h2.at_ (i := i)
  | none :: ms, vs, 0, h => by
    obtain ⟨r, rfl, h2⟩ := h
    exact ⟨fun m' e => by simp at e, fun e => rfl⟩
  | none :: ms, vs, i + 1, h => by
    obtain ⟨r, rfl, h2⟩ := h
    simpa using h2.at_ (i := i)
section
variable {X : Cx} {k j n i : Nat} {ps : List Str} {x : Str} {p pos : Pos} {e : Expr} {es : List Expr} {F : List MV → RF} {f : FE} {fa : FH} {W : WX}
theorem rh_nil : RH X [] hNil j := fun W tk => PA_imp pa_nil fun σ H Q ⟨Z, A, γ, S, h⟩ => h [] A H S .refl .refl fun _ _ => rfl
theorem rh_cons (ha : RE X e f) (hr : RH X es fa j) (hs : starEach (e :: es) X.env = (false, eval e X.env) :: starEach es X.env := by rfl) : RH X (e :: es) (hCons f fa) j := fun W tk =>
  PA_imp (pa_cons (ha W tk) (hr W tk) hs) fun σ H Q ⟨Z, A, γ, S, h⟩ => by
    refine ⟨Z, A, γ, S, ?_⟩
    unfold hCons at h
    cases E1 : f γ with
    | no => rw [E1] at h; exact h
    | ex e γ1 => rw [E1] at h; exact h
    | ok c γ1 =>
      rw [E1] at h
      simp only at h
      intro x A1 H1 hs le k
      refine ⟨Z, A1, γ1, hs.sim, ?_⟩
      cases E2 : fa γ1 with
      | no => rw [E2] at h; exact h
      | ex e γ2 =>
        rw [E2] at h
        exact fun A2 H2 cls d S le2 kk => h A2 H2 cls d S (le2.trans le) (k.trans kk fun b _ _ m => le.mz b m)
      | ok ms γ2 =>
        rw [E2] at h
        exact fun xs A2 H2 S2 le2 kk r2 => h (x :: xs) A2 H2 S2 (le2.trans le) (k.trans kk fun b _ _ m => le.mz b m) fun y hy => ⟨x, xs, rfl, hs.rep.keep kk fun b _ _ m => le2.mz b m, r2 y hy⟩
theorem rh_hole (ha : PE X e (tVar j)) (hr : RH X es fa j) (hs : starEach (e :: es) X.env = (false, eval e X.env) :: starEach es X.env := by rfl) : RH X (e :: es) (hHole j fa) j := fun W tk =>
  PA_imp (pa_cons ha (hr W tk) hs) fun σ H Q ⟨Z, A, γ, S, h⟩ => by
    unfold hHole at h
    split at h
    rotate_left
    · exact h.elim
    rename_i hh
    obtain ⟨y, hy⟩ := S.slot hh
    refine ⟨y, hy, Z, A, γ, S, ?_⟩
    cases E2 : fa γ with
    | no => rw [E2] at h; exact h
    | ex e γ2 => rw [E2] at h; exact h
    | ok ms γ2 =>
      rw [E2] at h
      exact fun xs A2 H2 S2 le2 kk r2 => h (y :: xs) A2 H2 S2 le2 kk fun z hz => by
        rw [hy] at hz
        cases hz
        exact ⟨xs, rfl, r2 y hy⟩
theorem re_callIo (D : FnM X.prog X.w X.K X.mg X.base k x ps (some i) F) (hr : Room n X.A) (hgd : X.A.guards = some []) (hg : Gl X x) (ha : RH X (e :: es) fa j) (hl : HLim ps.length i fa) (hk : k ≤ n := by decide) (hdb : (x == ("__debug__" : Str)) = false := by decide)
    (he : starEach (e :: es) X.env = (false, eval e X.env) :: starEach es X.env := by rfl) (hpl : (backTo pos (starEach es X.env)).any (·.1) = false := by rfl) : RE X (.Call (.Name x p) (e :: es) [] pos) (eCallIo F j fa) := fun W tk => by
  obtain ⟨fd, G, b, kp, m⟩ := D
  refine PE_imp (pe_callG (E := fun σ cls d H => W cls d σ H) G (hr.mono hk) hgd hg m kp b .nil (xpass tk) (ha W tk) hdb he hpl) fun σ H Q ⟨Z, A, γ, S, h⟩ => ⟨Z, A, γ, S, ?_⟩
  unfold eCallIo at h
  cases E : fa γ with
  | no => rw [E] at h; exact h
  | ex e γ1 => rw [E] at h; exact h
  | ok ms γ1 =>
    rw [E] at h
    simp only at h
    intro xs A1 H1 S1 le k rs
    obtain ⟨hlen, hhole⟩ := hl _ _ _ E
    cases E4 : γ1[j]? with
    | none => rw [E4] at h; exact h.elim
    | some oc =>
      cases oc with
      | none => rw [E4] at h; exact h.elim
      | some cj =>
        obtain ⟨kd, v⟩ := cj
        rw [E4] at h
        simp only at h
        split at h
        rotate_left
        · exact h.elim
        rename_i hkm
        obtain ⟨a, hp1, hp2, hp3, hp4⟩ := S1.mine E4 hkm
        have rs := rs _ hp1
        have hxi : xs[i]? = some (.ref a) := (rs.at_ (i := i)).2 ((hhole i).mpr rfl)
        rw [List.append_nil]
        refine ⟨by rw [rs.len]; exact hlen, Mz Z A1, ms.map (fun o => o.getD v), S1.trk, ⟨by rw [rs.len, List.length_map], fun l m y hm hy hne => ?_, fun l hl' => ?_⟩, ?_⟩
        · rw [List.getElem?_map, Option.map_eq_some_iff] at hm
          obtain ⟨o, ho, e⟩ := hm
          cases o with
          | none => exact absurd (congrArg some ((hhole l).mp ho).symm) hne
          | some m' =>
            have e : m' = m := e
            subst e
            obtain ⟨z, hz, r⟩ := (rs.at_ (i := l)).1 _ ho
            rw [hy] at hz
            cases hz
            exact r
        · cases hl'
          refine ⟨v, a, ?_, hxi, .inr ⟨j, hp2⟩, hp3⟩
          rw [List.getElem?_map, (hhole i).mpr rfl]
          rfl
        · have out_of : ∀ {M' : Addr → Prop} {H' out}, After (GX X) M' (some i) xs out H1 H' → ∃ m, out = some m ∧ Own (GX X) M' H' m a ∧ ∀ b o, b ≠ a → H1 b = some o → H' b = some o := fun {M' H' out} af => by
            obtain ⟨a', m, e1, e2, ow⟩ := af.out i rfl
            rw [hxi] at e1
            cases e1
            exact ⟨m, e2, ow, fun b o nb hb => af.keep b o (fun l hl' => by
              cases hl'
              rw [hxi]
              exact fun z => nb (by cases z; rfl)) hb⟩
          cases E5 : F (ms.map fun o => o.getD v) with
          | no => rw [E5] at h; exact h.elim
          | rt c out =>
            rw [E5] at h
            intro y H' dn
            obtain ⟨kc, vc⟩ := c
            cases kc with
            | val =>
              obtain ⟨af, r⟩ := dn
              obtain ⟨m, rfl, ow, hout⟩ := out_of af
              obtain ⟨S3, k3⟩ := S1.mut E4 hkm hp2 hout ow
              exact h y A1 H' ⟨S3, r⟩ le (k.trans k3 fun b _ _ m => le.mz b m)
            | own =>
              obtain ⟨d, rfl, nd, af, r⟩ := dn
              obtain ⟨m, rfl, ow, hout⟩ := out_of af
              obtain ⟨S3, k3⟩ := S1.mut E4 hkm hp2 hout (ow.keep .refl (fun _ _ _ m => .inl m) fun _ z => z)
              obtain ⟨od, hod⟩ := r.on
              have Sw := S1.wait (same_new nd) nd (o := od) upd_same
              obtain ⟨S4, k4⟩ := Sw.mut (H' := H') E4 hkm hp2 (fun b o nb hb => by
                by_cases hbd : b = d
                · subst hbd
                  rw [upd_same] at hb
                  cases hb
                  exact hod
                · rw [upd_ne hbd] at hb
                  exact hout b o nb hb) (ow.keep .refl (fun b _ _ m => (mz_wait b).mp m) fun _ z => z)
              refine h _ A1 H' ⟨d, od, rfl, k.isnone nd, fun m => ?_, r.keep .refl (fun b _ _ m => (mz_wait b).mp m) fun _ z => z, S4⟩ le (k.trans k3 fun b _ _ m => le.mz b m)
              obtain ⟨u, hu⟩ := S1.mf d m
              rw [nd] at hu
              cases hu
            | io => exact dn.elim
            | lown => exact dn.elim
            | lio => exact dn.elim
          | ex e out =>
            rw [E5] at h
            intro cls d H' af r
            obtain ⟨m, rfl, ow, hout⟩ := out_of af
            obtain ⟨S3, k3⟩ := S1.mut E4 hkm hp2 hout ow
            exact h A1 H' cls d S3 le (k.trans k3 fun b _ _ m => le.mz b m) r
end
end Mi

set_option Elab.async false
set_option linter.all false
set_option maxRecDepth 100000
set_option maxHeartbeats 4000000
/-! the operators, the built-ins -/
namespace Mi
open PySem PySem.Spec PyProof.Rows L2 My

abbrev vI (i : Int) : Cell := ⟨.val, .int i⟩
abbrev vB (b : Bool) : Cell := ⟨.val, .bl b⟩
abbrev vV (m : MV) : Cell := ⟨.val, m⟩
section
variable {G : GG} {M : Addr → Prop} {H : Hp} {x : V}
theorem rb_int {i : Int} (h : RepB G M H (.int i) x) : x = .int i := by
  rcases h with h | ⟨_, _, h⟩ <;> simp only [Rep, Own] at h
  exact h
theorem rb_bl {i : Bool} (h : RepB G M H (.bl i) x) : x = .bl i := by
  rcases h with h | ⟨_, _, h⟩ <;> simp only [Rep, Own] at h
  exact h
theorem rb_non (h : RepB G M H .non x) : x = .non := by
  rcases h with h | ⟨_, _, h⟩ <;> simp only [Rep, Own] at h
  exact h
theorem rb_str {i : Str} (h : RepB G M H (.str i) x) : x = .str i := by
  rcases h with h | ⟨_, _, h⟩ <;> simp only [Rep, Own] at h
  exact h
theorem rb_tup {ms : List MV} (h : RepB G M H (.tup ms) x) : ∃ a vs, x = .ref a ∧ SqT G.K H a vs ∧ Reps G M H ms vs ∧ Rep G M H (.tup ms) (.ref a) := by
  rcases h with h | ⟨_, _, h⟩
  · have h0 := h
    simp only [Rep] at h
    obtain ⟨a, vs, rfl, h1, h2⟩ := h
    exact ⟨a, vs, rfl, h1.sq, h2, h0⟩
  · simp only [Own] at h
theorem rb_lst {ms : List MV} (h : RepB G M H (.lst ms) x) : ∃ a vs, x = .ref a ∧ SqL G.K H a vs ∧ Reps G M H ms vs := by
  rcases h with h | ⟨a, rfl, h⟩ <;> simp only [Rep, Own] at h
  · obtain ⟨a, vs, rfl, h1, _, h2⟩ := h
    exact ⟨a, vs, rfl, h1.sq, h2⟩
  · obtain ⟨vs, h1, h2⟩ := h
    exact ⟨a, vs, rfl, .of h1, h2⟩
theorem res_val {H' : Hp} {m : MV} {z : V} (h : Rep G M H' m z) : Res G M H H' ⟨.val, m⟩ z := h
theorem res_int {H' : Hp} {i : Int} : Res G M H H' (vI i) (.int i) := by show Rep _ _ _ _ _; simp only [Rep]
theorem res_bl {H' : Hp} {i : Bool} : Res G M H H' (vB i) (.bl i) := by show Rep _ _ _ _ _; simp only [Rep]
theorem res_str {H' : Hp} {i : Str} : Res G M H H' ⟨.val, .str i⟩ (.str i) := by show Rep _ _ _ _ _; simp only [Rep]
theorem res_non {H' : Hp} : Res G M H H' ⟨.val, .non⟩ .non := by show Rep _ _ _ _ _; simp only [Rep]
/-- a new tuple -/
theorem res_tup {H' : Hp} {p : Addr} {ms : List MV} {vs : List V} (tr : Trk M H) (e : Same H H') (n : H p = none) (hp : H' p = some (.tup vs)) (r : Reps G M H ms vs) : Res G M H H' ⟨.val, .tup ms⟩ (.ref p) := by
  show Rep _ _ _ _ _
  simp only [Rep]
  exact ⟨p, vs, rfl, .inl ⟨.inl hp, tr.new n⟩, r.same e⟩
theorem res_lst {p : Addr} {ms : List MV} {vs : List V} (n : H p = none) (r : Reps G M H ms vs) : Res G M H (upd H p (.lst vs)) ⟨.own, .lst ms⟩ (.ref p) := by
  refine ⟨p, rfl, n, ?_⟩
  simp only [Own]
  refine ⟨vs, upd_same, r.keep (.of_same (same_new n)) fun b o hb m => ?_⟩
  rcases m with m | rfl
  · exact m
  · rw [n] at hb; cases hb
end
section
variable {X : Cx}
theorem OpR.or {f : Value → Value → Sem Value} {r r' : R2} (h : OpR X f r) (h' : OpR X f r') : OpR X f (fun x y H Q => r x y H Q ∨ r' x y H Q) := by
  intro pins s σ H x y v u Q I rx ry q
  rcases q with q | q
  · exact h pins s σ H x y v u Q I rx ry q
  · exact h' pins s σ H x y v u Q I rx ry q
theorem CallR.or {f : Value} {r r' : List V → Hp → VK → Prop} (h : CallR X f r) (h' : CallR X f r') : CallR X f (fun x H Q => r x H Q ∨ r' x H Q) := by
  intro pins s σ H xs us Q I r q
  rcases q with q | q
  · exact h pins s σ H xs us Q I r q
  · exact h' pins s σ H xs us Q I r q
theorem Op2.or {f : Value → Value → Sem Value} {g g' : MV → MV → Option Cell} (h : Op2 X f g) (h' : Op2 X f g') : Op2 X f (fun v w => (g v w).or (g' v w)) := by
  obtain ⟨r, h1, h2⟩ := h
  obtain ⟨r', h3, h4⟩ := h'
  refine ⟨_, OpR.or h1 h3, fun M v w c x y H Q tr e rv rw q => ?_⟩
  replace e : (g v w).or (g' v w) = some c := e
  cases E : g v w with
  | some c' =>
    rw [E] at e
    cases e
    exact .inl (h2 M v w c x y H Q tr E rv rw q)
  | none =>
    rw [E] at e
    exact .inr (h4 M v w c x y H Q tr e rv rw q)
/-! ints -/
/-- of two ints -/
def iiM (C : Int → Int → Prop) [∀ i j, Decidable (C i j)] (g : Int → Int → MV) : MV → MV → Option Cell
  | .int a, .int b => if C a b then some (vV (g a b)) else none
  | _, _ => none
theorem op2_ii {f : Value → Value → Sem Value} {C : Int → Int → Prop} [∀ i j, Decidable (C i j)] {g : Int → Int → V} {g' : Int → Int → MV} (h : OpR X f (rI C g)) (hg : ∀ i j M H, Rep (GX X) M H (g' i j) (g i j)) : Op2 X f (iiM C g') := ⟨_, h, fun M v w c x y H Q tr e rv rw q => by
  unfold iiM at e
  split at e
  · split at e
    · rename_i hc
      cases e
      exact ⟨_, _, rb_int rv, rb_int rw, hc, q _ H (.refl _) (hg _ _ _ _)⟩
    · cases e
  · cases e⟩
theorem rI_0 {f : Value → Value → Sem Value} {g : Int → Int → V} (h : OpR X f (rI0 g)) : OpR X f (rI (fun _ _ => True) g) := by
  intro pins s σ H x y v u Q I rx ry ⟨i, j, e1, e2, _, q⟩
  exact h pins s σ H x y v u Q I rx ry ⟨i, j, e1, e2, q⟩
theorem rp_int {i : Int} {M : Addr → Prop} {H : Hp} : Rep (GX X) M H (.int i) (.int i) := by simp only [Rep]
theorem rp_bl {i : Bool} {M : Addr → Prop} {H : Hp} : Rep (GX X) M H (.bl i) (.bl i) := by simp only [Rep]
abbrev cT : Int → Int → Prop := fun _ _ => True
abbrev addI := iiM cT fun i j => .int (i + j)
abbrev subI := iiM cT fun i j => .int (i - j)
instance : ∀ i j, Decidable (CMulW i j) := fun i j => inferInstanceAs (Decidable (_ < _))
instance : ∀ i j, Decidable (CDivW i j) := fun i j => inferInstanceAs (Decidable (_ ∧ _))
abbrev mulI := iiM CMulW fun i j => .int (i * j)
abbrev divI := iiM CDivW fun i j => .int (i / j)
abbrev modI := iiM (fun _ j => 0 < j) fun i j => .int (i % j)
abbrev powI := iiM CPowW fun i j => .int (i ^ j.toNat)
abbrev ltI := iiM cT fun i j => .bl (decide (i < j))
abbrev leI := iiM cT fun i j => .bl (decide (i ≤ j))
abbrev gtI := iiM cT fun i j => .bl (decide (j < i))
abbrev geI := iiM cT fun i j => .bl (decide (j ≤ i))
theorem op2_addI : Op2 X (binaryOp .Add) addI := op2_ii (rI_0 op_add) fun _ _ _ _ => rp_int
theorem op2_subI : Op2 X (binaryOp .Sub) subI := op2_ii (rI_0 op_sub) fun _ _ _ _ => rp_int
theorem op2_mulI : Op2 X (binaryOp .Mult) mulI := op2_ii op_mulW fun _ _ _ _ => rp_int
theorem op2_divI : Op2 X (binaryOp .FloorDiv) divI := op2_ii op_fdivW fun _ _ _ _ => rp_int
theorem op2_modI : Op2 X (binaryOp .Mod) modI := op2_ii op_mod fun _ _ _ _ => rp_int
theorem op2_powI : Op2 X (binaryOp .Pow) powI := op2_ii op_powW fun _ _ _ _ => rp_int
theorem op2_ltI : Op2 X (compareOp .Lt) ltI := op2_ii (rI_0 op_lt) fun _ _ _ _ => rp_bl
theorem op2_leI : Op2 X (compareOp .LtE) leI := op2_ii (rI_0 op_le) fun _ _ _ _ => rp_bl
theorem op2_gtI : Op2 X (compareOp .Gt) gtI := op2_ii (rI_0 op_gt) fun _ _ _ _ => rp_bl
theorem op2_geI : Op2 X (compareOp .GtE) geI := op2_ii (rI_0 op_ge) fun _ _ _ _ => rp_bl
def negI : MV → Option Cell
  | .int a => some (vI (-a))
  | _ => none
theorem op1_negI : Op1 X (unaryOp .USub) negI := ⟨_, un_neg, fun M v c x H Q tr e rv q => by
  unfold negI at e
  split at e
  · cases e
    exact ⟨_, rb_int rv, q _ H (.refl _) res_int⟩
  · cases e⟩
/-! texts, tuples, lists -/
def addS : MV → MV → Option Cell
  | .str a, .str b => if a.length + b.length ≤ sizeLine then some ⟨.val, .str (a ++ b)⟩ else none
  | _, _ => none
theorem op2_addS : Op2 X (binaryOp .Add) addS := ⟨_, op_add_str, fun M v w c x y H Q tr e rv rw q => by
  unfold addS at e
  split at e
  · split at e
    · rename_i hl
      cases e
      exact ⟨_, _, rb_str rv, rb_str rw, hl, q _ H (.refl _) res_str⟩
    · cases e
  · cases e⟩
def addT : MV → MV → Option Cell
  | .tup a, .tup b => if a.length + b.length ≤ sizeLine then some (vV (.tup (a ++ b))) else none
  | _, _ => none
theorem Reps.nil_iff {G : GG} {M : Addr → Prop} {H : Hp} {ms : List MV} {vs : List V} (h : Reps G M H ms vs) : vs = [] ↔ ms = [] := by
  rw [← List.length_eq_zero_iff, ← List.length_eq_zero_iff, h.len]
theorem op2_addT : Op2 X (binaryOp .Add) addT := ⟨_, op_catA, fun M v w c x y H Q tr e rv rw q => by
  unfold addT at e
  split at e
  · split at e
    · rename_i hl
      cases e
      obtain ⟨a, vs, rfl, h1, h2, h3⟩ := rb_tup rv
      obtain ⟨b, ws, rfl, h4, h5, h6⟩ := rb_tup rw
      refine ⟨a, b, vs, ws, rfl, rfl, h1, h4, by rw [h2.len, h5.len]; exact hl, fun z => ?_, fun _ z => ?_, fun _ _ p np => ?_⟩
      · rw [h2.nil_iff] at z
        subst z
        exact q _ H (.refl _) (res_val h6)
      · rw [h5.nil_iff] at z
        subst z
        rw [List.append_nil] at q
        exact q _ H (.refl _) (res_val h3)
      · exact q _ _ (same_new np) (res_tup tr (same_new np) np upd_same (Reps.app h2 h5))
    · cases e
  · cases e⟩
theorem Reps.repl {G : GG} {M : Addr → Prop} {H : Hp} {ms : List MV} {vs : List V} (h : Reps G M H ms vs) : ∀ n, Reps G M H (List.replicate n ms).flatten (List.replicate n vs).flatten
  | 0 => Reps.nil
  | n + 1 => by
    rw [List.replicate_succ, List.replicate_succ, List.flatten_cons, List.flatten_cons]
    exact Reps.app h (Reps.repl h n)
def repT : MV → MV → Option Cell
  | .tup a, .int k => if -1000000 ≤ k ∧ k ≤ 1000 ∧ a.length ≤ 1000 then some (vV (.tup (List.replicate k.toNat a).flatten)) else none
  | _, _ => none
theorem op2_repT : Op2 X (binaryOp .Mult) repT := ⟨_, op_repB, fun M v w c x y H Q tr e rv rw q => by
  unfold repT at e
  split at e
  · split at e
    · rename_i hl
      cases e
      obtain ⟨a, vs, rfl, h1, h2, h3⟩ := rb_tup rv
      refine ⟨a, _, vs, rfl, rb_int rw, h1, hl.1, hl.2.1, by rw [h2.len]; exact hl.2.2, fun z => ?_, fun p np => ?_⟩
      · refine q _ H (.refl _) (res_val ?_)
        rcases z with z | z
        · rw [h2.nil_iff] at z
          subst z
          simpa using h3
        · subst z
          simpa using h3
      · exact q _ _ (same_new np) (res_tup tr (same_new np) np upd_same (h2.repl _))
    · cases e
  · cases e⟩
end
end Mi

set_option Elab.async false
set_option linter.all false
set_option maxRecDepth 100000
set_option maxHeartbeats 4000000
/-! the built-ins -/
namespace Mi
open PySem PySem.Spec PyProof.Rows L2 My

def Cal1 (X : Cx) (f : Value) (g : MV → Option Cell) : Prop :=
  ∃ r : List V → Hp → VK → Prop, CallR X f r ∧ ∀ M v c x H Q, Trk M H → g v = some c → RepB (GX X) M H v x → (∀ z H', Same H H' → Res (GX X) M H H' c z → Q z H') → r [x] H Q
def Cal2 (X : Cx) (f : Value) (g : MV → MV → Option Cell) : Prop :=
  ∃ r : List V → Hp → VK → Prop, CallR X f r ∧ ∀ M v w c x y H Q, Trk M H → g v w = some c → RepB (GX X) M H v x → RepB (GX X) M H w y → (∀ z H', Same H H' → Res (GX X) M H H' c z → Q z H') → r [x, y] H Q
section
variable {X : Cx} {a b e : Expr} {g g' : MV → Option Cell} {g2 g2' : MV → MV → Option Cell} {o q : Opd} {pos p : Pos} {x : Str} {f : Value}
theorem Cal1.or (h : Cal1 X f g) (h' : Cal1 X f g') : Cal1 X f (fun v => (g v).or (g' v)) := by
  obtain ⟨r, h1, h2⟩ := h
  obtain ⟨r', h3, h4⟩ := h'
  refine ⟨_, Mi.CallR.or h1 h3, fun M v c x H Q tr e rv q => ?_⟩
  replace e : (g v).or (g' v) = some c := e
  cases E : g v with
  | some c' =>
    rw [E] at e
    cases e
    exact .inl (h2 M v c x H Q tr E rv q)
  | none =>
    rw [E] at e
    exact .inr (h4 M v c x H Q tr e rv q)
theorem re_cb1 {id : String} (P : Cal1 X (.builtin id) g) (hg : Gl X x) (hm : X.mg x = none) (ha : RQ X a o) (hv : bootBuiltins x = some (.builtin id) := by rfl) (hn : x ≠ "__name__" := by decide) (hdb : (x == ("__debug__" : Str)) = false := by decide)
    (hs : starEach [a] X.env = (false, eval a X.env) :: starEach [] X.env := by rfl) (hpl : (backTo pos (starEach [] X.env)).any (·.1) = false := by rfl) : RE X (.Call (.Name x p) [a] [] pos) (e1 g o) := fun W tk => by
  obtain ⟨r, hr, hm'⟩ := P
  exact PE_imp (pe_callB hr hg hm hv (pa_cons (ha W tk) pa_nil hs) hn hdb hs hpl) fun σ H Q h => one (r := fun x H Q => r [x] H Q) hm' h
theorem re_ct1 {T : String} (P : Cal1 X (.type T) g) (hg : Gl X x) (hm : X.mg x = none) (ha : RQ X a o) (hv : bootBuiltins x = some (.type T) := by rfl) (hn : x ≠ "__name__" := by decide) (hdb : (x == ("__debug__" : Str)) = false := by decide)
    (hs : starEach [a] X.env = (false, eval a X.env) :: starEach [] X.env := by rfl) (hpl : (backTo pos (starEach [] X.env)).any (·.1) = false := by rfl) : RE X (.Call (.Name x p) [a] [] pos) (e1 g o) := fun W tk => by
  obtain ⟨r, hr, hm'⟩ := P
  exact PE_imp (pe_callTy hr hg hm hv (pa_cons (ha W tk) pa_nil hs) hn hdb hs hpl) fun σ H Q h => one (r := fun x H Q => r [x] H Q) hm' h
theorem re_cb2 {id : String} (P : Cal2 X (.builtin id) g2) (hg : Gl X x) (hm : X.mg x = none) (ha : RQ X a o) (hb : RQ X b q) (hv : bootBuiltins x = some (.builtin id) := by rfl) (hn : x ≠ "__name__" := by decide) (hdb : (x == ("__debug__" : Str)) = false := by decide)
    (hs : starEach [a, b] X.env = (false, eval a X.env) :: starEach [b] X.env := by rfl) (hs' : starEach [b] X.env = (false, eval b X.env) :: starEach [] X.env := by rfl) (hpl : (backTo pos (starEach [b] X.env)).any (·.1) = false := by rfl) : RE X (.Call (.Name x p) [a, b] [] pos) (e2 g2 o q) := fun W tk => by
  obtain ⟨r, hr, hm'⟩ := P
  exact PE_imp (pe_callB hr hg hm hv (pa_cons (ha W tk) (pa_cons (hb W tk) pa_nil hs') hs) hn hdb hs hpl) fun σ H Q h => two (r := fun x y H Q => r [x, y] H Q) hm' h
/-! len -/
def lenS : MV → Option Cell
  | .tup xs => some (vI xs.length)
  | .lst xs => some (vI xs.length)
  | _ => none
theorem cal_lenS : Cal1 X (.builtin "len") lenS := ⟨_, call_len_seq, fun M v c x H Q tr e rv q => by
  unfold lenS at e
  split at e
  · cases e
    obtain ⟨a, vs, rfl, h1, h2, h3⟩ := rb_tup rv
    rw [← h2.len] at q
    exact ⟨a, vs, rfl, .inr h1, q _ H (.refl _) res_int⟩
  · cases e
    obtain ⟨a, vs, rfl, h1, h2⟩ := rb_lst rv
    rw [← h2.len] at q
    exact ⟨a, vs, rfl, .inl h1, q _ H (.refl _) res_int⟩
  · cases e⟩
def lenT : MV → Option Cell
  | .str x => if x.length ≤ sizeLine then some (vI x.length) else none
  | _ => none
theorem cal_lenT : Cal1 X (.builtin "len") lenT := ⟨_, call_len_str, fun M v c x H Q tr e rv q => by
  unfold lenT at e
  split at e
  · split at e
    · rename_i hl
      cases e
      exact ⟨_, congrArg (fun z => [z]) (rb_str rv), hl, q _ H (.refl _) res_int⟩
    · cases e
  · cases e⟩
def lenD : MV → Option Cell
  | .dk ks _ => some (vI ks.length)
  | .dn ks _ => some (vI ks.length)
  | _ => none
theorem nksM_len : ∀ {ms : List MV} {ks : List NestedKey}, nksM ms = some ks → ks.length = ms.length
  | [], ks, h => by simp only [nksM] at h; cases h; rfl
  | m :: ms, ks, h => by
    simp only [nksM, Option.bind_eq_some_iff, Option.map_eq_some_iff] at h
    obtain ⟨k, _, ks', h2, rfl⟩ := h
    rw [List.length_cons, List.length_cons, nksM_len h2]
theorem call_lenDt : CallR X (.builtin "len") (fun xs H Q => ∃ a n, xs = [.ref a] ∧ ((∃ kvs, Rd H a (.dK kvs) ∧ n = kvs.length) ∨ ∃ es, DnAt (GX X) H a es ∧ n = es.length) ∧ Q (.int ((n : Nat) : Int)) H) := by
  intro pins s σ H xs us Q I r h
  obtain ⟨a, n, rfl, g, q⟩ := h
  obtain ⟨u, rfl, rx⟩ := vals1 r
  obtain rfl : u = .ref a := rx
  rcases g with ⟨kvs, e, rfl⟩ | ⟨es, d, rfl⟩
  · exact d_len I e fun t s' I' => ⟨.int kvs.length, H, I', ⟨t, rfl⟩, q⟩
  · obtain ⟨h1, h2, xs, hp, dd⟩ := d.get I
    have hl := My.Paired.len hp
    refine call_len_dictH h1 dd (by rw [← hl]; rw [sizeLine_eq] at h2; omega) ?_
    rw [← hl]
    exact ⟨.int es.length, H, I.tok _, ⟨_, rfl⟩, q⟩
theorem cal_lenD : Cal1 X (.builtin "len") lenD := ⟨_, call_lenDt, fun M v c x H Q tr e rv q => by
  unfold lenD at e
  split at e
  · cases e
    obtain ⟨a, vs, rfl, h1, h2, h3⟩ := dk_repB rv
    exact ⟨a, _, rfl, .inl ⟨_, h1, rfl⟩, q _ H (.refl _) (by rw [List.length_zip, h2, Nat.min_self, ← h2]; exact res_int)⟩
  · cases e
    obtain ⟨a, ks, as, vs, rfl, h1, h2, h3, h4, h5⟩ := dn_repB rv
    exact ⟨a, _, rfl, .inr ⟨_, h1, rfl⟩, q _ H (.refl _) (by rw [zip3_len h3 h4, ← h3, nksM_len h2]; exact res_int)⟩
  · cases e⟩
abbrev lenM : MV → Option Cell := fun v => ((lenS v).or (lenT v)).or (lenD v)
theorem cal_len : Cal1 X (.builtin "len") lenM := (cal_lenS.or cal_lenT).or cal_lenD
/-! ints -/
def absM : MV → Option Cell
  | .int i => some (vI (if i < 0 then -i else i))
  | _ => none
theorem cal_abs : Cal1 X (.builtin "abs") absM := ⟨_, call_abs, fun M v c x H Q tr e rv q => by
  unfold absM at e
  split at e
  · cases e
    exact ⟨_, congrArg (fun z => [z]) (rb_int rv), q _ H (.refl _) res_int⟩
  · cases e⟩
def maxII : MV → MV → Option Cell
  | .int i, .int j => some (vI (if j > i then j else i))
  | _, _ => none
theorem cal_max2 (hc : X.calm = true) : Cal2 X (.builtin "max") maxII := ⟨_, call_max2 hc, fun M v w c x y H Q tr e rv rw q => by
  unfold maxII at e
  split at e
  · cases e
    cases rb_int rv
    cases rb_int rw
    exact ⟨_, _, rfl, q _ H (.refl _) res_int⟩
  · cases e⟩
def minII : MV → MV → Option Cell
  | .int i, .int j => some (vI (if j < i then j else i))
  | _, _ => none
theorem cal_min2 (hc : X.calm = true) : Cal2 X (.builtin "min") minII := ⟨_, call_min2 hc, fun M v w c x y H Q tr e rv rw q => by
  unfold minII at e
  split at e
  · cases e
    cases rb_int rv
    cases rb_int rw
    exact ⟨_, _, rfl, q _ H (.refl _) res_int⟩
  · cases e⟩
def intM : MV → Option Cell
  | .int i => some (vI i)
  | .bl k => some (vI (if k then 1 else 0))
  | _ => none
theorem cal_int : Cal1 X (.type "int") intM := ⟨_, call_int1, fun M v c x H Q tr e rv q => by
  unfold intM at e
  split at e
  · cases e
    cases rb_int rv
    exact .inl ⟨_, rfl, q _ H (.refl _) res_int⟩
  · cases e
    cases rb_bl rv
    exact .inr ⟨_, rfl, q _ H (.refl _) res_int⟩
  · cases e⟩
def boolM : MV → Option Cell
  | .int i => some (vB (i != 0))
  | .bl k => some (vB k)
  | _ => none
theorem cal_bool : Cal1 X (.type "bool") boolM := ⟨_, call_bool1, fun M v c x H Q tr e rv q => by
  unfold boolM at e
  split at e
  · cases e
    cases rb_int rv
    exact .inl ⟨_, rfl, q _ H (.refl _) res_bl⟩
  · cases e
    cases rb_bl rv
    exact .inr ⟨_, rfl, q _ H (.refl _) res_bl⟩
  · cases e⟩
/-! rows of ints, of bools -/
def intsM : List MV → Option (List Int)
  | [] => some []
  | .int i :: ms => (intsM ms).map (i :: ·)
  | _ => none
theorem intsM_rep {G : GG} {M : Addr → Prop} {H : Hp} : ∀ {ms : List MV} {ns : List Int} {vs : List V}, intsM ms = some ns → Reps G M H ms vs → vs = ns.map V.int
  | [], ns, vs, h, r => by simp only [intsM] at h; cases h; simp only [Reps] at r; exact r
  | .int i :: ms, ns, vs, h, r => by
    simp only [intsM, Option.map_eq_some_iff] at h
    obtain ⟨ns', h, rfl⟩ := h
    simp only [Reps, Rep] at r
    obtain ⟨v, r', rfl, rfl, r2⟩ := r
    rw [intsM_rep h r2]
    rfl
  | .non :: _, _, _, h, _ | .bl _ :: _, _, _, h, _ | .str _ :: _, _, _, h, _ | .tup _ :: _, _, _, h, _ | .lst _ :: _, _, _, h, _ | .dk _ _ :: _, _, _, h, _ | .dn _ _ :: _, _, _, h, _ | .ins _ _ :: _, _, _, h, _ => by simp only [intsM] at h; cases h
@[simp] theorem intsM_map (ns : List Int) : intsM (ns.map MV.int) = some ns := by
  induction ns with
  | nil => rfl
  | cons n ns ih => rw [List.map_cons, intsM, ih]; rfl
theorem reps_ints {G : GG} {M : Addr → Prop} {H : Hp} : ∀ ns : List Int, Reps G M H (ns.map MV.int) (ns.map V.int)
  | [] => Reps.nil
  | n :: ns => Reps.consI (by simp only [Rep]) (reps_ints ns)
def blsM : List MV → Option (List Bool)
  | [] => some []
  | .bl i :: ms => (blsM ms).map (i :: ·)
  | _ => none
theorem blsM_rep {G : GG} {M : Addr → Prop} {H : Hp} : ∀ {ms : List MV} {ns : List Bool} {vs : List V}, blsM ms = some ns → Reps G M H ms vs → vs = ns.map V.bl
  | [], ns, vs, h, r => by simp only [blsM] at h; cases h; simp only [Reps] at r; exact r
  | .bl i :: ms, ns, vs, h, r => by
    simp only [blsM, Option.map_eq_some_iff] at h
    obtain ⟨ns', h, rfl⟩ := h
    simp only [Reps, Rep] at r
    obtain ⟨v, r', rfl, rfl, r2⟩ := r
    rw [blsM_rep h r2]
    rfl
  | .non :: _, _, _, h, _ | .int _ :: _, _, _, h, _ | .str _ :: _, _, _, h, _ | .tup _ :: _, _, _, h, _ | .lst _ :: _, _, _, h, _ | .dk _ _ :: _, _, _, h, _ | .dn _ _ :: _, _, _, h, _ | .ins _ _ :: _, _, _, h, _ => by simp only [blsM] at h; cases h
@[simp] theorem blsM_map (ns : List Bool) : blsM (ns.map MV.bl) = some ns := by
  induction ns with
  | nil => rfl
  | cons n ns ih => rw [List.map_cons, blsM, ih]; rfl
def sumM : MV → Option Cell
  | .lst ms => (intsM ms).map fun ns => vI ns.sum
  | .tup ms => (intsM ms).map fun ns => vI ns.sum
  | _ => none
theorem cal_sum (hc : X.calm = true) : Cal1 X (.builtin "sum") sumM := ⟨_, Mi.CallR.or (cr_sum hc) (cr_sumT hc), fun M v c x H Q tr e rv q => by
  unfold sumM at e
  split at e
  · obtain ⟨ns, h, rfl⟩ := Option.map_eq_some_iff.mp e
    obtain ⟨a, vs, rfl, h1, h2⟩ := rb_lst rv
    rw [intsM_rep h h2] at h1
    exact .inl ⟨a, ns, rfl, h1, q _ H (.refl _) res_int⟩
  · obtain ⟨ns, h, rfl⟩ := Option.map_eq_some_iff.mp e
    obtain ⟨a, vs, rfl, h1, h2, _⟩ := rb_tup rv
    rw [intsM_rep h h2] at h1
    exact .inr ⟨a, ns, rfl, h1, q _ H (.refl _) res_int⟩
  · cases e⟩
def allM : MV → Option Cell
  | .lst ms => (blsM ms).map fun ns => vB (ns.all id)
  | _ => none
theorem cal_all (hc : X.calm = true) : Cal1 X (.builtin "all") allM := ⟨_, cr_all hc, fun M v c x H Q tr e rv q => by
  unfold allM at e
  split at e
  · obtain ⟨ns, h, rfl⟩ := Option.map_eq_some_iff.mp e
    obtain ⟨a, vs, rfl, h1, h2⟩ := rb_lst rv
    rw [blsM_rep h h2] at h1
    exact ⟨a, ns, rfl, h1, q _ H (.refl _) res_bl⟩
  · cases e⟩
def anyM : MV → Option Cell
  | .lst ms => (blsM ms).map fun ns => vB (ns.any id)
  | _ => none
theorem cal_any (hc : X.calm = true) : Cal1 X (.builtin "any") anyM := ⟨_, cr_any hc, fun M v c x H Q tr e rv q => by
  unfold anyM at e
  split at e
  · obtain ⟨ns, h, rfl⟩ := Option.map_eq_some_iff.mp e
    obtain ⟨a, vs, rfl, h1, h2⟩ := rb_lst rv
    rw [blsM_rep h h2] at h1
    exact ⟨a, ns, rfl, h1, q _ H (.refl _) res_bl⟩
  · cases e⟩
def maxL : List Int → Int
  | [] => 0
  | [n] => n
  | n :: ns => max n (maxL ns)
def minL : List Int → Int
  | [] => 0
  | [n] => n
  | n :: ns => min n (minL ns)
theorem maxL_ok : ∀ ns : List Int, ns ≠ [] → maxL ns ∈ ns ∧ ∀ y ∈ ns, y ≤ maxL ns
  | [], h => absurd rfl h
  | [n], _ => by simp [maxL]
  | n :: m :: ns, _ => by
    have ⟨h1, h2⟩ := maxL_ok (m :: ns) (by simp)
    have e : maxL (n :: m :: ns) = max n (maxL (m :: ns)) := rfl
    rw [e]
    constructor
    · rcases Int.le_total n (maxL (m :: ns)) with h | h
      · rw [Int.max_eq_right h]; exact List.mem_cons_of_mem _ h1
      · rw [Int.max_eq_left h]; exact List.mem_cons_self
    · intro y hy
      rcases List.mem_cons.mp hy with rfl | hy
      · omega
      · have := h2 y hy; omega
theorem minL_ok : ∀ ns : List Int, ns ≠ [] → minL ns ∈ ns ∧ ∀ y ∈ ns, minL ns ≤ y
  | [], h => absurd rfl h
  | [n], _ => by simp [minL]
  | n :: m :: ns, _ => by
    have ⟨h1, h2⟩ := minL_ok (m :: ns) (by simp)
    have e : minL (n :: m :: ns) = min n (minL (m :: ns)) := rfl
    rw [e]
    constructor
    · rcases Int.le_total n (minL (m :: ns)) with h | h
      · rw [Int.min_eq_left h]; exact List.mem_cons_self
      · rw [Int.min_eq_right h]; exact List.mem_cons_of_mem _ h1
    · intro y hy
      rcases List.mem_cons.mp hy with rfl | hy
      · omega
      · have := h2 y hy; omega
def maxM : MV → Option Cell
  | .lst ms => (intsM ms).bind fun ns => if ns = [] then none else some (vI (maxL ns))
  | _ => none
def minM : MV → Option Cell
  | .lst ms => (intsM ms).bind fun ns => if ns = [] then none else some (vI (minL ns))
  | _ => none
theorem cal_max (hc : X.calm = true) : Cal1 X (.builtin "max") maxM := ⟨_, cr_max hc, fun M v c x H Q tr e rv q => by
  unfold maxM at e
  split at e
  · obtain ⟨ns, h, e⟩ := Option.bind_eq_some_iff.mp e
    split at e
    · cases e
    · rename_i hn
      cases e
      obtain ⟨a, vs, rfl, h1, h2⟩ := rb_lst rv
      rw [intsM_rep h h2] at h1
      refine ⟨a, ns, rfl, h1, List.length_pos_iff.mpr hn, fun m hm hy => ?_⟩
      have ⟨k1, k2⟩ := maxL_ok ns hn
      have := hy _ k1
      have := k2 _ hm
      obtain rfl : m = maxL ns := by omega
      exact q _ H (.refl _) res_int
  · cases e⟩
theorem cal_min (hc : X.calm = true) : Cal1 X (.builtin "min") minM := ⟨_, cr_min hc, fun M v c x H Q tr e rv q => by
  unfold minM at e
  split at e
  · obtain ⟨ns, h, e⟩ := Option.bind_eq_some_iff.mp e
    split at e
    · cases e
    · rename_i hn
      cases e
      obtain ⟨a, vs, rfl, h1, h2⟩ := rb_lst rv
      rw [intsM_rep h h2] at h1
      refine ⟨a, ns, rfl, h1, List.length_pos_iff.mpr hn, fun m hm hy => ?_⟩
      have ⟨k1, k2⟩ := minL_ok ns hn
      have := hy _ k1
      have := k2 _ hm
      obtain rfl : m = minL ns := by omega
      exact q _ H (.refl _) res_int
  · cases e⟩
/-! sorted -/
def insI (n : Int) : List Int → List Int
  | [] => [n]
  | m :: ms => if n ≤ m then n :: m :: ms else m :: insI n ms
def sortI : List Int → List Int
  | [] => []
  | n :: ns => insI n (sortI ns)
theorem insI_perm (n : Int) : ∀ ms, (insI n ms).Perm (n :: ms)
  | [] => .refl _
  | m :: ms => by
    unfold insI
    split
    · exact .refl _
    · exact ((insI_perm n ms).cons m).trans (.swap _ _ _)
theorem sortI_perm : ∀ ns, (sortI ns).Perm ns
  | [] => .refl _
  | n :: ns => (insI_perm n _).trans ((sortI_perm ns).cons n)
theorem insI_sorted {n : Int} : ∀ {ms : List Int}, ms.Pairwise (· ≤ ·) → (insI n ms).Pairwise (· ≤ ·)
  | [], _ => by simp [insI]
  | m :: ms, h => by
    have ⟨h1, h2⟩ := List.pairwise_cons.mp h
    unfold insI
    split
    · rename_i hl
      refine List.pairwise_cons.mpr ⟨fun y hy => ?_, h⟩
      rcases List.mem_cons.mp hy with rfl | hy
      · exact hl
      · exact Int.le_trans hl (h1 y hy)
    · rename_i hl
      refine List.pairwise_cons.mpr ⟨fun y hy => ?_, insI_sorted h2⟩
      rcases List.mem_cons.mp ((insI_perm n ms).mem_iff.mp hy) with rfl | hy
      · omega
      · exact h1 y hy
theorem sortI_sorted : ∀ ns, (sortI ns).Pairwise (· ≤ ·)
  | [] => .nil
  | n :: ns => insI_sorted (sortI_sorted ns)
theorem sorted_uniq : ∀ {xs ys : List Int}, xs.Perm ys → xs.Pairwise (· ≤ ·) → ys.Pairwise (· ≤ ·) → xs = ys
  | [], ys, p, _, _ => p.nil_eq
  | x :: xs, [], p, _, _ => absurd p.length_eq (by simp)
  | x :: xs, y :: ys, p, h, h' => by
    have ⟨h1, h2⟩ := List.pairwise_cons.mp h
    have ⟨h3, h4⟩ := List.pairwise_cons.mp h'
    have e : x = y := by
      have a : y ≤ x := by
        rcases List.mem_cons.mp (p.mem_iff.mp List.mem_cons_self) with e | m
        · omega
        · exact h3 _ m
      have b : x ≤ y := by
        rcases List.mem_cons.mp (p.mem_iff.mpr List.mem_cons_self) with e | m
        · omega
        · exact h1 _ m
      omega
    subst e
    rw [sorted_uniq p.cons_inv h2 h4]
def sortM : MV → Option Cell
  | .lst ms => (intsM ms).map fun ns => ⟨.own, .lst ((sortI ns).map .int)⟩
  | _ => none
theorem cal_sort : Cal1 X (.builtin "sorted") sortM := ⟨_, cr_sortedI, fun M v c x H Q tr e rv q => by
  unfold sortM at e
  split at e
  · obtain ⟨ns, h, rfl⟩ := Option.map_eq_some_iff.mp e
    obtain ⟨a, vs, rfl, h1, h2⟩ := rb_lst rv
    rw [intsM_rep h h2] at h1
    refine ⟨a, ns, rfl, h1, fun ns' p hp hs np => ?_⟩
    obtain rfl := sorted_uniq (hp.trans (sortI_perm ns).symm) hs (sortI_sorted ns)
    exact q _ _ (same_new np) (res_lst np (reps_ints _))
  · cases e⟩
/-! tuple(x), list(x) -/
def tupM : MV → Option Cell
  | .lst ms => some (vV (.tup ms))
  | .tup ms => some (vV (.tup ms))
  | _ => none
theorem cal_tup : Cal1 X (.type "tuple") tupM := ⟨_, call_tuple_of, fun M v c x H Q tr e rv q => by
  unfold tupM at e
  split at e
  · cases e
    obtain ⟨a, vs, rfl, h1, h2⟩ := rb_lst rv
    exact ⟨a, vs, rfl, .inl ⟨h1, fun l nl => q _ _ (same_new nl) (res_tup tr (same_new nl) nl upd_same h2)⟩⟩
  · cases e
    obtain ⟨a, vs, rfl, h1, h2, h3⟩ := rb_tup rv
    exact ⟨a, vs, rfl, .inr ⟨h1, q _ H (.refl _) (res_val h3)⟩⟩
  · cases e⟩
def lstM : MV → Option Cell
  | .lst ms => some ⟨.own, .lst ms⟩
  | .tup ms => some ⟨.own, .lst ms⟩
  | _ => none
theorem cal_lst : Cal1 X (.type "list") lstM := ⟨_, L2.call_list_of, fun M v c x H Q tr e rv q => by
  unfold lstM at e
  split at e
  · cases e
    obtain ⟨a, vs, rfl, h1, h2⟩ := rb_lst rv
    exact ⟨a, vs, rfl, .inl h1, fun l nl => q _ _ (same_new nl) (res_lst nl h2)⟩
  · cases e
    obtain ⟨a, vs, rfl, h1, h2, h3⟩ := rb_tup rv
    exact ⟨a, vs, rfl, .inr h1, fun l nl => q _ _ (same_new nl) (res_lst nl h2)⟩
  · cases e⟩
end
end Mi

set_option Elab.async false
set_option linter.all false
set_option maxRecDepth 100000
set_option maxHeartbeats 4000000
/-! ==, in, is, slices -/
namespace Mi
open PySem PySem.Spec PyProof.Rows L2 My

mutual
def datM : MV → Option PyData
  | .non => some .none
  | .bl b => some (.bool b)
  | .int i => some (.int i)
  | .str x => some (.str x)
  | .tup ms => (datsM ms).map .tuple
  | .lst ms => (datsM ms).map .list
  | _ => none
def datsM : List MV → Option (List PyData)
  | [] => some []
  | m :: ms => (datM m).bind fun d => (datsM ms).map (d :: ·)
end
theorem dpAll_mono {K : PySem.W.Frag} {H : Hp} {v : V} {vs : List V} {d : PyData} {ds : List PyData} (h : Dp K H v d) (r : DpAll K H vs ds) : DpAll K H (v :: vs) (d :: ds) := .cons h r
mutual
theorem dp_rep {G : GG} {M : Addr → Prop} {H : Hp} : ∀ (m : MV) (d : PyData) (x : V), datM m = some d → Rep G M H m x → Dp G.K H x d
  | .non, d, x, e, h => by simp only [datM] at e; cases e; simp only [Rep] at h; subst h; exact .non
  | .bl b, d, x, e, h => by simp only [datM] at e; cases e; simp only [Rep] at h; subst h; exact .bl b
  | .int i, d, x, e, h => by simp only [datM] at e; cases e; simp only [Rep] at h; subst h; exact .int i
  | .str i, d, x, e, h => by simp only [datM] at e; cases e; simp only [Rep] at h; subst h; exact .str i
  | .tup ms, d, x, e, h => by
    simp only [datM, Option.map_eq_some_iff] at e
    obtain ⟨ds, e, rfl⟩ := e
    simp only [Rep] at h
    obtain ⟨a, vs, rfl, h1, h2⟩ := h
    exact .tup h1.sq (dps_rep ms ds vs e h2)
  | .lst ms, d, x, e, h => by
    simp only [datM, Option.map_eq_some_iff] at e
    obtain ⟨ds, e, rfl⟩ := e
    simp only [Rep] at h
    obtain ⟨a, vs, rfl, h1, _, h2⟩ := h
    exact .lst h1.sq (dps_rep ms ds vs e h2)
  | .dk _ _, d, x, e, h => by simp only [datM] at e; cases e
  | .dn _ _, d, x, e, h => by simp only [datM] at e; cases e
  | .ins _ _, d, x, e, h => by simp only [datM] at e; cases e
theorem dps_rep {G : GG} {M : Addr → Prop} {H : Hp} : ∀ (m : List MV) (d : List PyData) (x : List V), datsM m = some d → Reps G M H m x → DpAll G.K H x d
  | [], d, x, e, h => by simp only [datsM] at e; cases e; simp only [Reps] at h; subst h; exact .nil
  | m :: ms, d, x, e, h => by
    simp only [datsM, Option.bind_eq_some_iff, Option.map_eq_some_iff] at e
    obtain ⟨d1, e1, ds, e2, rfl⟩ := e
    simp only [Reps] at h
    obtain ⟨v, r, rfl, h1, h2⟩ := h
    exact .cons (dp_rep m d1 v e1 h1) (dps_rep ms ds r e2 h2)
end
theorem dp_repB {G : GG} {M : Addr → Prop} {H : Hp} {m : MV} {d : PyData} {x : V} (e : datM m = some d) (h : RepB G M H m x) : Dp G.K H x d := by
  rcases h with h | ⟨a, rfl, h⟩
  · exact dp_rep m d x e h
  · cases m with
    | lst ms =>
      simp only [datM, Option.map_eq_some_iff] at e
      obtain ⟨ds, e, rfl⟩ := e
      simp only [Own] at h
      obtain ⟨vs, h1, h2⟩ := h
      exact .lst (.of h1) (dps_rep ms ds vs e h2)
    | dk _ _ => simp only [datM] at e; cases e
    | dn _ _ => simp only [datM] at e; cases e
    | ins _ _ => simp only [datM] at e; cases e
    | _ => simp only [Own] at h
/-- what == asks of a value -/
def shM (m : MV) : Option PyData := (datM m).bind fun d => if SeqAt.shaped d = true then some d else none
theorem shM_ok {m : MV} {d : PyData} (h : shM m = some d) : datM m = some d ∧ SeqAt.shaped d = true := by
  unfold shM at h
  obtain ⟨d', h1, h2⟩ := Option.bind_eq_some_iff.mp h
  split at h2
  · rename_i hs
    cases h2
    exact ⟨h1, hs⟩
  · cases h2
def eqM (v w : MV) : Option Cell := (shM v).bind fun d => (shM w).map fun e => vB (PyData.eqv d e)
def neM (v w : MV) : Option Cell := (shM v).bind fun d => (shM w).map fun e => vB (!PyData.eqv d e)
section
variable {X : Cx}
theorem op2_eq (hu : X.A.units + 64 < cLine) : Op2 X (compareOp .Eq) eqM := ⟨_, op_eqD hu, fun M v w c x y H Q tr e rv rw q => by
  unfold eqM at e
  obtain ⟨d, h1, e⟩ := Option.bind_eq_some_iff.mp e
  obtain ⟨d', h2, rfl⟩ := Option.map_eq_some_iff.mp e
  exact ⟨d, d', dp_repB (shM_ok h1).1 rv, dp_repB (shM_ok h2).1 rw, (shM_ok h1).2, (shM_ok h2).2, q _ H (.refl _) res_bl⟩⟩
theorem op2_ne (hu : X.A.units + 64 < cLine) : Op2 X (compareOp .NotEq) neM := ⟨_, op_neD hu, fun M v w c x y H Q tr e rv rw q => by
  unfold neM at e
  obtain ⟨d, h1, e⟩ := Option.bind_eq_some_iff.mp e
  obtain ⟨d', h2, rfl⟩ := Option.map_eq_some_iff.mp e
  exact ⟨d, d', dp_repB (shM_ok h1).1 rv, dp_repB (shM_ok h2).1 rw, (shM_ok h1).2, (shM_ok h2).2, q _ H (.refl _) res_bl⟩⟩
/-! is None -/
def nonB : MV → Bool
  | .non => true
  | _ => false
def isN (v w : MV) : Option Cell := if nonB w then some (vB (nonB v)) else none
def notN (v w : MV) : Option Cell := if nonB w then some (vB (!nonB v)) else none
theorem nonB_rep {G : GG} {M : Addr → Prop} {H : Hp} {v : MV} {x : V} (h : RepB G M H v x) : decide (x = .non) = nonB v := by
  cases v with
  | non => rw [rb_non h]; rfl
  | bl b => rw [rb_bl h]; rfl
  | int b => rw [rb_int h]; rfl
  | str b => rw [rb_str h]; rfl
  | tup b => obtain ⟨_, _, rfl, _⟩ := rb_tup h; rfl
  | lst b => obtain ⟨_, _, rfl, _⟩ := rb_lst h; rfl
  | dk ks ms => obtain ⟨_, _, rfl, _⟩ := dk_repB h; rfl
  | dn ks ms => obtain ⟨_, _, _, _, rfl, _⟩ := dn_repB h; rfl
  | ins C ms =>
    rcases h with h | ⟨_, _, h⟩
    · simp only [Rep] at h
      rcases h with ⟨_, _, _, rfl, _⟩ | ⟨_, _, _, rfl, _⟩ <;> rfl
    · subst_vars
      rfl
theorem op2_isN : Op2 X (compareOp .Is) isN := ⟨_, op_isN, fun M v w c x y H Q tr e rv rw q => by
  unfold isN at e
  split at e
  · rename_i hn
    cases e
    cases w with
    | non =>
      refine ⟨rb_non rw, ?_⟩
      have k := nonB_rep rv
      rw [k]
      exact q _ H (.refl _) res_bl
    | _ => cases hn
  · cases e⟩
theorem op2_notN : Op2 X (compareOp .IsNot) notN := ⟨_, op_notN, fun M v w c x y H Q tr e rv rw q => by
  unfold notN at e
  split at e
  · rename_i hn
    cases e
    cases w with
    | non =>
      refine ⟨rb_non rw, ?_⟩
      have k := nonB_rep rv
      rw [k]
      exact q _ H (.refl _) res_bl
    | _ => cases hn
  · cases e⟩
/-! in -/
def flM : MV → Option V
  | .non => some .non
  | .bl b => some (.bl b)
  | .int i => some (.int i)
  | .str x => some (.str x)
  | _ => none
def flsM : List MV → Option (List V)
  | [] => some []
  | m :: ms => (flM m).bind fun d => (flsM ms).map (d :: ·)
theorem flM_rep {G : GG} {M : Addr → Prop} {H : Hp} {m : MV} {v x : V} (e : flM m = some v) (h : RepB G M H m x) : x = v ∧ flatV v = true := by
  cases m <;> simp only [flM] at e <;> cases e
  · exact ⟨rb_non h, rfl⟩
  · exact ⟨rb_bl h, rfl⟩
  · exact ⟨rb_int h, rfl⟩
  · exact ⟨rb_str h, rfl⟩
theorem flsM_rep {G : GG} {M : Addr → Prop} {H : Hp} : ∀ {ms : List MV} {vs xs : List V}, flsM ms = some vs → Reps G M H ms xs → xs = vs ∧ vs.all flatV = true
  | [], vs, xs, e, h => by simp only [flsM] at e; cases e; simp only [Reps] at h; exact ⟨h, rfl⟩
  | m :: ms, vs, xs, e, h => by
    simp only [flsM, Option.bind_eq_some_iff, Option.map_eq_some_iff] at e
    obtain ⟨v, e1, vs', e2, rfl⟩ := e
    simp only [Reps] at h
    obtain ⟨y, r, rfl, h1, h2⟩ := h
    obtain ⟨rfl, f1⟩ := flM_rep e1 (.inl h1)
    obtain ⟨rfl, f2⟩ := flsM_rep e2 h2
    exact ⟨rfl, by rw [List.all_cons, f1, f2]; rfl⟩
/-- x in a row of flat values -/
def inS (neg : Bool) : MV → MV → Option Cell
  | v, .lst ms => (flM v).bind fun x => (flsM ms).map fun xs => vB (if neg then !inV x xs else inV x xs)
  | v, .tup ms => (flM v).bind fun x => (flsM ms).map fun xs => vB (if neg then !inV x xs else inV x xs)
  | _, _ => none
theorem inS_ok {neg : Bool} {M : Addr → Prop} {v w : MV} {c : Cell} {x y : V} {H : Hp} {Q : VK} (e : inS neg v w = some c) (rv : RepB (GX X) M H v x) (rw : RepB (GX X) M H w y) (q : ∀ z H', Same H H' → Res (GX X) M H H' c z → Q z H') : rIn X.K neg x y H Q := by
  unfold inS at e
  split at e
  · obtain ⟨z, h1, e⟩ := Option.bind_eq_some_iff.mp e
    obtain ⟨zs, h2, rfl⟩ := Option.map_eq_some_iff.mp e
    obtain ⟨a, vs, rfl, h3, h4⟩ := rb_lst rw
    obtain ⟨rfl, f1⟩ := flM_rep h1 rv
    obtain ⟨rfl, f2⟩ := flsM_rep h2 h4
    exact ⟨a, vs, rfl, .inl h3, f1, f2, q _ H (.refl _) res_bl⟩
  · obtain ⟨z, h1, e⟩ := Option.bind_eq_some_iff.mp e
    obtain ⟨zs, h2, rfl⟩ := Option.map_eq_some_iff.mp e
    obtain ⟨a, vs, rfl, h3, h4, _⟩ := rb_tup rw
    obtain ⟨rfl, f1⟩ := flM_rep h1 rv
    obtain ⟨rfl, f2⟩ := flsM_rep h2 h4
    exact ⟨a, vs, rfl, .inr h3, f1, f2, q _ H (.refl _) res_bl⟩
  · cases e
theorem op2_inS : Op2 X (compareOp .In) (inS false) := ⟨_, op_in_seq, fun M v w c x y H Q tr e rv rw q => inS_ok e rv rw q⟩
theorem op2_notInS : Op2 X (compareOp .NotIn) (inS true) := ⟨_, op_notIn_seq, fun M v w c x y H Q tr e rv rw q => inS_ok e rv rw q⟩
/-- .. in a list of values of any kind -/
def inL (neg : Bool) : MV → MV → Option Cell
  | v, .lst ms => (shM v).bind fun d => (shM (.lst ms)).bind fun e => match e with
    | .list es => some (vB (if neg then !(es.any fun z => PyData.eqv z d) else es.any fun z => PyData.eqv z d))
    | _ => none
  | _, _ => none
theorem op2_inL (hu : X.A.units + 65 < cLine) : Op2 X (compareOp .In) (inL false) := ⟨_, op_inD hu, fun M v w c x y H Q tr e rv rw q => by
  unfold inL at e
  split at e
  · obtain ⟨d, h1, e⟩ := Option.bind_eq_some_iff.mp e
    obtain ⟨es, h2, e⟩ := Option.bind_eq_some_iff.mp e
    split at e
    · cases e
      exact ⟨d, _, dp_repB (shM_ok h1).1 rv, dp_repB (shM_ok h2).1 rw, (shM_ok h1).2, (shM_ok h2).2, q _ H (.refl _) res_bl⟩
    · cases e
  · cases e⟩
theorem op2_notInL (hu : X.A.units + 65 < cLine) : Op2 X (compareOp .NotIn) (inL true) := ⟨_, op_notInD hu, fun M v w c x y H Q tr e rv rw q => by
  unfold inL at e
  split at e
  · obtain ⟨d, h1, e⟩ := Option.bind_eq_some_iff.mp e
    obtain ⟨es, h2, e⟩ := Option.bind_eq_some_iff.mp e
    split at e
    · cases e
      exact ⟨d, _, dp_repB (shM_ok h1).1 rv, dp_repB (shM_ok h2).1 rw, (shM_ok h1).2, (shM_ok h2).2, q _ H (.refl _) res_bl⟩
    · cases e
  · cases e⟩
/-- .. in a dict -/
def hasM : MV → MV → Option Bool
  | .dk ks ms, m => (keyM m).map fun k => (dFind ks ms k).isSome
  | .dn kms ms, .tup ts => (nkM (.tup ts)).bind fun k => if k.depth ≤ 8 then (nksM kms).map fun ks => (dFind ks ms k).isSome else none
  | _, _ => none
def rInDt (G : GG) (neg : Bool) : R2 := fun y x H Q => ∃ a r, x = .ref a ∧ DGt G H a y r ∧ Q (.bl (if neg then !r.isSome else r.isSome)) H
theorem op_inDt (hu : X.A.units + 64 < cLine) : OpR X (compareOp .In) (rInDt (GX X) false) := by
  intro pins s σ H y x u v Q I ry rx h
  obtain ⟨a, r, rfl, g, q⟩ := h
  cases rx
  rcases g with ⟨kvs, k, e, rfl, l⟩ | ⟨es, k, b, d, rfl, hk, hd, l⟩
  · exact d_in (by omega) I (.inl ⟨kvs, k, e, rfl, l⟩ : DGet H a (kV k) r) ry fun s' I' => ⟨.bl _, H, I', rfl, q⟩
  · cases ry
    subst l
    exact dn_in hu I d hk hd fun s' I' => ⟨.bl _, H, I', rfl, q⟩
theorem op_notInDt (hu : X.A.units + 64 < cLine) : OpR X (compareOp .NotIn) (rInDt (GX X) true) := by
  intro pins s σ H y x u v Q I ry rx h
  obtain ⟨a, r, rfl, g, q⟩ := h
  cases rx
  rcases g with ⟨kvs, k, e, rfl, l⟩ | ⟨es, k, b, d, rfl, hk, hd, l⟩
  · exact d_notIn (by omega) I (.inl ⟨kvs, k, e, rfl, l⟩ : DGet H a (kV k) r) ry fun s' I' => ⟨.bl _, H, I', rfl, q⟩
  · cases ry
    subst l
    exact dn_notIn hu I d hk hd fun s' I' => ⟨.bl _, H, I', rfl, q⟩
theorem hasM_ok {G : GG} {M : Addr → Prop} {H : Hp} {v w : MV} {b : Bool} {x y : V} (e : hasM v w = some b) (hv : RepB G M H v x) (hw : RepB G M H w y) : ∃ a r, x = .ref a ∧ DGt G H a y r ∧ b = r.isSome := by
  cases v with
  | dk ks ms =>
    simp only [hasM, Option.map_eq_some_iff] at e
    obtain ⟨k, e1, rfl⟩ := e
    obtain ⟨a, vs, rfl, h1, h2, h3⟩ := dk_repB hv
    cases E : dFind ks ms k with
    | some m =>
      obtain ⟨u, f1, f2⟩ := (find_rep (k := k) h3 h2).1 m E
      exact ⟨a, some u, rfl, .inl ⟨_, k, h1, key_rep e1 hw, f1.symm⟩, rfl⟩
    | none => exact ⟨a, none, rfl, .inl ⟨_, k, h1, key_rep e1 hw, ((find_rep (k := k) h3 h2).2 E).symm⟩, rfl⟩
  | dn kms ms =>
    cases w with
    | tup ts =>
      simp only [hasM, Option.bind_eq_some_iff] at e
      obtain ⟨k, e1, e2⟩ := e
      split at e2
      · rename_i hd
        obtain ⟨ks, e3, rfl⟩ := Option.map_eq_some_iff.mp e2
        obtain ⟨a, ks', as, vs, rfl, h1, h2, h3, h4, h5⟩ := dn_repB hv
        rw [e3] at h2
        cases h2
        obtain ⟨b, rfl, hk⟩ := nk_rep e1 hw
        cases E : dFind ks ms k with
        | some m =>
          obtain ⟨u, f1, f2⟩ := (zip3_find (k := k) (as := as) h5 h3 h4).1 m E
          exact ⟨a, some u, rfl, .inr ⟨_, k, b, h1, rfl, hk, hd, f1.symm⟩, rfl⟩
        | none => exact ⟨a, none, rfl, .inr ⟨_, k, b, h1, rfl, hk, hd, ((zip3_find (k := k) (as := as) h5 h3 h4).2 E).symm⟩, rfl⟩
      · cases e2
    | _ => simp only [hasM] at e; cases e
  | _ => simp only [hasM] at e; cases e
def inDt (neg : Bool) (v w : MV) : Option Cell := (hasM w v).map fun b => vB (if neg then !b else b)
theorem op2_inDt (hu : X.A.units + 64 < cLine) : Op2 X (compareOp .In) (inDt false) := ⟨_, op_inDt hu, fun M v w c x y H Q tr e rv rw q => by
  obtain ⟨b, e', rfl⟩ := Option.map_eq_some_iff.mp e
  obtain ⟨a, r, rfl, g, rfl⟩ := hasM_ok e' rw rv
  exact ⟨a, r, rfl, g, q _ H (.refl _) res_bl⟩⟩
theorem op2_notInDt (hu : X.A.units + 64 < cLine) : Op2 X (compareOp .NotIn) (inDt true) := ⟨_, op_notInDt hu, fun M v w c x y H Q tr e rv rw q => by
  obtain ⟨b, e', rfl⟩ := Option.map_eq_some_iff.mp e
  obtain ⟨a, r, rfl, g, rfl⟩ := hasM_ok e' rw rv
  exact ⟨a, r, rfl, g, q _ H (.refl _) res_bl⟩⟩
abbrev inM (neg : Bool) (v w : MV) : Option Cell := ((inDt neg v w).or (inS neg v w)).or (inL neg v w)
theorem op2_in (hu : X.A.units + 65 < cLine) : Op2 X (compareOp .In) (inM false) := ((op2_inDt (by omega)).or op2_inS).or (op2_inL hu)
theorem op2_notIn (hu : X.A.units + 65 < cLine) : Op2 X (compareOp .NotIn) (inM true) := ((op2_notInDt (by omega)).or op2_notInS).or (op2_notInL hu)
/-! order of tuples of ints -/
def ltT : MV → MV → Option Cell
  | .tup a, .tup b => (intsM a).bind fun ns => (intsM b).map fun ms => vB (HT.lexLt ns ms)
  | _, _ => none
theorem op2_ltT (hu : X.A.units < cLine) : Op2 X (compareOp .Lt) ltT := ⟨_, op_ltT hu, fun M v w c x y H Q tr e rv rw q => by
  unfold ltT at e
  split at e
  · obtain ⟨ns, h1, e⟩ := Option.bind_eq_some_iff.mp e
    obtain ⟨ms, h2, rfl⟩ := Option.map_eq_some_iff.mp e
    obtain ⟨a, vs, rfl, h3, h4, _⟩ := rb_tup rv
    obtain ⟨b, ws, rfl, h5, h6, _⟩ := rb_tup rw
    obtain rfl := intsM_rep h1 h4
    obtain rfl := intsM_rep h2 h6
    exact ⟨a, b, ns, ms, rfl, rfl, h3, h5, q _ H (.refl _) res_bl⟩
  · cases e⟩
/-! xs + ys -/
def addL : MV → MV → Option Cell
  | .lst a, .lst b => if a.length + b.length ≤ sizeLine then some ⟨.own, .lst (a ++ b)⟩ else none
  | _, _ => none
theorem op_catL : OpR X (binaryOp .Add) (fun x y H Q => ∃ l b xs zs, x = .ref l ∧ y = .ref b ∧ SqL X.K H l xs ∧ SqL X.K H b zs ∧ xs.length + zs.length ≤ sizeLine ∧ ∀ p, H p = none → Q (.ref p) (upd H p (.lst (xs ++ zs)))) := by
  intro pins s σ H x y v u Q I rx ry h
  obtain ⟨l, b, xs, zs, rfl, rfl, hH, hB, hz, q⟩ := h
  cases rx
  cases ry
  obtain ⟨its, r, pl, hl⟩ := I.list hH
  obtain ⟨its2, r2, pl2, hl2⟩ := I.list hB
  obtain ⟨⟨cls, dd, data, sl⟩, ho, hc, n, hd⟩ := pl.isList
  obtain ⟨⟨cls2, dd2, data2, sl2⟩, ho2, hc2, n2, hd2⟩ := pl2.isList
  simp only at hc hd hc2 hd2
  subst hc hd hc2 hd2
  have e : its.toArray ++ its2.toArray = (its ++ its2).toArray := by simp
  refine concat_meets ⟨_, ho, rfl⟩ ⟨_, ho2, rfl⟩ noFill_list_add seq_list_add PySem.F.slot_list_add PySem.F.entry_list_add (PySem.F.args_list_add_2 _ _) (list_addW l b its.toArray its2.toArray n n2 dd dd2 sl sl2 (by simp only [List.size_toArray]; rw [← r.length, ← r2.length]; exact hz)) ⟨ho, ho2, ?_⟩
  rw [e]
  exact ⟨.ref _, _, I.lnew (t' := s.toks) (r.append r2) (by rw [List.length_append]; omega), rfl, q _ I.fresh⟩
theorem op2_addL : Op2 X (binaryOp .Add) addL := ⟨_, op_catL, fun M v w c x y H Q tr e rv rw q => by
  unfold addL at e
  split at e
  · split at e
    · rename_i hl
      cases e
      obtain ⟨a, vs, rfl, h1, h2⟩ := rb_lst rv
      obtain ⟨b, ws, rfl, h4, h5⟩ := rb_lst rw
      exact ⟨a, b, vs, ws, rfl, rfl, h1, h4, by rw [h2.len, h5.len]; exact hl, fun p np => q _ _ (same_new np) (res_lst np (Reps.app h2 h5))⟩
    · cases e
  · cases e⟩
abbrev addM (v w : MV) : Option Cell := (addI v w).or ((addT v w).or ((addL v w).or (addS v w)))
theorem op2_add : Op2 X (binaryOp .Add) addM := op2_addI.or (op2_addT.or (op2_addL.or op2_addS))
abbrev ltM (v w : MV) : Option Cell := (ltI v w).or (ltT v w)
theorem op2_lt (hu : X.A.units < cLine) : Op2 X (compareOp .Lt) ltM := op2_ltI.or (op2_ltT hu)
end
end Mi

set_option Elab.async false
set_option linter.all false
set_option maxRecDepth 100000
set_option maxHeartbeats 4000000
/-! a <= b <= c; slices; {}; dict comprehensions; (a, *b) -/
namespace Mi
open PySem PySem.Spec PyProof.Rows L2 My

/-! ### a <= b <= c -/
def eChain (g g' : MV → MV → Option Cell) (o q r : Opd) : FE := fun γ => match oEv o γ with
  | .ok c γ1 => (match oEv q γ1 with
    | .ok d γ2 => (match oGet o c γ2, oGet q d γ2 with
      | some v, some w => (match g v w with
        | some ⟨.val, .bl true⟩ => (match oEv r γ2 with
          | .ok e γ3 => (match oGet q d γ3, oGet r e γ3 with
            | some w, some z => (match g' w z with
              | some u => .ok u γ3
              | none => .no)
            | _, _ => .no)
          | .ex e γ3 => .ex e γ3
          | .no => .no)
        | some ⟨.val, .bl false⟩ => .ok (vB false) γ2
        | _ => .no)
      | _, _ => .no)
    | .ex e γ2 => .ex e γ2
    | .no => .no)
  | .ex e γ1 => .ex e γ1
  | .no => .no
section
variable {G : GG} {Z : Ent} {A A' A0 : AM} {γ γ' : Sg} {σ σ' : L2.St} {H H' H0 : Hp} {l : List (Addr × HO)}
theorem Stg.same (T : Stg G Z A0 H0 l A γ σ H) (e : Same H H') : Stg G Z A0 H0 l A γ σ H' := ⟨T.sim.same e, T.le, T.kp.trans (Keep.of_same (M := Mz Z A0) e) fun _ _ _ m => m, T.nw⟩
end
section
variable {X : Cx} {a b c : Expr} {o q u : Opd} {pos : Pos} {g g' : MV → MV → Option Cell}
theorem three {r r' : R2} {W : WX} {σ : L2.St} {H : Hp} {Q : VK}
    (hr : ∀ M v w c x y H Q, Trk M H → g v w = some c → RepB (GX X) M H v x → RepB (GX X) M H w y → (∀ z H', Same H H' → Res (GX X) M H H' c z → Q z H') → r x y H Q)
    (hr' : ∀ M v w c x y H Q, Trk M H → g' v w = some c → RepB (GX X) M H v x → RepB (GX X) M H w y → (∀ z H', Same H H' → Res (GX X) M H H' c z → Q z H') → r' x y H Q)
    (h : tME (GX X) (eChain g g' o q u) W σ H Q) : tChain r r' (tMQ (GX X) o W) (tMQ (GX X) q W) (tMQ (GX X) u W) σ H Q := by
  obtain ⟨Z, A, γ, S, h⟩ := h
  refine (Stg.start S).run ?_
  unfold eChain at h
  cases E1 : oEv o γ with
  | no => rw [E1] at h; exact h
  | ex e γ1 => rw [E1] at h; exact h
  | ok c γ1 =>
    rw [E1] at h
    simp only at h ⊢
    intro x l1 A1 H1 T1 _ L1
    refine T1.run ?_
    cases E2 : oEv q γ1 with
    | no => rw [E2] at h; exact h
    | ex e γ2 => rw [E2] at h; exact h
    | ok d γ2 =>
      rw [E2] at h
      simp only at h ⊢
      intro y l2 A2 H2 T2 up L2
      have L1' := up _ _ _ L1
      cases E3 : oGet o c γ2 with
      | none => rw [E3] at h; exact h.elim
      | some v =>
        cases E4 : oGet q d γ2 with
        | none => rw [E3, E4] at h; exact h.elim
        | some w =>
          rw [E3, E4] at h
          simp only at h
          cases E5 : g v w with
          | none => rw [E5] at h; exact h.elim
          | some k =>
            rw [E5] at h
            obtain ⟨kd, kv⟩ := k
            cases kd with
            | val =>
              cases kv with
              | bl k =>
                refine hr (Mz (Z.waits l2) A2) v w _ x y H2 _ T2.sim.trk E5 (L1'.repB T2.sim E3) (L2.repB T2.sim E4) fun z H3 e res => ?_
                have res : Rep (GX X) (Mz (Z.waits l2) A2) H3 (.bl k) z := res
                simp only [Rep] at res
                subst res
                have T3 := T2.same e
                have L3 := L2.step T2.sim T3.sim .refl (.of_same e)
                refine ⟨k, rfl, ?_⟩
                cases k with
                | false =>
                  simp only [Bool.false_eq_true, if_false]
                  exact T3.fin (.refl _) res_bl h
                | true =>
                  simp only [if_true]
                  simp only at h
                  refine T3.run ?_
                  cases E6 : oEv u γ2 with
                  | no => rw [E6] at h; exact h
                  | ex e γ3 => rw [E6] at h; exact h
                  | ok e γ3 =>
                    rw [E6] at h
                    simp only at h ⊢
                    intro y2 l4 A4 H4 T4 up4 L4
                    have L3' := up4 _ _ _ L3
                    cases E7 : oGet q d γ3 with
                    | none => rw [E7] at h; exact h.elim
                    | some w2 =>
                      cases E8 : oGet u e γ3 with
                      | none => rw [E7, E8] at h; exact h.elim
                      | some z2 =>
                        rw [E7, E8] at h
                        simp only at h
                        cases E9 : g' w2 z2 with
                        | none => rw [E9] at h; exact h.elim
                        | some r9 =>
                          rw [E9] at h
                          exact hr' _ w2 z2 r9 y y2 H4 _ T4.sim.trk E9 (L3'.repB T4.sim E7) (L4.repB T4.sim E8) fun z H' e r => T4.fin e r h
              | _ => exact h.elim
            | own => cases kv <;> exact h.elim
            | io => cases kv <;> exact h.elim
            | lown => cases kv <;> exact h.elim
            | lio => cases kv <;> exact h.elim
theorem re_chain {op op' : CmpOp} (P : Op2 X (compareOp op) g) (P' : Op2 X (compareOp op') g') (ha : RQ X a o) (hb : RQ X b q) (hc : RQ X c u) (hm : lastMarks [op, op'] [b, c] = false := by with_unfolding_all rfl) : RE X (.Compare a [op, op'] [b, c] pos) (eChain g g' o q u) := fun W tk => by
  obtain ⟨r, hr, h1⟩ := P
  obtain ⟨r', hr', h2⟩ := P'
  exact PE_imp (pe_chain hr hr' (ha W tk) (hb W tk) (hc W tk) hm) fun σ H Q h => three h1 h2 h
theorem rt_chain {op op' : CmpOp} (P : Op2 X (compareOp op) g) (P' : Op2 X (compareOp op') g') (ha : RQ X a o) (hb : RQ X b q) (hc : RQ X c u) (hm : lastMarks [op, op'] [b, c] = false := by with_unfolding_all rfl) : RT X (.Compare a [op, op'] [b, c] pos) (tB (eChain g g' o q u)) := fun W tk => by
  obtain ⟨r, hr, h1⟩ := P
  obtain ⟨r', hr', h2⟩ := P'
  exact PT_imp (pt_chain hr hr' (ha W tk) (hb W tk) (hc W tk) hm) fun σ H Q ⟨Z, A, γ, S, h⟩ => three h1 h2 ⟨Z, A, γ, S, tB_of (r := .no) _ S h⟩
end

/-! ### slices -/
def cutM (ms : List MV) (lo hi : Option Int) : List MV := (ms.drop (HT.sIx ms.length 0 lo)).take (HT.sIx ms.length ms.length hi - HT.sIx ms.length 0 lo)
/-- x[lo:hi] -/
def slM (lo hi : Option Int) : MV → Option Cell
  | .tup ms => some (vV (.tup (cutM ms lo hi)))
  | .lst ms => some ⟨.own, .lst (cutM ms lo hi)⟩
  | .str z => if z.length ≤ sizeLine then some (vV (.str (cutS z lo hi))) else none
  | _ => none
theorem Reps.drop' {G : GG} {M : Addr → Prop} {H : Hp} : ∀ (n : Nat) {ms : List MV} {vs : List V}, Reps G M H ms vs → Reps G M H (ms.drop n) (vs.drop n)
  | 0, _, _, h => h
  | n + 1, [], vs, h => by simp only [Reps] at h; subst h; exact Reps.nil
  | n + 1, m :: ms, vs, h => by
    simp only [Reps] at h
    obtain ⟨v, r, rfl, _, h⟩ := h
    exact Reps.drop' n h
theorem Reps.take' {G : GG} {M : Addr → Prop} {H : Hp} : ∀ (n : Nat) {ms : List MV} {vs : List V}, Reps G M H ms vs → Reps G M H (ms.take n) (vs.take n)
  | 0, _, _, h => Reps.nil
  | n + 1, [], vs, h => by simp only [Reps] at h; subst h; exact Reps.nil
  | n + 1, m :: ms, vs, h => by
    simp only [Reps] at h
    obtain ⟨v, r, rfl, h1, h⟩ := h
    exact Reps.consI h1 (Reps.take' n h)
theorem Reps.cut {G : GG} {M : Addr → Prop} {H : Hp} {ms : List MV} {vs : List V} {lo hi : Option Int} (h : Reps G M H ms vs) : Reps G M H (cutM ms lo hi) (cutV vs lo hi) := by
  unfold cutM cutV
  rw [h.len]
  exact (h.drop' _).take' _
theorem cutM_all {ms : List MV} {lo hi : Option Int} (h : HT.sIx ms.length 0 lo = 0 ∧ HT.sIx ms.length ms.length hi = ms.length) : cutM ms lo hi = ms := by
  unfold cutM
  rw [h.1, h.2]
  simp
abbrev rSlM (K : PySem.W.Frag) : V → Option Int → Option Int → Hp → VK → Prop := fun x lo hi H Q => rSlA K x lo hi H Q ∨ (rSlL K x lo hi H Q ∨ rSlS x lo hi H Q)
section
variable {X : Cx} {a e b c : Expr} {o q u : Opd} {pos p2 : Pos}
theorem sl_m : SlR X (rSlM X.K) := sl_tupA.or (sl_list.or sl_str)
theorem slM_ok {M : Addr → Prop} {lo hi : Option Int} {v : MV} {c : Cell} {x : V} {H : Hp} {Q : VK} (tr : Trk M H) (e : slM lo hi v = some c) (rv : RepB (GX X) M H v x) (q : ∀ z H', Same H H' → Res (GX X) M H H' c z → Q z H') : rSlM X.K x lo hi H Q := by
  unfold slM at e
  split at e
  · cases e
    obtain ⟨a, vs, rfl, h1, h2, h3⟩ := rb_tup rv
    refine .inl ⟨a, vs, rfl, h1, fun w => q _ H (.refl _) (res_val ?_), fun _ p np => q _ _ (same_new np) (res_tup tr (same_new np) np upd_same h2.cut)⟩
    rw [cutM_all (by rw [← h2.len]; exact w)]
    exact h3
  · cases e
    obtain ⟨a, vs, rfl, h1, h2⟩ := rb_lst rv
    exact .inr (.inl ⟨a, vs, rfl, h1, fun p np => q _ _ (same_new np) (res_lst np h2.cut)⟩)
  · split at e
    · rename_i hl
      cases e
      exact .inr (.inr ⟨_, rb_str rv, hl, q _ H (.refl _) res_str⟩)
    · cases e
  · cases e
def slLo (v w : MV) : Option Cell := match w with
  | .int i => slM (some i) none v
  | _ => none
def slHi (v w : MV) : Option Cell := match w with
  | .int i => slM none (some i) v
  | _ => none
theorem tPart_imp {te te' : TE} {σ : L2.St} {H : Hp} {Q : Option Int → Hp → Prop} (h : te σ H fun x H1 => ∃ i, x = .int i ∧ Q (some i) H1) : tPart te σ H Q := h
/-- x[lo:] -/
theorem re_slLo (ha : RQ X a o) (hb : RQ X b q) : RE X (.Subscript a (.Slice (some b) none none p2) pos) (e2 slLo o q) := fun W tk => by
  refine PE_imp (pe_slice sl_m (ha W tk) (po_some (hb W tk)) po_none) fun σ H Q h => ?_
  exact two (r := fun x y H Q => ∃ i, y = .int i ∧ rSlM X.K x (some i) none H Q) (fun M v w c x y H Q tr e rv rw q => by
    unfold slLo at e
    split at e
    · exact ⟨_, rb_int rw, slM_ok tr e rv q⟩
    · cases e) h
/-- x[:hi] -/
theorem re_slHi (ha : RQ X a o) (hb : RQ X b q) : RE X (.Subscript a (.Slice none (some b) none p2) pos) (e2 slHi o q) := fun W tk => by
  refine PE_imp (pe_slice sl_m (ha W tk) po_none (po_some (hb W tk))) fun σ H Q h => ?_
  exact two (r := fun x y H Q => ∃ i, y = .int i ∧ rSlM X.K x none (some i) H Q) (fun M v w c x y H Q tr e rv rw q => by
    unfold slHi at e
    split at e
    · exact ⟨_, rb_int rw, slM_ok tr e rv q⟩
    · cases e) h
/-- x[:] -/
theorem re_slAll (ha : RQ X a o) : RE X (.Subscript a (.Slice none none none p2) pos) (e1 (slM none none) o) := fun W tk => by
  refine PE_imp (pe_slice sl_m (ha W tk) po_none po_none) fun σ H Q h => ?_
  exact one (r := fun x H Q => rSlM X.K x none none H Q) (fun M v c x H Q tr e rv q => slM_ok tr e rv q) h
/-- x[lo:hi] -/
def eSl3 (o q r : Opd) : FE := fun γ => match oEv o γ with
  | .ok c γ1 => (match oEv q γ1 with
    | .ok d γ2 => (match oGet q d γ2 with
      | some (.int i) => (match oEv r γ2 with
        | .ok e γ3 => (match oGet o c γ3, oGet r e γ3 with
          | some v, some (.int j) => (match slM (some i) (some j) v with
            | some u => .ok u γ3
            | none => .no)
          | _, _ => .no)
        | .ex e γ3 => .ex e γ3
        | .no => .no)
      | _ => .no)
    | .ex e γ2 => .ex e γ2
    | .no => .no)
  | .ex e γ1 => .ex e γ1
  | .no => .no
theorem sl3 {W : WX} {σ : L2.St} {H : Hp} {Q : VK} (h : tME (GX X) (eSl3 o q u) W σ H Q) : L2.tSl (rSlM X.K) (tMQ (GX X) o W) (tPart (tMQ (GX X) q W)) (tPart (tMQ (GX X) u W)) σ H Q := by
  obtain ⟨Z, A, γ, S, h⟩ := h
  refine (Stg.start S).run ?_
  unfold eSl3 at h
  cases E1 : oEv o γ with
  | no => rw [E1] at h; exact h
  | ex e γ1 => rw [E1] at h; exact h
  | ok c γ1 =>
    rw [E1] at h
    simp only at h ⊢
    intro x l1 A1 H1 T1 _ L1
    refine T1.run ?_
    cases E2 : oEv q γ1 with
    | no => rw [E2] at h; exact h
    | ex e γ2 => rw [E2] at h; exact h
    | ok d γ2 =>
      rw [E2] at h
      simp only at h ⊢
      intro y l2 A2 H2 T2 up L2
      have L1' := up _ _ _ L1
      split at h
      rotate_left
      · exact h.elim
      rename_i i E4
      refine ⟨i, rb_int (L2.repB T2.sim E4), ?_⟩
      refine T2.run ?_
      cases E6 : oEv u γ2 with
      | no => rw [E6] at h; exact h
      | ex e γ2 => rw [E6] at h; exact h
      | ok e γ3 =>
        rw [E6] at h
        simp only at h ⊢
        intro z l3 A3 H3 T3 up3 L3
        have L1'' := up3 _ _ _ L1'
        split at h
        rotate_left
        · exact h.elim
        rename_i v j E3 E7
        refine ⟨j, rb_int (L3.repB T3.sim E7), ?_⟩
        cases E5 : slM (some i) (some j) v with
        | none => rw [E5] at h; exact h.elim
        | some r' =>
          rw [E5] at h
          exact slM_ok T3.sim.trk E5 (L1''.repB T3.sim E3) fun z H' e r => T3.fin e r h
theorem re_slLH (ha : RQ X a o) (hb : RQ X b q) (hc : RQ X c u) : RE X (.Subscript a (.Slice (some b) (some c) none p2) pos) (eSl3 o q u) := fun W tk =>
  PE_imp (pe_slice sl_m (ha W tk) (po_some (hb W tk)) (po_some (hc W tk))) fun σ H Q h => sl3 h
/-! x[::-1] -/
def revM : MV → Option Cell
  | .tup ms => some (vV (.tup ms.reverse))
  | .lst ms => some ⟨.own, .lst ms.reverse⟩
  | _ => none
def rRevB (K : PySem.W.Frag) : V → Hp → VK → Prop := fun x H1 Q => ∃ a xs, x = .ref a ∧ ((SqT K H1 a xs ∧ ∀ p, H1 p = none → Q (.ref p) (upd H1 p (.tup xs.reverse))) ∨ (SqL K H1 a xs ∧ ∀ p, H1 p = none → Q (.ref p) (upd H1 p (.lst xs.reverse))))
theorem pe_revB {k : Nat} {p1 p2 p3 pos : Pos} {te : TE} (he : PE X e te) : PE X (.Subscript e (.Slice none none (some (.UnaryOp .USub (.Constant (.int 1) k p1) p2)) p3) pos) (fun σ H Q => te σ H fun x H1 => rRevB X.K x H1 Q) := by
  refine ⟨fun pins s σ H Q I h => Subscript_ (thn (he.run pins s σ H _ I h) fun v s1 ⟨x, H1, I1, r1, q1⟩ => ?_)⟩
  obtain ⟨a, xs, ex, q⟩ := q1
  subst ex
  cases r1
  have hst : PO X (some (.UnaryOp .USub (.Constant (.int 1) k p1) p2)) (tPart (tUn (rU fun i => .int (-i)) (tC (.int 1)))) := po_some (pe_un un_neg pe_int)
  refine wpAny_Slice (thn (po_none.run pins s1 σ H1 (fun o H2 => o = none ∧ H2 = H1) I1 ⟨rfl, rfl⟩) fun vl s2 ⟨l, H2, I2, pl, el, e2⟩ => ?_)
  subst el e2
  refine thn (po_none.run pins s2 σ H2 (fun o H3 => o = none ∧ H3 = H2) I2 ⟨rfl, rfl⟩) fun vu s3 ⟨u, H3, I3, pu, eu, e3⟩ => ?_
  subst eu e3
  refine thn (hst.run pins s3 σ H3 (fun o H4 => o = some (-1) ∧ H4 = H3) I3 ⟨1, rfl, -1, rfl, rfl, rfl⟩) fun vs s4 ⟨o, H4, I4, ps, eo, e4⟩ => ?_
  subst eo e4
  have I5 : Inv X pins σ H4 { s4 with heap := s4.heap.push { cls := .type "slice", data := .fields #[vl, vu, vs] } } := I4.kept (t' := s4.toks) fun b ob q => Heap.get?_push_of_some _ q
  rcases q with ⟨hx, q⟩ | ⟨hx, q⟩
  · obtain ⟨its, r, ht, hz⟩ := I5.tuple hx
    have hlen := r.length
    cases pl
    cases pu
    cases ps with
    | int _ tk =>
    show wpAny (model X.prog X.w) X.A (subscriptTail e (.Slice none none (some (.UnaryOp .USub (.Constant (.int 1) k p1) p2)) p3) (.ref a) (.ref s4.heap.objs.size)) (EP X pins σ Q) X.xe _
    refine tail_any (ops := [.ref a, .ref s4.heap.objs.size]) ht.typeIs (PyProof.Rows.slot_tuple_getitem.lookup) ?_ (by with_unfolding_all rfl)
    refine getItem_back ht (Heap.IsSliceOf.new _ .none .none (.int (-1) tk)) ?_ (by rw [List.size_toArray]; omega)
    refine ⟨.ref _, _, I5.laid (t' := s4.toks) (o := .tup xs.reverse) (fun b ob q => Heap.get?_push_of_some _ q) (Nat.le_refl _) ?_, rfl, q _ (I5.hok.fresh (Nat.le_refl _))⟩
    exact ⟨by rw [List.length_reverse]; exact hz, its.reverse, r.reverse, ⟨_, Heap.get?_push_size _ rfl, rfl, _, rfl⟩⟩
  · obtain ⟨its, r, ht, hz⟩ := I5.list hx
    have hlen := r.length
    show wpAny (model X.prog X.w) X.A (subscriptTail e (.Slice none none (some (.UnaryOp .USub (.Constant (.int 1) k p1) p2)) p3) (.ref a) (.ref s4.heap.objs.size)) (EP X pins σ Q) X.xe _
    refine tail_any (ops := [.ref a, .ref s4.heap.objs.size]) ht.isList.typeIs (PySem.slot_list_getitem.lookup) ?_ (by with_unfolding_all rfl)
    refine wpAny_getItem_list_slice ht.isList (Heap.IsSliceOf.new _ vl vu vs) pl pu ps (by decide) ?_ (by rw [List.size_toArray]; omega)
    rw [PySem.W.krv_pick]
    refine ⟨.ref _, _, I5.laid (t' := s4.toks) (o := .lst xs.reverse) (fun b ob q => Heap.get?_push_of_some _ q) (Nat.le_refl _) ?_, rfl, q _ (I5.hok.fresh (Nat.le_refl _))⟩
    exact ⟨by rw [List.length_reverse]; exact hz, _, 0, r.reverse, Heap.get?_push_size _ rfl⟩
theorem re_rev {k : Nat} {p1 p2 p3 pos : Pos} (ha : RQ X a o) : RE X (.Subscript a (.Slice none none (some (.UnaryOp .USub (.Constant (.int 1) k p1) p2)) p3) pos) (e1 revM o) := fun W tk =>
  PE_imp (pe_revB (ha W tk)) fun σ H Q h => one (r := rRevB X.K) (fun M v c x H Q tr e rv q => by
    unfold revM at e
    split at e
    · cases e
      obtain ⟨a, vs, rfl, h1, h2, h3⟩ := rb_tup rv
      exact ⟨a, vs, rfl, .inl ⟨h1, fun p np => q _ _ (same_new np) (res_tup tr (same_new np) np upd_same h2.rev)⟩⟩
    · cases e
      obtain ⟨a, vs, rfl, h1, h2⟩ := rb_lst rv
      exact ⟨a, vs, rfl, .inr ⟨h1, fun p np => q _ _ (same_new np) (res_lst np h2.rev)⟩⟩
    · cases e) h
end
/-! ### {} -/
section
variable {X : Cx} {pos : Pos}
def eNew (v : MV) : FE := fun γ => .ok ⟨.own, v⟩ γ
theorem EndE.new {G : GG} {Z : Ent} {A : AM} {γ : Sg} {σ : L2.St} {H H' : Hp} {W : WX} {Q : VK} {v : MV} {p : Addr} (S : Sim G Z A γ σ H) (e : Same H H') (n : H p = none) (o : Own G (fun b => Mz Z A b ∨ b = p) H' v p) (h : EndE G Z W A σ H Q (.ok ⟨.own, v⟩ γ)) : Q (.ref p) H' :=
  (Stg.start S).fin e (c := ⟨.own, v⟩) ⟨p, rfl, n, o⟩ h
theorem re_newK : RE X (.Dict [] [] pos) (eNew (.dk [] [])) := fun W tk => PE_imp pe_dnewK fun σ H Q ⟨Z, A, γ, S, h⟩ p np => EndE.new S (same_new np) np (by simp only [Own]; exact ⟨[], upd_same, rfl, Reps.nil⟩) h
end
end Mi

set_option Elab.async false
set_option linter.all false
set_option maxRecDepth 100000
set_option maxHeartbeats 4000000
/-! dict comprehensions; {}; (a, *b); list of a dict -/
namespace Mi
open PySem PySem.Spec PyProof.Rows L2 My

def dcompM (t : Tg) (tt : FT) (fk f : FE) (vs : List Nat) : List Key → List MV → List MV → Sg → Option (List Key × List MV × Sg)
  | ks, rs, [], γ => some (ks, rs, γ)
  | ks, rs, m :: ms, γ => match asgM t m γ with
    | none => none
    | some γ1 => match tt γ1 with
      | .ok true γ2 => (match fk γ2 with
        | .ok ck γ3 => (match keyM ck.v with
          | some k => (match f γ3 with
            | .ok c γ4 => if rs.length < sizeLine then (if (dFind ks rs k).isSome then dcompM t tt fk f vs ks (dVals ks rs k c.v) ms (wipeG γ4 vs) else dcompM t tt fk f vs (ks ++ [k]) (rs ++ [c.v]) ms (wipeG γ4 vs)) else none
            | _ => none)
          | none => none)
        | _ => none)
      | .ok false γ2 => dcompM t tt fk f vs ks rs ms (wipeG γ2 vs)
      | _ => none
def eDcomp (t : Tg) (fi : FI) (tt : FT) (fk f : FE) (vs : List Nat) : FE := fun γ => match fi γ with
  | .ok ms γ1 => if ms.length ≤ sizeLine then (match dcompM t tt fk f vs [] [] ms (wipeG γ1 vs) with
    | some (ks, rs, γ2) => .ok ⟨.own, .dk ks rs⟩ (backG γ1 vs γ2)
    | none => .no) else .no
  | .ex e γ1 => .ex e γ1
  | .no => .no
theorem dcomp_end {X : Cx} {t : Tg} {fi : FI} {tt : FT} {fk f : FE} {vs : List Nat} {W : WX} (hsub : ∀ i ∈ t.slots, i ∈ vs) {σ : L2.St} {H : Hp} {Q : VK} (h : tME (GX X) (eDcomp t fi tt fk f vs) W σ H Q) :
    tDc (tMI (GX X) fi W) (tMG (GX X) t) (tMT (GX X) tt Bot) (tME (GX X) fk Bot) (tME (GX X) f Bot) vs σ H Q := by
  obtain ⟨Z, A, γ, S, h⟩ := h
  refine ⟨Z, A, γ, S, ?_⟩
  unfold eDcomp at h
  cases E1 : fi γ with
  | no => rw [E1] at h; exact h
  | ex e γ1 => rw [E1] at h; exact h
  | ok ms γ1 =>
    rw [E1] at h
    simp only at h
    intro J l A1 H1 P src T K p1 D nD
    split at h
    rotate_left
    · exact h.elim
    rename_i hz
    cases E2 : dcompM t tt fk f vs [] [] ms (wipeG γ1 vs) with
    | none => rw [E2] at h; exact h.elim
    | some r =>
      obtain ⟨kall, all, γf⟩ := r
      rw [E2] at h
      simp only at h
      have S1 := T.sim
      have nsrc : ¬ src D := fun hs => by
        obtain ⟨o, ho⟩ := K.at_ p1 hs
        rw [nD] at ho
        cases ho
      have eD : Same H1 (upd H1 D (.dK [])) := same_new nD
      have Sw := S1.wait eD nD (o := .dK []) upd_same
      obtain ⟨A2, le2, S2⟩ := Sw.wipe vs
      have nf : ∀ u, ¬ (Z.waits l).F D u := S1.nF nD
      have pw : P ((Z.waits l).wait D (.dK [])) A1 (upd H1 D (.dK [])) := K.wait p1 eD nD
      refine ⟨fun i m H' => m = ms.length - i ∧ i ≤ ms.length ∧ ∃ A' γ' ks acc rs, Sim (GX X) ((Z.waits l).wait D (.dK (ks.zip acc))) A' γ' (L2.wipe σ vs) H' ∧ (∀ j ∈ vs, γ'[j]? = none ∨ γ'[j]? = some none) ∧ Reps (GX X) (Mz ((Z.waits l).wait D (.dK (ks.zip acc))) A') H' rs acc ∧
          P ((Z.waits l).wait D (.dK (ks.zip acc))) A' H' ∧ dcompM t tt fk f vs ks rs (ms.drop i) γ' = some (kall, all, γf) ∧ ks.length = acc.length ∧ Le A' A1 ∧ Keep (Mz (Z.waits l) A1) H1 H' ∧ rs.length ≤ i,
        ⟨ms.length, by simp, Nat.zero_le _, A2, wipeG γ1 vs, [], [], [], S2, fun j hj => wipeG_at hj, Reps.nil, ?_, by rw [List.drop_zero]; exact E2, rfl, le2, .of_same eD, Nat.le_refl _⟩, ?_⟩
      · exact K.stp pw Sw S2 (.of le2 .refl)
      · rintro i m H' ⟨rfl, hi, A', γ', ks, acc, rs, S', hv, hrs, p', hc, hkl, le', k', hri⟩
        by_cases hlt : i < ms.length
        · refine .inr ⟨K.go hlt p', fun H3 => i + 1 ≤ ms.length ∧ ∃ A3 γ3 ks3 acc3 rs3, Sim (GX X) ((Z.waits l).wait D (.dK (ks3.zip acc3))) A3 γ3 (L2.wipe σ vs) H3 ∧ (∀ j ∈ vs, γ3[j]? = none ∨ γ3[j]? = some none) ∧ Reps (GX X) (Mz ((Z.waits l).wait D (.dK (ks3.zip acc3))) A3) H3 rs3 acc3 ∧
              P ((Z.waits l).wait D (.dK (ks3.zip acc3))) A3 H3 ∧ dcompM t tt fk f vs ks3 rs3 (ms.drop (i + 1)) γ3 = some (kall, all, γf) ∧ ks3.length = acc3.length ∧ Le A3 A1 ∧ Keep (Mz (Z.waits l) A1) H1 H3 ∧ rs3.length ≤ i + 1,
            fun H3 q => ⟨ms.length - (i + 1), by omega, rfl, q.1, q.2⟩, fun x H2 y => ?_⟩
          obtain ⟨e2, m, hm, r2⟩ := K.yld p' S' hlt y
          have em : ms.drop i = m :: ms.drop (i + 1) := by
            rw [List.drop_eq_getElem_cons hlt]
            rw [List.getElem?_eq_getElem hlt] at hm
            rw [Option.some.inj hm]
          rw [em] at hc
          simp only [dcompM] at hc
          have S2 := S'.same e2
          have st2 : Stp ((Z.waits l).wait D (.dK (ks.zip acc))) A' H' A' H2 := .of_same e2
          have p2 := K.stp p' S' S2 st2
          -- from the start to a later place
          have kk : ∀ {A3 H3}, Le A3 A' → Keep (Mz ((Z.waits l).wait D (.dK (ks.zip acc))) A') H' H3 → Keep (Mz (Z.waits l) A1) H1 H3 := fun {A3 H3} le3 k3 => k'.trans k3 fun b o hb m => by
            rcases (mz_wait b).mp m with m | rfl
            · exact le'.mz b m
            · rw [nD] at hb; cases hb
          cases E3 : asgM t m γ' with
          | none => rw [E3] at hc; cases hc
          | some γ2 =>
            rw [E3] at hc
            simp only at hc
            refine ⟨_, A', γ', m, S2, r2, γ2, E3, fun σ3 A3 S3 le3 out3 => ⟨?_, ?_⟩⟩
            · rw [← wipe_wipe (σ := σ)]
              exact wipe_eq (by rw [← S3.len, ← S2.len]; exact (asgM_len _ _ _ _ E3)) fun j hj => out3 j fun z => hj (hsub j z)
            have hw : L2.wipe σ3 vs = L2.wipe σ vs := by
              rw [← wipe_wipe (σ := σ)]
              exact wipe_eq (by rw [← S3.len, ← S2.len]; exact (asgM_len _ _ _ _ E3)) fun j hj => out3 j fun z => hj (hsub j z)
            refine ⟨_, A3, γ2, S3, ?_⟩
            cases E4 : tt γ2 with
            | no => rw [E4] at hc; cases hc
            | ex e γ3 => rw [E4] at hc; cases hc
            | ok b γ3 =>
              rw [E4] at hc
              intro A4 H4 S4 le4 k4
              have k4' : Keep (Mz ((Z.waits l).wait D (.dK (ks.zip acc))) A') H' H4 := (Keep.of_same e2).trans (k4.mono fun b m => le3.mz b m) fun _ _ _ m => m
              have p4 := K.stp p2 S2 S4 (.of (le4.trans le3) (k4.mono fun b m => le3.mz b m))
              cases b with
              | false =>
                simp only at hc
                simp only [Bool.false_eq_true, if_false]
                obtain ⟨A5, le5, S5⟩ := S4.wipe vs
                rw [hw] at S5
                have l5 : Le A5 A' := le5.trans (le4.trans le3)
                exact ⟨hlt, A5, wipeG γ3 vs, ks, acc, rs, S5, fun j hj => wipeG_at hj, hrs.keep k4' fun b _ _ m => l5.mz b m, K.stp p4 S4 S5 (.of le5 .refl), hc, hkl, l5.trans le', kk l5 k4', by omega⟩
              | true =>
                simp only at hc
                simp only [if_true]
                refine ⟨_, A4, γ3, S4, ?_⟩
                cases E5 : fk γ3 with
                | no => rw [E5] at hc; cases hc
                | ex e γ5 => rw [E5] at hc; cases hc
                | ok ck γ5 =>
                  rw [E5] at hc
                  simp only at hc
                  cases E6 : keyM ck.v with
                  | none => rw [E6] at hc; cases hc
                  | some k =>
                  rw [E6] at hc
                  simp only at hc
                  intro yk Ak Hk hsk lek kk5
                  have eyk : yk = kV k := by
                    have r := hsk.rep
                    exact keyM_rep E6 r
                  have Sk := hsk.sim
                  refine ⟨_, Ak, γ5, Sk, ?_⟩
                  cases E7 : f γ5 with
                  | no => rw [E7] at hc; cases hc
                  | ex e γ6 => rw [E7] at hc; cases hc
                  | ok c γ6 =>
                  rw [E7] at hc
                  simp only at hc
                  intro yv A5 H5 hs5 le5' k5a
                  have le5 : Le A5 A4 := le5'.trans lek
                  have k5 : Keep (Mz ((Z.waits l).wait D (.dK (ks.zip acc))) A4) H4 H5 := kk5.trans (k5a.mono fun b m => lek.mz b m) fun _ _ _ m => m
                  have S5 := hs5.sim
                  have l5 : Le A5 A' := le5.trans (le4.trans le3)
                  have k5' : Keep (Mz ((Z.waits l).wait D (.dK (ks.zip acc))) A') H' H5 := k4'.trans (k5.mono fun b m => (le4.trans le3).mz b m) fun _ _ _ m => m
                  have hD5 := S5.waits
                  have hrs5 := hrs.keep k5' fun b _ _ m => l5.mz b m
                  have hkl' : ks.length = rs.length := by rw [hkl, hrs5.len]
                  split at hc
                  rotate_left
                  · cases hc
                  rename_i hzk
                  refine ⟨ks.zip acc, k, eyk, hD5, by rw [List.length_zip, ← hkl, Nat.min_self]; omega, hlt, ?_⟩
                  have fin : ∀ (ks2 : List Key) (acc2 : List V) (rs2 : List MV), putK (ks.zip acc) k yv = ks2.zip acc2 → ks2.length = acc2.length → rs2.length ≤ i + 1 →
                      (∀ H6, Keep (Mz ((Z.waits l).wait D (.dK (ks.zip acc))) A5) H5 H6 → Reps (GX X) (Mz ((Z.waits l).wait D (.dK (ks.zip acc))) A5) H6 rs2 acc2) →
                      dcompM t tt fk f vs ks2 rs2 (ms.drop (i + 1)) (wipeG γ6 vs) = some (kall, all, γf) →
                      ∃ A3 γ3 ks3 acc3 rs3, Sim (GX X) ((Z.waits l).wait D (.dK (ks3.zip acc3))) A3 γ3 (L2.wipe σ vs) (upd H5 D (.dK (putK (ks.zip acc) k yv))) ∧ (∀ j ∈ vs, γ3[j]? = none ∨ γ3[j]? = some none) ∧ Reps (GX X) (Mz ((Z.waits l).wait D (.dK (ks3.zip acc3))) A3) (upd H5 D (.dK (putK (ks.zip acc) k yv))) rs3 acc3 ∧
                        P ((Z.waits l).wait D (.dK (ks3.zip acc3))) A3 (upd H5 D (.dK (putK (ks.zip acc) k yv))) ∧ dcompM t tt fk f vs ks3 rs3 (ms.drop (i + 1)) γ3 = some (kall, all, γf) ∧ ks3.length = acc3.length ∧ Le A3 A1 ∧ Keep (Mz (Z.waits l) A1) H1 (upd H5 D (.dK (putK (ks.zip acc) k yv))) ∧ rs3.length ≤ i + 1 := by
                    intro ks2 acc2 rs2 ep el er hr hc2
                    rw [ep]
                    have S6 := Sim.rew (o' := .dK (ks2.zip acc2)) nf S5
                    obtain ⟨A7, le7, S7⟩ := S6.wipe vs
                    rw [hw] at S7
                    have ku : Keep (Mz ((Z.waits l).wait D (.dK (ks.zip acc))) A5) H5 (upd H5 D (.dK (ks2.zip acc2))) := Keep.upd wait_in
                    have l7 : Le A7 A' := le7.trans l5
                    have k7 : Keep (Mz ((Z.waits l).wait D (.dK (ks.zip acc))) A') H' (upd H5 D (.dK (ks2.zip acc2))) := k5'.trans (ku.mono fun b m => l5.mz b m) fun _ _ _ m => m
                    refine ⟨A7, wipeG γ6 vs, ks2, acc2, rs2, S7, fun j hj => wipeG_at hj, ?_, ?_, hc2, el, l7.trans le', kk l7 k7, er⟩
                    · exact (hr _ ku).keep .refl fun b _ _ m => le7.mz b (wait_same b m)
                    · have p5 := K.stp p4 S4 S5 (.of le5 k5)
                      have p6 := K.rew (o' := .dK (ks2.zip acc2)) nsrc p5
                      exact K.stp p6 S6 S7 (.of le7 .refl)
                  split at hc
                  · rename_i hin
                    have hin' : k ∈ ks := (dFind_some (k := k) (vs := rs) (ks := ks) hkl').mp hin
                    refine fin ks _ (dVals ks rs k c.v) (putK_in hkl hin') (by rw [zipW_len hkl]; exact hkl) ?_ (fun H6 k6 => ?_) hc
                    · unfold dVals
                      rw [List.length_zipWith, hkl', Nat.min_self]
                      omega
                    · exact (vals_rep hs5.rep hrs5 hkl).keep k6 fun _ _ _ m => m
                  · rename_i hin
                    have hin' : k ∉ ks := fun h => hin ((dFind_some (k := k) (vs := rs) (ks := ks) hkl').mpr h)
                    refine fin (ks ++ [k]) (acc ++ [yv]) (rs ++ [c.v]) (putK_out hkl hin') (by simp [hkl]) (by simp; omega) (fun H6 k6 => ?_) hc
                    exact (Reps.app hrs5 (Reps.one hs5.rep)).keep k6 fun _ _ _ m => m
        · have e : i = ms.length := by omega
          subst e
          rw [List.drop_length] at hc
          simp only [dcompM] at hc
          cases hc
          refine .inl ⟨K.stop p', ?_⟩
          have k0 : Keep (Mz Z A) H H' := Keep.waits k' T.nw T.kp T.le
          have nD0 : H D = none := T.kp.isnone nD
          have S'' := S'
          rw [← waits_wait] at S''
          have Sz : Sim (GX X) (Z.wait D (.dK (kall.zip acc))) A' γf (L2.wipe σ vs) H' := S''.drops
          refine h (.ref D) A' H' ⟨D, .dK (kall.zip acc), rfl, nD0, fun m => ?_, ?_, ?_⟩ (le'.trans T.le) k0
          · obtain ⟨o, ho⟩ := S.mf D m
            rw [nD0] at ho
            cases ho
          · simp only [Own]
            exact ⟨acc, S'.waits, hkl, hrs.keep .refl fun b _ _ m => by
              rw [mz_wait] at m ⊢
              exact m.imp_left fun m => (waits_mz l b).mpr (.inl m)⟩
          · exact Sim.backG S1 Sz hv k' fun b o hb m => by
              rcases (mz_wait b).mp m with m | rfl
              · exact (waits_mz l b).mpr (.inl (le'.mz b m))
              · rw [nD] at hb; cases hb
section
variable {X : Cx} {kx elt tg iter : Expr} {ifs : List Expr} {scope : Scope} {own : List (Str × Nat)} {pos : Pos} {t : Tg} {fi : FI} {tt : FT} {fk f : FE}
theorem re_dc (hc : X.calm = true) (hN : X.N.Nodup) (hi : RI X tg iter fi) (ok : BlkOk X.N X.env.scope scope own)
    (hg : ∀ (s : Shared) (H : Hp) (C : Addr) (cl : List (Str × Addr)) (fp : List Addr), RG (X.blk s H scope (compEnvC scope cl C X.env) fp) tg t)
    (ht : ∀ (s : Shared) (H : Hp) (C : Addr) (cl : List (Str × Addr)) (fp : List Addr), RTs (X.blk s H scope (compEnvC scope cl C X.env) fp) ifs tt)
    (hk : ∀ (s : Shared) (H : Hp) (C : Addr) (cl : List (Str × Addr)) (fp : List Addr), RE (X.blk s H scope (compEnvC scope cl C X.env) fp) kx fk)
    (he : ∀ (s : Shared) (H : Hp) (C : Addr) (cl : List (Str × Addr)) (fp : List Addr), RE (X.blk s H scope (compEnvC scope cl C X.env) fp) elt f)
    (hsub : ∀ i ∈ t.slots, i ∈ own.map (·.2) := by decide) (hs : ∀ x, foldedSetIterable iter X.env x = pure x := by intro _; rfl) :
    RE X (.DictComp kx elt [⟨tg, iter, ifs, 0⟩] scope pos) (eDcomp t fi tt fk f (own.map (·.2))) := fun W tk =>
  PE_imp (pe_dc (g := tMG (GX X) t) (tt := tMT (GX X) tt Bot) (tk := tME (GX X) fk Bot) (tv := tME (GX X) f Bot) hc hN (hi W tk) ok (fun s H C cl fp => hg s H C cl fp) (fun s H C cl fp => ht s H C cl fp Bot takes_bot) (fun s H C cl fp => hk s H C cl fp Bot takes_bot) (fun s H C cl fp => he s H C cl fp Bot takes_bot) hs) fun σ H Q h => dcomp_end hsub h
end
end Mi

set_option Elab.async false
set_option linter.all false
set_option maxRecDepth 100000
set_option maxHeartbeats 4000000
/-! classes with slots: attributes, methods, properties -/
namespace Mi
open PySem PySem.Spec PyProof.Rows L2 My

def tbF {α : Type} : List (Str × α) → Str → Option α
  | [], _ => none
  | p :: r, C => if p.1 = C then some p.2 else tbF r C
theorem tbF_mem {α : Type} {C : Str} {a : α} : ∀ {tb : List (Str × α)}, tbF tb C = some a → (C, a) ∈ tb
  | [], h => by cases h
  | p :: r, h => by
    unfold tbF at h
    split at h
    · rename_i e
      cases h
      subst e
      exact List.mem_cons_self
    · exact List.mem_cons_of_mem _ (tbF_mem h)
/-- class p.1 has its slot p.2 as attribute f -/
structure AtF (K : PySem.W.Frag) (f : Str) (p : Str × Nat) : Prop where
  ne : p.1 ≠ ("" : Str)
  c : SlX.SCls K (He.ga K p.1)
  s : SlX.Slot1 K (He.ga K p.1) f (He.ma K (He.ga K p.1) f) p.2
def atrM (tb : List (Str × Nat)) : MV → Option Cell
  | .ins C vs => (tbF tb C).bind fun i => (vs[i]?).map vV
  | _ => none
theorem rb_ins {G : GG} {M : Addr → Prop} {H : Hp} {C : Str} {ms : List MV} {x : V} (n : C ≠ ("" : Str)) (h : RepB G M H (.ins C ms) x) : ∃ a dx vs, x = .ref a ∧ SlX.Slt H a (He.ga G.K C) dx (vs.map some) ∧ Reps G M H ms vs ∧ Rep G M H (.ins C ms) (.ref a) := by
  rcases h with h | ⟨a, rfl, h⟩
  · have h0 := h
    simp only [Rep] at h
    rcases h with ⟨e, _⟩ | ⟨a, dx, vs, rfl, h1, h2, _, _, h3⟩
    · exact absurd e n
    · exact ⟨a, dx, vs, rfl, .inr ⟨h1, h2⟩, h3, h0⟩
  · simp only [Own] at h
    exact absurd h.1 n
section
variable {X : Cx} {a e o : Expr} {es : List Expr} {q : Opd} {pos apos p : Pos} {f m : Str} {ff : FE} {fa : FA} {k j n : Nat} {pl : Sem Bool}
theorem re_attr {tb : List (Str × Nat)} (ht : ∀ p ∈ tb, AtF X.K f p) (ha : RQ X a q) (hb : attributeBase a f X.env (eval a X.env) = eval a X.env := by rfl) : RE X (.Attribute a f pos) (e1 (atrM tb) q) := fun W tk =>
  PE_imp (SlX.pe_sl (ha W tk) hb) fun σ H Q h => one (r := fun x H1 Q => ∃ a C dx p vs i v, x = .ref a ∧ SlX.Slt H1 a C dx vs ∧ SlX.SCls X.K C ∧ SlX.Slot1 X.K C f p i ∧ vs[i]? = some (some v) ∧ Q v H1) (fun M v c x H Q tr e rv qq => by
    unfold atrM at e
    split at e
    · rename_i C ms
      obtain ⟨i, e1, e⟩ := Option.bind_eq_some_iff.mp e
      obtain ⟨m, e2, rfl⟩ := Option.map_eq_some_iff.mp e
      have A := ht _ (tbF_mem e1)
      obtain ⟨a, dx, vs, rfl, h1, h2, _⟩ := rb_ins A.ne rv
      obtain ⟨y, hy, ry⟩ := h2.get e2
      exact ⟨a, _, dx, _, _, i, y, rfl, h1, A.c, A.s, by rw [List.getElem?_map, hy]; rfl, qq y H (.refl _) (res_val ry)⟩
    · cases e) h
/-! ### methods -/
def MthM (P : Program) (w : World) (K : PySem.W.Frag) (mg : Str → Option Value) (base : Heap) (k : Nat) (C m : Str) (ps : List Str) (F : List MV → RF) : Prop :=
  C ≠ ("" : Str) ∧ ∃ fd, FnG P w K mg base k (He.ma K (He.ga K C) m) fd ps (spM P w K ps.length none F) ∧ Binds K fd ps [] ∧ SlX.SCls K (He.ga K C) ∧ Meth K (He.ga K C) m (He.ma K (He.ga K C) m)
def eMeth (tb : List (Str × (List MV → RF))) (f : FE) (fa : FA) : FE := fun γ => match f γ with
  | .ok c γ1 => (match c.v with
    | .ins C vs => (match tbF tb C with
      | some F => (match fa γ1 with
        | .ok ms γ2 => (match F (.ins C vs :: ms) with
          | .rt c _ => .ok c γ2
          | .ex e _ => .ex e γ2
          | .no => .no)
        | .ex e γ2 => .ex e γ2
        | .no => .no)
      | none => .no)
    | _ => .no)
  | .ex e γ1 => .ex e γ1
  | .no => .no
def tMethG (X : Cx) (m : Str) (k n : Nat) (E : L2.St → XK) (ta : TE) (t : TA) : TE := fun σ H Q => ta σ H fun x H1 => ∃ C F a dx vs ps, x = V.ref a ∧ ps.length = n + 1 ∧ SlX.Slt H1 a (He.ga X.K C) dx vs ∧ MthM X.prog X.w X.K X.mg X.base k C m ps F ∧ t σ H1 fun ws H2 => spM X.prog X.w X.K (n + 1) none F (V.ref a :: ws) H2 Q (E σ)
theorem pe_methG {E : L2.St → XK} {ta : TE} {t : TA} (hr : Room j X.A) (hgd : X.A.guards = some []) (hx : ∀ σ (pins : List (Addr × Obj)) (H : Hp) (s : Shared) (e : Value) (s' : Shared), L2.Inv X pins σ H s → CX X.prog X.w X.stack H s (E σ) e s' → X.xe e s') (he : PE X o ta) (ha : PA X (e :: es) t) (hk : k ≤ j)
    (hst : starEach (e :: es) X.env = (false, eval e X.env) :: starEach es X.env) (hpl : (backTo pos (starEach es X.env)).any (·.1) = false)
    (ht : eval (.Call (.Attribute o m apos) (e :: es) [] pos) X.env = (do
      let ov ← eval o X.env
      standAt apos.atName
      let (f, first) ← holding [ov] (getMethod ov m pl)
      callWith pos f first (backTo pos (starEach (e :: es) X.env)) (backToKw pos (keywordEach [] X.env)))) :
    PE X (.Call (.Attribute o m apos) (e :: es) [] pos) (tMethG X m k n E ta t) := by
  refine ⟨fun pins s σ H Q I h => ?_⟩
  refine PySem.W.methodCall_KW (pl := pl) (thn (he.run pins s σ H _ I h) fun u s1 ⟨x, H1, I1, rx, C, F, a, dx, vs, ps, ex, hps, hsl, ⟨_, fd, G, b, c, hm⟩, q⟩ => ?_) ht
  subst ex
  obtain rfl : u = Value.ref a := rx
  refine SlX.getmethsl_ok I1 hsl c hm ?_
  refine PySem.W.callWith_K (first := [.ref a]) (h₀ := X.base) I.ok.mod.kin hm.kp (thn (ha.run pos pins s1 σ H1 _ I1 q) fun us s2 ⟨ws, H2, I2, r, q2⟩ => ⟨I2.kIn, ?_⟩) hst hpl
  exact run_fnG (us := .ref a :: us) (vs := .ref a :: ws) G (hr.mono hk) hgd b .nil (hx σ) I2 (.cons rfl r) (by rw [List.append_nil, hps]; exact q2)
theorem pe_methG0 {E : L2.St → XK} {ta : TE} (hr : Room j X.A) (hgd : X.A.guards = some []) (hx : ∀ σ (pins : List (Addr × Obj)) (H : Hp) (s : Shared) (e : Value) (s' : Shared), L2.Inv X pins σ H s → CX X.prog X.w X.stack H s (E σ) e s' → X.xe e s') (he : PE X o ta) (hk : k ≤ j)
    (ht : eval (.Call (.Attribute o m apos) [] [] pos) X.env = (do
      let ov ← eval o X.env
      standAt apos.atName
      let (f, first) ← holding [ov] (getMethod ov m pl)
      callWith pos f first (backTo pos (starEach [] X.env)) (backToKw pos (keywordEach [] X.env)))) :
    PE X (.Call (.Attribute o m apos) [] [] pos) (tMethG X m k 0 E ta tNil) := by
  refine ⟨fun pins s σ H Q I h => ?_⟩
  refine PySem.W.methodCall_KW (pl := pl) (thn (he.run pins s σ H _ I h) fun u s1 ⟨x, H1, I1, rx, C, F, a, dx, vs, ps, ex, hps, hsl, ⟨_, fd, G, b, c, hm⟩, q⟩ => ?_) ht
  subst ex
  obtain rfl : u = Value.ref a := rx
  refine SlX.getmethsl_ok I1 hsl c hm ?_
  exact PySem.W.callWith_K0 I1.kIn hm.kp (run_fnG (us := [.ref a]) (vs := [.ref a]) G (hr.mono hk) hgd b .nil (hx σ) I1 (.cons rfl .nil) (by rw [List.append_nil, hps]; exact q))
/-- a table of methods of one name -/
def MTb (X : Cx) (k n : Nat) (m : Str) (tb : List (Str × (List MV → RF))) : Prop := ∀ p ∈ tb, ∃ ps : List Str, ps.length = n + 1 ∧ MthM X.prog X.w X.K X.mg X.base k p.1 m ps p.2
theorem re_meth {tb : List (Str × (List MV → RF))} (ht : MTb X k n m tb) (hr : Room j X.A) (hgd : X.A.guards = some []) (he : RE X o ff) (ha : RA X (e :: es) fa) (hl : Lim n fa) (hk : k ≤ j := by decide)
    (hst : starEach (e :: es) X.env = (false, eval e X.env) :: starEach es X.env := by rfl) (hpl : (backTo pos (starEach es X.env)).any (·.1) = false := by rfl)
    (hv : eval (.Call (.Attribute o m apos) (e :: es) [] pos) X.env = (do
      let ov ← eval o X.env
      standAt apos.atName
      let (f, first) ← holding [ov] (getMethod ov m pl)
      callWith pos f first (backTo pos (starEach (e :: es) X.env)) (backToKw pos (keywordEach [] X.env))) := by rfl) :
    RE X (.Call (.Attribute o m apos) (e :: es) [] pos) (eMeth tb ff fa) := fun W tk => by
  refine PE_imp (pe_methG (n := n) (k := k) (E := fun σ cls d H => W cls d σ H) hr hgd (xpass tk) (he W tk) (ha W tk) hk hst hpl hv) fun σ H Q ⟨Z, A, γ, S, h⟩ => ⟨Z, A, γ, S, ?_⟩
  unfold eMeth at h
  cases E1 : ff γ with
  | no => rw [E1] at h; exact h
  | ex e γ1 => rw [E1] at h; exact h
  | ok c γ1 =>
    rw [E1] at h
    simp only at h
    intro x A1 H1 hs le1 k1
    cases ec : c.v with
    | ins C vs =>
      have hrep := hs.rep
      rw [ec] at h hrep
      simp only at h
      cases E2 : tbF tb C with
      | none => rw [E2] at h; exact h.elim
      | some F =>
        rw [E2] at h
        simp only at h
        obtain ⟨ps, hps, M⟩ := ht _ (tbF_mem E2)
        obtain ⟨a, dx, ws, rfl, h1, _, hrp⟩ := rb_ins M.1 (.inl hrep)
        have S1 := hs.sim
        refine ⟨C, F, a, dx, _, ps, rfl, hps, h1, M, Z, A1, γ1, S1, ?_⟩
        cases E3 : fa γ1 with
        | no => rw [E3] at h; exact h
        | ex e γ2 => rw [E3] at h; exact fun A2 H2 cls d S le2 kk => h A2 H2 cls d S (le2.trans le1) (k1.trans kk fun b _ _ m => le1.mz b m)
        | ok ms γ2 =>
          rw [E3] at h
          intro xs A2 H2 S2 le2 kk r2
          have q := call_end (F := F) (ms := .ins C vs :: ms) (xs := .ref a :: xs) (n := n + 1) (Q := Q) S2 (le2.trans le1) (k1.trans kk fun b _ _ m => le1.mz b m) (Reps.consI (hrp.keep kk fun b _ _ m => le2.mz b m) r2) (by rw [List.length_cons, hl _ _ _ E3]) h
          rwa [List.append_nil] at q
    | _ => rw [ec] at h; exact h.elim
theorem re_meth0 {tb : List (Str × (List MV → RF))} (ht : MTb X k 0 m tb) (hr : Room j X.A) (hgd : X.A.guards = some []) (he : RE X o ff) (hk : k ≤ j := by decide)
    (hv : eval (.Call (.Attribute o m apos) [] [] pos) X.env = (do
      let ov ← eval o X.env
      standAt apos.atName
      let (f, first) ← holding [ov] (getMethod ov m pl)
      callWith pos f first (backTo pos (starEach [] X.env)) (backToKw pos (keywordEach [] X.env))) := by rfl) :
    RE X (.Call (.Attribute o m apos) [] [] pos) (eMeth tb ff aNil) := fun W tk => by
  refine PE_imp (pe_methG0 (k := k) (E := fun σ cls d H => W cls d σ H) hr hgd (xpass tk) (he W tk) hk hv) fun σ H Q ⟨Z, A, γ, S, h⟩ => ⟨Z, A, γ, S, ?_⟩
  unfold eMeth at h
  cases E1 : ff γ with
  | no => rw [E1] at h; exact h
  | ex e γ1 => rw [E1] at h; exact h
  | ok c γ1 =>
    rw [E1] at h
    simp only at h
    intro x A1 H1 hs le1 k1
    cases ec : c.v with
    | ins C vs =>
      have hrep := hs.rep
      rw [ec] at h hrep
      simp only at h
      cases E2 : tbF tb C with
      | none => rw [E2] at h; exact h.elim
      | some F =>
        rw [E2] at h
        simp only at h
        obtain ⟨ps, hps, M⟩ := ht _ (tbF_mem E2)
        obtain ⟨a, dx, ws, rfl, h1, _, hrp⟩ := rb_ins M.1 (.inl hrep)
        have S1 := hs.sim
        refine ⟨C, F, a, dx, _, ps, rfl, hps, h1, M, ?_⟩
        have E3 : aNil γ1 = .ok [] γ1 := rfl
        rw [E3] at h
        have q := call_end (F := F) (ms := [.ins C vs]) (xs := [.ref a]) (n := 0 + 1) (Q := Q) S1 le1 k1 (Reps.consI hrp Reps.nil) rfl h
        rwa [List.append_nil] at q
    | _ => rw [ec] at h; exact h.elim
/-! ### properties -/
def PrpM (P : Program) (w : World) (K : PySem.W.Frag) (mg : Str → Option Value) (base : Heap) (k : Nat) (C f : Str) (F : List MV → RF) : Prop :=
  C ≠ ("" : Str) ∧ SlX.SCls K (He.ga K C) ∧ ∃ p g fd ps, ps.length = 1 ∧ FnG P w K mg base k g fd ps (spM P w K 1 none F) ∧ Binds K fd ps [] ∧ PropOf K (He.ga K C) f p g
theorem getprop_G {a C dx p g : Addr} {vs : List (Option V)} {E : L2.St → XK} {sp : Sp} {fd : FuncData} {ps : List Str} {pins : List (Addr × Obj)} {s : Shared} {σ : L2.St} {H : Hp} {b : Bool} {Q : VK} (I : L2.Inv X pins σ H s) (h : SlX.Slt H a C dx vs) (c : SlX.SCls X.K C) (pr : PropOf X.K C f p g)
    (F : FnG X.prog X.w X.K X.mg X.base k g fd ps sp) (hb : Binds X.K fd ps []) (hr : Room (k + 1) X.A) (hgd : X.A.guards = some []) (hx : ∀ (pins : List (Addr × Obj)) (H : Hp) (s : Shared) (e : Value) (s' : Shared), L2.Inv X pins σ H s → CX X.prog X.w X.stack H s (E σ) e s' → False) (hl : ps.length = 1)
    (q : sp [.ref a] H Q (E σ)) : wpAny (model X.prog X.w) X.A (getAttr (.ref a) f b) (EP X pins σ Q) X.xe s := by
  obtain ⟨sl, od, _, J, _⟩ := SlX.slt_inst I h
  obtain ⟨at_, get, tk, rest, hrec⟩ := pr
  have I1 : L2.Inv X pins σ H { s with toks := s.toks + 1 } := I.tok (s.toks + 1)
  refine PySem.W.get_bind I.kIn J (PySem.W.plainGet_of (c.get f)).1 (PySem.W.findObj_data c.ic at_ get tk) (PySem.W.plainGet_of (c.get f)).2 (wpAny_call (PySem.W.prop_get (s := { s with toks := s.toks + 1 }) I.kIn hrec ?_))
  refine codeAny_mono (F.run X.A.in1 X.stack { s with toks := s.toks + 1 } H ⟨[.ref a], []⟩ [.ref a] [.ref a] Q (E σ) hr.in1 hgd I1.env0.in1 ?_ (.cons rfl .nil) q) fun r s' hq => ?_
  · have := hb { s with toks := s.toks + 1 } [.ref a] I.kIn (by rw [List.append_nil]; exact hl.symm)
    rwa [List.append_nil] at this
  cases r with
  | error e => exact (hx _ _ _ _ _ I1 hq).elim
  | ok fl =>
    cases fl with
    | ret u =>
      obtain ⟨v, H', I2, rv, q⟩ := I1.after hq
      exact wpAny_of_eq (PySem.W.handedOut_of (handed_of rv)) ⟨v, H', I2, rv, q⟩
    | next => exact False.elim hq
    | brk => exact False.elim hq
    | cont => exact False.elim hq
/-- e.f, a property (one that does not raise) -/
def eProp (tb : List (Str × (List MV → RF))) (f : FE) : FE := fun γ => match f γ with
  | .ok c γ1 => (match c.v with
    | .ins C vs => (match tbF tb C with
      | some F => (match F [.ins C vs] with
        | .rt c _ => .ok c γ1
        | _ => .no)
      | none => .no)
    | _ => .no)
  | .ex e γ1 => .ex e γ1
  | .no => .no
theorem re_prop {tb : List (Str × (List MV → RF))} (ht : ∀ p ∈ tb, PrpM X.prog X.w X.K X.mg X.base k p.1 f p.2) (hr : Room j X.A) (hgd : X.A.guards = some []) (he : RE X o ff) (hk : k + 1 ≤ j := by decide)
    (hb : attributeBase o f X.env (eval o X.env) = eval o X.env := by rfl) : RE X (.Attribute o f pos) (eProp tb ff) := fun W tk => by
  refine ⟨fun pins s σ H Q I h => ?_⟩
  refine attr_of hb (thn ((he W tk).run pins s σ H (fun x H1 => ∃ C F a dx vs, (C, F) ∈ tb ∧ x = V.ref a ∧ SlX.Slt H1 a (He.ga X.K C) dx vs ∧ spM X.prog X.w X.K 1 none F [.ref a] H1 Q (fun _ _ _ => False)) I ?_) fun w s1 ⟨x, H1, I1, rx, C, F, a, dx, vs, mem, ex, hs, q⟩ => ?_)
  · obtain ⟨Z, A, γ, S, h⟩ := h
    refine ⟨Z, A, γ, S, ?_⟩
    unfold eProp at h
    cases E1 : ff γ with
    | no => rw [E1] at h; exact h
    | ex e γ1 => rw [E1] at h; exact h
    | ok c γ1 =>
      rw [E1] at h
      simp only at h
      intro x A1 H1 hs le1 k1
      cases ec : c.v with
      | ins C vs =>
        have hrep := hs.rep
        rw [ec] at h hrep
        simp only at h
        cases E2 : tbF tb C with
        | none => rw [E2] at h; exact h.elim
        | some F =>
          rw [E2] at h
          simp only at h
          have M := ht _ (tbF_mem E2)
          obtain ⟨a, dx, ws, rfl, h1, _, hrp⟩ := rb_ins M.1 (.inl hrep)
          refine ⟨C, F, a, dx, _, tbF_mem E2, rfl, h1, ?_⟩
          cases E3 : F [.ins C vs] with
          | no => rw [E3] at h; exact h.elim
          | ex e o => rw [E3] at h; exact h.elim
          | rt c2 o =>
            rw [E3] at h
            have q := call_end (F := F) (ms := [.ins C vs]) (xs := [.ref a]) (n := 0 + 1) (Q := Q) (W := Bot) hs.sim le1 k1 (Reps.consI hrp Reps.nil) rfl (by rw [E3]; exact h)
            rwa [List.append_nil] at q
      | _ => rw [ec] at h; exact h.elim
  · subst ex
    obtain rfl : w = Value.ref a := rx
    obtain ⟨_, c, p, g, fd, ps, hl, G, hbd, pr⟩ := ht _ mem
    exact getprop_G (E := fun _ _ _ _ => False) I1 hs c pr G hbd (hr.mono hk) hgd (fun pins H s e s' I2 cx => by obtain ⟨_, _, _, _, _, _, _, _, _, _, _, _, hE⟩ := cx; exact hE) hl q
end
end Mi

set_option Elab.async false
set_option linter.all false
set_option maxRecDepth 100000
set_option maxHeartbeats 4000000
/-! classes with slots: making instances -/
namespace Mi
open PySem PySem.Spec PyProof.Rows L2 My

/-- what __init__ leaves: the slots -/
inductive RIF where
  | rt (fs : List MV) | ex (e : Ex) | no
abbrev selfV : MV := .ins ("" : Str) []
/-- the instance while it is made: so many slots are filled -/
def oI (a C dx : Addr) : List (Option V) → HO
  | [] => .ins C dx []
  | v :: vs => SlX.SlO a C dx (v :: vs)
def dI (a : Addr) : List (Option V) → HO
  | [] => .own a
  | _ => .xd []
theorem slt_oI {H : Hp} {a C dx : Addr} {vs : List (Option V)} (h1 : H a = some (oI a C dx vs)) (h2 : H dx = some (dI a vs)) : SlX.Slt H a C dx vs := by
  cases vs with
  | nil => exact .inl ⟨h1, rfl⟩
  | cons v vs => exact .inr ⟨h1, h2⟩
def entI (H : Hp) (M : Addr → Prop) (a C dx : Addr) (vs : List (Option V)) : Ent :=
  ⟨H, fun b => M b ∨ b = a ∨ b = dx, fun b o => (H b = some o ∧ b ≠ a ∧ b ≠ dx) ∨ (b = a ∧ o = oI a C dx vs) ∨ (b = dx ∧ o = dI a vs), fun _ => none, fun i => if i = 0 then some (a, oI a C dx vs) else none,
    fun i p h => by
      split at h
      · cases h; exact .inr (.inl ⟨rfl, rfl⟩)
      · cases h⟩
/-- some slots hold what is told of them -/
def OReps (G : GG) (M : Addr → Prop) (H : Hp) (ms : List (Option MV)) (vs : List (Option V)) : Prop := vs.length = ms.length ∧ ∀ (i : Nat) m, ms[i]? = some (some m) → ∃ v, vs[i]? = some (some v) ∧ Rep G M H m v
def putM (i : Nat) (v : MV) (vs : List (Option MV)) : List (Option MV) := (vs ++ List.replicate (i + 1 - vs.length) none).set i (some v)
theorem putM_get (i : Nat) (v : MV) (vs : List (Option MV)) : (putM i v vs)[i]? = some (some v) := by
  unfold putM
  exact List.getElem?_set_self (by simp only [List.length_append, List.length_replicate]; omega)
theorem putM_ne {i j : Nat} {v x : MV} {vs : List (Option MV)} (h : j ≠ i) (e : (putM i v vs)[j]? = some (some x)) : vs[j]? = some (some x) := by
  unfold putM at e
  rw [List.getElem?_set_ne (Ne.symm h)] at e
  rcases Nat.lt_or_ge j vs.length with hl | hl
  · rwa [List.getElem?_append_left hl] at e
  · rw [List.getElem?_append_right hl, List.getElem?_replicate] at e
    split at e <;> cases e
theorem putM_len (i : Nat) (v : MV) (vs : List (Option MV)) : (putM i v vs).length = max vs.length (i + 1) := by
  unfold putM
  rw [List.length_set, List.length_append, List.length_replicate]
  omega
theorem putS_len (i : Nat) (v : V) (vs : List (Option V)) : (SlX.putS i v vs).length = max vs.length (i + 1) := by
  unfold SlX.putS
  rw [List.length_set, List.length_append, List.length_replicate]
  omega
section
variable {G : GG} {M M' : Addr → Prop} {H H' H0 : Hp} {ms : List (Option MV)} {vs : List (Option V)} {a dx C : Addr} {A A' : AM} {γ γ' : Sg} {σ σ' : L2.St}
theorem OReps.keep (k : Keep M H H') (m : ∀ b o, H b = some o → M' b → M b) (h : OReps G M H ms vs) : OReps G M' H' ms vs := by
  obtain ⟨h0, h⟩ := h
  refine ⟨h0, fun i x e => ?_⟩
  obtain ⟨v, h1, h2⟩ := h i x e
  exact ⟨v, h1, h2.keep k m⟩
theorem OReps.put {i : Nat} {m : MV} {v : V} (h : OReps G M H ms vs) (r : Rep G M H m v) : OReps G M H (putM i m ms) (SlX.putS i v vs) := by
  refine ⟨by rw [putM_len, putS_len, h.1], fun j x e => ?_⟩
  by_cases hj : j = i
  · subst hj
    rw [putM_get] at e
    cases e
    exact ⟨v, SlX.putS_get j v vs, r⟩
  · obtain ⟨y, h1, h2⟩ := h.2 j x (putM_ne hj e)
    exact ⟨y, (SlX.putS_ne hj).mpr h1, h2⟩
/-- the state within __init__ -/
structure SI (G : GG) (C : Str) (H0 : Hp) (M : Addr → Prop) (a dx : Addr) (A : AM) (γ : Sg) (ms : List (Option MV)) (vs : List (Option V)) (σ : L2.St) (H : Hp) : Prop where
  ne : dx ≠ a
  or : OReps G (Mz (entI H0 M a (He.ga G.K C) dx vs) A) H ms vs
  sim : Sim G (entI H0 M a (He.ga G.K C) dx vs) A γ σ H
def insB : MV → Bool
  | .ins _ _ => true
  | _ => false
def selfOk (γ : Sg) : Bool := match (γ[(0 : Nat)]? : Option (Option Cell)) with
  | some (some ⟨.lown, v⟩) => insB v
  | _ => false
theorem selfOk_at {γ : Sg} (h : selfOk γ = true) : ∃ C ms, γ[0]? = some (some ⟨.lown, .ins C ms⟩) := by
  unfold selfOk at h
  split at h
  · rename_i v e
    cases v <;> first | exact ⟨_, _, e⟩ | cases h
  · cases h
theorem SI.self {Cn : Str} (S : SI G Cn H0 M a dx A γ ms vs σ H) (h : selfOk γ = true) : σ[0]? = some (some (.ref a)) := by
  obtain ⟨C, ms, e⟩ := selfOk_at h
  obtain ⟨x, h1, h2⟩ := S.sim.cell 0 _ e
  obtain ⟨_, a', o, e2, rfl, _⟩ := h2
  cases e2
  exact h1
/-- a store into a slot of the instance -/
theorem SI.put {Cn : Str} {i : Nat} {m : MV} {y : V} (S : SI G Cn H0 M a dx A γ ms vs σ H) (hs : selfOk γ = true) (r : Rep G (Mz (entI H0 M a (He.ga G.K Cn) dx vs) A) H m y) :
    SI G Cn H0 M a dx A γ (putM i m ms) (SlX.putS i y vs) σ (SlX.slH H a (He.ga G.K Cn) dx (SlX.putS i y vs)) ∧ Keep (Mz (entI H0 M a (He.ga G.K Cn) dx vs) A) H (SlX.slH H a (He.ga G.K Cn) dx (SlX.putS i y vs)) := by
  have hne : ∃ w ws, SlX.putS i y vs = w :: ws := by
    cases e : SlX.putS i y vs with
    | nil => have := putS_len i y vs; rw [e] at this; simp at this; omega
    | cons w ws => exact ⟨w, ws, rfl⟩
  obtain ⟨w, ws, ew⟩ := hne
  have eo : oI a (He.ga G.K Cn) dx (SlX.putS i y vs) = SlX.SlO a (He.ga G.K Cn) dx (SlX.putS i y vs) := by rw [ew]; rfl
  have ed : dI a (SlX.putS i y vs) = .xd [] := by rw [ew]; rfl
  have out : ∀ b, b ≠ a → b ≠ dx → SlX.slH H a (He.ga G.K Cn) dx (SlX.putS i y vs) b = H b := fun b h1 h2 => SlX.slH_ne h1 h2
  have ha : SlX.slH H a (He.ga G.K Cn) dx (SlX.putS i y vs) a = some (SlX.SlO a (He.ga G.K Cn) dx (SlX.putS i y vs)) := by unfold SlX.slH; exact upd_same
  have hd : SlX.slH H a (He.ga G.K Cn) dx (SlX.putS i y vs) dx = some (.xd []) := by unfold SlX.slH; rw [upd_ne S.ne, upd_same]
  have k : Keep (Mz (entI H0 M a (He.ga G.K Cn) dx vs) A) H (SlX.slH H a (He.ga G.K Cn) dx (SlX.putS i y vs)) := ⟨fun b o n h => by
    rw [out b (fun z => n (.inl (.inr (.inl z)))) fun z => n (.inl (.inr (.inr z)))]
    exact h, fun b o h => by
    by_cases h1 : b = a
    · exact ⟨_, by rw [h1]; exact ha⟩
    · by_cases h2 : b = dx
      · exact ⟨_, by rw [h2]; exact hd⟩
      · exact ⟨o, by rw [out b h1 h2]; exact h⟩⟩
  have nA : ∀ j b, A j = some b → b ≠ a ∧ b ≠ dx := fun j b e => by
    obtain ⟨_, _, h, _⟩ := S.sim.adr j b e
    exact ⟨fun z => h _ (.inr (.inl ⟨z, rfl⟩)), fun z => h _ (.inr (.inr ⟨z, rfl⟩))⟩
  refine ⟨⟨S.ne, (S.or.put r).keep k fun _ _ _ m => m, ?_⟩, k⟩
  refine ⟨S.sim.len, fun j c hj => ?_, fun j b hj => ?_, S.sim.inj, fun b m => ?_, fun b u hb => ?_, fun b u hb => let ⟨u', h'⟩ := S.sim.new b u hb; k.on b u' h'⟩
  · obtain ⟨x, h1, h2⟩ := S.sim.cell j c hj
    refine ⟨x, h1, ?_⟩
    obtain ⟨kd, v⟩ := c
    have low : A j = none ∧ (∃ a' o, (entI H0 M a (He.ga G.K Cn) dx vs).ln j = some (a', o) ∧ x = .ref a' ∧ Own G (Mz (entI H0 M a (He.ga G.K Cn) dx vs) A) H v a') →
        A j = none ∧ ∃ a' o, (entI H0 M a (He.ga G.K Cn) dx (SlX.putS i y vs)).ln j = some (a', o) ∧ x = .ref a' ∧ Own G (Mz (entI H0 M a (He.ga G.K Cn) dx (SlX.putS i y vs)) A) (SlX.slH H a (He.ga G.K Cn) dx (SlX.putS i y vs)) v a' := by
      rintro ⟨e1, a', o, e2, e3, ow⟩
      refine ⟨e1, a', oI a (He.ga G.K Cn) dx (SlX.putS i y vs), ?_, e3, ?_⟩
      · have e2 : (if j = 0 then some (a, oI a (He.ga G.K Cn) dx vs) else none) = some (a', o) := e2
        show (if j = 0 then some (a, oI a (He.ga G.K Cn) dx (SlX.putS i y vs)) else none) = _
        split at e2
        · rename_i ej
          cases e2
          rw [if_pos ej]
        · cases e2
      · have e2 : (if j = 0 then some (a, oI a (He.ga G.K Cn) dx vs) else none) = some (a', o) := e2
        split at e2
        · rename_i ej
          subst ej
          cases e2
          obtain ⟨C', ms', e0⟩ := selfOk_at hs
          rw [e0] at hj
          cases hj
          simp only [Own] at ow ⊢
          exact ⟨ow.1, _, ha⟩
        · cases e2
    cases kd with
    | val => exact ⟨h2.1, h2.2.keep k fun _ _ _ m => m⟩
    | own => obtain ⟨b, e1, e2, h⟩ := h2; exact ⟨b, e1, e2, h.keep k (fun _ _ _ m => m) fun o z => by rw [out b (nA j b e1).1 (nA j b e1).2]; exact z⟩
    | io => obtain ⟨b, e1, e2, h⟩ := h2; exact ⟨b, e1, e2, h.keep k (fun _ _ _ m => m) fun o z => by rw [out b (nA j b e1).1 (nA j b e1).2]; exact z⟩
    | lown => exact low h2
    | lio => exact low h2
  · obtain ⟨c, h1, h2, h3⟩ := S.sim.adr j b hj
    obtain ⟨n1, n2⟩ := nA j b hj
    exact ⟨c, h1, fun u hu => hu.elim (fun hu => h2 u (.inl hu)) fun hu => hu.elim (fun z => n1 z.1) fun z => n2 z.1, h3⟩
  · obtain ⟨u, hu⟩ := S.sim.mf b m
    exact k.on b u hu
  · rcases hb with hb | ⟨rfl, rfl⟩ | ⟨rfl, rfl⟩
    · rw [out b hb.2.1 hb.2.2]
      exact S.sim.fr b u (.inl hb)
    · rw [eo]; exact ha
    · rw [ed]; exact hd
end
/-! ### the statements of __init__ -/
inductive ROI where
  | nx (γ : Sg) (ms : List (Option MV)) | rt (γ : Sg) (ms : List (Option MV)) | ex (e : Ex) (γ : Sg) | no
abbrev FSI := Sg → List (Option MV) → ROI
def EndSI (G : GG) (C : Str) (W : WX) (D : Ends) (H0 : Hp) (M : Addr → Prop) (a dx : Addr) : ROI → Prop
  | .nx γ ms => ∀ σ A H vs, SI G C H0 M a dx A γ ms vs σ H → D.nx σ H
  | .rt γ ms => ∀ σ A H vs, SI G C H0 M a dx A γ ms vs σ H → D.rt .non H
  | .ex e γ => ∀ σ A H vs cls d, Sim G (entI H0 M a (He.ga G.K C) dx vs) A γ σ H → ExRep G (Mz (entI H0 M a (He.ga G.K C) dx vs) A) H e cls d → W cls d σ H
  | .no => False
def tMSI (G : GG) (C : Str) (f : FSI) (W : WX) : TS := fun D σ H => ∃ H0 M a dx A γ ms vs, SI G C H0 M a dx A γ ms vs σ H ∧ EndSI G C W D H0 M a dx (f γ ms)
def IS (X : Cx) (C : Str) (st : Stmt) (f : FSI) : Prop := PO' X → ∀ W, Takes X W → PS X st (tMSI (GX X) C f W)
def ISs (X : Cx) (C : Str) (sts : List Stmt) (f : FSI) : Prop := PO' X → ∀ W, Takes X W → PSs X sts (tMSI (GX X) C f W)
section
variable {X : Cx} {C : Str} {st : Stmt} {sts sts2 : List Stmt} {f : FS} {g g2 : FSI} {e o tg : Expr} {es : List Expr} {pos : Pos} {t : FT} {fe : FE} {at_ : Str}
def iNorm (f : FS) : FSI := fun γ ms => match f γ with
  | .nx γ' => .nx γ' ms
  | .ex e γ' => .ex e γ'
  | _ => .no
theorem is_norm (h : QS X st f) : IS X C st (iNorm f) := fun po W tk => PS_imp (h po W tk) fun D σ H ⟨H0, M, a, dx, A, γ, ms, vs, S, h⟩ => by
  refine ⟨_, A, γ, S.sim, ?_⟩
  unfold iNorm at h
  cases E : f γ with
  | nx γ' =>
    rw [E] at h
    exact fun σ' A' H' S' s' => h σ' A' H' vs ⟨S.ne, S.or.keep s'.1 s'.2, S'⟩
  | ex e γ' =>
    rw [E] at h
    exact fun σ' A' H' cls d S' s' xr => h σ' A' H' vs cls d S' xr
  | _ => rw [E] at h; exact h.elim
def iNil : FSI := fun γ ms => .nx γ ms
def iSeq (f g : FSI) : FSI := fun γ ms => match f γ ms with
  | .nx γ' ms' => g γ' ms'
  | r => r
theorem iss_nil : ISs X C [] iNil := fun _ W tk => PSs_imp pss_nil fun D σ H ⟨H0, M, a, dx, A, γ, ms, vs, S, h⟩ => h σ A H vs S
theorem iss_cons (h1 : IS X C st g) (h2 : ISs X C sts g2) : ISs X C (st :: sts) (iSeq g g2) := fun po W tk => PSs_imp (pss_cons (h1 po W tk) (h2 po W tk)) fun D σ H ⟨H0, M, a, dx, A, γ, ms, vs, S, h⟩ => by
  refine ⟨H0, M, a, dx, A, γ, ms, vs, S, ?_⟩
  unfold iSeq at h
  cases E : g γ ms with
  | nx γ' ms' =>
    rw [E] at h
    exact fun σ' A' H' vs' S' => ⟨H0, M, a, dx, A', γ', ms', vs', S', h⟩
  | rt γ' ms' => rw [E] at h; exact h
  | ex e γ' => rw [E] at h; exact h
  | no => rw [E] at h; exact h
theorem iss_one (h1 : IS X C st g) : ISs X C [st] g := fun po W tk => pss_one (h1 po W tk)
def iRet : FSI := fun γ ms => .rt γ ms
theorem is_ret : IS X C (.Return none pos) iRet := fun _ W tk => PS_imp ps_retN fun D σ H ⟨H0, M, a, dx, A, γ, ms, vs, S, h⟩ => h σ A H vs S
def iIf (t : FT) (f g : FSI) : FSI := fun γ ms => match t γ with
  | .ok b γ' => if b = true then f γ' ms else g γ' ms
  | .ex e γ' => .ex e γ'
  | .no => .no
theorem is_if (ht : RT X e t) (h1 : ISs X C sts g) (h2 : ISs X C sts2 g2) : IS X C (.If e sts sts2 pos) (iIf t g g2) := fun po W tk => PS_imp (ps_if (ht W tk) (h1 po W tk) (h2 po W tk)) fun D σ H ⟨H0, M, a, dx, A, γ, ms, vs, S, h⟩ => by
  refine ⟨_, A, γ, S.sim, ?_⟩
  unfold iIf at h
  cases E : t γ with
  | no => rw [E] at h; exact h
  | ex e γ' => rw [E] at h; exact fun A' H' cls d S' le k xr => h σ A' H' vs cls d S' xr
  | ok b γ' =>
    rw [E] at h
    intro A' H' S' le k
    have S2 : SI (GX X) C H0 M a dx A' γ' ms vs σ H' := ⟨S.ne, S.or.keep k fun b _ _ m => le.mz b m, S'⟩
    cases b with
    | true => simp only [if_true] at h ⊢; exact ⟨H0, M, a, dx, A', γ', ms, vs, S2, h⟩
    | false => simp only [Bool.false_eq_true, if_false] at h ⊢; exact ⟨H0, M, a, dx, A', γ', ms, vs, S2, h⟩
/-! self.f = e, self.f, self.g = e -/
def tGI (G : GG) (C : Str) (i : Nat) : TG := fun y σ H Q => ∃ H0 M a dx A γ ms vs m, SI G C H0 M a dx A γ ms vs σ H ∧ selfOk γ = true ∧ Rep G (Mz (entI H0 M a (He.ga G.K C) dx vs) A) H m y ∧
  ∀ vs' H', SI G C H0 M a dx A γ (putM i m ms) vs' σ H' → Keep (Mz (entI H0 M a (He.ga G.K C) dx vs) A) H H' → Q σ H'
def putMs : List Nat → List MV → List (Option MV) → Option (List (Option MV))
  | [], [], ms => some ms
  | i :: is, v :: vs, ms => putMs is vs (putM i v ms)
  | _, _, _ => none
def tGIs (G : GG) (C : Str) (is : List Nat) : TGs := fun ys σ H Q => ∃ H0 M a dx A γ ms vs xs ms', SI G C H0 M a dx A γ ms vs σ H ∧ selfOk γ = true ∧ Reps G (Mz (entI H0 M a (He.ga G.K C) dx vs) A) H xs ys ∧ putMs is xs ms = some ms' ∧
  ∀ vs' H', SI G C H0 M a dx A γ ms' vs' σ H' → Q σ H'
theorem pgi_slt {i : Nat} (c : AtF X.K at_ (C, i)) (ho : PE X o (tVar 0)) : PG X (.Attribute o at_ pos) (tGI (GX X) C i) :=
  PG_imp (pg_slt ho) fun y σ H Q ⟨H0, M, a, dx, A, γ, ms, vs, m, S, ok, r, h⟩ => by
    refine ⟨_, S.self ok, a, _, dx, _, vs, i, rfl, slt_oI (S.sim.fr a _ (.inr (.inl ⟨rfl, rfl⟩))) (S.sim.fr dx _ (.inr (.inr ⟨rfl, rfl⟩))), c.c, c.s, ?_⟩
    obtain ⟨S', k⟩ := S.put (i := i) ok r
    exact h _ _ S' k
theorem pgis_nil : PGs X [] (tGIs (GX X) C []) := PGs_imp pgs_nil fun ys σ H Q ⟨H0, M, a, dx, A, γ, ms, vs, xs, ms', S, ok, r, e, h⟩ => by
  cases xs with
  | nil =>
    simp only [Reps] at r
    simp only [putMs] at e
    cases e
    exact ⟨r, h vs H S⟩
  | cons v vs => simp only [putMs] at e; cases e
theorem pgis_cons {i : Nat} {is : List Nat} (h1 : PG X e (tGI (GX X) C i)) (h2 : PGs X es (tGIs (GX X) C is)) (hs : (assignEach (e :: es) X.env).map (·.2) = assign e X.env :: (assignEach es X.env).map (·.2) := by rfl) : PGs X (e :: es) (tGIs (GX X) C (i :: is)) :=
  PGs_imp (pgs_cons h1 h2 hs) fun ys σ H Q ⟨H0, M, a, dx, A, γ, ms, vs, xs, ms', S, ok, r, e, h⟩ => by
    cases xs with
    | nil => simp only [putMs] at e; cases e
    | cons x xs =>
      simp only [Reps] at r
      obtain ⟨y, yr, rfl, r1, r2⟩ := r
      simp only [putMs] at e
      exact ⟨y, yr, rfl, H0, M, a, dx, A, γ, ms, vs, x, S, ok, r1, fun vs' H' S' k => ⟨H0, M, a, dx, A, γ, _, vs', xs, ms', S', ok, r2.keep k fun _ _ _ m => m, e, h⟩⟩
def iSet (i : Nat) (f : FE) : FSI := fun γ ms => match f γ with
  | .ok c γ' => if selfOk γ' then .nx γ' (putM i c.v ms) else .no
  | .ex e γ' => .ex e γ'
  | .no => .no
theorem is_set {i : Nat} (ha : RE X e fe) (hg : PG X tg (tGI (GX X) C i)) (hs : swapsWithSole [tg] e pos.line X.env = pure false := by rfl) (hw : swappedStores [tg] e X.env = pure none := by rfl)
    (h1 : (assignEach [tg] X.env).map (·.2) = [assign tg X.env] := by rfl) : IS X C (.Assign [tg] e pos) (iSet i fe) := fun _ W tk => PS_imp (ps_asg (ha W tk) hg hs hw h1) fun D σ H ⟨H0, M, a, dx, A, γ, ms, vs, S, h⟩ => by
  refine ⟨_, A, γ, S.sim, ?_⟩
  unfold iSet at h
  cases E : fe γ with
  | no => rw [E] at h; exact h
  | ex e γ' => rw [E] at h; exact fun A' H' cls d S' le k xr => h σ A' H' vs cls d S' xr
  | ok c γ' =>
    rw [E] at h
    simp only at h
    split at h
    · rename_i ok
      intro y A' H' hs le k
      exact ⟨H0, M, a, dx, A', γ', ms, vs, c.v, ⟨S.ne, S.or.keep k fun b _ _ m => le.mz b m, hs.sim⟩, ok, hs.rep, fun vs' H2 S2 _ => h σ A' H2 vs' S2⟩
    · exact h.elim
def iSets (is : List Nat) (f : FE) : FSI := fun γ ms => match f γ with
  | .ok c γ' => if selfOk γ' then (match c.v with
    | .tup xs => (match putMs is xs ms with
      | some ms' => .nx γ' ms'
      | none => .no)
    | _ => .no) else .no
  | .ex e γ' => .ex e γ'
  | .no => .no
theorem putMs_len : ∀ {is : List Nat} {xs : List MV} {ms ms' : List (Option MV)}, putMs is xs ms = some ms' → xs.length = is.length
  | [], [], _, _, _ => rfl
  | i :: is, x :: xs, ms, ms', h => by
    simp only [putMs] at h
    rw [List.length_cons, List.length_cons, putMs_len h]
  | [], _ :: _, _, _, h | _ :: _, [], _, _, h => by simp only [putMs] at h; cases h
theorem is_sets {is : List Nat} {k : Nat} {tpos : Pos} (hc : X.calm = true) (ha : RE X e fe) (hg : PGs X es (tGIs (GX X) C is)) (hn : (assignEach es X.env).length = is.length := by rfl) (hst : (assignEach es X.env).findIdx? (·.1) = none := by rfl)
    (hs : swapsWithSole [.Tuple es k tpos] e pos.line X.env = pure false := by rfl) (hw : swappedStores [.Tuple es k tpos] e X.env = pure none := by rfl)
    (h1 : (assignEach [.Tuple es k tpos] X.env).map (·.2) = [assign (.Tuple es k tpos) X.env] := by rfl) : IS X C (.Assign [.Tuple es k tpos] e pos) (iSets is fe) := fun _ W tk => PS_imp (ps_asg (ha W tk) (pg_tup hc hg hn hst) hs hw h1) fun D σ H ⟨H0, M, a, dx, A, γ, ms, vs, S, h⟩ => by
  refine ⟨_, A, γ, S.sim, ?_⟩
  unfold iSets at h
  cases E : fe γ with
  | no => rw [E] at h; exact h
  | ex e γ' => rw [E] at h; exact fun A' H' cls d S' le k xr => h σ A' H' vs cls d S' xr
  | ok c γ' =>
    rw [E] at h
    simp only at h
    split at h
    rotate_left
    · exact h.elim
    rename_i ok
    intro y A' H' hs le k
    cases ec : c.v with
    | tup xs =>
      have r := hs.rep
      rw [ec] at h r
      simp only at h
      cases E2 : putMs is xs ms with
      | none => rw [E2] at h; exact h.elim
      | some ms' =>
        rw [E2] at h
        simp only [Rep] at r
        obtain ⟨p, ys, rfl, h2, h3⟩ := r
        exact ⟨p, ys, rfl, h2.sq, by rw [h3.len]; exact putMs_len E2, H0, M, a, dx, A', γ', ms, vs, xs, ms', ⟨S.ne, S.or.keep k fun b _ _ m => le.mz b m, hs.sim⟩, ok, h3, E2, fun vs' H2 S2 => h σ A' H2 vs' S2⟩
    | _ => rw [ec] at h; exact h.elim
end
end Mi

set_option Elab.async false
set_option linter.all false
set_option maxRecDepth 100000
set_option maxHeartbeats 4000000
/-! calls of classes; defs of methods; len of one's own -/
namespace Mi
open PySem PySem.Spec PyProof.Rows L2 My

def allS : List (Option MV) → Option (List MV)
  | [] => some []
  | some m :: ms => (allS ms).map (m :: ·)
  | none :: _ => none
def finI : ROI → RIF
  | .nx _ ms => match allS ms with
    | some (f :: fs) => .rt (f :: fs)
    | _ => .no
  | .rt _ ms => match allS ms with
    | some (f :: fs) => .rt (f :: fs)
    | _ => .no
  | .ex e _ => .ex e
  | .no => .no
def initI (n : Nat) (ms : List MV) : Sg := (initG none n (selfV :: ms)).set 0 (some ⟨.lown, selfV⟩)
def runI (n : Nat) (body : FSI) (ms : List MV) : RIF := finI (body (initI n ms) [])
def spI (P : Program) (w : World) (K : PySem.W.Frag) (C : Str) (n : Nat) (I : List MV → RIF) : Sp := fun vs H Q E => vs.length = n ∧ ∃ (M : Addr → Prop) (ms : List MV) (a dx : Addr) (xs : List V),
  vs = .ref a :: xs ∧ dx ≠ a ∧ H a = some (.ins (He.ga K C) dx []) ∧ H dx = some (.own a) ∧ ¬ M a ∧ ¬ M dx ∧ Trk M H ∧ Reps ⟨P, w, K⟩ (fun b => M b ∨ b = a ∨ b = dx) H ms xs ∧ match I ms with
    | .rt fs => ∀ H', (∀ b o, b ≠ a → b ≠ dx → H b = some o → H' b = some o) → (∀ b o, H b = some o → ∃ o', H' b = some o') → Rep ⟨P, w, K⟩ M H' (.ins C fs) (.ref a) → Q .non H'
    | .ex e => ∀ cls d H', (∀ b o, b ≠ a → b ≠ dx → H b = some o → H' b = some o) → (∀ b o, H b = some o → ∃ o', H' b = some o') → ExRep ⟨P, w, K⟩ M H' e cls d → E cls d H'
    | .no => False
section
variable {G : GG} {M : Addr → Prop} {H H' : Hp} {ms : List MV} {xs : List V} {a dx C : Addr} {A : AM} {γ : Sg} {σ : L2.St} {N : List Str}
theorem SI.entry {Cn : Str} (ne : dx ≠ a) (ha : H a = some (.ins (He.ga G.K Cn) dx [])) (hd : H dx = some (.own a)) (tr : Trk M H) (r : Reps G (fun b => M b ∨ b = a ∨ b = dx) H ms xs) (hn : xs.length + 1 ≤ N.length) :
    SI G Cn H M a dx (fun _ => none) (initI N.length ms) [] [] (start N (.ref a :: xs)) H := by
  have tr' : Trk (fun b => M b ∨ b = a ∨ b = dx) H := fun b m => by
    rcases m with m | rfl | rfl
    · exact tr b m
    · exact ⟨_, ha⟩
    · exact ⟨_, hd⟩
  have S : Sim G (entE H (fun b => M b ∨ b = a ∨ b = dx) none (.ref a :: xs)) (entE H (fun b => M b ∨ b = a ∨ b = dx) none (.ref a :: xs)).io (initG none N.length (selfV :: ms)) (start N (.ref a :: xs)) H := by
    refine Sim.entry tr' ⟨by simp [r.len], fun i m x hm hx _ => ?_, fun i h => by cases h⟩ (by simpa using hn)
    cases i with
    | zero =>
      cases hm
      cases hx
      simp only [Rep]
      exact .inl ⟨trivial, a, _, rfl, ha⟩
    | succ i =>
      obtain ⟨y, hy, ry⟩ := r.get (show ms[i]? = some m from hm)
      rw [show xs[i]? = some x from hx] at hy
      cases hy
      exact ry
  have h0 : (initG none N.length (selfV :: ms))[0]? = some (some ⟨.val, selfV⟩) := initG_at (io := none) rfl
  have hl0 : 0 < (initG none N.length (selfV :: ms)).length := (List.getElem?_eq_some_iff.mp h0).1
  refine ⟨ne, ⟨rfl, fun i m h => by simp at h⟩, ?_⟩
  refine ⟨by unfold initI; rw [List.length_set]; exact S.len, fun i c hi => ?_, fun i b hi => (by cases hi), fun i j b hi => (by cases hi), fun b m => tr' b m, fun b o h => ?_, fun b o h => ⟨o, h⟩⟩
  · unfold initI at hi
    by_cases h : i = 0
    · subst h
      rw [List.getElem?_set_self hl0] at hi
      cases hi
      obtain ⟨x, h1, h2⟩ := S.cell 0 _ h0
      refine ⟨.ref a, by rfl, rfl, a, _, rfl, rfl, ?_⟩
      simp only [Own]
      exact ⟨trivial, _, ha⟩
    · rw [List.getElem?_set_ne (Ne.symm h)] at hi
      obtain ⟨x, h1, h2⟩ := S.cell i c hi
      refine ⟨x, h1, ?_⟩
      obtain ⟨k, v⟩ := c
      have hk : k = .val := by
        rcases Nat.lt_or_ge i (selfV :: ms).length with hl | hl
        · rw [initG_at (io := none) (List.getElem?_eq_getElem hl)] at hi
          cases hi
          rfl
        · exact absurd hi (initG_out hl _)
      subst hk
      exact ⟨rfl, h2.2.less fun b m => .inl (m.elim id fun ⟨_, e⟩ => by cases e)⟩
  · rcases h with h | ⟨rfl, rfl⟩ | ⟨rfl, rfl⟩
    · exact h.1
    · exact ha
    · exact hd
theorem SI.out {Cn : Str} {oms : List (Option MV)} {vs : List (Option V)} {fs : List MV} {f : MV} (S : SI G Cn H M a dx A γ oms vs σ H') (nm : ¬ M a) (nd : ¬ M dx) (e : allS oms = some (f :: fs)) : Rep G M H' (.ins Cn (f :: fs)) (.ref a) := by
  have key : ∀ (oms : List (Option MV)) (vs : List (Option V)) (fs : List MV), OReps G M H' oms vs → allS oms = some fs → ∃ ws, vs = ws.map some ∧ Reps G M H' fs ws := by
    intro oms
    induction oms with
    | nil =>
      intro vs fs o e
      cases e
      have := o.1
      rw [List.length_nil, List.length_eq_zero_iff] at this
      subst this
      exact ⟨[], rfl, Reps.nil⟩
    | cons m oms ih =>
      intro vs fs o e
      cases m with
      | none => cases e
      | some m =>
        simp only [allS, Option.map_eq_some_iff] at e
        obtain ⟨fs', e, rfl⟩ := e
        obtain ⟨o1, o2⟩ := o
        cases vs with
        | nil => cases o1
        | cons v vs =>
          obtain ⟨y, h1, h2⟩ := o2 0 m rfl
          cases h1
          obtain ⟨ws, rfl, h3⟩ := ih vs fs' ⟨by simpa using o1, fun i x h => o2 (i + 1) x h⟩ e
          exact ⟨y :: ws, rfl, Reps.consI h2 h3⟩
  obtain ⟨ws, rfl, h⟩ := key oms vs _ (S.or.keep .refl fun b _ _ m => .inl (.inl m)) e
  simp only [Rep]
  refine .inr ⟨a, dx, ws, rfl, ?_, ?_, nm, nd, h⟩
  · have := S.sim.fr a _ (.inr (.inl ⟨rfl, rfl⟩))
    cases ws with
    | nil => have := h.len; cases this
    | cons w ws => exact this
  · have := S.sim.fr dx _ (.inr (.inr ⟨rfl, rfl⟩))
    cases ws with
    | nil => have := h.len; cases this
    | cons w ws => exact this
theorem SI.frame {Cn : Str} {vs : List (Option V)} (S : Sim G (entI H M a (He.ga G.K Cn) dx vs) A γ σ H') : (∀ b o, b ≠ a → b ≠ dx → H b = some o → H' b = some o) ∧ ∀ b o, H b = some o → ∃ o', H' b = some o' :=
  ⟨fun b o h1 h2 h => S.fr b o (.inl ⟨h, h1, h2⟩), S.new⟩
end
/-- a class that can be called: dms its last defaults -/
def MkM (P : Program) (w : World) (K : PySem.W.Frag) (mg : Str → Option Value) (base : Heap) (k : Nat) (C : Str) (ps : List Str) (dms : List MV) (I : List MV → RIF) : Prop :=
  C ≠ ("" : Str) ∧ ∃ fd ds dvs, FnG P w K mg base k (He.ma K (He.ga K C) "__init__") fd ps (spI P w K C ps.length I) ∧ Vals dvs ds ∧ (∀ G M H, Reps G M H dms dvs) ∧ Binds K fd ps ds ∧ Mk K (He.ga K C) (He.ma K (He.ga K C) "__init__") ∧ mg C = some (.ref (He.ga K C))
section
variable {P : Program} {w : World} {K : PySem.W.Frag} {mg : Str → Option Value} {base : Heap} {k : Nat} {C : Str} {st : Stmt} {N ps : List Str} {body : FSI}
theorem entry_init {f : Addr} {qual : Str} {cdv : Value} {A : Around} {outer : List Env} {s : Shared} {H : Hp} {vs : List V} {Q : VK} {E : XK} {sts : List Stmt} {sc : Scope} (S : FnScope N ps sc)
    (hb : ISs (cxOf (CX P w) P w K mg base N qual sc f cdv A outer s H E) C sts body) (h : spI P w K C ps.length (runI N.length body) vs H Q E) :
    ∃ t, PSs (cxOf (CX P w) P w K mg base N qual sc f cdv A outer s H E) sts t ∧ t { nx := fun _ H' => Q .non H', rt := Q } (start N vs) H := by
  have hpl : ps.length ≤ N.length := by have := congrArg List.length S.pre; rw [List.length_take] at this; omega
  obtain ⟨hl, M, ms, a, dx, xs, rfl, ne, ha, hd, na, nd, tr, r, h⟩ := h
  rw [List.length_cons] at hl
  refine ⟨_, hb (passes_of rfl) (fun cls d _ H => E cls d H) (takes_of rfl rfl rfl rfl), H, M, a, dx, _, _, [], [], SI.entry ne ha hd tr r (by omega), ?_⟩
  unfold runI at h
  cases e : body (initI N.length ms) [] with
  | nx γ' oms =>
    rw [e] at h
    cases e2 : allS oms with
    | none => simp only [finI, e2] at h
    | some l =>
      cases l with
      | nil => simp only [finI, e2] at h
      | cons f fs =>
        simp only [finI, e2] at h
        intro σ' A' H' vs' S'
        have fr := SI.frame S'.sim
        exact h H' fr.1 fr.2 (S'.out na nd e2)
  | rt γ' oms =>
    rw [e] at h
    cases e2 : allS oms with
    | none => simp only [finI, e2] at h
    | some l =>
      cases l with
      | nil => simp only [finI, e2] at h
      | cons f fs =>
        simp only [finI, e2] at h
        intro σ' A' H' vs' S'
        have fr := SI.frame S'.sim
        exact h H' fr.1 fr.2 (S'.out na nd e2)
  | ex e' γ' =>
    rw [e] at h
    intro σ' A' H' vs' cls d S' xr
    have fr := SI.frame S'
    exact h cls d H' fr.1 fr.2 (xr.less fun b m => .inl (.inl m))
  | no => rw [e] at h; exact h.elim
/-- the facts of an own __init__ -/
structure DefInit (K : PySem.W.Frag) (mg : Str → Option Value) (C : Str) (st : Stmt) (qual : Str) (dvs : List V) : Prop where
  fd : ∃ fd, FunD K "__init__" qual (defArgs st) (defBody st) (defScope st) dvs [] (He.ma K (He.ga K C) "__init__") fd
  mk_ : Mk K (He.ga K C) (He.ma K (He.ga K C) "__init__")
  gl : mg C = some (.ref (He.ga K C))
theorem DefInit.mkM {qual : Str} {dvs : List V} {dms : List MV} (D : DefInit K mg C st qual dvs) (n : C ≠ ("" : Str)) (S : FnScope N ps (defScope st)) (nd : Nat) (hdm : ∀ G M H, Reps G M H dms (dvs.drop nd))
    (hb : ∀ fd, FunD K "__init__" qual (defArgs st) (defBody st) (defScope st) dvs [] (He.ma K (He.ga K C) "__init__") fd → ∃ ds, Vals (dvs.drop nd) ds ∧ Binds K fd ps ds)
    (hbody : ∀ (cdv : Value) (A : Around) (outer : List Env) (s : Shared) (H : Hp) (E : XK), Room k (cxOf (CX P w) P w K mg base N qual (defScope st) (He.ma K (He.ga K C) "__init__") cdv A outer s H E).A → (cxOf (CX P w) P w K mg base N qual (defScope st) (He.ma K (He.ga K C) "__init__") cdv A outer s H E).A.guards = some [] →
      ISs (cxOf (CX P w) P w K mg base N qual (defScope st) (He.ma K (He.ga K C) "__init__") cdv A outer s H E) C (defBody st) body) : MkM P w K mg base (k + 1) C ps dms (runI N.length body) := by
  obtain ⟨fd, F⟩ := D.fd
  obtain ⟨ds, hds, Fb⟩ := hb fd F
  obtain ⟨oc, od, dV, kV, doc, pm, an, cdv, ct, osl, rfl, lk, hcd, _, _⟩ := F.ex
  exact ⟨n, _, ds, _, fnG_of lk hcd S (fun vs H Q E h => h.1) (fun A outer s H vs Q E hr hgd h => entry_init S (hbody cdv A outer s H E hr hgd) h), hds, hdm, Fb, D.mk_, D.gl⟩
/-- .. of a method -/
theorem DefMeth.mthM {m qual : Str} {F : FS} (D : DefMeth K C m qual st) (n : C ≠ ("" : Str)) (c : SlX.SCls K (He.ga K C)) (S : FnScope N ps (defScope st))
    (hb : ∀ (kV doc pm : Value) (an : Option Addr) (cdv ct : Value) (us : List Value), us.length = ps.length → bindArgs (PySem.W.fnOf m qual (defArgs st) (defBody st) (defScope st) .none kV doc pm an cdv ct) ⟨us, []⟩ = pure (ps.zip us))
    (hbody : ∀ (cdv : Value) (A : Around) (outer : List Env) (s : Shared) (H : Hp) (E : XK), Room k (cxOf (CX P w) P w K mg base N qual (defScope st) (He.ma K (He.ga K C) m) cdv A outer s H E).A → (cxOf (CX P w) P w K mg base N qual (defScope st) (He.ma K (He.ga K C) m) cdv A outer s H E).A.guards = some [] →
      QSs (cxOf (CX P w) P w K mg base N qual (defScope st) (He.ma K (He.ga K C) m) cdv A outer s H E) (defBody st) F) : MthM P w K mg base (k + 1) C m ps (runM none N.length F) := by
  obtain ⟨fd, Fd⟩ := D.fd
  have Fb := Fd.bindsN hb
  obtain ⟨oc, od, dV, kV, doc, pm, an, cdv, ct, osl, rfl, lk, hcd, _, _⟩ := Fd.ex
  exact ⟨n, _, fnG_of lk hcd S (fun vs H Q E h => h.1) (fun A outer s H vs Q E hr hgd h => entry_ok S (hbody cdv A outer s H E hr hgd) h), Fb, c, D.me⟩
/-- .. of a property -/
structure DefPrp (K : PySem.W.Frag) (C f : Str) (qual : Str) (st : Stmt) : Prop where
  fd : ∃ fd, FunD K f qual (defArgs st) (defBody st) (defScope st) [] [] (pgA K (He.ga K C) f) fd
  pr : PropOf K (He.ga K C) f (He.ma K (He.ga K C) f) (pgA K (He.ga K C) f)
theorem DefPrp.prpM {m qual : Str} {F : FS} (D : DefPrp K C m qual st) (n : C ≠ ("" : Str)) (c : SlX.SCls K (He.ga K C)) (S : FnScope N ps (defScope st)) (hl : ps.length = 1)
    (hb : ∀ (kV doc pm : Value) (an : Option Addr) (cdv ct : Value) (us : List Value), us.length = ps.length → bindArgs (PySem.W.fnOf m qual (defArgs st) (defBody st) (defScope st) .none kV doc pm an cdv ct) ⟨us, []⟩ = pure (ps.zip us))
    (hbody : ∀ (cdv : Value) (A : Around) (outer : List Env) (s : Shared) (H : Hp) (E : XK), Room k (cxOf (CX P w) P w K mg base N qual (defScope st) (pgA K (He.ga K C) m) cdv A outer s H E).A → (cxOf (CX P w) P w K mg base N qual (defScope st) (pgA K (He.ga K C) m) cdv A outer s H E).A.guards = some [] →
      QSs (cxOf (CX P w) P w K mg base N qual (defScope st) (pgA K (He.ga K C) m) cdv A outer s H E) (defBody st) F) : PrpM P w K mg base (k + 1) C m (runM none N.length F) := by
  obtain ⟨fd, Fd⟩ := D.fd
  have Fb := Fd.bindsN hb
  obtain ⟨oc, od, dV, kV, doc, pm, an, cdv, ct, osl, rfl, lk, hcd, _, _⟩ := Fd.ex
  have q := fnG_of (P := P) (w := w) (mg := mg) (base := base) (k := k) (sp := spM P w K ps.length none (runM none N.length F)) lk hcd S (fun vs H Q E h => h.1) fun A outer s H vs Q E hr hgd h => entry_ok S (hbody cdv A outer s H E hr hgd) h
  rw [hl] at q
  exact ⟨n, c, _, _, _, ps, hl, q, Fb, D.pr⟩
end
/-! ### C(a, ..) -/
def eMk (I : List MV → RIF) (C : Str) (dms : List MV) (fa : FA) : FE := fun γ => match fa γ with
  | .ok ms γ1 => (match I (ms ++ dms) with
    | .rt fs => .ok ⟨.val, .ins C fs⟩ γ1
    | .ex e => .ex e γ1
    | .no => .no)
  | .ex e γ1 => .ex e γ1
  | .no => .no
section
variable {X : Cx} {k j : Nat} {C : Str} {ps : List Str} {dms : List MV} {I : List MV → RIF} {p pos : Pos} {e : Expr} {es : List Expr} {fa : FA}
theorem run_makeG {E : L2.St → XK} {fd : FuncData} {ds : List Value} {dvs : List V} {sp : Sp} {pins : List (Addr × Obj)} {σ : L2.St} {H : Hp} {s : Shared} {Q : VK} {us : List Value} {vs : List V} {D f : Addr} (M : Mk X.K D f) (F : FnG X.prog X.w X.K X.mg X.base k f fd ps sp) (hr : Room (k + 1) X.A) (hgd : X.A.guards = some []) (hb : Binds X.K fd ps ds) (hd : Vals dvs ds)
    (hx : ∀ (pins : List (Addr × Obj)) (H : Hp) (s : Shared) (e : Value) (s' : Shared), L2.Inv X pins σ H s → CX X.prog X.w X.stack H s (E σ) e s' → X.xe e s') (I : L2.Inv X pins σ H s) (r : Vals vs us)
    (h : ∀ x dx, H x = none → H dx = none → dx ≠ x → sp (.ref x :: (vs ++ dvs)) (upd (upd H dx (.own x)) x (.ins D dx [])) (fun v H2 => v = .non ∧ Q (.ref x) H2) (E σ)) :
    wpAny (model X.prog X.w) X.A (call (.ref D) us) (EP X pins σ Q) X.xe s := by
  have hq := h (s.heap.objs.size + 1) s.heap.objs.size (I.hok.fresh (Nat.le_succ _)) (I.hok.fresh (Nat.le_refl _)) (Nat.ne_of_lt (Nat.lt_succ_self _))
  have I2 := Inv.made (C := D) I
  have r2 : Vals (V.ref (s.heap.objs.size + 1) :: (vs ++ dvs)) (Value.ref (s.heap.objs.size + 1) :: (us ++ ds)) := .cons rfl (r.append hd)
  have hl : (Value.ref (s.heap.objs.size + 1) :: us ++ ds).length = ps.length := by
    have e := r2.length
    rw [F.len _ _ _ _ hq] at e
    exact e.symm
  refine wpAny_call (make_map (f := f) I.kIn M.makes M.init (beq_iff_eq.mp M.fn) (codeAny_mono (F.run _ X.stack _ _ ⟨Value.ref (s.heap.objs.size + 1) :: us, []⟩ (Value.ref (s.heap.objs.size + 1) :: (us ++ ds)) _ _ (E σ) (hr.make D us []) hgd
    (I2.env0.make D us []) (hb _ (Value.ref (s.heap.objs.size + 1) :: us) I2.kIn hl) r2 hq) fun r s' hq' => ?_))
  cases r with
  | error e => exact hx pins _ _ e s' I2 hq'
  | ok fl =>
    cases fl with
    | ret u =>
      obtain ⟨v, H', I3, rv, ev, q3⟩ := I2.after hq'
      subst ev
      exact ⟨rv, ⟨V.ref (s.heap.objs.size + 1), H', I3, rfl, q3⟩⟩
    | next => exact False.elim hq'
    | brk => exact False.elim hq'
    | cont => exact False.elim hq'
def tMakeG (D : Addr) (sp : Sp) (dvs : List V) (E : L2.St → XK) (t : TA) : TE := fun σ H Q => t σ H fun vs H1 => ∀ x dx, H1 x = none → H1 dx = none → dx ≠ x → sp (.ref x :: (vs ++ dvs)) (upd (upd H1 dx (.own x)) x (.ins D dx [])) (fun v H2 => v = .non ∧ Q (.ref x) H2) (E σ)
theorem pe_makeG {E : L2.St → XK} {fd : FuncData} {ds : List Value} {dvs : List V} {sp : Sp} {D f : Addr} {t : TA} {x : Str} (M : Mk X.K D f) (F : FnG X.prog X.w X.K X.mg X.base k f fd ps sp) (hr : Room (k + 1) X.A) (hgd : X.A.guards = some []) (hg : Gl X x) (hm : X.mg x = some (.ref D)) (hb : Binds X.K fd ps ds) (hd : Vals dvs ds)
    (hx : ∀ σ (pins : List (Addr × Obj)) (H : Hp) (s : Shared) (e : Value) (s' : Shared), L2.Inv X pins σ H s → CX X.prog X.w X.stack H s (E σ) e s' → X.xe e s')
    (ha : PA X (e :: es) t) (hdb : (x == ("__debug__" : Str)) = false) (he : starEach (e :: es) X.env = (false, eval e X.env) :: starEach es X.env) (hpl : (backTo pos (starEach es X.env)).any (·.1) = false) :
    PE X (.Call (.Name x p) (e :: es) [] pos) (tMakeG D sp dvs E t) := by
  refine ⟨fun pins s σ H Q I h => wpAny_Call_Name_kw (ld_glob I hg hm ?_ hdb)⟩
  exact PySem.W.callWith_K (h₀ := X.base) I.ok.mod.kin M.kp (thn (ha.run pos pins s σ H _ I h) fun us s1 ⟨vs, H1, I1, r, q⟩ => ⟨I1.kIn, run_makeG M F hr hgd hb hd (hx σ) I1 r q⟩) he hpl
theorem re_mk (D : MkM X.prog X.w X.K X.mg X.base k C ps dms I) (hr : Room j X.A) (hgd : X.A.guards = some []) (hg : Gl X C) (ha : RA X (e :: es) fa) {n : Nat} (hl : Lim n fa) (hn : n + 1 + dms.length = ps.length) (hk : k + 1 ≤ j := by decide) (hdb : (C == ("__debug__" : Str)) = false := by decide)
    (he : starEach (e :: es) X.env = (false, eval e X.env) :: starEach es X.env := by rfl) (hpl : (backTo pos (starEach es X.env)).any (·.1) = false := by rfl) : RE X (.Call (.Name C p) (e :: es) [] pos) (eMk I C dms fa) := fun W tk => by
  obtain ⟨_, fd, ds, dvs, G, hds, hdm, b, M, m⟩ := D
  refine PE_imp (pe_makeG (E := fun σ cls d H => W cls d σ H) M G (hr.mono hk) hgd hg m b hds (xpass tk) (ha W tk) hdb he hpl) fun σ H Q ⟨Z, A, γ, S, h⟩ => ⟨Z, A, γ, S, ?_⟩
  unfold eMk at h
  cases E : fa γ with
  | no => rw [E] at h; exact h
  | ex e γ1 => rw [E] at h; exact h
  | ok ms γ1 =>
    rw [E] at h
    simp only at h
    intro xs A1 H1 S1 le k1 rs x dx nx ndx ne
    have e1 : Same H1 (upd (upd H1 dx (.own x)) x (.ins (He.ga X.K C) dx [])) := fun b o h => by
      rw [upd_ne (ne_of_none h nx), upd_ne (ne_of_none h ndx)]
      exact h
    have dmr := hdm (GX X) (Mz Z A1) H1
    have rall := Reps.app rs dmr
    have mx : ¬ Mz Z A1 x := S1.trk.new nx
    have mdx : ¬ Mz Z A1 dx := S1.trk.new ndx
    refine ⟨?_, Mz Z A1, ms ++ dms, x, dx, xs ++ dvs, rfl, ne, upd_same, ?_, mx, mdx, fun b m => ?_, ?_, ?_⟩
    · rw [List.length_cons, List.length_append, rs.len, dmr.len, hl _ _ _ E, ← hn]
      omega
    · rw [upd_ne ne, upd_same]
    · obtain ⟨o, ho⟩ := S1.trk b m
      exact ⟨o, e1 _ _ ho⟩
    · exact rall.keep (.of_same e1) fun b o hb m => by
        rcases m with m | rfl | rfl
        · exact m
        · rw [nx] at hb; cases hb
        · rw [ndx] at hb; cases hb
    · cases E2 : I (ms ++ dms) with
      | no => rw [E2] at h; exact h
      | rt fs =>
        rw [E2] at h
        intro H' k2 on2 r
        have e2 : Same H1 H' := fun b o hb => k2 b o (ne_of_none hb nx) (ne_of_none hb ndx) (e1 b o hb)
        exact ⟨rfl, h (.ref x) A1 H' ⟨S1.same e2, r⟩ le (k1.trans (.of_same e2) fun b _ _ m => le.mz b m)⟩
      | ex e2' =>
        rw [E2] at h
        intro cls d H' k2 on2 r
        have e2 : Same H1 H' := fun b o hb => k2 b o (ne_of_none hb nx) (ne_of_none hb ndx) (e1 b o hb)
        exact h A1 H' cls d (S1.same e2) le (k1.trans (.of_same e2) fun b _ _ m => le.mz b m) r
end
end Mi

set_option Elab.async false
set_option linter.all false
set_option maxRecDepth 100000
set_option maxHeartbeats 4000000
/-! methods that change nothing; more of dicts; isinstance; (a, *b) -/
namespace Mi
open PySem PySem.Spec PyProof.Rows L2 My

/-! ### o.m(..), o a slot -/
def TyB (G : GG) (T : String) (x : V) (H : Hp) : Prop := tyV G.K T x H ∨ (T = "dict" ∧ ∃ a es, x = .ref a ∧ DnAt G H a es)
section
variable {X : Cx} {pins : List (Addr × Obj)} {σ : L2.St} {H : Hp} {s : Shared} {T : String} {x : V} {u : Value}
theorem tyB_is (I : L2.Inv X pins σ H s) (r : RelV x u) (ty : TyB (GX X) T x H) : s.TypeIs u T ∧ ∀ a, u = .ref a → ∃ o, s.heap.get? a = some o ∧ o.dict = none := by
  rcases ty with ty | ⟨rfl, a, es, rfl, d⟩
  · exact tyV_is I r ty
  · cases r
    obtain ⟨_, _, xs, _, dd⟩ := d.get I
    refine ⟨dd.typeIs, fun b e => ?_⟩
    cases e
    obtain ⟨ob, _, _, h1, h2, _⟩ := dd
    exact ⟨ob, h1, h2.2.1⟩
end
def isTyB (T : String) : MV → Bool
  | .lst _ => T == "list"
  | .dk _ _ => T == "dict"
  | .dn _ _ => T == "dict"
  | .str _ => T == "str"
  | _ => false
theorem isTyB_ok {G : GG} {M : Addr → Prop} {H : Hp} {T : String} {v : MV} {y : V} (h : isTyB T v = true) (r : RepB G M H v y) : TyB G T y H := by
  cases v with
  | lst ms => exact .inl (isTy_ok (G := G) (M := M) (v := .lst ms) h r)
  | dk ks ms => exact .inl (isTy_ok (G := G) (M := M) (v := .dk ks ms) h r)
  | dn ks ms =>
    have h : (T == "dict") = true := h
    obtain ⟨a, ks', as, vs, rfl, h1, _⟩ := dn_repB r
    exact .inr ⟨eq_of_beq h, a, _, rfl, h1⟩
  | str z =>
    have h : (T == "str") = true := h
    rw [rb_str r]
    exact .inl (eq_of_beq h)
  | _ => cases h
abbrev PurF := MV → List MV → Option Cell
def PurR (X : Cx) (id : String) (g : PurF) : Prop :=
  ∃ r, MtR X id r ∧ ∀ M v ms c x vs H Q, Trk M H → g v ms = some c → RepB (GX X) M H v x → Reps (GX X) M H ms vs → (∀ z H', Same H H' → Res (GX X) M H H' c z → Q z H') → r x vs H Q
def ePur (T : String) (g : PurF) (j : Nat) (fa : FA) : FE := fun γ => match γ[j]? with
  | some (some c0) => if isTyB T c0.v then (match fa γ with
    | .ok ms γ1 => (match γ1[j]? with
      | some (some c1) => (match g c1.v ms with
        | some w => .ok w γ1
        | none => .no)
      | _ => .no)
    | .ex e γ1 => .ex e γ1
    | .no => .no) else .no
  | _ => .no
section
variable {X : Cx} {a b e e1 : Expr} {es : List Expr} {f : FE} {fa : FA} {o q : Opd} {pos apos cpos : Pos} {x name : Str} {j : Nat} {T id : String} {g : PurF} {to : TE} {t : TA} {r : V → List V → Hp → VK → Prop}
theorem pe_bmG (pa : PlainAttrs T) (slot : Slot T name id) (hty : typeOf (.builtin id) = pure (.type "method_descriptor")) (hm : MtR X id r) (ho : PE X a to) (ha : PA X (e :: es) t)
    (hbase : attributeBase a name X.env (eval a X.env) = eval a X.env)
    (hfew : ((backTo cpos (starEach (e :: es) X.env)).all (fun x => !x.1) && (backToKw cpos (keywordEach [] X.env)).all (fun x => x.1.isSome)
      && decide ((e :: es).length + ([] : List Keyword).length + (if ([] : List Keyword).isEmpty then 0 else 1) < 30)) = true)
    (hline : (apos.endLine == cpos.line) = true) (hs : starEach (e :: es) X.env = (false, eval e X.env) :: starEach es X.env) (hplain : (backTo cpos (starEach es X.env)).any (·.1) = false) :
    PE X (.Call (.Attribute a name apos) (e :: es) [] cpos) (fun σ H Q => to σ H fun x H1 => TyB (GX X) T x H1 ∧ t σ H1 fun xs H2 => r x xs H2 Q) := by
  refine ⟨fun pins s σ H Q I h => ?_⟩
  refine wpAny_Call_method_late hbase hfew hline rfl (thn (ho.run pins s σ H _ I h) fun v s1 ⟨x, H1, I1, r1, ty, q1⟩ => ?_)
  obtain ⟨h1, h2⟩ := tyB_is I1 r1 ty
  refine ⟨T, id, pa, slot, hty, h1, h2, ?_⟩
  have hA := ha.run cpos pins s1 σ H1 _ I1 q1
  rw [hs] at hA ⊢
  refine Calls.callWith_builtin (by show (false || (backTo cpos (starEach es X.env)).any (·.1)) = false; rw [hplain] <;> rfl) (Calls.evalArgs_plain ?_)
  exact thn hA fun us s2 ⟨vs, H2, I2, r2, q2⟩ => hm pins s2 σ H2 x vs v us Q I2 r1 r2 q2
theorem re_pur (pa : PlainAttrs T) (slot : Slot T name id) (hty : typeOf (.builtin id) = pure (.type "method_descriptor")) (hm : PurR X id g) (ho : PE X a (tVar j)) (ha : RA X (e1 :: es) fa)
    (hbase : attributeBase a name X.env (eval a X.env) = eval a X.env := by rfl)
    (hfew : ((backTo cpos (starEach (e1 :: es) X.env)).all (fun x => !x.1) && (backToKw cpos (keywordEach [] X.env)).all (fun x => x.1.isSome)
      && decide ((e1 :: es).length + ([] : List Keyword).length + (if ([] : List Keyword).isEmpty then 0 else 1) < 30)) = true := by rfl)
    (hline : (apos.endLine == cpos.line) = true := by rfl) (hs : starEach (e1 :: es) X.env = (false, eval e1 X.env) :: starEach es X.env := by rfl) (hplain : (backTo cpos (starEach es X.env)).any (·.1) = false := by rfl) :
    RE X (.Call (.Attribute a name apos) (e1 :: es) [] cpos) (ePur T g j fa) := fun W tk => by
  obtain ⟨r, hm, hr⟩ := hm
  refine PE_imp (pe_bmG pa slot hty hm ho (ha W tk) hbase hfew hline hs hplain) fun σ H Q ⟨Z, A, γ, S, h⟩ => ?_
  unfold ePur at h
  cases E0 : γ[j]? with
  | none => rw [E0] at h; exact h.elim
  | some oc =>
    cases oc with
    | none => rw [E0] at h; exact h.elim
    | some c0 =>
      rw [E0] at h
      simp only at h
      split at h
      · rename_i ht
        obtain ⟨x, h1, h2⟩ := S.cell j _ E0
        refine ⟨x, h1, isTyB_ok (G := GX X) ht h2.repB, Z, A, γ, S, ?_⟩
        cases E1 : fa γ with
        | no => rw [E1] at h; exact h
        | ex e γ1 => rw [E1] at h; exact h
        | ok ms γ1 =>
          rw [E1] at h
          intro vs A1 H1 S1 le k rs
          simp only at h
          split at h
          · rename_i c1 E4
            obtain ⟨y, h3, h4⟩ := S1.cell j _ E4
            rw [h1] at h3
            cases h3
            cases E5 : g c1.v ms with
            | none => rw [E5] at h; exact h.elim
            | some w =>
              rw [E5] at h
              exact hr _ c1.v ms w x vs H1 Q S1.trk E5 h4.repB rs fun z H' e res => h z A1 H' ((Res.held S1 e res).old fun a n => k.isnone n) le (k.trans (.of_same e) fun b _ _ m => le.mz b m)
          · exact h.elim
      · exact h.elim
/-! d.get(k), d.get(k, x) -/
theorem dn_get2 {pins : List (Addr × Obj)} {σ : L2.St} {H : Hp} {s : Shared} {A : Around} {E : Value → Shared → Prop} {es : Ent3} {a b : Addr} {k : NestedKey} {d : V} {r : Value} {Q : Value → Shared → Prop} (hu : A.units + 64 < cLine) (I : L2.Inv X pins σ H s) (D : DnAt (GX X) H a es) (hk : KeyR X.K H k (.ref b)) (hd : k.depth ≤ 8) (rd : RelV d r)
    (h : ∀ w' s', L2.Inv X pins σ H s' → RelV ((esGet es k).getD d) w' → Q w' s') : wpAny (model X.prog X.w) A (call (.builtin "dict.get") [.ref a, .ref b, r]) Q E s := by
  obtain ⟨h1, h2, xs, hp, dd⟩ := D.get I
  refine call_meetsIn PySem.F.slot_dict_get dd.typeIs PySem.F.entry_dict_get (PySem.F.args_dict_get_3 _ _ _) (meetsH_dict_get_default (knd X) a b h1 r) ⟨knd_room hu, k, xs, key_is I hk hd, dd, h _ _ (I.tok _) ?_⟩
  exact (hp.find k).getD rd
def rGet (G : GG) : V → List V → Hp → VK → Prop := fun x vs H Q => ∃ a y r, x = .ref a ∧ DGt G H a y r ∧ ((vs = [y] ∧ Q (r.getD .non) H) ∨ ∃ d, vs = [y, d] ∧ Q (r.getD d) H)
theorem mt_get (hu : X.A.units + 64 < cLine) : MtR X "dict.get" (rGet (GX X)) := by
  intro pins s σ H x xs v us Q I rx rxs h
  obtain ⟨a, y, r, rfl, g, q⟩ := h
  cases rx
  rcases q with ⟨rfl, q⟩ | ⟨d, rfl, q⟩
  · obtain ⟨u, rfl, ru⟩ := vals1 rxs
    rcases g with ⟨kvs, k, e, rfl, l⟩ | ⟨es, k, b, D, rfl, hk, hd, l⟩
    · exact d_get1 (by omega) I (.inl ⟨kvs, k, e, rfl, l⟩ : DGet H a (kV k) r) ru fun w' s' I' rw' => ⟨_, H, I', rw', q⟩
    · cases ru
      subst l
      obtain ⟨h1, h2, xs, hp, dd⟩ := D.get I
      refine call_meetsIn PySem.F.slot_dict_get dd.typeIs PySem.F.entry_dict_get (PySem.F.args_dict_get_2 _ _) (meetsH_dict_get (knd X) a b h1) ⟨knd_room hu, k, xs, key_is I hk hd, dd, ?_⟩
      exact ⟨_, H, I.tok _, (hp.find k).getD (d := V.non) rfl, q⟩
  · obtain ⟨u, z, rfl, ru, rz⟩ := vals2 rxs
    rcases g with ⟨kvs, k, e, rfl, l⟩ | ⟨es, k, b, D, rfl, hk, hd, l⟩
    · exact d_get2 (by omega) I (.inl ⟨kvs, k, e, rfl, l⟩ : DGet H a (kV k) r) ru rz fun w' s' I' rw' => ⟨_, H, I', rw', q⟩
    · cases ru
      subst l
      exact dn_get2 hu I D hk hd rz fun w' s' I' rw' => ⟨_, H, I', rw', q⟩
/-- what a dict has, or nothing -/
def lookM (v k : MV) : Option (Option MV) := match dGetM v k with
  | some m => some (some m)
  | none => match hasM v k with
    | some false => some none
    | _ => none
theorem lookM_ok {G : GG} {M : Addr → Prop} {H : Hp} {v w : MV} {r : Option MV} {x y : V} (e : lookM v w = some r) (hv : RepB G M H v x) (hw : RepB G M H w y) : ∃ a u, x = .ref a ∧ DGt G H a y u ∧ match r with
    | some m => ∃ z, u = some z ∧ Rep G M H m z
    | none => u = none := by
  unfold lookM at e
  cases E : dGetM v w with
  | some m =>
    rw [E] at e
    cases e
    obtain ⟨a, u, rfl, g, hr⟩ := dGetM_ok E hv hw
    exact ⟨a, some u, rfl, g, u, rfl, hr⟩
  | none =>
    rw [E] at e
    simp only at e
    split at e
    · rename_i E2
      cases e
      obtain ⟨a, u, rfl, g, hr⟩ := hasM_ok E2 hv hw
      cases u with
      | none => exact ⟨a, none, rfl, g, rfl⟩
      | some _ => cases hr
    · cases e
def getM : PurF
  | v, [k] => (lookM v k).map fun r => vV (r.getD .non)
  | v, [k, d] => (lookM v k).map fun r => vV (r.getD d)
  | _, _ => none
theorem pur_get (hu : X.A.units + 64 < cLine) : PurR X "dict.get" getM := ⟨_, mt_get hu, fun M v ms c x vs H Q tr e rv rs q => by
  unfold getM at e
  split at e
  · obtain ⟨r, e', rfl⟩ := Option.map_eq_some_iff.mp e
    simp only [Reps] at rs
    obtain ⟨y, _, rfl, ry, rfl⟩ := rs
    obtain ⟨a, u, rfl, g, hr⟩ := lookM_ok e' rv (.inl ry)
    refine ⟨a, y, u, rfl, g, .inl ⟨rfl, ?_⟩⟩
    cases r with
    | some m => obtain ⟨z, rfl, hz⟩ := hr; exact q _ H (.refl _) (res_val hz)
    | none => cases hr; exact q _ H (.refl _) res_non
  · obtain ⟨r, e', rfl⟩ := Option.map_eq_some_iff.mp e
    simp only [Reps] at rs
    obtain ⟨y, _, rfl, ry, d, _, rfl, rd, rfl⟩ := rs
    obtain ⟨a, u, rfl, g, hr⟩ := lookM_ok e' rv (.inl ry)
    refine ⟨a, y, u, rfl, g, .inr ⟨d, rfl, ?_⟩⟩
    cases r with
    | some m => obtain ⟨z, rfl, hz⟩ := hr; exact q _ H (.refl _) (res_val hz)
    | none => cases hr; exact q _ H (.refl _) (res_val rd)
  · cases e⟩
/-! ### {}, to be a dict of tuples -/
theorem re_newN : RE X (.Dict [] [] pos) (eNew (.dn [] [])) := fun W tk => by
  refine PE_imp (t := fun σ H Q => ∀ p, H p = none → Q (.ref p) (upd H p (DnO (GX X) p []))) ⟨fun pins s σ H Q I h => ?_⟩ fun σ H Q ⟨Z, A, γ, S, h⟩ p np => EndE.new S (same_new np) np (by
    simp only [Own]
    exact ⟨[], [], [], upd_same, rfl, rfl, rfl, (fun k hk => by cases hk), Reps.nil, Reps.nil⟩) h
  refine wpAny_Dict_empty ⟨.ref s.heap.objs.size, _, I.laid (a := s.heap.objs.size) (o := DnO (GX X) s.heap.objs.size []) (t' := s.toks) (fun _ _ q => Heap.get?_push_of_some _ q) (Nat.le_refl _) ?_, rfl, h _ (I.hok.fresh (Nat.le_refl _))⟩
  have hq : (s.heap.push { cls := .type "dict", data := .dict #[] }).get? s.heap.objs.size = some { cls := .type "dict", data := .dict #[] } := Heap.get?_push_size _ rfl
  exact ⟨⟨beq_eq_false_iff_ne.mpr (Ne.symm (Nat.ne_of_lt I.big)), Nat.zero_le _, [], .nil, _, #[], 0, hq, ⟨rfl, rfl, rfl⟩, rfl, rfl, List.nodup_nil⟩, ⟨_, hq⟩, fun g1 g2 ⟨z1, z2, zs, zp, zo, ze, zep, z3, z4⟩ hk => ⟨z1, z2, zs, zp, zo, ze, zep, hk _ z3, z4⟩⟩
/-! ### dict(pairs), list(dict) -/
def pairM : MV → Option (Key × MV)
  | .tup [k, v] => (keyM k).map fun k => (k, v)
  | _ => none
def prsM : List MV → Option (List (Key × MV))
  | [] => some []
  | m :: ms => (pairM m).bind fun p => (prsM ms).map (p :: ·)
def mergeD : List Key → List MV → List (Key × MV) → List Key × List MV
  | ks, ms, [] => (ks, ms)
  | ks, ms, p :: ps => if (dFind ks ms p.1).isSome then mergeD ks (dVals ks ms p.1 p.2) ps else mergeD (ks ++ [p.1]) (ms ++ [p.2]) ps
def dictP : MV → Option Cell
  | .lst ms => (prsM ms).map fun ps => ⟨.own, .dk (mergeD [] [] ps).1 (mergeD [] [] ps).2⟩
  | _ => none
theorem prsM_rep {G : GG} {M : Addr → Prop} {H : Hp} : ∀ {ms : List MV} {prs : List (Key × MV)} {vs : List V}, prsM ms = some prs → Reps G M H ms vs → ∃ (ps : List Addr) (kvs : List (Key × V)), vs = ps.map V.ref ∧ Paired (fun p kv => SqT G.K H p [kV kv.1, kv.2]) ps kvs ∧ Paired (fun (p : Key × MV) (q : Key × V) => p.1 = q.1 ∧ Rep G M H p.2 q.2) prs kvs
  | [], prs, vs, e, h => by
    simp only [prsM] at e
    cases e
    simp only [Reps] at h
    exact ⟨[], [], h, .nil, .nil⟩
  | m :: ms, prs, vs, e, h => by
    simp only [prsM, Option.bind_eq_some_iff, Option.map_eq_some_iff] at e
    obtain ⟨p, e1, prs', e2, rfl⟩ := e
    simp only [Reps] at h
    obtain ⟨v, r, rfl, h1, h2⟩ := h
    obtain ⟨ps, kvs, rfl, q1, q2⟩ := prsM_rep e2 h2
    unfold pairM at e1
    split at e1
    · rename_i k m
      obtain ⟨k', e3, rfl⟩ := Option.map_eq_some_iff.mp e1
      simp only [Rep] at h1
      obtain ⟨a, ws, rfl, t, rs⟩ := h1
      simp only [Reps] at rs
      obtain ⟨y, _, rfl, r1, z, _, rfl, r2, rfl⟩ := rs
      obtain rfl := keyM_rep e3 r1
      exact ⟨a :: ps, (k', z) :: kvs, rfl, .cons t.sq q1, .cons ⟨rfl, r2⟩ q2⟩
    · cases e1
theorem mergeD_rep {G : GG} {M : Addr → Prop} {H : Hp} : ∀ {prs : List (Key × MV)} {kvs : List (Key × V)} {ks : List Key} {ms : List MV} {vs : List V}, Paired (fun (p : Key × MV) (q : Key × V) => p.1 = q.1 ∧ Rep G M H p.2 q.2) prs kvs → Reps G M H ms vs → ks.length = vs.length →
    ∃ ws, mergeK (ks.zip vs) kvs = (mergeD ks ms prs).1.zip ws ∧ (mergeD ks ms prs).1.length = ws.length ∧ Reps G M H (mergeD ks ms prs).2 ws
  | [], _, ks, ms, vs, .nil, r, hl => ⟨vs, rfl, hl, r⟩
  | p :: prs, q :: kvs, ks, ms, vs, .cons ⟨e, rp⟩ t, r, hl => by
    have hlm : ks.length = ms.length := by rw [hl, r.len]
    unfold mergeD
    show ∃ ws, mergeK (putK (ks.zip vs) q.1 q.2) kvs = _ ∧ _
    rw [← e]
    split
    · rename_i hin
      have hin' : p.1 ∈ ks := (dFind_some (k := p.1) (vs := ms) (ks := ks) hlm).mp hin
      rw [putK_in hl hin']
      exact mergeD_rep t (vals_rep rp r hl) (by rw [zipW_len hl]; exact hl)
    · rename_i hin
      have hin' : p.1 ∉ ks := fun h => hin ((dFind_some (k := p.1) (vs := ms) (ks := ks) hlm).mpr h)
      rw [putK_out hl hin']
      exact mergeD_rep t (Reps.app r (Reps.one rp)) (by simp [hl])
theorem res_dk {M : Addr → Prop} {H : Hp} {p : Addr} {ks : List Key} {ms : List MV} {vs : List V} (n : H p = none) (hl : ks.length = vs.length) (r : Reps (GX X) M H ms vs) : Res (GX X) M H (upd H p (.dK (ks.zip vs))) ⟨.own, .dk ks ms⟩ (.ref p) := by
  refine ⟨p, rfl, n, ?_⟩
  simp only [Own]
  refine ⟨vs, upd_same, hl, r.keep (.of_same (same_new n)) fun b o hb m => ?_⟩
  rcases m with m | rfl
  · exact m
  · rw [n] at hb; cases hb
theorem cal_dictP (hc : X.calm = true) : Cal1 X (.type "dict") dictP := ⟨_, call_dictP hc, fun M v c x H Q tr e rv q => by
  unfold dictP at e
  split at e
  · obtain ⟨prs, h, rfl⟩ := Option.map_eq_some_iff.mp e
    obtain ⟨a, vs, rfl, h1, h2⟩ := rb_lst rv
    obtain ⟨ps, kvs, rfl, q1, q2⟩ := prsM_rep h h2
    refine ⟨a, ps, kvs, rfl, h1, q1, fun p np => ?_⟩
    obtain ⟨ws, e1, e2, e3⟩ := mergeD_rep (ks := []) (ms := []) (vs := []) q2 Reps.nil rfl
    have e1 : mergeK [] kvs = _ := e1
    rw [e1]
    exact q _ _ (same_new np) (res_dk np e2 e3)
  · cases e⟩
def kM : Key → MV
  | .inl i => .int i
  | .inr x => .str x
def lstD : MV → Option Cell
  | .dk ks _ => some ⟨.own, .lst (ks.map kM)⟩
  | _ => none
theorem kM_rep {G : GG} {M : Addr → Prop} {H : Hp} : ∀ ks : List Key, Reps G M H (ks.map kM) (ks.map kV)
  | [] => Reps.nil
  | k :: ks => Reps.consI (by cases k <;> simp only [kM, Rep] <;> rfl) (kM_rep ks)
theorem call_listDt (hc : X.calm = true) : CallR X (.type "list") (fun xs H Q => ∃ p kvs, xs = [.ref p] ∧ Rd H p (.dK kvs) ∧ ∀ q, H q = none → Q (.ref q) (upd H q (.lst (kvs.map fun kv => kV kv.1)))) := by
  intro pins s σ H xs us Q I r h
  obtain ⟨p, kvs, e, hk, q⟩ := h
  subst e
  obtain ⟨u, eu, rx⟩ := vals1 r
  subst eu
  obtain rfl : u = Value.ref p := rx
  obtain ⟨z, lo, vs, rk, hd⟩ := dk_rd I.hok hk
  obtain ⟨ep, hat⟩ := hd.dictAt
  have hl : kvs.length = vs.length := Paired.length rk
  refine PySem.W.kdl_call (PySem.W.kdl_dict (knd := mixKind X.prog X.w) (kvs := vs) (ep := ep) lo) (I.ok.hd hc) hat (by rw [← hl]; exact z) fun h' tk acc' c' hkeep hS hacc => ?_
  refine ⟨.ref s.heap.objs.size, upd H s.heap.objs.size (.lst (kvs.map fun kv => kV kv.1)), I.laid hkeep (Nat.le_refl _) (show ObjOk X.prog X.w _ _ _ (.lst (kvs.map fun kv => kV kv.1)) from ⟨?_, acc'.toList, c', ?_, ?_⟩), rfl, q _ (I.hok.fresh (Nat.le_refl _))⟩
  · rw [List.length_map]; exact z
  · have el : acc'.toList.length = acc'.size := by simp
    refine vals_of_at (by rw [List.length_map, el, hacc.1, hl]) fun j x w h1 h2 => ?_
    obtain ⟨k, y, hky, hi⟩ := hacc.2 j w (by rw [← Array.getElem?_toList]; exact h2)
    have e1 : (kvs.map (·.1))[j]? = some k := by
      rw [KV.keys rk, List.getElem?_map, hky] <;> rfl
    have e2 : (kvs.map fun kv => kV kv.1)[j]? = some (kV k) := by
      have e3 : (kvs.map fun kv => kV kv.1) = (kvs.map (·.1)).map kV := by rw [List.map_map] <;> rfl
      rw [e3, List.getElem?_map, e1] <;> rfl
    rw [e2] at h1
    cases h1
    exact keyIs_rel hi
  · rw [Array.toArray_toList]; exact hS
theorem cal_lstD (hc : X.calm = true) : Cal1 X (.type "list") lstD := ⟨_, call_listDt hc, fun M v c x H Q tr e rv q => by
  unfold lstD at e
  split at e
  · cases e
    obtain ⟨a, vs, rfl, h1, h2, h3⟩ := dk_repB rv
    refine ⟨a, _, rfl, h1, fun p np => ?_⟩
    have ek : ∀ (ks : List Key) (vs : List V), ks.length = vs.length → ((ks.zip vs).map fun kv => kV kv.1) = ks.map kV := by
      intro ks
      induction ks with
      | nil => intro vs _; rfl
      | cons k ks ih =>
        intro vs hl
        cases vs with
        | nil => cases hl
        | cons v vs => simp only [List.zip_cons_cons, List.map_cons]; rw [ih vs (by simpa using hl)]
    rw [ek _ _ h2]
    exact q _ _ (same_new np) (res_lst np (kM_rep _))
  · cases e⟩
abbrev listM : MV → Option Cell := fun v => (lstM v).or (lstD v)
theorem cal_list (hc : X.calm = true) : Cal1 X (.type "list") listM := cal_lst.or (cal_lstD hc)
end
/-! ### (a, *b) -/
section
variable {X : Cx} {a b e e1 : Expr} {es : List Expr} {f : FE} {fa : FA} {pos : Pos} {x1 }
def rowM : MV → Option (List MV)
  | .lst ms => some ms
  | .tup ms => some ms
  | _ => none
def aStar (f : FE) (r : FA) : FA := fun γ => match f γ with
  | .ok c γ1 => (match rowM c.v with
    | some ns => (match r γ1 with
      | .ok ms γ2 => .ok (ns ++ ms) γ2
      | .ex e γ2 => .ex e γ2
      | .no => .no)
    | none => .no)
  | .ex e γ1 => .ex e γ1
  | .no => .no
theorem ra_star {p : Pos} (ha : RE X e f) (hr : RA X es fa) (hs : starEach (.Starred e p :: es) X.env = (true, eval e X.env) :: starEach es X.env := by rfl) : RA X (.Starred e p :: es) (aStar f fa) := fun W tk =>
  PA_imp (StX.pa_star (ha W tk) (hr W tk) hs) fun σ H Q ⟨Z, A, γ, S, h⟩ => by
    refine ⟨Z, A, γ, S, ?_⟩
    unfold aStar at h
    cases E1 : f γ with
    | no => rw [E1] at h; exact h
    | ex e γ1 => rw [E1] at h; exact h
    | ok c γ1 =>
      rw [E1] at h
      simp only at h
      intro x A1 H1 hs le k
      have rep := hs.rep
      cases E3 : rowM c.v with
      | none => rw [E3] at h; exact h.elim
      | some ns =>
        rw [E3] at h
        simp only at h
        have ⟨p, ys, ex, hq, hy⟩ : ∃ p ys, x = .ref p ∧ (SqT X.K H1 p ys ∨ SqL X.K H1 p ys) ∧ Reps (GX X) (Mz Z A1) H1 ns ys := by
          cases ec : c.v with
          | lst ms =>
            rw [ec] at rep E3
            cases E3
            obtain ⟨p, ys, rfl, h1, h2⟩ := rb_lst (.inl rep)
            exact ⟨p, ys, rfl, .inr h1, h2⟩
          | tup ms =>
            rw [ec] at rep E3
            cases E3
            obtain ⟨p, ys, rfl, h1, h2, _⟩ := rb_tup (.inl rep)
            exact ⟨p, ys, rfl, .inl h1, h2⟩
          | _ => rw [ec] at E3; cases E3
        subst ex
        refine ⟨p, ys, rfl, hq, Z, A1, γ1, hs.sim, ?_⟩
        cases E2 : fa γ1 with
        | no => rw [E2] at h; exact h
        | ex e γ2 =>
          rw [E2] at h
          exact fun A2 H2 cls d S le2 kk => h A2 H2 cls d S (le2.trans le) (k.trans kk fun b _ _ m => le.mz b m)
        | ok ms γ2 =>
          rw [E2] at h
          intro xs A2 H2 S2 le2 kk r2
          exact h (ys ++ xs) A2 H2 S2 (le2.trans le) (k.trans kk fun b _ _ m => le.mz b m) (Reps.app (hy.keep kk fun b _ _ m => le2.mz b m) r2)
/-- so many, told by looking -/
def aLim (n : Nat) (fa : FA) : FA := fun γ => match fa γ with
  | .ok ms γ1 => if ms.length = n then .ok ms γ1 else .no
  | .ex e γ1 => .ex e γ1
  | .no => .no
theorem ra_lim {n : Nat} (h : RA X es fa) : RA X es (aLim n fa) := fun W tk => PA_imp (h W tk) fun σ H Q ⟨Z, A, γ, S, h⟩ => by
  refine ⟨Z, A, γ, S, ?_⟩
  unfold aLim at h
  cases E : fa γ with
  | no => rw [E] at h; exact h
  | ex e γ1 => rw [E] at h; exact h
  | ok ms γ1 =>
    rw [E] at h
    simp only at h
    split at h
    · exact h
    · exact h.elim
theorem lim_lim {n : Nat} {fa : FA} : Lim n (aLim n fa) := fun γ ms γ' h => by
  unfold aLim at h
  split at h
  · split at h
    · rename_i e
      cases h
      exact e
    · cases h
  · cases h
  · cases h
def eTupD (fa : FA) : FE := fun γ => match fa γ with
  | .ok ms γ1 => if ms.length ≤ sizeLine then .ok ⟨.val, .tup ms⟩ γ1 else .no
  | .ex e γ1 => .ex e γ1
  | .no => .no
theorem re_tupD {x1} (ha : RA X es fa) : RE X (.Tuple es x1 pos) (eTupD fa) := fun W tk =>
  PE_imp (pe_tup (ha W tk)) fun σ H Q ⟨Z, A, γ, S, h⟩ => by
    refine ⟨Z, A, γ, S, ?_⟩
    unfold eTupD at h
    cases E1 : fa γ with
    | no => rw [E1] at h; exact h
    | ex e γ1 => rw [E1] at h; exact h
    | ok ms γ1 =>
      rw [E1] at h
      simp only at h
      split at h
      · rename_i hz
        intro xs A1 H1 S1 le k r
        refine ⟨by rw [r.len]; exact hz, fun p np => ?_⟩
        have e : Same H1 (upd H1 p (.tup xs)) := same_new np
        refine h (.ref p) A1 _ ⟨S1.same e, ?_⟩ le (k.trans (Keep.of_same e) fun b _ _ m => le.mz b m)
        simp only [Rep]
        exact ⟨p, xs, rfl, .inl ⟨.inl upd_same, S1.trk.new np⟩, r.same e⟩
      · exact h.elim
end
/-! ### isinstance -/
def tagM : MV → Option String
  | .non => some "NoneType"
  | .bl _ => some "bool"
  | .int _ => some "int"
  | .str _ => some "str"
  | .tup _ => some "tuple"
  | .lst _ => some "list"
  | .dk _ _ => some "dict"
  | _ => none
/-- of the class T of the built-ins -/
def isiT (f : String → Option Bool) (g : List (Str × Bool)) : MV → Option Cell
  | .ins C _ => (tbF g C).map vB
  | v => (tagM v).bind fun t => (f t).map vB
theorem tyx_rep {G : GG} {M : Addr → Prop} {H : Hp} {v : MV} {t : String} {x : V} (e : tagM v = some t) (h : RepB G M H v x) : TyX G.K H x (.type t) := by
  cases v with
  | non => cases e; rw [rb_non h]; exact .base .non
  | bl b => cases e; rw [rb_bl h]; exact .base (.bl b)
  | int b => cases e; rw [rb_int h]; exact .base (.int b)
  | str b => cases e; rw [rb_str h]; exact .base (.str b)
  | tup ms =>
    cases e
    obtain ⟨a, vs, rfl, h1, _⟩ := rb_tup h
    rcases h1 with (h1 | ⟨o, h1⟩) | ⟨o, its, n, h1, h2, _⟩
    · exact .base (.tup h1)
    · exact .fTuple h1
    · exact .kTuple h1 h2
  | lst ms =>
    cases e
    obtain ⟨a, vs, rfl, h1, _⟩ := rb_lst h
    rcases h1 with (h1 | ⟨o, h1⟩) | ⟨o, its, n, h1, h2, _⟩
    · exact .base (.lst h1)
    · exact .base (.frz h1)
    · exact .kList h1 h2
  | dk ks ms =>
    cases e
    obtain ⟨a, vs, rfl, h1 | ⟨o, h1⟩, _⟩ := dk_repB h
    · exact .base (.dK h1)
    · exact .fDict h1
  | _ => cases e
/-- the tests of instances of own classes -/
def IsG (K : PySem.W.Frag) (u : Value) (g : List (Str × Bool)) : Prop := ∀ p ∈ g, p.1 ≠ ("" : Str) ∧ SlX.SCls K (He.ga K p.1) ∧ SlX.SIsi K (He.ga K p.1) ∧ PySem.W.kitOne K (.ref (He.ga K p.1)) u = some p.2
section
variable {X : Cx} {a : Expr} {pos p p2 : Pos} {o : Opd} {f : String → Option Bool} {g : List (Str × Bool)}
def rIsiM (K : PySem.W.Frag) (c : V) (u : Value) : V → Hp → VK → Prop := fun x H Q => (∃ t b, TyX K H x (.type t) ∧ PySem.W.kitOne K (.type t) u = some b ∧ Q (.bl b) H) ∨ ∃ (a C dx : Addr) (vs : List (Option V)) (b : Bool), x = .ref a ∧ SlX.Slt H a C dx vs ∧ SlX.SCls K C ∧ SlX.SIsi K C ∧ PySem.W.kitOne K (.ref C) u = some b ∧ Q (.bl b) H
theorem isi_both {c : V} {u : Value} (k : ClsV c u) (one : ∀ w, RelV c w → w = u) (rc : RelV c u) : CallR X (.builtin "isinstance") (fun xs H Q => ∃ x, xs = [x, c] ∧ rIsiM X.K c u x H Q) := by
  intro pins s σ H xs us Q I r h
  obtain ⟨x, rfl, ⟨t, b, ty, kb, q⟩ | ⟨a, C, dx, vs, b, rfl, sl, sc, si, kb, q⟩⟩ := h
  · exact call_isi pins s σ H _ us Q I r ⟨x, c, _, u, b, rfl, k, ty, kb, q⟩
  · exact SlX.call_isiSl u pins s σ H _ us Q I r ⟨a, C, dx, vs, c, b, rfl, rc, one, sl, sc, si, kb, q⟩
theorem isi_one {W : WX} {σ : L2.St} {H : Hp} {Q : VK} {c : V} {u : Value} (hf : ∀ t b, f t = some b → PySem.W.kitOne X.K (.type t) u = some b) (hg : IsG X.K u g) (h : tME (GX X) (e1 (isiT f g) o) W σ H Q) : tMQ (GX X) o W σ H fun x H1 => ∃ x', [x, c] = [x', c] ∧ rIsiM X.K c u x' H1 Q :=
  one (r := fun x H Q => ∃ x', [x, c] = [x', c] ∧ rIsiM X.K c u x' H Q) (fun M v cc x H Q tr e rv q => ⟨x, rfl, by
    unfold isiT at e
    split at e
    · rename_i C ms
      obtain ⟨b, e', rfl⟩ := Option.map_eq_some_iff.mp e
      obtain ⟨n, sc, si, kb⟩ := hg _ (tbF_mem e')
      obtain ⟨a, dx, vs, rfl, h1, _⟩ := rb_ins n rv
      exact .inr ⟨a, _, dx, _, b, rfl, h1, sc, si, kb, q _ H (.refl _) res_bl⟩
    · obtain ⟨t, e1, e⟩ := Option.bind_eq_some_iff.mp e
      obtain ⟨b, e2, rfl⟩ := Option.map_eq_some_iff.mp e
      exact .inl ⟨t, b, tyx_rep e1 rv, hf t b e2, q _ H (.refl _) res_bl⟩⟩) h
/-- isinstance(a, T), T built in -/
abbrev kitT (T : String) (t : String) : Option Bool := L2.kitB t T
theorem re_isi {x : Str} {Tn : String} (hg : Gl X "isinstance") (hm : X.mg "isinstance" = none) (hT : PE X (.Name x p2) (tC (.ty Tn))) (hi : IsG X.K (.type Tn) g) (ha : RQ X a o)
    (hs : starEach [a, .Name x p2] X.env = (false, eval a X.env) :: starEach [.Name x p2] X.env := by rfl) (hs' : starEach [.Name x p2] X.env = (false, eval (.Name x p2) X.env) :: starEach [] X.env := by rfl) (hpl : (backTo pos (starEach [.Name x p2] X.env)).any (·.1) = false := by rfl) :
    RE X (.Call (.Name "isinstance" p) [a, .Name x p2] [] pos) (e1 (isiT (kitT Tn) g) o) := fun W tk =>
  PE_imp (pe_callB (isi_both (c := .ty Tn) (u := .type Tn) (.ty Tn) (fun w h => h) rfl) hg hm (by rfl) (pa_cons (ha W tk) (pa_cons hT pa_nil hs') hs) (by decide) (by decide) hs hpl) fun σ H Q h =>
    isi_one (c := .ty Tn) (f := kitT Tn) (fun t b e => kit_ty e) hi h
/-- isinstance(a, C), C an own class; f: which built-in types are told -/
theorem re_isiC {C : Str} {f : String → Option Bool} (hg : Gl X "isinstance") (hm : X.mg "isinstance" = none) (hT : PE X (.Name C p2) (tC (.ref (He.ga X.K C)))) (hf : ∀ t b, f t = some b → PySem.W.kitOne X.K (.type t) (.ref (He.ga X.K C)) = some b) (hi : IsG X.K (.ref (He.ga X.K C)) g) (ha : RQ X a o)
    (hs : starEach [a, .Name C p2] X.env = (false, eval a X.env) :: starEach [.Name C p2] X.env := by rfl) (hs' : starEach [.Name C p2] X.env = (false, eval (.Name C p2) X.env) :: starEach [] X.env := by rfl) (hpl : (backTo pos (starEach [.Name C p2] X.env)).any (·.1) = false := by rfl) :
    RE X (.Call (.Name "isinstance" p) [a, .Name C p2] [] pos) (e1 (isiT f g) o) := fun W tk =>
  PE_imp (pe_callB (isi_both (c := .ref (He.ga X.K C)) (u := .ref (He.ga X.K C)) (.own _) (fun w h => h) rfl) hg hm (by rfl) (pa_cons (ha W tk) (pa_cons hT pa_nil hs') hs) (by decide) (by decide) hs hpl) fun σ H Q h =>
    isi_one (c := .ref (He.ga X.K C)) hf hi h
end
/-! ### len of one's own -/
section
variable {X : Cx} {a : Expr} {pos p : Pos} {f : FE} {tb : List (Str × (List MV → RF))} {k j : Nat}
theorem call_lenG {E : L2.St → XK} {C : Str} {F : List MV → RF} {pins : List (Addr × Obj)} {σ : L2.St} {H : Hp} {s : Shared} {Q : VK} {a dx : Addr} {vs : List (Option V)} {ps : List Str} (hps : ps.length = 1) (M : MthM X.prog X.w X.K X.mg X.base k C "__len__" ps F) (hr : Room j X.A) (hk : k + 1 ≤ j) (hgd : X.A.guards = some [])
    (hx : ∀ (pins : List (Addr × Obj)) (H : Hp) (s : Shared) (e : Value) (s' : Shared), L2.Inv X pins σ H s → CX X.prog X.w X.stack H s (E σ) e s' → X.xe e s') (I : L2.Inv X pins σ H s) (hsl : SlX.Slt H a (He.ga X.K C) dx vs)
    (q : spM X.prog X.w X.K 1 none F [.ref a] H (fun z H' => ∃ i : Int, z = .int i ∧ 0 ≤ i ∧ i < 2 ^ 63 ∧ Q z H') (E σ)) : wpAny (model X.prog X.w) X.A (call (.builtin "len") [.ref a]) (EP X pins σ Q) X.xe s := by
  obtain ⟨_, fd, G, b, c, hm⟩ := M
  obtain ⟨sl, od, _, J, _⟩ := SlX.slt_inst I hsl
  refine Calls.call_function_entry kind_len plain_len entry_len (args_len1 _) ?_
  unfold Builtin.«len»
  refine wpAny_bind (m := oneArg "len" _) (wpAny_pure ?_)
  have run := G.run X.A.in1 X.stack s H ⟨[.ref a], []⟩ [.ref a] [.ref a] _ (E σ) (hr.mono hk).in1 hgd I.env0.in1 (by
    have := b s [.ref a] I.kIn (by rw [List.append_nil]; exact hps.symm)
    rwa [List.append_nil] at this) (.cons rfl .nil) (by rw [hps]; exact q)
  refine wpAny_bind (m := callSpecial? (.ref a) (PySem.Str.ofString "__len__")) (PySem.W.special_fn I.kIn J hm.at_ (beq_iff_eq.mp hm.fn) (wpAny_call (codeAny_mono run fun r s' z => ?_)))
  cases r with
  | error e => exact hx pins H s e s' I z
  | ok fl =>
    cases fl with
    | ret u =>
      obtain ⟨z', H', I', rz, i, ei, hi0, hi1, qz⟩ := I.after z
      subst ei
      obtain ⟨t, e⟩ := (show ∃ t, u = Value.int i t from rz)
      cases e
      refine wpAny_bind (wpAny_holding (wpAny_pure ?_))
      refine wpAny_bind (wpAny_letGo ?_)
      show wpAny _ _ (if i < 0 then _ else _) _ _ _
      rw [if_neg (by omega)]
      show wpAny _ _ (if i ≥ 2 ^ 63 then _ else _) _ _ _
      rw [if_neg (by omega)]
      exact wpAny_bind (wpAny_mkInt (wpAny_pure ⟨_, rfl, .int i, H', I'.tok _, ⟨_, rfl⟩, qz⟩))
    | next => exact z.elim
    | brk => exact z.elim
    | cont => exact z.elim
def intB : MV → Option Int
  | .int n => if 0 ≤ n ∧ n < 2 ^ 63 then some n else none
  | _ => none
def lenO (tb : List (Str × (List MV → RF))) : MV → Option Cell
  | .ins C vs => (tbF tb C).bind fun F => match F [.ins C vs] with
    | .rt ⟨.val, v⟩ _ => (intB v).map vI
    | _ => none
  | _ => none
theorem cal_lenO (ht : MTb X k 0 "__len__" tb) (hr : Room j X.A) (hgd : X.A.guards = some []) (hk : k + 1 ≤ j := by decide) : Cal1 X (.builtin "len") (lenO tb) := by
  refine ⟨fun xs H Q => ∃ C F a dx vs ps, xs = [V.ref a] ∧ ps.length = 1 ∧ SlX.Slt H a (He.ga X.K C) dx vs ∧ MthM X.prog X.w X.K X.mg X.base k C "__len__" ps F ∧ spM X.prog X.w X.K 1 none F [.ref a] H (fun z H' => ∃ i : Int, z = .int i ∧ 0 ≤ i ∧ i < 2 ^ 63 ∧ Q z H') (fun _ _ _ => False),
    fun pins s σ H xs us Q I r ⟨C, F, a, dx, vs, ps, e, hps, sl, M, q⟩ => ?_, fun M v c x H Q tr e rv q => ?_⟩
  · subst e
    obtain ⟨u, rfl, ru⟩ := vals1 r
    cases ru
    exact call_lenG (E := fun _ _ _ _ => False) hps M hr hk hgd (fun pins H s e s' I2 cx => by
      obtain ⟨_, _, _, _, _, _, _, _, _, _, _, _, hE⟩ := cx
      exact hE.elim) I sl q
  · unfold lenO at e
    split at e
    · rename_i C vs
      obtain ⟨F, e1, e⟩ := Option.bind_eq_some_iff.mp e
      split at e
      · rename_i v out e2
        obtain ⟨n, e3, rfl⟩ := Option.map_eq_some_iff.mp e
        obtain ⟨ps, hps, Mm⟩ := ht _ (tbF_mem e1)
        obtain ⟨a, dx, ws, rfl, h1, _, hrp⟩ := rb_ins Mm.1 rv
        refine ⟨C, F, a, dx, _, ps, rfl, hps, h1, Mm, rfl, M, [.ins C vs], tr, ⟨rfl, fun i m x hm hx _ => ?_, fun i hi => by cases hi⟩, ?_⟩
        · cases i with
          | zero => cases hm; cases hx; exact hrp
          | succ i => simp at hm
        · rw [e2]
          intro x H' dn
          have sm : Same H H' := fun b o hb => dn.keep b o (fun i hi => by cases hi) hb
          have rx : Rep (GX X) M H' v x := dn.2
          unfold intB at e3
          split at e3
          · rename_i n'
            split at e3
            · rename_i hn
              cases e3
              simp only [Rep] at rx
              subst rx
              exact ⟨_, rfl, hn.1, hn.2, q _ H' sm res_int⟩
            · cases e3
          · cases e3
      · cases e
    · cases e
end
end Mi

set_option Elab.async false
set_option linter.all false
set_option maxRecDepth 100000
set_option maxHeartbeats 4000000
/-! comprehensions with two for -/
namespace Mi
open PySem PySem.Spec PyProof.Rows L2 My

/-- turns: the target, then what a turn adds -/
def loopM (t : Tg) (bd : Sg → Option (List MV × Sg)) (vs : List Nat) : List MV → Sg → Option (List MV × Sg)
  | [], γ => some ([], γ)
  | m :: ms, γ => match asgM t m γ with
    | none => none
    | some γ1 => match bd γ1 with
      | none => none
      | some (ns, γ2) => (loopM t bd vs ms (wipeG γ2 vs)).map fun r => (ns ++ r.1, r.2)
def bd1 (tt : FT) (f : FE) : Sg → Option (List MV × Sg) := fun γ => match tt γ with
  | .ok true γ1 => (match f γ1 with
    | .ok c γ2 => some ([c.v], γ2)
    | _ => none)
  | .ok false γ1 => some ([], γ1)
  | _ => none
def bd2 (tt : FT) (fi : FI) (t1 : Tg) (vs1 : List Nat) (bd : Sg → Option (List MV × Sg)) : Sg → Option (List MV × Sg) := fun γ => match tt γ with
  | .ok true γ1 => (match fi γ1 with
    | .ok ms γ2 => loopM t1 bd vs1 ms (wipeG γ2 vs1)
    | _ => none)
  | .ok false γ1 => some ([], γ1)
  | _ => none
def eComp2 (t : Tg) (fi : FI) (tt : FT) (fi1 : FI) (t1 : Tg) (tt1 : FT) (f : FE) (vs vs1 : List Nat) : FE := fun γ => match fi γ with
  | .ok ms γ1 => (match loopM t (bd2 tt fi1 t1 vs1 (bd1 tt1 f)) vs ms (wipeG γ1 vs) with
    | some (rs, γ2) => if rs.length ≤ sizeLine then .ok ⟨.own, .lst rs⟩ (backG γ1 vs γ2) else .no
    | none => .no)
  | .ex e γ1 => .ex e γ1
  | .no => .no
theorem loopM_nil {t : Tg} {bd : Sg → Option (List MV × Sg)} {vs : List Nat} {γ γ' : Sg} {rs : List MV} (h : loopM t bd vs [] γ = some (rs, γ')) : rs = [] ∧ γ' = γ := by
  unfold loopM at h
  cases h
  exact ⟨rfl, rfl⟩
section
variable {X : Cx} {Zl : Ent} {D : Addr} {vs : List Nat} {σ : L2.St} {J : It} {ms : List MV} {P : Ent → AM → Hp → Prop} {src : Addr → Prop} {t : Tg} {bd : Sg → Option (List MV × Sg)} {A2 : AM} {γ0 γf : Sg} {H0 : Hp} {acc0 : List V} {rs0 rest : List MV}
theorem loop_gen (nf : ∀ u, ¬ Zl.F D u) (K : ItOk (GX X) J ms P src) (nsrc : ¬ src D) (hsub : ∀ i ∈ t.slots, i ∈ vs)
    (S0 : Sim (GX X) (Zl.wait D (.lst acc0)) A2 γ0 (L2.wipe σ vs) H0) (hv0 : ∀ j ∈ vs, γ0[j]? = none ∨ γ0[j]? = some none) (r0 : Reps (GX X) (Mz (Zl.wait D (.lst acc0)) A2) H0 rs0 acc0) (p0 : P (Zl.wait D (.lst acc0)) A2 H0)
    (hc0 : loopM t bd vs ms γ0 = some (rest, γf)) (hsz : rs0.length + rest.length ≤ sizeLine) {QQ : Hp → Prop}
    (fin : ∀ A' H' acc, Sim (GX X) (Zl.wait D (.lst acc)) A' γf (L2.wipe σ vs) H' → (∀ j ∈ vs, γf[j]? = none ∨ γf[j]? = some none) → Reps (GX X) (Mz (Zl.wait D (.lst acc)) A') H' (rs0 ++ rest) acc → Le A' A2 → Keep (Mz (Zl.wait D (.lst acc0)) A2) H0 H' → QQ H')
    {BODY : L2.St → Hp → (Hp → Prop) → Prop}
    (hb : ∀ σ2 A3 γ2 acc rs H2 ns γ3 (NX : Hp → Prop), Sim (GX X) (Zl.wait D (.lst acc)) A3 γ2 σ2 H2 → L2.wipe σ2 vs = L2.wipe σ vs → Reps (GX X) (Mz (Zl.wait D (.lst acc)) A3) H2 rs acc → bd γ2 = some (ns, γ3) → rs.length + ns.length ≤ sizeLine →
      (∀ σ4 A4 H4 acc', Sim (GX X) (Zl.wait D (.lst acc')) A4 γ3 σ4 H4 → L2.wipe σ4 vs = L2.wipe σ vs → Reps (GX X) (Mz (Zl.wait D (.lst acc')) A4) H4 (rs ++ ns) acc' → Le A4 A3 → Keep (Mz (Zl.wait D (.lst acc)) A3) H2 H4 → NX H4) → BODY σ2 H2 NX) :
    ∃ W : Nat → Nat → Hp → Prop, (∃ m, W 0 m H0) ∧ ∀ i m H, W i m H → (J.stop i H ∧ QQ H) ∨ (J.go i H ∧ ∃ Nx : Hp → Prop, (∀ H', Nx H' → ∃ m', m' < m ∧ W (i + 1) m' H') ∧ ∀ x H', J.yld i H x H' → tMG (GX X) t x (L2.wipe σ vs) H' fun σ2 H2 => L2.wipe σ2 vs = L2.wipe σ vs ∧ BODY σ2 H2 Nx) := by
  have mzs : ∀ (a b : List V) (A : AM) (c : Addr), Mz (Zl.wait D (.lst a)) A c → Mz (Zl.wait D (.lst b)) A c := fun a b A c m => (mz_wait c).mpr ((mz_wait c).mp m)
  refine ⟨fun i m H' => m = ms.length - i ∧ i ≤ ms.length ∧ ∃ A' γ' acc rs rest', Sim (GX X) (Zl.wait D (.lst acc)) A' γ' (L2.wipe σ vs) H' ∧ (∀ j ∈ vs, γ'[j]? = none ∨ γ'[j]? = some none) ∧ Reps (GX X) (Mz (Zl.wait D (.lst acc)) A') H' rs acc ∧ P (Zl.wait D (.lst acc)) A' H' ∧
      loopM t bd vs (ms.drop i) γ' = some (rest', γf) ∧ rs ++ rest' = rs0 ++ rest ∧ Le A' A2 ∧ Keep (Mz (Zl.wait D (.lst acc0)) A2) H0 H',
    ⟨ms.length, by simp, Nat.zero_le _, A2, γ0, acc0, rs0, rest, S0, hv0, r0, p0, by rw [List.drop_zero]; exact hc0, rfl, .refl, .refl⟩, ?_⟩
  rintro i m H' ⟨rfl, hi, A', γ', acc, rs, rest', S', hv, hrs, p', hc, hall, le', k'⟩
  by_cases hlt : i < ms.length
  · refine .inr ⟨K.go hlt p', fun H3 => i + 1 ≤ ms.length ∧ ∃ A3 γ3 acc3 rs3 rest3, Sim (GX X) (Zl.wait D (.lst acc3)) A3 γ3 (L2.wipe σ vs) H3 ∧ (∀ j ∈ vs, γ3[j]? = none ∨ γ3[j]? = some none) ∧ Reps (GX X) (Mz (Zl.wait D (.lst acc3)) A3) H3 rs3 acc3 ∧ P (Zl.wait D (.lst acc3)) A3 H3 ∧
        loopM t bd vs (ms.drop (i + 1)) γ3 = some (rest3, γf) ∧ rs3 ++ rest3 = rs0 ++ rest ∧ Le A3 A2 ∧ Keep (Mz (Zl.wait D (.lst acc0)) A2) H0 H3,
      fun H3 q => ⟨ms.length - (i + 1), by omega, rfl, q.1, q.2⟩, fun x H2 y => ?_⟩
    obtain ⟨e2, m, hm, r2⟩ := K.yld p' S' hlt y
    have em : ms.drop i = m :: ms.drop (i + 1) := by
      rw [List.drop_eq_getElem_cons hlt]
      rw [List.getElem?_eq_getElem hlt] at hm
      rw [Option.some.inj hm]
    rw [em] at hc
    simp only [loopM] at hc
    have S2 := S'.same e2
    have p2 := K.stp p' S' S2 (.of_same e2)
    cases E3 : asgM t m γ' with
    | none => rw [E3] at hc; cases hc
    | some γ2 =>
      rw [E3] at hc
      simp only at hc
      cases E4 : bd γ2 with
      | none => rw [E4] at hc; cases hc
      | some nb =>
        obtain ⟨ns, γ3⟩ := nb
        rw [E4] at hc
        simp only [Option.map_eq_some_iff] at hc
        obtain ⟨⟨rest3, γr⟩, hc, hr⟩ := hc
        have hr1 : ns ++ rest3 = rest' := congrArg Prod.fst hr
        have hr2 : γr = γf := congrArg Prod.snd hr
        subst hr2
        refine ⟨_, A', γ', m, S2, r2, γ2, E3, fun σ3 A3 S3 le3 out3 => ?_⟩
        have hw : L2.wipe σ3 vs = L2.wipe σ vs := by
          rw [← wipe_wipe (σ := σ)]
          exact wipe_eq (by rw [← S3.len, ← S2.len]; exact (asgM_len _ _ _ _ E3)) fun j hj => out3 j fun z => hj (hsub j z)
        refine ⟨hw, hb σ3 A3 γ2 acc rs H2 ns γ3 _ S3 hw ?_ E4 ?_ fun σ4 A4 H4 acc4 S4 hw4 rs4 le4 k4 => ?_⟩
        · exact hrs.keep (.of_same e2) fun b _ _ m => le3.mz b m
        · have := congrArg List.length hall
          rw [List.length_append, List.length_append, ← hr1, List.length_append] at this
          omega
        · -- the walked thing, behind the turn
          have k24 : Keep (Mz (Zl.wait D (.lst acc)) A') H' H4 := (Keep.of_same e2).trans (k4.mono fun b m => le3.mz b m) fun _ _ _ m => m
          have Sr := Sim.rew (o' := .lst acc4) nf S'
          have pr := K.rew (o' := .lst acc4) nsrc p'
          obtain ⟨A5, le5, S5⟩ := S4.wipe vs
          rw [hw4] at S5
          have l5 : Le A5 A' := le5.trans (le4.trans le3)
          have hD4 := S4.waits
          have kr : Keep (Mz (Zl.wait D (.lst acc4)) A') (upd H' D (.lst acc4)) H4 := ⟨fun b o n hb => by
            have hbd : b ≠ D := fun z => n (by rw [z]; exact wait_in)
            rw [upd_ne hbd] at hb
            exact k24.at_ b o (fun z => n (mzs _ _ _ _ z)) hb, fun b o hb => by
            by_cases hbd : b = D
            · exact ⟨_, by rw [hbd]; exact hD4⟩
            · rw [upd_ne hbd] at hb
              exact k24.on b o hb⟩
          have p5 := K.stp pr Sr S5 (.of l5 kr)
          refine ⟨hlt, A5, wipeG γ3 vs, acc4, rs ++ ns, rest3, S5, fun j hj => wipeG_at hj, rs4.keep .refl fun b _ _ m => le5.mz b m, p5, hc, ?_, l5.trans le', ?_⟩
          · rw [List.append_assoc, hr1]
            exact hall
          · exact k'.trans k24 fun b o hb m => mzs _ _ _ _ (le'.mz b m)
  · have e : i = ms.length := by omega
    subst e
    rw [List.drop_length] at hc
    obtain ⟨h1, h2⟩ := loopM_nil hc
    subst h1 h2
    rw [List.append_nil] at hall
    subst hall
    exact .inl ⟨K.stop p', fin A' H' acc S' hv hrs le' k'⟩
end
/-! what stays of itself while it is walked: tuples, texts -/
def EndIT (G : GG) (Z : Ent) (W : WX) (A : AM) (σ : L2.St) (H : Hp) (R' : It → Hp → Prop) : R (List MV) → Prop
  | .ok ms γ' => ∀ J l A' H' P, Stg G Z A H l A' γ' σ H' → ItOk G J ms P (fun _ => False) → P (Z.waits l) A' H' → R' J H'
  | .ex e γ' => EndX G Z W A σ H e γ'
  | .no => False
def tMIT (G : GG) (fi : FI) (W : WX) : TI := fun σ H R' => ∃ Z A γ, Sim G Z A γ σ H ∧ EndIT G Z W A σ H R' (fi γ)
def RIT (X : Cx) (tg e : Expr) (fi : FI) : Prop := ∀ W : WX, Takes X W → PI X tg e (tMIT (GX X) fi W)
def fTup (o : Opd) : FI := fun γ => match oEv o γ with
  | .ok c γ1 => if walkable o c then (match c.v with
    | .tup ms => .ok ms γ1
    | .str z => .ok (z.cps.toList.map fun c => .str ⟨#[c]⟩) γ1
    | _ => .no) else .no
  | .ex e γ1 => .ex e γ1
  | .no => .no
section
variable {X : Cx} {tg e : Expr} {o : Opd}
theorem rit_tup (ha : RQ X e o) : RIT X tg e (fTup o) := fun W tk => PI_imp (pi_seq (ha W tk)) fun σ H R ⟨Z, A, γ, S, h⟩ => by
  refine (Stg.start S).run ?_
  unfold fTup at h
  cases E1 : oEv o γ with
  | no => rw [E1] at h; exact h
  | ex e γ1 => rw [E1] at h; exact h
  | ok c γ1 =>
    rw [E1] at h
    simp only at h ⊢
    intro x l1 A1 H1 T1 _ L1
    split at h
    · rename_i hw
      have hd := L1.hold T1.sim hw fun i e => by
        subst e
        obtain ⟨e1, e2⟩ := oEv_sl E1
        rw [e1]
        exact e2
      obtain ⟨k, v⟩ := c
      cases v with
      | tup ms =>
        obtain ⟨a, vs, rfl, h1, h2⟩ := hd.tup
        exact .inr (.inl ⟨a, rfl, ⟨vs, h1⟩, h _ l1 A1 H1 _ T1 it_tup hd⟩)
      | str z =>
        have := hd.str
        exact .inr (.inr ⟨z, this, h _ l1 A1 H1 _ T1 it_str trivial⟩)
      | _ => exact h.elim
    · exact h.elim
end
theorem comp2_end {X : Cx} {t t1 : Tg} {fi fi1 : FI} {tt tt1 : FT} {f : FE} {vs vs1 : List Nat} {W : WX} (hsub : ∀ i ∈ t.slots, i ∈ vs) (hsub1 : ∀ i ∈ t1.slots, i ∈ vs1) (hv1 : ∀ i ∈ vs1, i ∈ vs) {σ : L2.St} {H : Hp} {Q : VK} (h : tME (GX X) (eComp2 t fi tt fi1 t1 tt1 f vs vs1) W σ H Q) :
    tLc2 (tMI (GX X) fi W) (tMG (GX X) t) (tMT (GX X) tt Bot) (tMIT (GX X) fi1 Bot) (tMG (GX X) t1) (tMT (GX X) tt1 Bot) (tME (GX X) f Bot) vs vs1 σ H Q := by
  obtain ⟨Z, A, γ, S, h⟩ := h
  refine ⟨Z, A, γ, S, ?_⟩
  unfold eComp2 at h
  cases E1 : fi γ with
  | no => rw [E1] at h; exact h
  | ex e γ1 => rw [E1] at h; exact h
  | ok ms γ1 =>
    rw [E1] at h
    simp only at h
    intro J l A1 H1 P src T K p1 D nD
    cases E2 : loopM t (bd2 tt fi1 t1 vs1 (bd1 tt1 f)) vs ms (wipeG γ1 vs) with
    | none => rw [E2] at h; exact h.elim
    | some r =>
    obtain ⟨all, γf⟩ := r
    rw [E2] at h
    simp only at h
    split at h
    rotate_left
    · exact h.elim
    rename_i hz
    have S1 := T.sim
    have nsrc : ¬ src D := fun hs => by
      obtain ⟨o, ho⟩ := K.at_ p1 hs
      rw [nD] at ho
      cases ho
    have eD : Same H1 (upd H1 D (.lst [])) := same_new nD
    have Sw := S1.wait eD nD (o := .lst []) upd_same
    obtain ⟨A2, le2, S2⟩ := Sw.wipe vs
    have nf : ∀ u, ¬ (Z.waits l).F D u := S1.nF nD
    have pw : P ((Z.waits l).wait D (.lst [])) A1 (upd H1 D (.lst [])) := K.wait p1 eD nD
    have nD0 : H D = none := T.kp.isnone nD
    refine loop_gen (Zl := Z.waits l) (acc0 := []) (rs0 := []) (rest := all) (γf := γf) (QQ := fun H => Q (.ref D) H) (A2 := A2) (γ0 := wipeG γ1 vs)
      (BODY := fun σ2 H2 NX => tMT (GX X) tt Bot σ2 H2 fun b H3 => if b = true then tMIT (GX X) fi1 Bot σ2 H3 fun J1 H4 => ∃ W1 : Nat → Nat → Hp → Prop, (∃ m, W1 0 m H4) ∧ ∀ j k H, W1 j k H →
        (J1.stop j H ∧ NX H) ∨ (J1.go j H ∧ ∃ Nx1 : Hp → Prop, (∀ H', Nx1 H' → ∃ k', k' < k ∧ W1 (j + 1) k' H') ∧ ∀ x H', J1.yld j H x H' → tMG (GX X) t1 x (L2.wipe σ2 vs1) H' fun σ3 H5 => L2.wipe σ3 vs1 = L2.wipe σ2 vs1 ∧ tMT (GX X) tt1 Bot σ3 H5 fun b H6 =>
          if b = true then tME (GX X) f Bot σ3 H6 fun y H7 => ∃ acc, H7 D = some (.lst acc) ∧ acc.length < sizeLine ∧ Nx1 (upd H7 D (.lst (acc ++ [y]))) else Nx1 H6) else NX H3)
      nf K nsrc hsub S2 (fun j hj => wipeG_at hj) Reps.nil (K.stp pw Sw S2 (.of le2 .refl)) E2 (by simpa using hz) ?_ ?_
    · intro A' H' acc S' hv hrs le' k'
      rw [List.nil_append] at hrs
      have k1' : Keep (Mz (Z.waits l) A1) H1 H' := (Keep.of_same eD).trans k' fun b o hb m => by
        rcases (mz_wait b).mp m with m | rfl
        · exact le2.mz b m
        · rw [nD] at hb; cases hb
      have le1 : Le A' A1 := le'.trans le2
      have k0 : Keep (Mz Z A) H H' := Keep.waits k1' T.nw T.kp T.le
      have S'' := S'
      rw [← waits_wait] at S''
      have Sz : Sim (GX X) (Z.wait D (.lst acc)) A' γf (L2.wipe σ vs) H' := S''.drops
      refine h (.ref D) A' H' ⟨D, .lst acc, rfl, nD0, fun m => ?_, ?_, ?_⟩ (le1.trans T.le) k0
      · obtain ⟨o, ho⟩ := S.mf D m
        rw [nD0] at ho
        cases ho
      · simp only [Own]
        exact ⟨acc, S'.waits, hrs.keep .refl fun b _ _ m => by
          rw [mz_wait] at m ⊢
          exact m.imp_left fun m => (waits_mz l b).mpr (.inl m)⟩
      · exact Sim.backG S1 Sz hv k1' fun b o hb m => by
          rcases (mz_wait b).mp m with m | rfl
          · exact (waits_mz l b).mpr (.inl (le1.mz b m))
          · rw [nD] at hb; cases hb
    · intro σ2 A3 γ2 acc rs H2 ns γ3 NX S3 hw hrs eb hl nx
      refine ⟨_, A3, γ2, S3, ?_⟩
      unfold bd2 at eb
      cases E4 : tt γ2 with
      | no => rw [E4] at eb; cases eb
      | ex e γ4 => rw [E4] at eb; cases eb
      | ok b γ4 =>
        rw [E4] at eb
        intro A4 H4 S4 le4 k4
        cases b with
        | false =>
          simp only at eb
          cases eb
          simp only [Bool.false_eq_true, if_false]
          exact nx σ2 A4 H4 acc S4 hw (by rw [List.append_nil]; exact hrs.keep k4 fun b _ _ m => le4.mz b m) le4 k4
        | true =>
          simp only at eb
          simp only [if_true]
          refine ⟨_, A4, γ4, S4, ?_⟩
          cases E5 : fi1 γ4 with
          | no => rw [E5] at eb; cases eb
          | ex e γ5 => rw [E5] at eb; cases eb
          | ok ms1 γ5 =>
            rw [E5] at eb
            simp only at eb
            intro J1 l1 A5 H5 P1 T1 K1 q1
            have S5 := T1.sim
            rw [waits_wait] at S5
            have q1' := q1
            rw [waits_wait] at q1'
            have hD4 : H4 D = some (.lst acc) := S4.waits
            have nf1 : ∀ u, ¬ ((Z.waits l).waits l1).F D u := by
              have key : ∀ l1 : List (Addr × HO), (∀ p ∈ l1, H4 p.1 = none) → ∀ u, ¬ ((Z.waits l).waits l1).F D u := by
                intro l1
                induction l1 with
                | nil => exact fun _ => nf
                | cons p l1 ih =>
                  rintro hn u (hf | ⟨e, _⟩)
                  · exact ih (fun q hq => hn q (List.mem_cons_of_mem _ hq)) u hf
                  · have := hn p List.mem_cons_self
                    rw [← e, hD4] at this
                    cases this
              exact key l1 T1.nw
            obtain ⟨A6, le6, S6⟩ := S5.wipe vs1
            have r5 : Reps (GX X) (Mz (((Z.waits l).waits l1).wait D (.lst acc)) A6) H5 rs acc := (hrs.keep k4 fun b _ _ m => le4.mz b m).keep T1.kp fun b o hb m => by
              rw [← waits_wait] at m
              rcases (waits_mz l1 b).mp m with m | ⟨p, hp, rfl⟩
              · exact T1.le.mz b (le6.mz b m)
              · rw [T1.nw p hp] at hb; cases hb
            have q6 := K1.stp q1' S5 S6 (.of le6 .refl)
            refine loop_gen (Zl := (Z.waits l).waits l1) (acc0 := acc) (rs0 := rs) (rest := ns) (γf := γ3) (QQ := NX) (A2 := A6) (γ0 := wipeG γ5 vs1) (σ := σ2)
              (BODY := fun σ3 H5 Nx1 => tMT (GX X) tt1 Bot σ3 H5 fun b H6 => if b = true then tME (GX X) f Bot σ3 H6 fun y H7 => ∃ acc, H7 D = some (.lst acc) ∧ acc.length < sizeLine ∧ Nx1 (upd H7 D (.lst (acc ++ [y]))) else Nx1 H6)
              nf1 K1 (fun z => z) hsub1 S6 (fun j hj => wipeG_at hj) r5 q6 eb hl ?_ ?_
            · intro A7 H7 acc7 S7 hv7 rs7 le7 k7
              have S8 := S7
              rw [← waits_wait] at S8
              have S9 : Sim (GX X) ((Z.waits l).wait D (.lst acc7)) A7 γ3 (L2.wipe σ2 vs1) H7 := S8.drops
              have lea : Le A7 A4 := le7.trans (le6.trans T1.le)
              refine nx (L2.wipe σ2 vs1) A7 H7 acc7 S9 ?_ ?_ (lea.trans le4) ?_
              · rw [← hw]
                exact wipe_eq (L2.wipe_length σ2 vs1) fun j hj => wipe_out' fun z => hj (hv1 j z)
              · exact rs7.keep .refl fun b _ _ m => by
                  rw [← waits_wait]
                  exact (waits_mz l1 b).mpr (.inl m)
              · refine k4.trans (T1.kp.trans k7 fun b o hb m => ?_) fun b _ _ m => le4.mz b m
                rw [← waits_wait] at m
                rcases (waits_mz l1 b).mp m with m | ⟨p, hp, rfl⟩
                · exact T1.le.mz b (le6.mz b m)
                · rw [T1.nw p hp] at hb; cases hb
            · intro σ3 A7 γ7 acc7 rs7 H7 ns7 γ8 Nx1 S7 hw7 hrs7 eb7 hl7 nx7
              refine ⟨_, A7, γ7, S7, ?_⟩
              unfold bd1 at eb7
              cases E7 : tt1 γ7 with
              | no => rw [E7] at eb7; cases eb7
              | ex e γ9 => rw [E7] at eb7; cases eb7
              | ok b γ9 =>
                rw [E7] at eb7
                intro A8 H8 S8 le8 k8
                cases b with
                | false =>
                  simp only at eb7
                  cases eb7
                  simp only [Bool.false_eq_true, if_false]
                  exact nx7 σ3 A8 H8 acc7 S8 hw7 (by rw [List.append_nil]; exact hrs7.keep k8 fun b _ _ m => le8.mz b m) le8 k8
                | true =>
                  simp only at eb7
                  simp only [if_true]
                  refine ⟨_, A8, γ9, S8, ?_⟩
                  cases E8 : f γ9 with
                  | no => rw [E8] at eb7; cases eb7
                  | ex e γ5 => rw [E8] at eb7; cases eb7
                  | ok c γ10 =>
                    rw [E8] at eb7
                    cases eb7
                    intro y A9 H9 hs9 le9 k9
                    have S9 := hs9.sim
                    have k79 : Keep (Mz (((Z.waits l).waits l1).wait D (.lst acc7)) A7) H7 H9 := k8.trans k9 fun b _ _ m => le8.mz b m
                    have hD9 := S9.waits
                    have hrs9 := hrs7.keep k79 fun b _ _ m => le8.mz b (le9.mz b m)
                    refine ⟨acc7, hD9, by rw [hrs9.len]; simp at hl7; omega, ?_⟩
                    have ku : Keep (Mz (((Z.waits l).waits l1).wait D (.lst acc7)) A9) H9 (upd H9 D (.lst (acc7 ++ [y]))) := Keep.upd wait_in
                    refine nx7 σ3 A9 _ (acc7 ++ [y]) (Sim.rew nf1 S9) hw7 ?_ (le9.trans le8) (k79.trans ku fun b _ _ m => le8.mz b (le9.mz b m))
                    exact Reps.app (hrs9.keep ku fun b _ _ m => (mz_wait b).mpr ((mz_wait b).mp m)) (Reps.one (hs9.rep.keep ku fun b _ _ m => (mz_wait b).mpr ((mz_wait b).mp m)))
section
variable {X : Cx} {elt tg iter tg1 iter1 : Expr} {ifs ifs1 : List Expr} {scope : Scope} {own : List (Str × Nat)} {vs1 : List Nat} {pos : Pos} {t t1 : Tg} {fi fi1 : FI} {tt tt1 : FT} {f : FE}
theorem re_lc2 (hc : X.calm = true) (hN : X.N.Nodup) (hi : RI X tg iter fi) (ok : BlkOk X.N X.env.scope scope own) (hv : ∀ i ∈ vs1, i ∈ own.map (·.2))
    (hg : ∀ (s : Shared) (H : Hp) (C : Addr) (cl : List (Str × Addr)) (fp : List Addr), RG (X.blk s H scope (compEnvC scope cl C X.env) fp) tg t)
    (ht : ∀ (s : Shared) (H : Hp) (C : Addr) (cl : List (Str × Addr)) (fp : List Addr), RTs (X.blk s H scope (compEnvC scope cl C X.env) fp) ifs tt)
    (hi1 : ∀ (s : Shared) (H : Hp) (C : Addr) (cl : List (Str × Addr)) (fp : List Addr), RIT (X.blk s H scope (compEnvC scope cl C X.env) fp) tg1 iter1 fi1)
    (hg1 : ∀ (s : Shared) (H : Hp) (C : Addr) (cl : List (Str × Addr)) (fp : List Addr), RG (X.blk s H scope (compEnvC scope cl C X.env) fp) tg1 t1)
    (ht1 : ∀ (s : Shared) (H : Hp) (C : Addr) (cl : List (Str × Addr)) (fp : List Addr), RTs (X.blk s H scope (compEnvC scope cl C X.env) fp) ifs1 tt1)
    (he : ∀ (s : Shared) (H : Hp) (C : Addr) (cl : List (Str × Addr)) (fp : List Addr), RE (X.blk s H scope (compEnvC scope cl C X.env) fp) elt f)
    (hsub : ∀ i ∈ t.slots, i ∈ own.map (·.2) := by decide) (hsub1 : ∀ i ∈ t1.slots, i ∈ vs1 := by decide) (hs : ∀ x, foldedSetIterable iter X.env x = pure x := by intro _; rfl) (hs1 : ∀ env x, foldedSetIterable iter1 env x = pure x := by intro _ _; rfl) :
    RE X (.ListComp elt [⟨tg, iter, ifs, 0⟩, ⟨tg1, iter1, ifs1, 0⟩] scope pos) (eComp2 t fi tt fi1 t1 tt1 f (own.map (·.2)) vs1) := fun W tk =>
  PE_imp (pe_lc2 (g := tMG (GX X) t) (tt := tMT (GX X) tt Bot) (wi1 := tMIT (GX X) fi1 Bot) (g1 := tMG (GX X) t1) (tt1 := tMT (GX X) tt1 Bot) (te := tME (GX X) f Bot) hc hN (hi W tk) ok hv (fun s H C cl fp => hg s H C cl fp) (fun s H C cl fp => ht s H C cl fp Bot takes_bot)
    (fun s H C cl fp => hi1 s H C cl fp Bot takes_bot) (fun s H C cl fp => hg1 s H C cl fp) (fun s H C cl fp => ht1 s H C cl fp Bot takes_bot) (fun s H C cl fp => he s H C cl fp Bot takes_bot) hs hs1) fun σ H Q h => comp2_end hsub hsub1 hv h
end
end Mi

set_option Elab.async false
set_option linter.all false
set_option maxRecDepth 100000
set_option maxHeartbeats 4000000
/-! {k: v}; name += e; what is not covered; the law -/
namespace Mi
open PySem PySem.Spec PyProof.Rows L2 My

section
variable {X : Cx} {st : Stmt} {e : Expr} {es : List Expr} {j : Nat}
/-! what is not covered: no promise -/
def sNo : FS := fun _ => .no
def eNo : FE := fun _ => .no
def tNo : FT := fun _ => .no
def aNo : FA := fun _ => .no
theorem qs_no : QS X st sNo := fun _ W tk => ⟨fun pins s σ H D I ⟨_, _, _, _, h⟩ => h.elim⟩
theorem re_no : RE X e eNo := fun W tk => ⟨fun pins s σ H Q I ⟨_, _, _, _, h⟩ => h.elim⟩
theorem rt_no : RT X e tNo := fun W tk => ⟨fun pins s σ H Q I ⟨_, _, _, _, h⟩ => h.elim⟩
theorem lim_no {n : Nat} : Lim n aNo := fun γ ms γ' h => by cases h
theorem ra_no : RA X es aNo := fun W tk => ⟨fun pos pins s σ H Q I ⟨_, _, _, _, h⟩ => h.elim⟩
end
/-! ### name += e, ints -/
def sAug (i : Nat) (g : Int → Int → Int) (f : FE) : FS := fun γ => match γ[i]? with
  | some (some ⟨.val, .int m⟩) => (match f γ with
    | .ok c γ1 => (match c.v with
      | .int n => if canSet γ1 i then .nx (γ1.set i (some (vI (g m n)))) else .no
      | _ => .no)
    | .ex e γ1 => .ex e γ1
    | .no => .no)
  | _ => .no
section
variable {X : Cx} {e : Expr} {f : FE} {x : Str} {pos pos' : Pos}
theorem qs_aug {i : Nat} {op : Operator} {g : Int → Int → Int} (ho : PIp X op (ipI g)) (hN : X.N.Nodup) (hi : X.N[i]? = some x) (hx : Loc X.env.scope x) (ha : RE X e f) (hf : X.fn x = true ∨ X.env.scope.names.lookup x = some .local := by first | exact .inl rfl | exact .inr rfl | assumption) :
    QS X (.AugAssign (.Name x pos') op e pos) (sAug i g f) := fun _ W tk => PS_imp (ps_aug hN hi hx (ha W tk) ho hf) fun D σ H ⟨Z, A, γ, S, h⟩ => by
  unfold sAug at h
  split at h
  · rename_i m e0
    obtain ⟨y, h1, h2⟩ := S.cell i _ e0
    have ey : y = .int m := by
      have q := h2.2
      simp only [Rep] at q
      exact q
    subst ey
    refine ⟨.int m, h1, Z, A, γ, S, ?_⟩
    cases E : f γ with
    | no => rw [E] at h; exact h
    | ex e γ1 => rw [E] at h; exact fun A' H' cls d S' le k xr => h σ A' H' cls d S' (.of le k) xr
    | ok c γ1 =>
      rw [E] at h
      simp only at h
      intro z A1 H1 hs le k
      cases ec : c.v with
      | int n =>
        have r := hs.rep
        rw [ec] at h r
        simp only at h
        simp only [Rep] at r
        subst r
        split at h
        · rename_i hcs
          have S2 := hs.sim.setVal (i := i) (v := .int (g m n)) (x := .int (g m n)) (canSet_lt hcs) (by simp only [Rep])
          exact ⟨m, n, rfl, rfl, h _ _ H1 S2 (.of (AM.del_le.trans le) k)⟩
        · exact h.elim
      | _ => rw [ec] at h; exact h.elim
  · exact h.elim
end
/-! ### {k: v} -/
def eDisp (fk f : FE) : FE := fun γ => match fk γ with
  | .ok ck γ1 => (match keyM ck.v with
    | some k => (match f γ1 with
      | .ok c γ2 => .ok ⟨.own, .dk [k] [c.v]⟩ γ2
      | .ex e γ2 => .ex e γ2
      | .no => .no)
    | none => .no)
  | .ex e γ1 => .ex e γ1
  | .no => .no
theorem ExRep.drop {G : GG} {Z : Ent} {A : AM} {H : Hp} {p : Addr} {o : HO} {e : Ex} {cls : Value} {d : Option Addr} (h : ExRep G (Mz (Z.wait p o) A) H e cls d) : ExRep G (Mz Z A) H e cls d := h.less fun b m => (mz_wait b).mpr (.inl m)
section
variable {X : Cx} {a b : Expr} {fk f : FE} {pos : Pos}
theorem re_disp (hk : RE X a fk) (hv : RE X b f) : RE X (.Dict [some a] [b] pos) (eDisp fk f) := fun W tk =>
  PE_imp (pe_disp (pps_cons (hk W tk) (hv W tk) pps_nil) rfl rfl (by simp) (by simp)) fun σ H Q ⟨Z, A, γ, S, h⟩ p np => by
    have e1 : Same H (upd H p (.dK [])) := same_new np
    have S1 := S.wait e1 np (o := .dK []) upd_same
    refine ⟨_, A, γ, S1, ?_⟩
    unfold eDisp at h
    have kk : ∀ {A' H'}, Le A' A → Keep (Mz (Z.wait p (.dK [])) A) (upd H p (.dK [])) H' → Keep (Mz Z A) H H' := fun {A' H'} le k => (Keep.of_same e1).trans k fun b o hb m => by
      rcases (mz_wait b).mp m with m | rfl
      · exact m
      · rw [np] at hb; cases hb
    cases E1 : fk γ with
    | no => rw [E1] at h; exact h
    | ex e γ1 =>
      rw [E1] at h
      exact fun A' H' cls d S' le k xr => h A' H' cls d S'.drop le (kk le k) xr.drop
    | ok ck γ1 =>
      rw [E1] at h
      simp only at h
      cases E2 : keyM ck.v with
      | none => rw [E2] at h; exact h.elim
      | some k =>
        rw [E2] at h
        simp only at h
        intro x A1 H1 hs le1 k1
        have ex : x = kV k := keyM_rep E2 hs.rep
        subst ex
        refine ⟨_, A1, γ1, hs.sim, ?_⟩
        cases E3 : f γ1 with
        | no => rw [E3] at h; exact h
        | ex e γ2 =>
          rw [E3] at h
          exact fun A' H' cls d S' le k xr => h A' H' cls d S'.drop (le.trans le1) (kk (le.trans le1) (k1.trans k fun b _ _ m => le1.mz b m)) xr.drop
        | ok c γ2 =>
          rw [E3] at h
          intro y A2 H2 hs2 le2 k2
          have S2 := hs2.sim
          have r2 := hs2.rep
          refine ⟨S2.waits, [(k, y)], rfl, by simp, ?_⟩
          have em : mergeK [] [(k, y)] = [k].zip [y] := by
            show putK [] k y = _
            unfold putK
            rfl
          rw [em]
          have nf : ∀ u, ¬ Z.F p u := S.nF np
          have S3 := Sim.rew (o' := .dK ([k].zip [y])) nf S2
          have ku : Keep (Mz (Z.wait p (.dK [])) A2) H2 (upd H2 p (.dK ([k].zip [y]))) := Keep.upd wait_in
          have kall : Keep (Mz (Z.wait p (.dK [])) A) (upd H p (.dK [])) (upd H2 p (.dK ([k].zip [y]))) := (k1.trans k2 fun b _ _ m => le1.mz b m).trans ku fun b _ _ m => le1.mz b (le2.mz b m)
          refine h (.ref p) A2 _ ⟨p, _, rfl, np, fun m => ?_, ?_, S3⟩ (le2.trans le1) (kk (le2.trans le1) kall)
          · obtain ⟨u, hu⟩ := S.mf p m
            rw [np] at hu
            cases hu
          · simp only [Own]
            exact ⟨[y], upd_same, rfl, Reps.one (r2.keep ku fun b _ _ m => (mz_wait b).mpr ((mz_wait b).mp m))⟩
end
/-! ### the law -/
theorem law_callG {P : Program} {w : World} {K : PySem.W.Frag} {mg mb : Str → Option Value} {k : Nat} {fa a : Addr} {fd : FuncData} {x : Str} {sp : Sp} {s₁ : Shared} {vs : List Value} {ns : List Int}
    (KX : K.In s₁.heap) (hns : s₁.heap.Ns mainGlobals mg) (hb : s₁.heap.Ns builtinsNs mb) (hbb : ∀ x : Str, x ≠ "__name__" → mb x = bootBuiltins x) (hlim : s₁.heap.NoLimit) (hg : s₁.gens = #[])
    (ha : s₁.heap.get? a = some { cls := .type "list", data := .seq vs.toArray }) (hi : IntsAre vs ns) (hl : ns.length ≤ sizeLine) (hr : Room k callerA)
    (F : ∀ base : Heap, K.In base → base.Ns mainGlobals mg → FnG P w K mg base k fa fd [x] sp) (hbind : ∀ (s : Shared) (u : Value), BindsTo s fd ⟨[u], []⟩ [(x, u)])
    (hsp : ∀ H : Hp, Only H → SqL K H a (ns.map V.int) → sp [.ref a] H (fun v _ => v = .bl true) fun _ _ _ => False) :
    codeAny (model P w) callerA (.call (.ref fa) ⟨[.ref a], []⟩) (fun r s' => r = .ok (.ret (.bool true)) ∧ OldK s₁.heap s'.heap ∧ s'.os = s₁.os ∧ AllBare s'.gens) s₁ := by
  have rv := vals_ints hi
  have lenV := hi.length
  have core : ∀ H : Hp, Only H → SqL K H a (ns.map V.int) → HOk P w H s₁.heap → (∀ b, H b ≠ none → b = a) → (H a ≠ none → K.lookup a = none) →
      codeAny (model P w) callerA (.call (.ref fa) ⟨[.ref a], []⟩) (fun r s' => r = .ok (.ret (.bool true)) ∧ OldK s₁.heap s'.heap ∧ s'.os = s₁.os ∧ AllBare s'.gens) s₁ := by
    intro H hO hS hok hA hK
    have only : ∀ b, H b = none ∨ b = a := fun b => by
      cases q : H b with
      | none => exact .inl rfl
      | some u => exact .inr (hA b (by rw [q]; simp))
    have noA : ∀ {b : Addr} {o : Obj} {es : Array DictEntry} {ep : Nat}, s₁.heap.get? b = some o → o.data = .dict es ep → H b = none := fun {b o es ep} e d => (only b).elim id fun z => by
      subst z
      rw [ha] at e
      cases e
      cases (show Data.seq vs.toArray _ = Data.dict es ep from d)
    have nsK : ∀ {b : Addr} {m : Str → Option Value}, s₁.heap.Ns b m → (hidT s₁.heap H).Ns b m := fun {b m} ⟨o, es, ep, e, d, r⟩ => ⟨o, es, ep, hidT_get e (noA e d), d, r⟩
    have hKb : K.In (hidT s₁.heap H) := fun b o e => hidT_get (KX b o e) (by
      cases q : H b with
      | none => rfl
      | some u =>
        obtain rfl := hA b (by rw [q]; simp)
        rw [hK (by rw [q]; simp)] at e
        cases e)
    have hM : Mod K mg (hidT s₁.heap H) := ⟨hKb, nsK hns, ⟨mb, nsK hb, hbb⟩, let ⟨mc, h1, h2⟩ := hlim; ⟨mc, nsK h1, h2⟩⟩
    have e0 : Env0 P w K mg (hidT s₁.heap H) callerA [] s₁ H := ⟨rfl, hM, fun b o e => of_hidT e, Nat.le_of_eq (hidT_size _ _), trivial, fun b hb => absurd (show b ∈ ([] : List Addr) from hb) (by simp), hok, .of_eq hg⟩
    refine codeAny_mono ((F _ hKb (nsK hns)).run callerA [] s₁ H ⟨[.ref a], []⟩ [.ref a] [.ref a] _ _ hr rfl e0 (hbind s₁ (.ref a)) (.cons rfl .nil) (hsp H hO hS)) fun r s' h => ?_
    cases r with
    | error e =>
      obtain ⟨_, _, _, _, _, _, _, _, _, _, _, _, hE⟩ := h
      exact hE.elim
    | ok fl =>
      cases fl with
      | ret u =>
        obtain ⟨v, H', os, bare, un, hok', r', q⟩ := h
        obtain rfl : v = .bl true := q
        obtain rfl : u = Value.bool true := r'
        refine ⟨rfl, OldK.of_keep fun b o e => ?_, os, bare⟩
        rcases hO b with z | ⟨ob, xs, z⟩
        · exact un.keep b o e z (by intro z; exact absurd (show b ∈ ([] : List Addr) from z) (by simp)) (by simp)
        · obtain ⟨e1, _⟩ := hok b _ z
          obtain ⟨e2, _⟩ := hok' b _ (un.frzs b ob _ z)
          rw [e] at e1
          cases e1
          exact e2
      | next => exact False.elim h
      | brk => exact False.elim h
      | cont => exact False.elim h
  cases hk : K.lookup a with
  | some o =>
    have e := KX a o hk
    rw [ha] at e
    cases e
    exact core (fun _ => none) (fun _ => .inl rfl) (.inr ⟨_, vs.toArray, _, hk, rfl, rfl, rfl, by rw [List.size_toArray, lenV]; exact hl, by simpa using rv⟩) (fun b u z => by cases (show (none : Option HO) = some u from z)) (fun b z => absurd rfl z) fun z => absurd rfl z
  | none =>
    refine core (fun b => if b = a then some (.frz { cls := .type "list", data := .seq vs.toArray } (.lst (ns.map V.int))) else none) (fun b => ?_) (.inl (.inr ⟨{ cls := .type "list", data := .seq vs.toArray }, if_pos rfl⟩)) (fun b u z => ?_) (fun b z => ?_) fun _ => hk
    · by_cases hb : b = a
      · exact .inr ⟨_, _, if_pos hb⟩
      · exact .inl (if_neg hb)
    · by_cases hb : b = a
      · cases (if_pos hb).symm.trans z
        subst hb
        exact ⟨ha, by rw [List.length_map]; exact hl, vs, _, rv, ha⟩
      · cases (if_neg hb).symm.trans z
    · by_cases hb : b = a
      · exact hb
      · exact absurd (if_neg hb) z
/-- the law's def gives True at every script: m its meaning -/
theorem walk_mi {l : PySem.W.OpenLaw} {n k : Nat} {q : Program} {loose : List Str} {XP : (Str → Option Value) → Heap → Prop} {YP : World → Heap → Prop} {d : DefRec} {x : Str} {m : List MV → RF}
    (hn : l.most = some n) (hn2 : n ≤ sizeLine) (hdf : d.params.defaults = []) (hr : Room k callerA)
    (F : ∀ (w : World) (mg : Str → Option Value) (fa : Addr) (h : Heap), YP w h → h.Ns mainGlobals mg → mg d.name = some (.ref fa) →
      ∃ (K : PySem.W.Frag) (fd : FuncData), K.In h ∧ (∀ (s : Shared) (u : Value), BindsTo s fd ⟨[u], []⟩ [(x, u)]) ∧ ∀ base : Heap, K.In base → base.Ns mainGlobals mg → FnG l.prog w K mg base k fa fd [x] (spM l.prog w K 1 none m))
    (hm : ∀ ns : List Int, ns.length ≤ n → m [.lst (ns.map .int)] = .rt ⟨.val, .bl true⟩ none) :
    PySem.W.WalkO q loose XP YP l.row.toRowW d [] (fun f vs => PySem.call f vs) := by
  refine Att.attach_call hn hdf fun w s₀ s₁ mg mb fa o pm cd doc a vs ns G Y ho hd hcd hmg hobj hints hlen hg => ?_
  obtain ⟨K, fd, KX, hb, hF⟩ := F w mg fa _ Y G.T.g hmg
  refine law_callG KX G.T.g G.T.b G.T.builtins G.T.nolimit hg hobj hints (Nat.le_trans hlen hn2) hr hF hb fun H hO hS => ?_
  refine ⟨rfl, fun _ => False, [.lst (ns.map .int)], fun _ z => z.elim, ⟨rfl, fun i m x hm hx _ => ?_, fun i hi => by cases hi⟩, ?_⟩
  · cases i with
    | zero =>
      cases hm
      cases hx
      simp only [Rep]
      refine ⟨a, _, rfl, ?_, trivial, reps_ints ns⟩
      rcases hS with h | h
      · exact .inl ⟨h, fun z => z⟩
      · exact .inr h
    | succ i => simp at hm
  · rw [hm ns hlen]
    intro x H' dn
    have r := dn.2
    simp only [Rep] at r
    exact r
end Mi

set_option Elab.async false
set_option linter.all false
set_option maxRecDepth 100000
set_option maxHeartbeats 4000000
/-! what the printed derivations lean on -/
namespace Mi
open PySem PySem.Spec PyProof.Rows L2 My

theorem units65 {k : Nat} {A : Around} (h : Room k A) : A.units + 65 < cLine := by
  have := h.un
  omega
theorem units64 {k : Nat} {A : Around} (h : Room k A) : A.units + 64 < cLine := by
  have := h.un
  omega
theorem units0 {k : Nat} {A : Around} (h : Room k A) : A.units < cLine := by
  have := h.un
  omega
theorem FnG.up {P : Program} {w : World} {K : PySem.W.Frag} {mg : Str → Option Value} {base : Heap} {j k : Nat} {C m : Str} {ps : List Str} {F : List MV → RF} (h : MthM P w K mg base j C m ps F) (hk : j ≤ k) : MthM P w K mg base k C m ps F := by
  obtain ⟨n, fd, G, r⟩ := h
  exact ⟨n, fd, G.mono hk, r⟩
section
variable {X : Cx} {k j n : Nat} {m f C : Str} {ps : List Str} {F : List MV → RF}
theorem mtb_nil : MTb X k n m [] := fun p hp => by cases hp
theorem mtb_cons {tb : List (Str × (List MV → RF))} (h : MthM X.prog X.w X.K X.mg X.base j C m ps F) (r : MTb X k n m tb) (hk : j ≤ k := by decide) (hl : ps.length = n + 1 := by rfl) : MTb X k n m ((C, F) :: tb) := fun p hp => by
  rcases List.mem_cons.mp hp with rfl | hp
  · exact ⟨ps, hl, FnG.up h hk⟩
  · exact r p hp
abbrev PTb (X : Cx) (k : Nat) (f : Str) (tb : List (Str × (List MV → RF))) : Prop := ∀ p ∈ tb, PrpM X.prog X.w X.K X.mg X.base k p.1 f p.2
theorem ptb_nil : PTb X k f [] := fun p hp => by cases hp
theorem ptb_cons {tb : List (Str × (List MV → RF))} (h : PrpM X.prog X.w X.K X.mg X.base j C f F) (r : PTb X k f tb) (hk : j ≤ k := by decide) : PTb X k f ((C, F) :: tb) := fun p hp => by
  rcases List.mem_cons.mp hp with rfl | hp
  · obtain ⟨h1, h2, a, g, fd, ps, h3, G, r⟩ := h
    exact ⟨h1, h2, a, g, fd, ps, h3, G.mono hk, r⟩
  · exact r p hp
abbrev ATb (K : PySem.W.Frag) (f : Str) (tb : List (Str × Nat)) : Prop := ∀ p ∈ tb, AtF K f p
theorem atb_nil {K : PySem.W.Frag} : ATb K f [] := fun p hp => by cases hp
theorem atb_cons {K : PySem.W.Frag} {i : Nat} {tb : List (Str × Nat)} (h : AtF K f (C, i)) (r : ATb K f tb) : ATb K f ((C, i) :: tb) := fun p hp => by
  rcases List.mem_cons.mp hp with rfl | hp
  · exact h
  · exact r p hp
/-- a class of one's own, as the written part has it -/
def tags : List String := ["NoneType", "bool", "int", "str", "tuple", "list", "dict"]
def tyF : String → Option Bool := fun t => if t ∈ tags then some false else none
structure CF (K : PySem.W.Frag) (mg : Str → Option Value) (C : Str) : Prop where
  ne : C ≠ ("" : Str)
  c : SlX.SCls K (He.ga K C)
  isi : SlX.SIsi K (He.ga K C)
  me : PySem.W.kitOne K (.ref (He.ga K C)) (.ref (He.ga K C)) = some true
  ty : ∀ t ∈ tags, PySem.W.kitOne K (.type t) (.ref (He.ga K C)) = some false
  gl : mg C = some (.ref (He.ga K C))
theorem CF.hf {K : PySem.W.Frag} {mg : Str → Option Value} (h : CF K mg C) : ∀ t b, tyF t = some b → PySem.W.kitOne K (.type t) (.ref (He.ga K C)) = some b := fun t b e => by
  unfold tyF at e
  split at e
  · rename_i ht
    cases e
    exact h.ty t ht
  · cases e
theorem isg_nil {K : PySem.W.Frag} {u : Value} : IsG K u [] := fun p hp => by cases hp
theorem isg_me {K : PySem.W.Frag} {mg : Str → Option Value} {g : List (Str × Bool)} (h : CF K mg C) (r : IsG K (.ref (He.ga K C)) g) : IsG K (.ref (He.ga K C)) ((C, true) :: g) := fun p hp => by
  rcases List.mem_cons.mp hp with rfl | hp
  · exact ⟨h.ne, h.c, h.isi, h.me⟩
  · exact r p hp
theorem isg_no {K : PySem.W.Frag} {mg : Str → Option Value} {u : Value} {g : List (Str × Bool)} (h : CF K mg C) (hk : PySem.W.kitOne K (.ref (He.ga K C)) u = some false) (r : IsG K u g) : IsG K u ((C, false) :: g) := fun p hp => by
  rcases List.mem_cons.mp hp with rfl | hp
  · exact ⟨h.ne, h.c, h.isi, hk⟩
  · exact r p hp
end
section
variable {X : Cx} {e : Expr} {f : FE}
theorem rt_val (h : RE X e f) (he : ∀ whole, isTrue e X.env whole = (do let v ← whole; standAt e.pos; holding [v] (truthy v))) : RT X e (tB f) := fun W tk => PT_imp (pt_val (h W tk) he) fun σ H Q ⟨Z, A, γ, S, h⟩ => ⟨Z, A, γ, S, tB_of (r := .no) f S h⟩
theorem re_lenA {a : Expr} {pos p : Pos} {o : Opd} {tb : List (Str × (List MV → RF))} {k j : Nat} (ht : MTb X k 0 "__len__" tb) (hr : Room j X.A) (hgd : X.A.guards = some []) (hg : Gl X "len") (hm : X.mg "len" = none) (ha : RQ X a o) (hk : k + 1 ≤ j := by decide)
    (hs : starEach [a] X.env = (false, eval a X.env) :: starEach [] X.env := by rfl) (hpl : (backTo pos (starEach [] X.env)).any (·.1) = false := by rfl) : RE X (.Call (.Name "len" p) [a] [] pos) (e1 (fun v => (lenM v).or (lenO tb v)) o) :=
  re_cb1 (cal_len.or (cal_lenO ht hr hgd hk)) hg hm ha (by rfl) (by decide) (by decide) hs hpl
end
def mulM (v w : MV) : Option Cell := (mulI v w).or (repT v w)
theorem op2_mul {X : Cx} : Op2 X (binaryOp .Mult) mulM := op2_mulI.or op2_repT
/-- turns of a while at most -/
def fuel : Nat := 1000000000
theorem fnG_law {P : Program} {w : World} {K : PySem.W.Frag} {mg : Str → Option Value} {base : Heap} {k : Nat} {fd : FuncData} {st : Stmt} {N : List Str} {body : FS} (F : FunD K "law" "law" (defArgs st) (defBody st) (defScope st) [] [] (He.ga K "law") fd) (S : FnScope N ["script"] (defScope st))
    (hbody : ∀ (cdv : Value) (A : Around) (outer : List Env) (s : Shared) (H : Hp) (E : XK), Room k (cxOf (CX P w) P w K mg base N "law" (defScope st) (He.ga K "law") cdv A outer s H E).A → (cxOf (CX P w) P w K mg base N "law" (defScope st) (He.ga K "law") cdv A outer s H E).A.guards = some [] →
      QSs (cxOf (CX P w) P w K mg base N "law" (defScope st) (He.ga K "law") cdv A outer s H E) (defBody st) body) : FnG P w K mg base (k + 1) (He.ga K "law") fd ["script"] (spM P w K 1 none (runM none N.length body)) := by
  obtain ⟨oc, od, dV, kV, doc, pm, an, cdv, ct, osl, rfl, lk, hcd, _, _⟩ := F.ex
  exact fnG_of lk hcd S (fun vs H Q E h => h.1) fun A outer s H vs Q E hr hgd h => entry_ok (ps := ["script"]) S (hbody cdv A outer s H E hr hgd) h
/-! xs.extend(ys) -/
theorem list_extL (l : Addr) (items : Array Value) (n : Nat) (b : Addr) (items2 : Array Value) (n2 : Nat) (dd : Option Addr) (sl : Array (Option Value)) (hs0 : ¬(!items.isEmpty && Builtin.List.listTooLong (items.size + items2.size)) = true) (hs1 : items.size ≤ sizeLine) (hs2 : items.size + items2.size ≤ sizeLine + 1) :
    Meets (Builtin.«list.extend» ⟨[.ref l, .ref b], []⟩) (fun _ R s => s.heap.get? l = some { cls := .type "list", dict := none, data := .seq items n, slots := #[] } ∧ s.heap.get? b = some { cls := .type "list", dict := dd, data := .seq items2 n2, slots := sl } ∧
      R (.ok (.ret Value.none)) { s with heap := s.heap.update l (Obj.mapSeq fun x => x ++ items2), toks := s.toks }) :=
  .of_wp fun prog w A R s h => by
    obtain ⟨hp, g, d, tk, os⟩ := s
    obtain ⟨hl, hb, h⟩ := h
    have f3 := AutoSeq1.sub_list_list
    have hz' : (items ++ items2).size ≤ sizeLine + 1 := by rw [Array.size_append]; exact hs2
    wp_walk using (wpAny_updateSeq hl rfl (hz := hs1) (_hz' := hz')), wpAny_loadPart' hl, wpAny_loadPart' hb
    exact ⟨_, rfl, h⟩
def rExtendL (K : PySem.W.Frag) : V → List V → Hp → VK → Prop := fun x vs H Q => ∃ l b xs zs, x = .ref l ∧ vs = [.ref b] ∧ H l = some (.lst xs) ∧ SqL K H b zs ∧ xs.length + zs.length ≤ sizeLine ∧ Q .non (upd H l (.lst (xs ++ zs)))
theorem mt_extendL {X : Cx} : MtM X "list.extend" (rExtendL X.K) := by
  intro pins s σ H x vs v us Q I rx rv h
  obtain ⟨l, b, xs, zs, rfl, rfl, hH, hB, hz, q⟩ := h
  cases rx
  obtain ⟨u, rfl, ru⟩ := rv.one
  cases ru
  obtain ⟨z, its, n, r, hl, e⟩ := I.lstM hH
  obtain ⟨its2, r2, pl2, hz2⟩ := I.list hB
  obtain ⟨⟨cls, dd, data, sl⟩, ho, hc, n2, hd⟩ := pl2.isList
  simp only at hc hd
  subst hc hd
  have hl2 := r2.length
  have hsz : its.toArray.size + its2.toArray.size ≤ sizeLine := by rw [List.size_toArray, List.size_toArray]; omega
  have hlong : ¬ (!its.toArray.isEmpty && Builtin.List.listTooLong (its.toArray.size + its2.toArray.size)) = true := by
    rw [notLongL hsz, Bool.and_false]
    exact Bool.false_ne_true
  refine call_meets F.slot_list_extend ⟨_, e, rfl⟩ F.entry_list_extend (F.args_list_extend_2 _ _)
    (list_extL l its.toArray n b its2.toArray n2 dd sl hlong (by rw [List.size_toArray]; omega) (by omega)) ⟨e, ho, ?_⟩
  refine ⟨.non, _, I.lset (its' := its ++ its2) hH e (by simp) (r.append r2) ?_, rfl, q⟩
  rw [List.length_append]
  omega
def extM : MutF
  | .lst xs, [m] => (rowM m).bind fun ys => if xs.length + ys.length ≤ sizeLine then some (.lst (xs ++ ys), .non) else none
  | _, _ => none
theorem mut_extend {X : Cx} : MutR X "list.extend" extM := by
  refine ⟨fun x vs H Q => rExtendL X.K x vs H Q ∨ rExtendT X.K x vs H Q, fun pins s σ H x xs v us Q I rx rxs h => h.elim (mt_extendL pins s σ H x xs v us Q I rx rxs) (mt_extendT pins s σ H x xs v us Q I rx rxs), fun M v ms v' w a vs H Q tr ma e oa rs q => ?_⟩
  unfold extM at e
  split at e
  · rename_i xs m
    obtain ⟨ys, e1, e⟩ := Option.bind_eq_some_iff.mp e
    split at e
    · rename_i hz
      cases e
      simp only [Own] at oa
      obtain ⟨us, h1, h2⟩ := oa
      simp only [Reps] at rs
      obtain ⟨y, _, rfl, r1, rfl⟩ := rs
      have fin : ∀ ws : List V, Reps (GX X) M H ys ws → Q .non (upd H a (.lst (us ++ ws))) := fun ws hw => by
        refine q .non _ out_upd ?_ (by simp only [Rep])
        simp only [Own]
        exact ⟨_, upd_same, (Reps.app h2 hw).keep (kp_upd ma) fun _ _ _ m => m⟩
      cases m with
      | lst ns =>
        cases e1
        obtain ⟨b, ws, rfl, h3, h4⟩ := rb_lst (.inl r1)
        exact .inl ⟨a, b, us, ws, rfl, rfl, h1, h3, by rw [h2.len, h4.len]; exact hz, fin ws h4⟩
      | tup ns =>
        cases e1
        obtain ⟨b, ws, rfl, h3, h4, _⟩ := rb_tup (.inl r1)
        exact .inr ⟨a, b, us, ws, rfl, rfl, h1, h3, by rw [h2.len, h4.len]; exact hz, fin ws h4⟩
      | _ => cases e1
    · cases e
  · cases e
end Mi

set_option Elab.async false
set_option linter.all false
set_option maxRecDepth 100000
set_option maxHeartbeats 4000000
namespace Pf
open PySem PySem.Spec PyProof.Rows L2 My Mi
def top (i : Nat) : Stmt := PySem.Challenge.pw_digitwords_k14_whole_known_words.main.body.getD i (.Pass ⟨0, 0, 0, 0⟩)
abbrev s_law_dice : Stmt := top 43
theorem sc_law_dice : FnScope ["script", "spot", "cell", "great", "seed"] ["script", "spot"] (defScope s_law_dice) := ⟨rfl, rfl, rfl, by decide +kernel, rfl, by decide +kernel, by decide +kernel⟩
abbrev s_Word_len : Stmt := inClass (top 30) 11
theorem sc_Word_len : FnScope ["self"] ["self"] (defScope s_Word_len) := ⟨rfl, rfl, rfl, by decide +kernel, rfl, by decide +kernel, by decide +kernel⟩
abbrev s_law_roll : Stmt := top 44
theorem sc_law_roll : FnScope ["dice", "total", "found", "one", "two"] ["dice", "total"] (defScope s_law_roll) := ⟨rfl, rfl, rfl, by decide +kernel, rfl, by decide +kernel, by decide +kernel⟩
abbrev s_is_integer : Stmt := top 9
theorem sc_is_integer : FnScope ["value"] ["value"] (defScope s_is_integer) := ⟨rfl, rfl, rfl, by decide +kernel, rfl, by decide +kernel, by decide +kernel⟩
abbrev s_is_within : Stmt := top 10
theorem sc_is_within : FnScope ["value", "least", "most"] ["value", "least", "most"] (defScope s_is_within) := ⟨rfl, rfl, rfl, by decide +kernel, rfl, by decide +kernel, by decide +kernel⟩
abbrev s_require_within : Stmt := top 11
theorem sc_require_within : FnScope ["value", "least", "most"] ["value", "least", "most"] (defScope s_require_within) := ⟨rfl, rfl, rfl, by decide +kernel, rfl, by decide +kernel, by decide +kernel⟩
abbrev s_require_base : Stmt := top 14
theorem sc_require_base : FnScope ["value"] ["value"] (defScope s_require_base) := ⟨rfl, rfl, rfl, by decide +kernel, rfl, by decide +kernel, by decide +kernel⟩
abbrev s_are_rows : Stmt := top 27
theorem sc_are_rows : FnScope ["base", "rows", "many", "row", "state"] ["base", "rows", "many"] (defScope s_are_rows) := ⟨rfl, rfl, rfl, by decide +kernel, rfl, by decide +kernel, by decide +kernel⟩
abbrev s_is_base : Stmt := top 13
theorem sc_is_base : FnScope ["value"] ["value"] (defScope s_is_base) := ⟨rfl, rfl, rfl, by decide +kernel, rfl, by decide +kernel, by decide +kernel⟩
abbrev s_is_letter : Stmt := top 12
theorem sc_is_letter : FnScope ["value"] ["value"] (defScope s_is_letter) := ⟨rfl, rfl, rfl, by decide +kernel, rfl, by decide +kernel, by decide +kernel⟩
abbrev s_are_letters : Stmt := top 28
theorem sc_are_letters : FnScope ["value", "letter"] ["value"] (defScope s_are_letters) := ⟨rfl, rfl, rfl, by decide +kernel, rfl, by decide +kernel, by decide +kernel⟩
abbrev s_is_word : Stmt := top 29
theorem sc_is_word : FnScope ["base", "rows", "letters"] ["base", "rows", "letters"] (defScope s_is_word) := ⟨rfl, rfl, rfl, by decide +kernel, rfl, by decide +kernel, by decide +kernel⟩
abbrev s_Word_init : Stmt := inClass (top 30) 1
theorem sc_Word_init : FnScope ["self", "base", "rows", "letters"] ["self", "base", "rows", "letters"] (defScope s_Word_init) := ⟨rfl, rfl, rfl, by decide +kernel, rfl, by decide +kernel, by decide +kernel⟩
abbrev s_parity_word : Stmt := top 36
theorem sc_parity_word : FnScope [] [] (defScope s_parity_word) := ⟨rfl, rfl, rfl, by decide +kernel, rfl, by decide +kernel, by decide +kernel⟩
abbrev s_reached_from : Stmt := top 20
theorem sc_reached_from : FnScope ["start", "rows", "marks", "numbers", "order", "found", "row", "other", "state"] ["start", "rows", "marks"] (defScope s_reached_from) := ⟨rfl, rfl, rfl, by decide +kernel, rfl, by decide +kernel, by decide +kernel⟩
abbrev s_set_of : Stmt := top 19
theorem sc_set_of : FnScope ["values", "value"] ["values"] (defScope s_set_of) := ⟨rfl, rfl, rfl, by decide +kernel, rfl, by decide +kernel, by decide +kernel⟩
abbrev s_classes_of : Stmt := top 18
theorem sc_classes_of : FnScope ["rows", "marks", "kinds", "found", "many", "seen", "later", "state", "row", "key", "at", "mark", "other"] ["rows", "marks"] (defScope s_classes_of) := ⟨rfl, rfl, rfl, by decide +kernel, rfl, by decide +kernel, by decide +kernel⟩
abbrev s_least_machine : Stmt := top 21
theorem sc_least_machine : FnScope ["rows", "marks", "some", "told", "lots", "firsts", "state", "lot", "joined", "other"] ["rows", "marks"] (defScope s_least_machine) := ⟨rfl, rfl, rfl, by decide +kernel, rfl, by decide +kernel, by decide +kernel⟩
abbrev s_KnownMachine_init : Stmt := inClass (top 26) 1
theorem sc_KnownMachine_init : FnScope ["self", "rows", "letters"] ["self", "rows", "letters"] (defScope s_KnownMachine_init) := ⟨rfl, rfl, rfl, by decide +kernel, rfl, by decide +kernel, by decide +kernel⟩
abbrev s_least_word : Stmt := top 31
theorem sc_least_word : FnScope ["base", "rows", "letters", "lean", "told"] ["base", "rows", "letters"] (defScope s_least_word) := ⟨rfl, rfl, rfl, by decide +kernel, rfl, by decide +kernel, by decide +kernel⟩
abbrev s_ends_word : Stmt := top 37
theorem sc_ends_word : FnScope ["base"] ["base"] (defScope s_ends_word) := ⟨rfl, rfl, rfl, by decide +kernel, rfl, by decide +kernel, by decide +kernel⟩
abbrev s_doubling_word : Stmt := top 38
theorem sc_doubling_word : FnScope [] [] (defScope s_doubling_word) := ⟨rfl, rfl, rfl, by decide +kernel, rfl, by decide +kernel, by decide +kernel⟩
abbrev s_fold_word : Stmt := top 39
theorem sc_fold_word : FnScope ["rows"] [] (defScope s_fold_word) := ⟨rfl, rfl, rfl, by decide +kernel, rfl, by decide +kernel, by decide +kernel⟩
abbrev s_pairs_word : Stmt := top 40
theorem sc_pairs_word : FnScope [] [] (defScope s_pairs_word) := ⟨rfl, rfl, rfl, by decide +kernel, rfl, by decide +kernel, by decide +kernel⟩
abbrev s_powers_word : Stmt := top 41
theorem sc_powers_word : FnScope ["base"] ["base"] (defScope s_powers_word) := ⟨rfl, rfl, rfl, by decide +kernel, rfl, by decide +kernel, by decide +kernel⟩
abbrev s_law_digits : Stmt := top 45
theorem sc_law_digits : FnScope ["base", "place", "found", "left"] ["base", "place"] (defScope s_law_digits) := ⟨rfl, rfl, rfl, by decide +kernel, rfl, by decide +kernel, by decide +kernel⟩
abbrev s_law_noughts : Stmt := top 51
theorem sc_law_noughts : FnScope ["base", "place", "found", "left"] ["base", "place"] (defScope s_law_noughts) := ⟨rfl, rfl, rfl, by decide +kernel, rfl, by decide +kernel, by decide +kernel⟩
abbrev s_law_odd : Stmt := top 52
theorem sc_law_odd : FnScope ["base", "place", "left"] ["base", "place"] (defScope s_law_odd) := ⟨rfl, rfl, rfl, by decide +kernel, rfl, by decide +kernel, by decide +kernel⟩
abbrev s_law_due : Stmt := top 53
theorem sc_law_due : FnScope ["base", "place", "digits", "found", "one", "two"] ["base", "place"] (defScope s_law_due) := ⟨rfl, rfl, rfl, by decide +kernel, rfl, by decide +kernel, by decide +kernel⟩
abbrev s_Word_base : Stmt := inClass (top 30) 2
theorem sc_Word_base : FnScope ["self"] ["self"] (defScope s_Word_base) := ⟨rfl, rfl, rfl, by decide +kernel, rfl, by decide +kernel, by decide +kernel⟩
abbrev s_Word_rows : Stmt := inClass (top 30) 3
theorem sc_Word_rows : FnScope ["self"] ["self"] (defScope s_Word_rows) := ⟨rfl, rfl, rfl, by decide +kernel, rfl, by decide +kernel, by decide +kernel⟩
abbrev s_Word_letters : Stmt := inClass (top 30) 4
theorem sc_Word_letters : FnScope ["self"] ["self"] (defScope s_Word_letters) := ⟨rfl, rfl, rfl, by decide +kernel, rfl, by decide +kernel, by decide +kernel⟩
abbrev s_law_wd_reached : Stmt := top 48
theorem sc_law_wd_reached : FnScope ["rows", "start", "found", "at", "later"] ["rows", "start"] (defScope s_law_wd_reached) := ⟨rfl, rfl, rfl, by decide +kernel, rfl, by decide +kernel, by decide +kernel⟩
abbrev s_law_wd_classes : Stmt := top 49
theorem sc_law_wd_classes : FnScope ["rows", "letters", "marks", "turn", "kinds", "later", "state", "row", "key", "one"] ["rows", "letters"] (defScope s_law_wd_classes) := ⟨rfl, rfl, rfl, by decide +kernel, rfl, by decide +kernel, by decide +kernel⟩
abbrev s_law_wd_least : Stmt := top 50
theorem sc_law_wd_least : FnScope ["word", "base", "rows", "letters", "kinds", "chosen", "state", "kind", "lean", "order", "index", "told", "row", "at", "one"] ["word"] (defScope s_law_wd_least) := ⟨rfl, rfl, rfl, by decide +kernel, rfl, by decide +kernel, by decide +kernel⟩
abbrev s_law_great : Stmt := top 47
theorem sc_law_great : FnScope ["dice", "way", "found", "turn"] ["dice"] (defScope s_law_great) := ⟨rfl, rfl, rfl, by decide +kernel, rfl, by decide +kernel, by decide +kernel⟩
abbrev s_law_power : Stmt := top 46
theorem sc_law_power : FnScope ["base", "many", "found", "turn"] ["base", "many"] (defScope s_law_power) := ⟨rfl, rfl, rfl, by decide +kernel, rfl, by decide +kernel, by decide +kernel⟩
abbrev s_require_place : Stmt := top 15
theorem sc_require_place : FnScope ["value"] ["value"] (defScope s_require_place) := ⟨rfl, rfl, rfl, by decide +kernel, rfl, by decide +kernel, by decide +kernel⟩
abbrev s_digits_in : Stmt := top 16
theorem sc_digits_in : FnScope ["base", "place", "found", "left"] ["base", "place"] (defScope s_digits_in) := ⟨rfl, rfl, rfl, by decide +kernel, rfl, by decide +kernel, by decide +kernel⟩
abbrev s_state_in : Stmt := top 32
theorem sc_state_in : FnScope ["word", "place", "state", "digit"] ["word", "place"] (defScope s_state_in) := ⟨rfl, rfl, rfl, by decide +kernel, rfl, by decide +kernel, by decide +kernel⟩
abbrev s_letter_in : Stmt := top 33
theorem sc_letter_in : FnScope ["word", "place"] ["word", "place"] (defScope s_letter_in) := ⟨rfl, rfl, rfl, by decide +kernel, rfl, by decide +kernel, by decide +kernel⟩
abbrev s_part_in : Stmt := top 34
theorem sc_part_in : FnScope ["word", "place", "many", "at"] ["word", "place", "many"] (defScope s_part_in) := ⟨rfl, rfl, rfl, by decide +kernel, rfl, by decide +kernel, by decide +kernel⟩
abbrev s_Word_part : Stmt := inClass (top 30) 7
theorem sc_Word_part : FnScope ["self", "place", "many"] ["self", "place", "many"] (defScope s_Word_part) := ⟨rfl, rfl, rfl, by decide +kernel, rfl, by decide +kernel, by decide +kernel⟩
abbrev s_Word_letter : Stmt := inClass (top 30) 6
theorem sc_Word_letter : FnScope ["self", "place"] ["self", "place"] (defScope s_Word_letter) := ⟨rfl, rfl, rfl, by decide +kernel, rfl, by decide +kernel, by decide +kernel⟩
abbrev s_law_right : Stmt := top 54
theorem sc_law_right : FnScope ["dice", "base", "words", "word", "plain", "place", "near", "rows", "due", "at", "spot", "turn", "row"] ["dice"] (defScope s_law_right) := ⟨rfl, rfl, rfl, by decide +kernel, rfl, by decide +kernel, by decide +kernel⟩
abbrev s_law : Stmt := top 55
theorem sc_law : FnScope ["script", "spot", "dice", "turn"] ["script"] (defScope s_law) := ⟨rfl, rfl, rfl, by decide +kernel, rfl, by decide +kernel, by decide +kernel⟩
structure Fre (mg : Str → Option Value) : Prop where
  len : mg "len" = none
  int : mg "int" = none
  abs : mg "abs" = none
  max : mg "max" = none
  min : mg "min" = none
  bool : mg "bool" = none
  tuple : mg "tuple" = none
  list : mg "list" = none
  str : mg "str" = none
  dict : mg "dict" = none
  set : mg "set" = none
  isinstance : mg "isinstance" = none
  all : mg "all" = none
  any : mg "any" = none
  sum : mg "sum" = none
  sorted : mg "sorted" = none
  zip : mg "zip" = none
  enumerate : mg "enumerate" = none
  range : mg "range" = none
  repr : mg "repr" = none
  c_MAX_BASE : ∃ t, mg "MAX_BASE" = some (.int 5 t)
  c_MAX_PLACE : ∃ t, mg "MAX_PLACE" = some (.int 1000000000000000000000000000000000000000000000000000000000000 t)
  c_MAX_LETTER : ∃ t, mg "MAX_LETTER" = some (.int 9 t)
  c_MAX_STATES : ∃ t, mg "MAX_STATES" = some (.int 60 t)
  c_MAX_PART : ∃ t, mg "MAX_PART" = some (.int 5000 t)
section
def b_law_dice : FS := (sSeq (sSet 2 (eIf (tB (e2 ltM (.sl 1) (.ex (e1 lenM (.sl 0))))) (e1 intM (.ex (e2 atM (.sl 0) (.sl 1)))) (e2 addM (.ex (e2 mulM (.ex (eC (.int 149))) (.sl 1))) (.ex (eC (.int 53))))))
  (sSeq (sSet 3 (e2 modI (.ex (e1 intM (.ex (e1 absM (.sl 2))))) (.ex (e2 powI (.ex (e2 powI (.ex (eC (.int 10))) (.ex (eC (.int 54))))) (.ex (eC (.int 6)))))))
  (sSeq (sSet 4 (e2 addM (.ex (e2 addM (.ex (e2 addM (.ex (e2 mulM (.ex (e2 modI (.sl 3) (.ex (eC (.int 2305843009213693921))))) (.ex (eC (.int 67))))) (.ex (e2 mulM (.ex (eC (.int 743))) (.sl 1))))) (.ex (e2 mulM (.ex (eC (.int 37))) (.ex (e1 intM (.ex (e2 ltM (.sl 2) (.ex (eC (.int 0))))))))))) (.ex (eC (.int 29)))))
  (sRet (eLst (aCons (e2 maxII (.ex (eC (.int 0))) (.ex (e2 subI (.sl 3) (.ex (e2 powI (.ex (eC (.int 10))) (.ex (eC (.int 16)))))))) (aCons (eVar 4) (aCons (eC (.int 0)) aNil))))))))
def m_law_dice : List MV → RF := runM none 5 b_law_dice
def b_Word_len : FS := (sRet (e1 lenM (.ex (e1 (atrM [("KnownMachine", 1), ("Word", 2)]) (.sl 0)))))
def m_Word_len : List MV → RF := runM none 1 b_Word_len
def b_law_roll : FS := (sSeq (sIf (tB (e2 gtI (.ex (e2 atM (.sl 0) (.ex (eC (.int 0))))) (.ex (eC (.int 0)))))
  (sSeq (sSet 2 (e2 modI (.ex (e2 atM (.sl 0) (.ex (eC (.int 0))))) (.sl 1)))
  (sSeq (sSt 0 (.ex (eC (.int 0))) (e2 divI (.ex (e2 atM (.sl 0) (.ex (eC (.int 0))))) (.sl 1)))
  (sRet (e1 intM (.sl 2)))))
  sNil)
  (sSeq (sSt 0 (.ex (eC (.int 2))) (e2 addM (.ex (e2 atM (.sl 0) (.ex (eC (.int 2))))) (.ex (eC (.int 1)))))
  (sSeq (sSet 3 (e2 modI (.ex (e2 addM (.ex (e2 atM (.sl 0) (.ex (eC (.int 1))))) (.ex (e2 mulM (.ex (eC (.int 86028157))) (.ex (e2 atM (.sl 0) (.ex (eC (.int 2))))))))) (.ex (eC (.int 2305843009213693951)))))
  (sSeq (sSet 4 (e2 addM (.ex (e2 mulM (.ex (e2 modI (.ex (e2 addM (.ex (e2 mulM (.sl 3) (.sl 3))) (.ex (e2 mulM (.ex (eC (.int 179))) (.ex (e2 atM (.sl 0) (.ex (eC (.int 2))))))))) (.ex (eC (.int 2305843009213693907))))) (.ex (eC (.int 15485867))))) (.sl 3)))
  (sRet (e2 modI (.ex (e1 intM (.ex (e2 divI (.sl 4) (.ex (eC (.int 65579))))))) (.sl 1)))))))
def m_law_roll : List MV → RF := runM (some 0) 5 b_law_roll
def b_is_integer : FS := (sRet (eAn (e1 (isiT (kitT "int") []) (.sl 0)) (eNt (e1 (isiT (kitT "bool") []) (.sl 0)))))
def m_is_integer : List MV → RF := runM none 1 b_is_integer
def b_is_within : FS := (sRet (eAn (eCall m_is_integer (aCons (eVar 0) aNil)) (eChain leI leI (.sl 1) (.sl 0) (.sl 2))))
def m_is_within : List MV → RF := runM none 3 b_is_within
def b_require_within : FS := (sIf (tNt (tQ (.ex (eCall m_is_within (aCons (eVar 0) (aCons (eVar 1) (aCons (eVar 2) aNil)))))))
  sNo
  sNil)
def m_require_within : List MV → RF := runM none 3 b_require_within
def b_require_base : FS := (sExpr (eCall m_require_within (aCons (eVar 0) (aCons (eC (.int 2)) (aCons (eC (.int 5)) aNil)))))
def m_require_base : List MV → RF := runM none 1 b_require_base
def c_are_rows_1 : Mi.FE := (eCall m_is_within (aCons (eVar 4) (aCons (eC (.int 0)) (aCons (e2 subI (.sl 2) (.ex (eC (.int 1)))) aNil))))
def c_are_rows_2 : Mi.FE := (eAn (e1 (isiT (kitT "tuple") []) (.sl 3)) (e2 eqM (.ex (e1 lenM (.sl 3))) (.sl 0)))
def b_are_rows : FS := (sSeq (sIf (tOrr (tNt (tQ (.ex (e1 (isiT (kitT "tuple") []) (.sl 1))))) (tB (e2 neM (.ex (e1 lenM (.sl 1))) (.sl 2))))
  (sRet (eC (.bl false)))
  sNil)
  (sSeq (sIf (tNt (tQ (.ex (e1 allM (.ex (eComp (.nm 3) (fSeq (.ex (eVar 1))) tYesM c_are_rows_2 [3]))))))
  (sRet (eC (.bl false)))
  sNil)
  (sRet (e1 allM (.ex (eComp2 (.nm 3) (fSeq (.ex (eVar 1))) tYesM (fTup (.sl 3)) (.nm 4) tYesM c_are_rows_1 [3, 4] [4]))))))
def m_are_rows : List MV → RF := runM none 5 b_are_rows
def b_is_base : FS := (sRet (eCall m_is_within (aCons (eVar 0) (aCons (eC (.int 2)) (aCons (eC (.int 5)) aNil)))))
def m_is_base : List MV → RF := runM none 1 b_is_base
def b_is_letter : FS := (sRet (eCall m_is_within (aCons (eVar 0) (aCons (eC (.int 0)) (aCons (eC (.int 9)) aNil)))))
def m_is_letter : List MV → RF := runM none 1 b_is_letter
def c_are_letters_1 : Mi.FE := (eCall m_is_letter (aCons (eVar 1) aNil))
def b_are_letters : FS := (sRet (eAn (e1 (isiT (kitT "tuple") []) (.sl 0)) (e1 allM (.ex (eComp (.nm 1) (fSeq (.ex (eVar 0))) tYesM c_are_letters_1 [1])))))
def m_are_letters : List MV → RF := runM none 2 b_are_letters
def b_is_word : FS := (sSeq (sIf (tOrr (tNt (tQ (.ex (eCall m_is_base (aCons (eVar 0) aNil))))) (tOrr (tNt (tQ (.ex (eCall m_are_letters (aCons (eVar 2) aNil))))) (tNt (tB (eChain leI leI (.ex (eC (.int 1))) (.ex (e1 lenM (.sl 2))) (.ex (eC (.int 60))))))))
  (sRet (eC (.bl false)))
  sNil)
  (sRet (eAn (eCall m_are_rows (aCons (eVar 0) (aCons (eVar 1) (aCons (e1 lenM (.sl 2)) aNil)))) (e2 eqM (.ex (e2 atM (.ex (e2 atM (.sl 1) (.ex (eC (.int 0))))) (.ex (eC (.int 0))))) (.ex (eC (.int 0)))))))
def m_is_word : List MV → RF := runM none 3 b_is_word
def b_Word_init : FSI := (iSeq (iIf (tQ (.ex (e1 (isiT tyF [("KnownMachine", true)]) (.sl 2))))
  (iSeq (iSets [0, 2, 1] (eTup (aCons (eVar 1) (aCons (e1 (atrM [("KnownMachine", 1), ("Word", 2)]) (.sl 2)) (aCons (e1 (atrM [("KnownMachine", 0), ("Word", 1)]) (.sl 2)) aNil)))))
  iRet)
  iNil)
  (iSeq (iNorm (sExpr (eCall m_require_base (aCons (eVar 1) aNil))))
  (iSeq (iNorm (sIf (tNt (tQ (.ex (eCall m_is_word (aCons (eVar 1) (aCons (eVar 2) (aCons (eVar 3) aNil)))))))
  sNo
  sNil))
  (iSets [0, 2, 1] (eTup (aCons (eVar 1) (aCons (eVar 2) (aCons (eVar 3) aNil))))))))
def m_Word_init : List MV → RIF := runI 4 b_Word_init
def b_parity_word : FS := (sRet (eMk m_Word_init "Word" [] (aCons (eC (.int 2)) (aCons (eTup (aCons (eTup (aCons (eC (.int 0)) (aCons (eC (.int 1)) aNil))) (aCons (eTup (aCons (eC (.int 1)) (aCons (eC (.int 0)) aNil))) aNil))) (aCons (eTup (aCons (eC (.int 0)) (aCons (eC (.int 1)) aNil))) aNil)))))
def m_parity_word : List MV → RF := runM none 0 b_parity_word
def l_reached_from_1 : Mi.FS := (sSeq (sIf (tB (e2 (inM true) (.sl 7) (.sl 3)))
  (sSeq (sSt 3 (.sl 7) (e1 lenM (.sl 4)))
  (sExpr (eMut "list" appM 4 (aCons (eVar 7) aNil))))
  sNil)
  (sExpr (eMut "list" appM 6 (aCons (e2 atM (.sl 3) (.sl 7)) aNil))))
def l_reached_from_2 : Mi.FS := (sSeq (sSet 6 (eLst aNil))
  (sSeq (sFor (.nm 7) (fSeq (.ex (e2 atM (.sl 1) (.ex (e2 atM (.sl 4) (.ex (e1 lenM (.sl 5))))))))
  l_reached_from_1)
  (sExpr (eMut "list" appM 5 (aCons (e1 tupM (.sl 6)) aNil)))))
def b_reached_from : FS := (sSeq (sSet 3 (eDisp (eVar 0) (eC (.int 0))))
  (sSeq (sSet 4 (eLst (aCons (eVar 0) aNil)))
  (sSeq (sSet 5 (eLst aNil))
  (sSeq (sWhile fuel (tB (e2 ltM (.ex (e1 lenM (.sl 5))) (.ex (e1 lenM (.sl 4)))))
  l_reached_from_2)
  (sRet (eTup (aCons (e1 tupM (.sl 5)) (aCons (e1 tupM (.ex (eComp (.nm 8) (fSeq (.ex (eVar 4))) tYesM (e2 atM (.sl 2) (.sl 8)) [8]))) aNil))))))))
def m_reached_from : List MV → RF := runM none 9 b_reached_from
def b_set_of : FS := (sRet (e1 listM (.ex (eDcomp (.nm 1) (fSeq (.ex (eVar 0))) tYesM (eVar 1) (eC (.bl true)) [1]))))
def m_set_of : List MV → RF := runM none 2 b_set_of
def l_classes_of_1 : Mi.FS := (sSeq (sSet 9 (eTupD (aCons (e2 atM (.sl 3) (.sl 7)) (aStar (eComp (.nm 12) (fSeq (.ex (eVar 8))) tYesM (e2 atM (.sl 3) (.sl 12)) [12]) aNil))))
  (sSeq (sIf (tB (e2 (inM true) (.sl 9) (.sl 5)))
  (sSt 5 (.sl 9) (e1 lenM (.sl 5)))
  sNil)
  (sExpr (eMut "list" appM 6 (aCons (e2 atM (.sl 5) (.sl 9)) aNil)))))
def l_classes_of_2 : Mi.FS := (sSeq (sSet 5 (eNew (.dn [] [])))
  (sSeq (sSet 6 (eLst aNil))
  (sSeq (sLend 0 (sFor (.tp [(.nm 7), (.nm 8)]) (fEnum (.sl 0))
  l_classes_of_1))
  (sSeq (sIf (tB (e2 eqM (.ex (e1 lenM (.sl 5))) (.sl 4)))
  (sRetV 6)
  sNil)
  (sPar 3 4 (eVar 6) (e1 lenM (.sl 5)))))))
def b_classes_of : FS := (sSeq (sSet 2 (eDcomp (.tp [(.nm 10), (.nm 11)]) (fEnum (.ex (e1 sortM (.ex (eCall m_set_of (aCons (eVar 1) aNil)))))) tYesM (eVar 11) (eVar 10) [10, 11]))
  (sSeq (sPar 3 4 (eComp (.nm 11) (fSeq (.ex (eVar 1))) tYesM (e2 atM (.sl 2) (.sl 11)) [11]) (e1 lenM (.sl 2)))
  (sWhile fuel (tB (eC (.bl true)))
  l_classes_of_2)))
def m_classes_of : List MV → RF := runM none 13 b_classes_of
def c_least_machine_1 : Mi.FE := (e2 atM (.sl 3) (.ex (e2 atM (.sl 5) (.sl 7))))
def c_least_machine_2 : Mi.FE := (e1 tupM (.ex (eComp (.nm 9) (fSeq (.ex (e2 atM (.sl 2) (.ex (e2 atM (.sl 5) (.sl 7)))))) tYesM (e2 atM (.sl 4) (.sl 9)) [9])))
def l_least_machine_3 : Mi.FS := (sIf (tB (e2 (inM true) (.sl 7) (.sl 5)))
  (sSt 5 (.sl 7) (eVar 6))
  sNil)
def b_least_machine : FS := (sSeq (sAsg (.tp [(.nm 2), (.nm 3)]) (eCall m_reached_from (aCons (eC (.int 0)) (aCons (eVar 0) (aCons (eVar 1) aNil)))))
  (sSeq (sSet 4 (eCall m_classes_of (aCons (eVar 2) (aCons (eVar 3) aNil))))
  (sSeq (sSet 5 (eNew (.dk [] [])))
  (sSeq (sLend 4 (sFor (.tp [(.nm 6), (.nm 7)]) (fEnum (.sl 4))
  l_least_machine_3))
  (sSeq (sSet 8 (eComp (.nm 7) (fArgs rangeM1 (aCons (e1 lenM (.sl 5)) aNil)) tYesM c_least_machine_2 [7]))
  (sRet (eCall m_reached_from (aCons (e2 atM (.sl 4) (.ex (eC (.int 0)))) (aCons (eVar 8) (aCons (eComp (.nm 7) (fArgs rangeM1 (aCons (e1 lenM (.sl 5)) aNil)) tYesM c_least_machine_1 [7]) aNil))))))))))
def m_least_machine : List MV → RF := runM none 10 b_least_machine
def b_KnownMachine_init : FSI := (iSeq (iSet 1 (eVar 1))
  (iSet 0 (eVar 2)))
def m_KnownMachine_init : List MV → RIF := runI 3 b_KnownMachine_init
def b_least_word : FS := (sSeq (sAsg (.tp [(.nm 3), (.nm 4)]) (eCall m_least_machine (aCons (eVar 1) (aCons (eVar 2) aNil))))
  (sRet (eMk m_Word_init "Word" [.non] (aCons (eVar 0) (aCons (eMk m_KnownMachine_init "KnownMachine" [] (aCons (eVar 3) (aCons (eVar 4) aNil))) aNil)))))
def m_least_word : List MV → RF := runM none 5 b_least_word
def b_ends_word : FS := (sSeq (sExpr (eCall m_require_base (aCons (eVar 0) aNil)))
  (sRet (eCall m_least_word (aCons (eVar 0) (aCons (eTup (aCons (e2 addM (.ex (e2 mulM (.ex (eTup (aCons (eC (.int 0)) aNil))) (.ex (e2 subI (.sl 0) (.ex (eC (.int 1))))))) (.ex (eTup (aCons (eC (.int 1)) aNil)))) (aCons (e2 addM (.ex (e2 mulM (.ex (eTup (aCons (eC (.int 0)) aNil))) (.ex (e2 subI (.sl 0) (.ex (eC (.int 1))))))) (.ex (eTup (aCons (eC (.int 0)) aNil)))) aNil))) (aCons (eTup (aCons (eC (.int 0)) (aCons (eC (.int 1)) aNil))) aNil))))))
def m_ends_word : List MV → RF := runM none 1 b_ends_word
def b_doubling_word : FS := (sRet (eCall m_ends_word (aCons (eC (.int 2)) aNil)))
def m_doubling_word : List MV → RF := runM none 0 b_doubling_word
def b_fold_word : FS := (sSeq (sSet 0 (eTup (aCons (eTup (aCons (eC (.int 0)) (aCons (eC (.int 1)) aNil))) (aCons (eTup (aCons (eC (.int 2)) (aCons (eC (.int 1)) aNil))) (aCons (eTup (aCons (eC (.int 0)) (aCons (eC (.int 3)) aNil))) (aCons (eTup (aCons (eC (.int 2)) (aCons (eC (.int 3)) aNil))) aNil))))))
  (sRet (eCall m_least_word (aCons (eC (.int 2)) (aCons (eVar 0) (aCons (eTup (aCons (eC (.int 1)) (aCons (eC (.int 1)) (aCons (eC (.int 0)) (aCons (eC (.int 0)) aNil))))) aNil))))))
def m_fold_word : List MV → RF := runM none 1 b_fold_word
def b_pairs_word : FS := (sRet (eCall m_least_word (aCons (eC (.int 2)) (aCons (eTup (aCons (eTup (aCons (eC (.int 0)) (aCons (eC (.int 1)) aNil))) (aCons (eTup (aCons (eC (.int 0)) (aCons (eC (.int 2)) aNil))) (aCons (eTup (aCons (eC (.int 3)) (aCons (eC (.int 1)) aNil))) (aCons (eTup (aCons (eC (.int 3)) (aCons (eC (.int 2)) aNil))) aNil))))) (aCons (eTup (aCons (eC (.int 0)) (aCons (eC (.int 0)) (aCons (eC (.int 1)) (aCons (eC (.int 1)) aNil))))) aNil)))))
def m_pairs_word : List MV → RF := runM none 0 b_pairs_word
def b_powers_word : FS := (sSeq (sExpr (eCall m_require_base (aCons (eVar 0) aNil)))
  (sRet (eCall m_least_word (aCons (eVar 0) (aCons (eTup (aCons (e2 addM (.ex (eTup (aCons (eC (.int 0)) (aCons (eC (.int 1)) aNil)))) (.ex (e2 mulM (.ex (eTup (aCons (eC (.int 2)) aNil))) (.ex (e2 subI (.sl 0) (.ex (eC (.int 2)))))))) (aCons (e2 addM (.ex (eTup (aCons (eC (.int 1)) aNil))) (.ex (e2 mulM (.ex (eTup (aCons (eC (.int 2)) aNil))) (.ex (e2 subI (.sl 0) (.ex (eC (.int 1)))))))) (aCons (e2 mulM (.ex (eTup (aCons (eC (.int 2)) aNil))) (.sl 0)) aNil)))) (aCons (eTup (aCons (eC (.int 0)) (aCons (eC (.int 1)) (aCons (eC (.int 0)) aNil)))) aNil))))))
def m_powers_word : List MV → RF := runM none 1 b_powers_word
def l_law_digits_1 : Mi.FS := (sSeq (sExpr (eMut "list" appM 2 (aCons (e2 modI (.sl 3) (.sl 0)) aNil)))
  (sSet 3 (e2 divI (.sl 3) (.sl 0))))
def b_law_digits : FS := (sSeq (sPar 2 3 (eLst aNil) (eVar 1))
  (sSeq (sWhile fuel (tB (e2 gtI (.sl 3) (.ex (eC (.int 0)))))
  l_law_digits_1)
  (sRet (e1 tupM (.ex (e1 revM (.sl 2)))))))
def m_law_digits : List MV → RF := runM none 4 b_law_digits
def l_law_noughts_1 : Mi.FS := (sPar 2 3 (e2 addM (.sl 2) (.ex (eC (.int 1)))) (e2 divI (.sl 3) (.sl 0)))
def b_law_noughts : FS := (sSeq (sPar 2 3 (eC (.int 0)) (eVar 1))
  (sSeq (sWhile fuel (tB (e2 eqM (.ex (e2 modI (.sl 3) (.sl 0))) (.ex (eC (.int 0)))))
  l_law_noughts_1)
  (sRetV 2)))
def m_law_noughts : List MV → RF := runM none 4 b_law_noughts
def l_law_odd_1 : Mi.FS := (sSet 2 (e2 divI (.sl 2) (.sl 0)))
def b_law_odd : FS := (sSeq (sSet 2 (eVar 1))
  (sSeq (sWhile fuel (tB (e2 eqM (.ex (e2 modI (.sl 2) (.sl 0))) (.ex (eC (.int 0)))))
  l_law_odd_1)
  (sRetV 2)))
def m_law_odd : List MV → RF := runM none 3 b_law_odd
def t_law_due_1 : Mi.FT := (tAn (tB (e2 eqM (.sl 4) (.ex (eC (.int 1))))) (tB (e2 eqM (.sl 5) (.ex (eC (.int 1))))))
def b_law_due : FS := (sSeq (sSet 2 (eCall m_law_digits (aCons (eC (.int 2)) (aCons (eVar 1) aNil))))
  (sSeq (sSet 3 (eLst (aCons (e2 modI (.ex (e1 sumM (.sl 2))) (.ex (eC (.int 2)))) (aCons (e2 modI (.ex (eCall m_law_noughts (aCons (eC (.int 2)) (aCons (e2 addM (.sl 1) (.ex (eC (.int 1)))) aNil)))) (.ex (eC (.int 2)))) (aCons (e1 intM (.ex (e2 eqM (.ex (e2 modI (.ex (eCall m_law_odd (aCons (eC (.int 2)) (aCons (e2 addM (.sl 1) (.ex (eC (.int 1)))) aNil)))) (.ex (eC (.int 4))))) (.ex (eC (.int 1)))))) aNil)))))
  (sSeq (sExpr (eMut "list" appM 3 (aCons (e2 modI (.ex (e1 lenM (.ex (eComp (.tp [(.nm 4), (.nm 5)]) (fZip (.ex (eVar 2)) (.ex (e2 slLo (.sl 2) (.ex (eC (.int 1)))))) t_law_due_1 (eC (.int 1)) [4, 5])))) (.ex (eC (.int 2)))) aNil)))
  (sSeq (sExpr (eMut "list" appM 3 (aCons (e1 intM (.ex (eAn (e2 gtI (.sl 1) (.ex (eC (.int 0)))) (e2 eqM (.ex (eCall m_law_odd (aCons (eVar 0) (aCons (eVar 1) aNil)))) (.ex (eC (.int 1))))))) aNil)))
  (sRet (e2 addM (.sl 3) (.ex (eLst (aCons (e2 modI (.ex (eCall m_law_noughts (aCons (eVar 0) (aCons (e2 addM (.sl 1) (.ex (eC (.int 1)))) aNil)))) (.ex (eC (.int 2)))) aNil)))))))))
def m_law_due : List MV → RF := runM none 6 b_law_due
def b_Word_base : FS := (sRet (e1 (atrM [("Word", 0)]) (.sl 0)))
def m_Word_base : List MV → RF := runM none 1 b_Word_base
def b_Word_rows : FS := (sRet (e1 (atrM [("KnownMachine", 1), ("Word", 2)]) (.sl 0)))
def m_Word_rows : List MV → RF := runM none 1 b_Word_rows
def b_Word_letters : FS := (sRet (e1 (atrM [("KnownMachine", 0), ("Word", 1)]) (.sl 0)))
def m_Word_letters : List MV → RF := runM none 1 b_Word_letters
def l_law_wd_reached_1 : Mi.FS := (sIf (tB (e2 (inM true) (.sl 4) (.sl 2)))
  (sExpr (eMut "list" appM 2 (aCons (eVar 4) aNil)))
  sNil)
def l_law_wd_reached_2 : Mi.FS := (sSeq (sFor (.nm 4) (fSeq (.ex (e2 atM (.sl 0) (.ex (e2 atM (.sl 2) (.sl 3))))))
  l_law_wd_reached_1)
  (sSet 3 (e2 addM (.sl 3) (.ex (eC (.int 1))))))
def b_law_wd_reached : FS := (sSeq (sPar 2 3 (eLst (aCons (eVar 1) aNil)) (eC (.int 0)))
  (sSeq (sWhile fuel (tB (e2 ltM (.sl 3) (.ex (e1 lenM (.sl 2)))))
  l_law_wd_reached_2)
  (sRetV 2)))
def m_law_wd_reached : List MV → RF := runM none 5 b_law_wd_reached
def l_law_wd_classes_1 : Mi.FS := (sSeq (sSet 8 (e2 addM (.ex (eTup (aCons (e2 atM (.sl 2) (.sl 6)) aNil))) (.ex (e1 tupM (.ex (eComp (.nm 9) (fSeq (.ex (eVar 7))) tYesM (e2 atM (.sl 2) (.sl 9)) [9]))))))
  (sSeq (sSt 4 (.sl 8) (ePur "dict" getM 4 (aCons (eVar 8) (aCons (e1 lenM (.sl 4)) aNil))))
  (sExpr (eMut "list" appM 5 (aCons (e2 atM (.sl 4) (.sl 8)) aNil)))))
def l_law_wd_classes_2 : Mi.FS := (sSeq (sPar 4 5 (eNew (.dn [] [])) (eLst aNil))
  (sSeq (sLend 0 (sFor (.tp [(.nm 6), (.nm 7)]) (fEnum (.sl 0))
  l_law_wd_classes_1))
  (sSet 2 (eVar 5))))
def b_law_wd_classes : FS := (sSeq (sSet 2 (e1 listM (.sl 1)))
  (sSeq (sFor (.nm 3) (fArgs rangeM1 (aCons (e1 lenM (.sl 0)) aNil))
  l_law_wd_classes_2)
  (sRetV 2)))
def m_law_wd_classes : List MV → RF := runM none 10 b_law_wd_classes
def c_law_wd_least_1 : Mi.FE := (e1 tupM (.ex (eComp (.nm 14) (fSeq (.ex (e2 atM (.sl 8) (.sl 6)))) tYesM (e2 atM (.sl 10) (.sl 14)) [14])))
def c_law_wd_least_2 : Mi.FE := (eTup (aCons (eVar 6) (aCons (eVar 13) aNil)))
def c_law_wd_least_3 : Mi.FE := (e2 atM (.sl 5) (.ex (e2 atM (.sl 4) (.sl 14))))
def c_law_wd_least_4 : Mi.FE := (e1 tupM (.ex (eComp (.nm 14) (fSeq (.ex (eVar 12))) tYesM c_law_wd_least_3 [14])))
def l_law_wd_least_5 : Mi.FS := (sSt 5 (.sl 7) (ePur "dict" getM 5 (aCons (eVar 7) (aCons (eVar 6) aNil))))
def b_law_wd_least : FS := (sSeq (sAsg (.tp [(.nm 1), (.nm 2), (.nm 3)]) (eVar 0))
  (sSeq (sPar 4 5 (eCall m_law_wd_classes (aCons (eVar 2) (aCons (eVar 3) aNil))) (eNew (.dk [] [])))
  (sSeq (sLend 4 (sFor (.tp [(.nm 6), (.nm 7)]) (fEnum (.sl 4))
  l_law_wd_least_5))
  (sSeq (sSet 8 (eComp (.nm 12) (fSeq (.ex (eVar 2))) tYesM c_law_wd_least_4 [12]))
  (sSeq (sSet 9 (eCall m_law_wd_reached (aCons (eVar 8) (aCons (e2 atM (.sl 5) (.ex (e2 atM (.sl 4) (.ex (eC (.int 0)))))) aNil))))
  (sSeq (sSet 10 (e1 dictP (.ex (eComp (.tp [(.nm 13), (.nm 6)]) (fEnum (.ex (eVar 9))) tYesM c_law_wd_least_2 [13, 6]))))
  (sSeq (sSet 11 (e1 tupM (.ex (eComp (.nm 6) (fSeq (.ex (eVar 9))) tYesM c_law_wd_least_1 [6]))))
  (sRet (eTup (aCons (eVar 1) (aCons (eVar 11) (aCons (e1 tupM (.ex (eComp (.nm 6) (fSeq (.ex (eVar 9))) tYesM (e2 atM (.sl 3) (.sl 6)) [6]))) aNil))))))))))))
def m_law_wd_least : List MV → RF := runM none 15 b_law_wd_least
def l_law_great_1 : Mi.FS := (sSet 2 (e2 addM (.ex (e2 mulM (.sl 2) (.ex (e2 powI (.ex (eC (.int 10))) (.ex (eC (.int 6))))))) (.ex (eCallIo m_law_roll 0 (hHole 0 (hCons (e2 powI (.ex (eC (.int 10))) (.ex (eC (.int 6)))) hNil))))))
def b_law_great : FS := (sSeq (sSet 1 (eCallIo m_law_roll 0 (hHole 0 (hCons (eC (.int 4)) hNil))))
  (sSeq (sIf (tB (e2 ltM (.sl 1) (.ex (eC (.int 2)))))
  (sRet (eCallIo m_law_roll 0 (hHole 0 (hCons (eC (.int 40)) hNil))))
  sNil)
  (sSeq (sIf (tB (e2 eqM (.sl 1) (.ex (eC (.int 2)))))
  (sRet (eCallIo m_law_roll 0 (hHole 0 (hCons (e2 powI (.ex (eC (.int 10))) (.ex (eC (.int 6)))) hNil))))
  sNil)
  (sSeq (sSet 2 (eC (.int 0)))
  (sSeq (sFor (.nm 3) (fArgs rangeM1 (aCons (eC (.int 9)) aNil))
  l_law_great_1)
  (sRetV 2))))))
def m_law_great : List MV → RF := runM (some 0) 4 b_law_great
def l_law_power_1 : Mi.FS := (sSet 2 (e2 mulM (.sl 2) (.sl 0)))
def b_law_power : FS := (sSeq (sSet 2 (eC (.int 1)))
  (sSeq (sFor (.nm 3) (fArgs rangeM1 (aCons (eVar 1) aNil))
  l_law_power_1)
  (sRetV 2)))
def m_law_power : List MV → RF := runM none 4 b_law_power
def b_require_place : FS := (sExpr (eCall m_require_within (aCons (eVar 0) (aCons (eC (.int 0)) (aCons (eC (.int 1000000000000000000000000000000000000000000000000000000000000)) aNil)))))
def m_require_place : List MV → RF := runM none 1 b_require_place
def l_digits_in_1 : Mi.FS := (sSeq (sExpr (eMut "list" appM 2 (aCons (e2 modI (.sl 3) (.sl 0)) aNil)))
  (sSet 3 (e2 divI (.sl 3) (.sl 0))))
def b_digits_in : FS := (sSeq (sPar 2 3 (eLst aNil) (eVar 1))
  (sSeq (sWhile fuel (tB (e2 gtI (.sl 3) (.ex (eC (.int 0)))))
  l_digits_in_1)
  (sRet (e1 tupM (.ex (e1 revM (.sl 2)))))))
def m_digits_in : List MV → RF := runM none 4 b_digits_in
def l_state_in_1 : Mi.FS := (sSet 2 (e2 atM (.ex (e2 atM (.ex (e1 (atrM [("KnownMachine", 1), ("Word", 2)]) (.sl 0))) (.sl 2))) (.sl 3)))
def b_state_in : FS := (sSeq (sSet 2 (eC (.int 0)))
  (sSeq (sFor (.nm 3) (fSeq (.ex (eCall m_digits_in (aCons (e1 (atrM [("Word", 0)]) (.sl 0)) (aCons (eVar 1) aNil)))))
  l_state_in_1)
  (sRetV 2)))
def m_state_in : List MV → RF := runM none 4 b_state_in
def b_letter_in : FS := (sRet (e2 atM (.ex (e1 (atrM [("KnownMachine", 0), ("Word", 1)]) (.sl 0))) (.ex (eCall m_state_in (aCons (eVar 0) (aCons (eVar 1) aNil))))))
def m_letter_in : List MV → RF := runM none 2 b_letter_in
def c_part_in_1 : Mi.FE := (eCall m_letter_in (aCons (eVar 0) (aCons (e2 addM (.sl 1) (.sl 3)) aNil)))
def b_part_in : FS := (sRet (e1 tupM (.ex (eComp (.nm 3) (fArgs rangeM1 (aCons (eVar 2) aNil)) tYesM c_part_in_1 [3]))))
def m_part_in : List MV → RF := runM none 4 b_part_in
def b_Word_part : FS := (sSeq (sExpr (eCall m_require_place (aCons (eVar 1) aNil)))
  (sSeq (sExpr (eCall m_require_within (aCons (eVar 2) (aCons (eC (.int 0)) (aCons (eC (.int 5000)) aNil)))))
  (sRet (eCall m_part_in (aCons (eVar 0) (aCons (eVar 1) (aCons (eVar 2) aNil)))))))
def m_Word_part : List MV → RF := runM none 3 b_Word_part
def b_Word_letter : FS := (sSeq (sExpr (eCall m_require_place (aCons (eVar 1) aNil)))
  (sRet (eCall m_letter_in (aCons (eVar 0) (aCons (eVar 1) aNil)))))
def m_Word_letter : List MV → RF := runM none 2 b_Word_letter
def c_law_right_1 : Mi.FE := (eMeth [("Word", m_Word_part)] (eVar 3) (aCons (eC (.int 0)) (aCons (eC (.int 60)) aNil)))
def c_law_right_2 : Mi.FE := (e1 tupM (.ex (eComp (.nm 12) (fSeq (.ex (eVar 7))) tYesM (e2 atM (.sl 12) (.sl 10)) [12])))
def c_law_right_3 : Mi.FE := (eCall m_law_due (aCons (eVar 1) (aCons (eVar 9) aNil)))
def c_law_right_4 : Mi.FE := (eMeth [("Word", m_Word_letter)] (eVar 3) (aCons (eVar 6) aNil))
def l_law_right_5 : Mi.FS := (sIf (tB (e2 neM (.ex (eComp (.nm 3) (fSeq (.ex (eVar 2))) tYesM c_law_right_4 [3])) (.ex (eCall m_law_due (aCons (eVar 1) (aCons (eVar 6) aNil))))))
  (sRet (eC (.bl false)))
  sNil)
def l_law_right_6 : Mi.FS := (sFor (.nm 6) (fSeq (.ex (eTup (aCons (eVar 5) (aCons (e2 addM (.sl 5) (.ex (eC (.int 1)))) aNil)))))
  l_law_right_5)
def l_law_right_7 : Mi.FS := (sSeq (sSet 4 (eTup (aCons (eProp [("Word", m_Word_base)] (eVar 3)) (aCons (eProp [("Word", m_Word_rows)] (eVar 3)) (aCons (eProp [("Word", m_Word_letters)] (eVar 3)) aNil)))))
  (sIf (tB (e2 neM (.ex (eCall m_law_wd_least (aCons (eVar 4) aNil))) (.sl 4)))
  (sRet (eC (.bl false)))
  sNil))
def c_law_right_8 : Mi.FE := (eProp [("Word", m_Word_base)] (eVar 3))
def b_law_right : FS := (sSeq (sSet 1 (e2 addM (.ex (eC (.int 2))) (.ex (eCallIo m_law_roll 0 (hHole 0 (hCons (eC (.int 4)) hNil))))))
  (sSeq (sSet 2 (eLst (aCons (eCall m_parity_word aNil) (aCons (eCall m_doubling_word aNil) (aCons (eCall m_fold_word aNil) (aCons (eCall m_pairs_word aNil) (aCons (eCall m_powers_word (aCons (eVar 1) aNil)) (aCons (eCall m_ends_word (aCons (eVar 1) aNil)) aNil))))))))
  (sSeq (sIf (tB (e2 neM (.ex (eComp (.nm 3) (fSeq (.ex (eVar 2))) tYesM c_law_right_8 [3])) (.ex (eLst (aCons (eC (.int 2)) (aCons (eC (.int 2)) (aCons (eC (.int 2)) (aCons (eC (.int 2)) (aCons (eVar 1) (aCons (eVar 1) aNil))))))))))
  (sRet (eC (.bl false)))
  sNil)
  (sSeq (sLend 2 (sFor (.nm 3) (fSeq (.sl 2))
  l_law_right_7))
  (sSeq (sFor (.nm 5) (fSeq (.ex (e2 addM (.ex (eComp (.nm 11) (fArgs rangeM1 (aCons (eC (.int 4)) aNil)) tYesM (eCallIo m_law_great 0 (hHole 0 hNil)) [11])) (.ex (eLst (aCons (eCall m_law_power (aCons (eVar 1) (aCons (e2 addM (.ex (eC (.int 1))) (.ex (eCallIo m_law_roll 0 (hHole 0 (hCons (eC (.int 40)) hNil))))) aNil))) (aCons (eC (.int 0)) (aCons (eC (.int 1)) (aCons (eC (.int 2)) aNil)))))))))
  l_law_right_6)
  (sSeq (sSet 7 (eComp (.nm 9) (fArgs rangeM1 (aCons (eC (.int 60)) aNil)) tYesM c_law_right_3 [9]))
  (sSeq (sSet 8 (eComp (.nm 10) (fArgs rangeM1 (aCons (eC (.int 6)) aNil)) tYesM c_law_right_2 [10]))
  (sRet (e2 eqM (.ex (eComp (.nm 3) (fSeq (.ex (eVar 2))) tYesM c_law_right_1 [3])) (.sl 8))))))))))
def m_law_right : List MV → RF := runM (some 0) 13 b_law_right
def l_law_1 : Mi.FS := (sIf (tNt (tQ (.ex (eCallIo m_law_right 2 (hHole 2 hNil)))))
  (sRet (eC (.bl false)))
  sNil)
def l_law_2 : Mi.FS := (sSeq (sSet 2 (eCall m_law_dice (aCons (eVar 0) (aCons (eVar 1) aNil))))
  (sFor (.nm 3) (fArgs rangeM1 (aCons (eC (.int 2)) aNil))
  l_law_1))
def b_law : FS := (sSeq (sFor (.nm 1) (fArgs rangeM1 (aCons (e2 maxII (.ex (eC (.int 1))) (.ex (e2 minII (.ex (eC (.int 6))) (.ex (e1 (fun v => (lenM v).or (lenO [("Word", m_Word_len)] v)) (.sl 0)))))) aNil))
  l_law_2)
  (sRet (e2 eqM (.ex (eLst (aCons (e1 (fun v => (lenM v).or (lenO [("Word", m_Word_len)] v)) (.ex (eCall m_parity_word aNil))) (aCons (e1 (fun v => (lenM v).or (lenO [("Word", m_Word_len)] v)) (.ex (eCall m_doubling_word aNil))) (aCons (e1 (fun v => (lenM v).or (lenO [("Word", m_Word_len)] v)) (.ex (eCall m_powers_word (aCons (eC (.int 5)) aNil)))) aNil))))) (.ex (eLst (aCons (eC (.int 2)) (aCons (eC (.int 2)) (aCons (eC (.int 3)) aNil))))))))
def m_law : List MV → RF := runM none 4 b_law
end
section
variable {P : Program} {w : World} {K : PySem.W.Frag} {mg : Str → Option Value} {base : Heap}
theorem ok_law_dice (D : DefIn K mg "_law_dice" s_law_dice) (T : Fre mg)    : FnM P w K mg base 1 "_law_dice" ["script", "spot"] none m_law_dice :=
  Mi.DefIn.fnM (N := ["script", "spot", "cell", "great", "seed"]) (ps := ["script", "spot"]) (io := none) (body := b_law_dice) D sc_law_dice (fun _ _ _ _ _ _ us hl => match us, hl with | [_, _], _ => rfl) (fun cdv A outer s H E hr hgd => (qs_cons (qs_set (i := 2) sc_law_dice.nd rfl (Or.inl rfl) (re_if (rt_cmp (op2_lt (units0 hr)) (rq_sl (pv 1)) (rq_ex (re_cb1 cal_len rfl T.len (rq_sl (pv 0)))) (nomark _)) (re_ct1 cal_int rfl T.int (rq_ex (re_at (units64 hr) (rq_sl (pv 0)) (rq_sl (pv 1))))) (re_bin op2_add (rq_ex (re_bin op2_mul (rq_ex re_int) (rq_sl (pv 1)))) (rq_ex re_int))))
  (qs_cons (qs_set (i := 3) sc_law_dice.nd rfl (Or.inl rfl) (re_bin op2_modI (rq_ex (re_ct1 cal_int rfl T.int (rq_ex (re_cb1 cal_abs rfl T.abs (rq_sl (pv 2)))))) (rq_ex (re_bin op2_powI (rq_ex (re_bin op2_powI (rq_ex re_int) (rq_ex re_int))) (rq_ex re_int)))))
  (qs_cons (qs_set (i := 4) sc_law_dice.nd rfl (Or.inl rfl) (re_bin op2_add (rq_ex (re_bin op2_add (rq_ex (re_bin op2_add (rq_ex (re_bin op2_mul (rq_ex (re_bin op2_modI (rq_sl (pv 3)) (rq_ex re_int))) (rq_ex re_int))) (rq_ex (re_bin op2_mul (rq_ex re_int) (rq_sl (pv 1)))))) (rq_ex (re_bin op2_mul (rq_ex re_int) (rq_ex (re_ct1 cal_int rfl T.int (rq_ex (re_cmp (op2_lt (units0 hr)) (rq_sl (pv 2)) (rq_ex re_int) (nomark _))))))))) (rq_ex re_int)))
  (qs_one (qs_ret (re_lst (ra_cons (re_cb2 (cal_max2 rfl) rfl T.max (rq_ex re_int) (rq_ex (re_bin op2_subI (rq_sl (pv 3)) (rq_ex (re_bin op2_powI (rq_ex re_int) (rq_ex re_int)))))) (ra_cons (re_var (pv 4)) (ra_cons re_int ra_nil))) (lim_cons (lim_cons (lim_cons lim_nil))))))))))
theorem ok_Word_len (D : DefMeth K "Word" "__len__" "Word.__len__" s_Word_len) (T : Fre mg) (F_Word : CF K mg "Word")  (A_KnownMachine_own_rows : AtF K "own_rows" ("KnownMachine", 1)) (A_Word_own_rows : AtF K "own_rows" ("Word", 2))  : MthM P w K mg base 1 "Word" "__len__" ["self"] m_Word_len :=
  Mi.DefMeth.mthM (N := ["self"]) (ps := ["self"]) (F := b_Word_len) D F_Word.ne F_Word.c sc_Word_len (fun _ _ _ _ _ _ us hl => match us, hl with | [_], _ => rfl) (fun cdv A outer s H E hr hgd => (qs_one (qs_ret (re_cb1 cal_len rfl T.len (rq_ex (re_attr (atb_cons A_KnownMachine_own_rows (atb_cons A_Word_own_rows atb_nil)) (rq_sl (pv 0))))))))
theorem ok_law_roll (D : DefIn K mg "_law_roll" s_law_roll) (T : Fre mg)    : FnM P w K mg base 1 "_law_roll" ["dice", "total"] (some 0) m_law_roll :=
  Mi.DefIn.fnM (N := ["dice", "total", "found", "one", "two"]) (ps := ["dice", "total"]) (io := (some 0)) (body := b_law_roll) D sc_law_roll (fun _ _ _ _ _ _ us hl => match us, hl with | [_, _], _ => rfl) (fun cdv A outer s H E hr hgd => (qs_cons (qs_if (rt_cmp op2_gtI (rq_ex (re_at (units64 hr) (rq_sl (pv 0)) (rq_ex re_int))) (rq_ex re_int) (nomark _)) (qs_cons (qs_set (i := 2) sc_law_roll.nd rfl (Or.inl rfl) (re_bin op2_modI (rq_ex (re_at (units64 hr) (rq_sl (pv 0)) (rq_ex re_int))) (rq_sl (pv 1))))
  (qs_cons (qs_st (units64 hr) (pv 0) (rq_ex re_int) (re_bin op2_divI (rq_ex (re_at (units64 hr) (rq_sl (pv 0)) (rq_ex re_int))) (rq_sl (pv 1))))
  (qs_one (qs_ret (re_ct1 cal_int rfl T.int (rq_sl (pv 2))))))) qs_nil)
  (qs_cons (qs_st (units64 hr) (pv 0) (rq_ex re_int) (re_bin op2_add (rq_ex (re_at (units64 hr) (rq_sl (pv 0)) (rq_ex re_int))) (rq_ex re_int)))
  (qs_cons (qs_set (i := 3) sc_law_roll.nd rfl (Or.inl rfl) (re_bin op2_modI (rq_ex (re_bin op2_add (rq_ex (re_at (units64 hr) (rq_sl (pv 0)) (rq_ex re_int))) (rq_ex (re_bin op2_mul (rq_ex re_int) (rq_ex (re_at (units64 hr) (rq_sl (pv 0)) (rq_ex re_int))))))) (rq_ex re_int)))
  (qs_cons (qs_set (i := 4) sc_law_roll.nd rfl (Or.inl rfl) (re_bin op2_add (rq_ex (re_bin op2_mul (rq_ex (re_bin op2_modI (rq_ex (re_bin op2_add (rq_ex (re_bin op2_mul (rq_sl (pv 3)) (rq_sl (pv 3)))) (rq_ex (re_bin op2_mul (rq_ex re_int) (rq_ex (re_at (units64 hr) (rq_sl (pv 0)) (rq_ex re_int))))))) (rq_ex re_int))) (rq_ex re_int))) (rq_sl (pv 3))))
  (qs_one (qs_ret (re_bin op2_modI (rq_ex (re_ct1 cal_int rfl T.int (rq_ex (re_bin op2_divI (rq_sl (pv 4)) (rq_ex re_int))))) (rq_sl (pv 1))))))))))
theorem ok_is_integer (D : DefIn K mg "is_integer" s_is_integer) (T : Fre mg)    : FnM P w K mg base 1 "is_integer" ["value"] none m_is_integer :=
  Mi.DefIn.fnM (N := ["value"]) (ps := ["value"]) (io := none) (body := b_is_integer) D sc_is_integer (fun _ _ _ _ _ _ us hl => match us, hl with | [_], _ => rfl) (fun cdv A outer s H E hr hgd => (qs_one (qs_ret (re_and (re_isi rfl T.isinstance (pe_bltn (v := .ty "int") rfl T.int (by decide +kernel) rfl) isg_nil (rq_sl (pv 0))) (re_one (re_not (re_isi rfl T.isinstance (pe_bltn (v := .ty "bool") rfl T.bool (by decide +kernel) rfl) isg_nil (rq_sl (pv 0)))))))))
theorem ok_is_within (D : DefIn K mg "is_within" s_is_within) (T : Fre mg)   (G_is_integer : FnM P w K mg base 1 "is_integer" ["value"] none m_is_integer) : FnM P w K mg base 2 "is_within" ["value", "least", "most"] none m_is_within :=
  Mi.DefIn.fnM (N := ["value", "least", "most"]) (ps := ["value", "least", "most"]) (io := none) (body := b_is_within) D sc_is_within (fun _ _ _ _ _ _ us hl => match us, hl with | [_, _, _], _ => rfl) (fun cdv A outer s H E hr hgd => (qs_one (qs_ret (re_and (re_call G_is_integer hr hgd rfl (ra_cons (re_var (pv 0)) ra_nil) (lim_cons lim_nil)) (re_one (re_chain op2_leI op2_leI (rq_sl (pv 1)) (rq_sl (pv 0)) (rq_sl (pv 2))))))))
theorem ok_require_within (D : DefIn K mg "require_within" s_require_within) (T : Fre mg)   (G_is_within : FnM P w K mg base 2 "is_within" ["value", "least", "most"] none m_is_within) : FnM P w K mg base 3 "require_within" ["value", "least", "most"] none m_require_within :=
  Mi.DefIn.fnM (N := ["value", "least", "most"]) (ps := ["value", "least", "most"]) (io := none) (body := b_require_within) D sc_require_within (fun _ _ _ _ _ _ us hl => match us, hl with | [_, _, _], _ => rfl) (fun cdv A outer s H E hr hgd => (qs_one (qs_if (rt_not (rt_q (rq_ex (re_call G_is_within hr hgd rfl (ra_cons (re_var (pv 0)) (ra_cons (re_var (pv 1)) (ra_cons (re_var (pv 2)) ra_nil))) (lim_cons (lim_cons (lim_cons lim_nil))))) (by intro _; rfl))) (qs_one qs_no) qs_nil)))
theorem ok_require_base (D : DefIn K mg "require_base" s_require_base) (T : Fre mg)   (G_require_within : FnM P w K mg base 3 "require_within" ["value", "least", "most"] none m_require_within) : FnM P w K mg base 4 "require_base" ["value"] none m_require_base :=
  Mi.DefIn.fnM (N := ["value"]) (ps := ["value"]) (io := none) (body := b_require_base) D sc_require_base (fun _ _ _ _ _ _ us hl => match us, hl with | [_], _ => rfl) (fun cdv A outer s H E hr hgd => (qs_one (qs_expr (re_call G_require_within hr hgd rfl (ra_cons (re_var (pv 0)) (ra_cons re_int (ra_cons (re_gint rfl T.c_MAX_BASE) ra_nil))) (lim_cons (lim_cons (lim_cons lim_nil)))))))
theorem ok_are_rows (D : DefIn K mg "are_rows" s_are_rows) (T : Fre mg)   (G_is_within : FnM P w K mg base 2 "is_within" ["value", "least", "most"] none m_is_within) : FnM P w K mg base 3 "are_rows" ["base", "rows", "many"] none m_are_rows :=
  Mi.DefIn.fnM (N := ["base", "rows", "many", "row", "state"]) (ps := ["base", "rows", "many"]) (io := none) (body := b_are_rows) D sc_are_rows (fun _ _ _ _ _ _ us hl => match us, hl with | [_, _, _], _ => rfl) (fun cdv A outer s H E hr hgd => (qs_cons (qs_if (rt_w (rw_or (rt_not (rt_q (rq_ex (re_isi rfl T.isinstance (pe_bltn (v := .ty "tuple") rfl T.tuple (by decide +kernel) rfl) isg_nil (rq_sl (pv 1)))) (by intro _; rfl))) (rw_or1 (rt_cmp (op2_ne (units64 hr)) (rq_ex (re_cb1 cal_len rfl T.len (rq_sl (pv 1)))) (rq_sl (pv 2)) (nomark _))))) (qs_one (qs_ret re_bl)) qs_nil)
  (qs_cons (qs_if (rt_not (rt_q (rq_ex (re_cb1 (cal_all rfl) rfl T.all (rq_ex (re_lc (own := [("row", 3)]) rfl sc_are_rows.nd (ri_seq (rq_ex (re_var (pv 1)))) (blkOk_by (own := [("row", 3)]) (N := ["base", "rows", "many", "row", "state"]) (sc := defScope s_are_rows) (by decide +kernel)) (fun _ _ _ _ _ => (rg_nm (i := 3) sc_are_rows.nd rfl (Or.inl rfl))) (fun _ _ _ _ _ => rts_nil) (fun _ _ _ _ _ => (re_and (re_isi rfl T.isinstance (pe_bltn (v := .ty "tuple") rfl T.tuple (by decide +kernel) rfl) isg_nil (rq_sl (pv 3))) (re_one (re_cmp (op2_eq (units64 hr)) (rq_ex (re_cb1 cal_len rfl T.len (rq_sl (pv 3)))) (rq_sl (pv 0)) (nomark _))))))))) (by intro _; rfl))) (qs_one (qs_ret re_bl)) qs_nil)
  (qs_one (qs_ret (re_cb1 (cal_all rfl) rfl T.all (rq_ex (re_lc2 (own := [("row", 3), ("state", 4)]) (vs1 := [4]) rfl sc_are_rows.nd (ri_seq (rq_ex (re_var (pv 1)))) (blkOk_by (own := [("row", 3), ("state", 4)]) (N := ["base", "rows", "many", "row", "state"]) (sc := defScope s_are_rows) (by decide +kernel)) (by decide) (fun _ _ _ _ _ => (rg_nm (i := 3) sc_are_rows.nd rfl (Or.inl rfl))) (fun _ _ _ _ _ => rts_nil) (fun _ _ _ _ _ => (rit_tup (rq_sl (pv 3)))) (fun _ _ _ _ _ => (rg_nm (i := 4) sc_are_rows.nd rfl (Or.inl rfl))) (fun _ _ _ _ _ => rts_nil) (fun _ _ _ _ _ => (re_call G_is_within hr hgd rfl (ra_cons (re_var (pv 4)) (ra_cons re_int (ra_cons (re_bin op2_subI (rq_sl (pv 2)) (rq_ex re_int)) ra_nil))) (lim_cons (lim_cons (lim_cons lim_nil)))))))))))))
theorem ok_is_base (D : DefIn K mg "is_base" s_is_base) (T : Fre mg)   (G_is_within : FnM P w K mg base 2 "is_within" ["value", "least", "most"] none m_is_within) : FnM P w K mg base 3 "is_base" ["value"] none m_is_base :=
  Mi.DefIn.fnM (N := ["value"]) (ps := ["value"]) (io := none) (body := b_is_base) D sc_is_base (fun _ _ _ _ _ _ us hl => match us, hl with | [_], _ => rfl) (fun cdv A outer s H E hr hgd => (qs_one (qs_ret (re_call G_is_within hr hgd rfl (ra_cons (re_var (pv 0)) (ra_cons re_int (ra_cons (re_gint rfl T.c_MAX_BASE) ra_nil))) (lim_cons (lim_cons (lim_cons lim_nil)))))))
theorem ok_is_letter (D : DefIn K mg "is_letter" s_is_letter) (T : Fre mg)   (G_is_within : FnM P w K mg base 2 "is_within" ["value", "least", "most"] none m_is_within) : FnM P w K mg base 3 "is_letter" ["value"] none m_is_letter :=
  Mi.DefIn.fnM (N := ["value"]) (ps := ["value"]) (io := none) (body := b_is_letter) D sc_is_letter (fun _ _ _ _ _ _ us hl => match us, hl with | [_], _ => rfl) (fun cdv A outer s H E hr hgd => (qs_one (qs_ret (re_call G_is_within hr hgd rfl (ra_cons (re_var (pv 0)) (ra_cons re_int (ra_cons (re_gint rfl T.c_MAX_LETTER) ra_nil))) (lim_cons (lim_cons (lim_cons lim_nil)))))))
theorem ok_are_letters (D : DefIn K mg "are_letters" s_are_letters) (T : Fre mg)   (G_is_letter : FnM P w K mg base 3 "is_letter" ["value"] none m_is_letter) : FnM P w K mg base 4 "are_letters" ["value"] none m_are_letters :=
  Mi.DefIn.fnM (N := ["value", "letter"]) (ps := ["value"]) (io := none) (body := b_are_letters) D sc_are_letters (fun _ _ _ _ _ _ us hl => match us, hl with | [_], _ => rfl) (fun cdv A outer s H E hr hgd => (qs_one (qs_ret (re_and (re_isi rfl T.isinstance (pe_bltn (v := .ty "tuple") rfl T.tuple (by decide +kernel) rfl) isg_nil (rq_sl (pv 0))) (re_one (re_cb1 (cal_all rfl) rfl T.all (rq_ex (re_lc (own := [("letter", 1)]) rfl sc_are_letters.nd (ri_seq (rq_ex (re_var (pv 0)))) (blkOk_by (own := [("letter", 1)]) (N := ["value", "letter"]) (sc := defScope s_are_letters) (by decide +kernel)) (fun _ _ _ _ _ => (rg_nm (i := 1) sc_are_letters.nd rfl (Or.inl rfl))) (fun _ _ _ _ _ => rts_nil) (fun _ _ _ _ _ => (re_call G_is_letter hr hgd rfl (ra_cons (re_var (pv 1)) ra_nil) (lim_cons lim_nil)))))))))))
theorem ok_is_word (D : DefIn K mg "is_word" s_is_word) (T : Fre mg)   (G_are_rows : FnM P w K mg base 3 "are_rows" ["base", "rows", "many"] none m_are_rows) (G_is_base : FnM P w K mg base 3 "is_base" ["value"] none m_is_base) (G_are_letters : FnM P w K mg base 4 "are_letters" ["value"] none m_are_letters) : FnM P w K mg base 5 "is_word" ["base", "rows", "letters"] none m_is_word :=
  Mi.DefIn.fnM (N := ["base", "rows", "letters"]) (ps := ["base", "rows", "letters"]) (io := none) (body := b_is_word) D sc_is_word (fun _ _ _ _ _ _ us hl => match us, hl with | [_, _, _], _ => rfl) (fun cdv A outer s H E hr hgd => (qs_cons (qs_if (rt_w (rw_or (rt_not (rt_q (rq_ex (re_call G_is_base hr hgd rfl (ra_cons (re_var (pv 0)) ra_nil) (lim_cons lim_nil))) (by intro _; rfl))) (rw_or (rt_not (rt_q (rq_ex (re_call G_are_letters hr hgd rfl (ra_cons (re_var (pv 2)) ra_nil) (lim_cons lim_nil))) (by intro _; rfl))) (rw_or1 (rt_not (rt_chain op2_leI op2_leI (rq_ex re_int) (rq_ex (re_cb1 cal_len rfl T.len (rq_sl (pv 2)))) (rq_ex (re_gint rfl T.c_MAX_STATES)))))))) (qs_one (qs_ret re_bl)) qs_nil)
  (qs_one (qs_ret (re_and (re_call G_are_rows hr hgd rfl (ra_cons (re_var (pv 0)) (ra_cons (re_var (pv 1)) (ra_cons (re_cb1 cal_len rfl T.len (rq_sl (pv 2))) ra_nil))) (lim_cons (lim_cons (lim_cons lim_nil)))) (re_one (re_cmp (op2_eq (units64 hr)) (rq_ex (re_at (units64 hr) (rq_ex (re_at (units64 hr) (rq_sl (pv 1)) (rq_ex re_int))) (rq_ex re_int))) (rq_ex re_int) (nomark _))))))))
theorem ok_Word_init3 (D : DefInit K mg "Word" s_Word_init "Word.__init__" [.non]) (T : Fre mg) (F_Word : CF K mg "Word") (F_KnownMachine : CF K mg "KnownMachine") (A_KnownMachine_own_letters : AtF K "own_letters" ("KnownMachine", 0)) (A_KnownMachine_own_rows : AtF K "own_rows" ("KnownMachine", 1)) (A_Word_own_base : AtF K "own_base" ("Word", 0)) (A_Word_own_letters : AtF K "own_letters" ("Word", 1)) (A_Word_own_rows : AtF K "own_rows" ("Word", 2)) (G_require_base : FnM P w K mg base 4 "require_base" ["value"] none m_require_base) (G_is_word : FnM P w K mg base 5 "is_word" ["base", "rows", "letters"] none m_is_word) : MkM P w K mg base 6 "Word" ["self", "base", "rows", "letters"] [] m_Word_init :=
  Mi.DefInit.mkM (N := ["self", "base", "rows", "letters"]) (ps := ["self", "base", "rows", "letters"]) (body := b_Word_init) (dms := []) D F_Word.ne sc_Word_init 1 (fun G M H => by simp [Reps, Rep]) (fun fd F => F.binds1 4 1 (by simp) rfl (fun T kV doc pm an cdv ct us its hl hi => match us, hl with | [_, _, _, _], _ => match its, hi with | [_], _ => ⟨_, rfl, rfl⟩)) (fun cdv A outer s H E hr hgd => (iss_cons (is_if (rt_q (rq_ex (re_isiC rfl T.isinstance (pe_glob (v := .ref (He.ga K "KnownMachine")) rfl F_KnownMachine.gl rfl) F_KnownMachine.hf (isg_me F_KnownMachine isg_nil) (rq_sl (pv 2)))) (by intro _; rfl)) (iss_cons (is_sets rfl (re_tup (ra_cons (re_var (pv 1)) (ra_cons (re_attr (atb_cons A_KnownMachine_own_rows (atb_cons A_Word_own_rows atb_nil)) (rq_sl (pv 2))) (ra_cons (re_attr (atb_cons A_KnownMachine_own_letters (atb_cons A_Word_own_letters atb_nil)) (rq_sl (pv 2))) ra_nil))) (lim_cons (lim_cons (lim_cons lim_nil)))) (pgis_cons (pgi_slt A_Word_own_base (pv 0)) (pgis_cons (pgi_slt A_Word_own_rows (pv 0)) (pgis_cons (pgi_slt A_Word_own_letters (pv 0)) pgis_nil))))
  (iss_one is_ret)) iss_nil)
  (iss_cons (is_norm (qs_expr (re_call G_require_base hr hgd rfl (ra_cons (re_var (pv 1)) ra_nil) (lim_cons lim_nil))))
  (iss_cons (is_norm (qs_if (rt_not (rt_q (rq_ex (re_call G_is_word hr hgd rfl (ra_cons (re_var (pv 1)) (ra_cons (re_var (pv 2)) (ra_cons (re_var (pv 3)) ra_nil))) (lim_cons (lim_cons (lim_cons lim_nil))))) (by intro _; rfl))) (qs_one qs_no) qs_nil))
  (iss_one (is_sets rfl (re_tup (ra_cons (re_var (pv 1)) (ra_cons (re_var (pv 2)) (ra_cons (re_var (pv 3)) ra_nil))) (lim_cons (lim_cons (lim_cons lim_nil)))) (pgis_cons (pgi_slt A_Word_own_base (pv 0)) (pgis_cons (pgi_slt A_Word_own_rows (pv 0)) (pgis_cons (pgi_slt A_Word_own_letters (pv 0)) pgis_nil)))))))))
theorem ok_Word_init2 (D : DefInit K mg "Word" s_Word_init "Word.__init__" [.non]) (T : Fre mg) (F_Word : CF K mg "Word") (F_KnownMachine : CF K mg "KnownMachine") (A_KnownMachine_own_letters : AtF K "own_letters" ("KnownMachine", 0)) (A_KnownMachine_own_rows : AtF K "own_rows" ("KnownMachine", 1)) (A_Word_own_base : AtF K "own_base" ("Word", 0)) (A_Word_own_letters : AtF K "own_letters" ("Word", 1)) (A_Word_own_rows : AtF K "own_rows" ("Word", 2)) (G_require_base : FnM P w K mg base 4 "require_base" ["value"] none m_require_base) (G_is_word : FnM P w K mg base 5 "is_word" ["base", "rows", "letters"] none m_is_word) : MkM P w K mg base 6 "Word" ["self", "base", "rows", "letters"] [.non] m_Word_init :=
  Mi.DefInit.mkM (N := ["self", "base", "rows", "letters"]) (ps := ["self", "base", "rows", "letters"]) (body := b_Word_init) (dms := [.non]) D F_Word.ne sc_Word_init 0 (fun G M H => by simp [Reps, Rep]) (fun fd F => F.binds1 3 0 (by simp) rfl (fun T kV doc pm an cdv ct us its hl hi => match us, hl with | [_, _, _], _ => match its, hi with | [_], _ => ⟨_, rfl, rfl⟩)) (fun cdv A outer s H E hr hgd => (iss_cons (is_if (rt_q (rq_ex (re_isiC rfl T.isinstance (pe_glob (v := .ref (He.ga K "KnownMachine")) rfl F_KnownMachine.gl rfl) F_KnownMachine.hf (isg_me F_KnownMachine isg_nil) (rq_sl (pv 2)))) (by intro _; rfl)) (iss_cons (is_sets rfl (re_tup (ra_cons (re_var (pv 1)) (ra_cons (re_attr (atb_cons A_KnownMachine_own_rows (atb_cons A_Word_own_rows atb_nil)) (rq_sl (pv 2))) (ra_cons (re_attr (atb_cons A_KnownMachine_own_letters (atb_cons A_Word_own_letters atb_nil)) (rq_sl (pv 2))) ra_nil))) (lim_cons (lim_cons (lim_cons lim_nil)))) (pgis_cons (pgi_slt A_Word_own_base (pv 0)) (pgis_cons (pgi_slt A_Word_own_rows (pv 0)) (pgis_cons (pgi_slt A_Word_own_letters (pv 0)) pgis_nil))))
  (iss_one is_ret)) iss_nil)
  (iss_cons (is_norm (qs_expr (re_call G_require_base hr hgd rfl (ra_cons (re_var (pv 1)) ra_nil) (lim_cons lim_nil))))
  (iss_cons (is_norm (qs_if (rt_not (rt_q (rq_ex (re_call G_is_word hr hgd rfl (ra_cons (re_var (pv 1)) (ra_cons (re_var (pv 2)) (ra_cons (re_var (pv 3)) ra_nil))) (lim_cons (lim_cons (lim_cons lim_nil))))) (by intro _; rfl))) (qs_one qs_no) qs_nil))
  (iss_one (is_sets rfl (re_tup (ra_cons (re_var (pv 1)) (ra_cons (re_var (pv 2)) (ra_cons (re_var (pv 3)) ra_nil))) (lim_cons (lim_cons (lim_cons lim_nil)))) (pgis_cons (pgi_slt A_Word_own_base (pv 0)) (pgis_cons (pgi_slt A_Word_own_rows (pv 0)) (pgis_cons (pgi_slt A_Word_own_letters (pv 0)) pgis_nil)))))))))
theorem ok_parity_word (D : DefIn K mg "parity_word" s_parity_word) (T : Fre mg)   (G_Word_init3 : MkM P w K mg base 6 "Word" ["self", "base", "rows", "letters"] [] m_Word_init) (G_Word_init2 : MkM P w K mg base 6 "Word" ["self", "base", "rows", "letters"] [.non] m_Word_init) : FnM P w K mg base 8 "parity_word" [] none m_parity_word :=
  Mi.DefIn.fnM (N := []) (ps := []) (io := none) (body := b_parity_word) D sc_parity_word (fun _ _ _ _ _ _ us hl => match us, hl with | [], _ => rfl) (fun cdv A outer s H E hr hgd => (qs_one (qs_ret (re_mk G_Word_init3 hr hgd rfl (ra_cons re_int (ra_cons (re_tup (ra_cons (re_tup (ra_cons re_int (ra_cons re_int ra_nil)) (lim_cons (lim_cons lim_nil))) (ra_cons (re_tup (ra_cons re_int (ra_cons re_int ra_nil)) (lim_cons (lim_cons lim_nil))) ra_nil)) (lim_cons (lim_cons lim_nil))) (ra_cons (re_tup (ra_cons re_int (ra_cons re_int ra_nil)) (lim_cons (lim_cons lim_nil))) ra_nil))) (lim_cons (lim_cons (lim_cons lim_nil))) rfl))))
theorem ok_reached_from (D : DefIn K mg "reached_from" s_reached_from) (T : Fre mg)    : FnM P w K mg base 1 "reached_from" ["start", "rows", "marks"] none m_reached_from :=
  Mi.DefIn.fnM (N := ["start", "rows", "marks", "numbers", "order", "found", "row", "other", "state"]) (ps := ["start", "rows", "marks"]) (io := none) (body := b_reached_from) D sc_reached_from (fun _ _ _ _ _ _ us hl => match us, hl with | [_, _, _], _ => rfl) (fun cdv A outer s H E hr hgd => (qs_cons (qs_set (i := 3) sc_reached_from.nd rfl (Or.inl rfl) (re_disp (re_var (pv 0)) re_int))
  (qs_cons (qs_set (i := 4) sc_reached_from.nd rfl (Or.inl rfl) (re_lst (ra_cons (re_var (pv 0)) ra_nil) (lim_cons lim_nil)))
  (qs_cons (qs_set (i := 5) sc_reached_from.nd rfl (Or.inl rfl) (re_lst ra_nil lim_nil))
  (qs_cons (qs_while (rt_cmp (op2_lt (units0 hr)) (rq_ex (re_cb1 cal_len rfl T.len (rq_sl (pv 5)))) (rq_ex (re_cb1 cal_len rfl T.len (rq_sl (pv 4)))) (nomark _)) (qs_cons (qs_set (i := 6) sc_reached_from.nd rfl (Or.inl rfl) (re_lst ra_nil lim_nil))
  (qs_cons (qs_for rfl (ri_seq (rq_ex (re_at (units64 hr) (rq_sl (pv 1)) (rq_ex (re_at (units64 hr) (rq_sl (pv 4)) (rq_ex (re_cb1 cal_len rfl T.len (rq_sl (pv 5))))))))) (rg_nm (i := 7) sc_reached_from.nd rfl (Or.inl rfl))
  (qs_cons (qs_if (rt_cmp (op2_notIn (units65 hr)) (rq_sl (pv 7)) (rq_sl (pv 3)) (by with_unfolding_all rfl)) (qs_cons (qs_st (units64 hr) (pv 3) (rq_sl (pv 7)) (re_cb1 cal_len rfl T.len (rq_sl (pv 4))))
  (qs_one (qs_expr (re_mut PySem.F.plainAttrs_list PySem.F.slot_list_append PySem.F.type_list_append mut_append (pv 4) (ra_cons (re_var (pv 7)) ra_nil))))) qs_nil)
  (qs_one (qs_expr (re_mut PySem.F.plainAttrs_list PySem.F.slot_list_append PySem.F.type_list_append mut_append (pv 6) (ra_cons (re_at (units64 hr) (rq_sl (pv 3)) (rq_sl (pv 7))) ra_nil))))))
  (qs_one (qs_expr (re_mut PySem.F.plainAttrs_list PySem.F.slot_list_append PySem.F.type_list_append mut_append (pv 5) (ra_cons (re_ct1 cal_tup rfl T.tuple (rq_sl (pv 6))) ra_nil)))))))
  (qs_one (qs_ret (re_tup (ra_cons (re_ct1 cal_tup rfl T.tuple (rq_sl (pv 5))) (ra_cons (re_ct1 cal_tup rfl T.tuple (rq_ex (re_lc (own := [("state", 8)]) rfl sc_reached_from.nd (ri_seq (rq_ex (re_var (pv 4)))) (blkOk_by (own := [("state", 8)]) (N := ["start", "rows", "marks", "numbers", "order", "found", "row", "other", "state"]) (sc := defScope s_reached_from) (by decide +kernel)) (fun _ _ _ _ _ => (rg_nm (i := 8) sc_reached_from.nd rfl (Or.inl rfl))) (fun _ _ _ _ _ => rts_nil) (fun _ _ _ _ _ => (re_at (units64 hr) (rq_sl (pv 2)) (rq_sl (pv 8))))))) ra_nil)) (lim_cons (lim_cons lim_nil))))))))))
theorem ok_set_of (D : DefIn K mg "set_of" s_set_of) (T : Fre mg)    : FnM P w K mg base 1 "set_of" ["values"] none m_set_of :=
  Mi.DefIn.fnM (N := ["values", "value"]) (ps := ["values"]) (io := none) (body := b_set_of) D sc_set_of (fun _ _ _ _ _ _ us hl => match us, hl with | [_], _ => rfl) (fun cdv A outer s H E hr hgd => (qs_one (qs_ret (re_ct1 (cal_list rfl) rfl T.list (rq_ex (re_dc (own := [("value", 1)]) rfl sc_set_of.nd (ri_seq (rq_ex (re_var (pv 0)))) (blkOk_by (own := [("value", 1)]) (N := ["values", "value"]) (sc := defScope s_set_of) (by decide +kernel)) (fun _ _ _ _ _ => (rg_nm (i := 1) sc_set_of.nd rfl (Or.inl rfl))) (fun _ _ _ _ _ => rts_nil) (fun _ _ _ _ _ => (re_var (pv 1))) (fun _ _ _ _ _ => re_bl)))))))
theorem ok_classes_of (D : DefIn K mg "classes_of" s_classes_of) (T : Fre mg)   (G_set_of : FnM P w K mg base 1 "set_of" ["values"] none m_set_of) : FnM P w K mg base 2 "classes_of" ["rows", "marks"] none m_classes_of :=
  Mi.DefIn.fnM (N := ["rows", "marks", "kinds", "found", "many", "seen", "later", "state", "row", "key", "at", "mark", "other"]) (ps := ["rows", "marks"]) (io := none) (body := b_classes_of) D sc_classes_of (fun _ _ _ _ _ _ us hl => match us, hl with | [_, _], _ => rfl) (fun cdv A outer s H E hr hgd => (qs_cons (qs_set (i := 2) sc_classes_of.nd rfl (Or.inr rfl) (re_dc (own := [("at", 10), ("mark", 11)]) rfl sc_classes_of.nd (ri_enum rfl T.enumerate (rq_ex (re_cb1 cal_sort rfl T.sorted (rq_ex (re_call G_set_of hr hgd rfl (ra_cons (re_var (pv 1)) ra_nil) (lim_cons lim_nil)))))) (blkOk_by (own := [("at", 10), ("mark", 11)]) (N := ["rows", "marks", "kinds", "found", "many", "seen", "later", "state", "row", "key", "at", "mark", "other"]) (sc := defScope s_classes_of) (by decide +kernel)) (fun _ _ _ _ _ => (rg_tp rfl (rgs_cons (rg_nm (i := 10) sc_classes_of.nd rfl (Or.inl rfl)) (rgs_cons (rg_nm (i := 11) sc_classes_of.nd rfl (Or.inl rfl)) rgs_nil)))) (fun _ _ _ _ _ => rts_nil) (fun _ _ _ _ _ => (re_var (pv 11))) (fun _ _ _ _ _ => (re_var (pv 10)))))
  (qs_cons (qs_parA (i := 3) (j := 4) rfl sc_classes_of.nd rfl rfl (by decide) (Or.inr rfl) (Or.inl rfl) (re_lc (own := [("mark", 11)]) rfl sc_classes_of.nd (ri_seq (rq_ex (re_var (pv 1)))) (blkOk_by (own := [("mark", 11)]) (N := ["rows", "marks", "kinds", "found", "many", "seen", "later", "state", "row", "key", "at", "mark", "other"]) (sc := defScope s_classes_of) (by decide +kernel)) (fun _ _ _ _ _ => (rg_nm (i := 11) sc_classes_of.nd rfl (Or.inl rfl))) (fun _ _ _ _ _ => rts_nil) (fun _ _ _ _ _ => (re_at (units64 hr) (rq_sl (pv 2)) (rq_sl (pv 11))))) (re_cb1 cal_len rfl T.len (rq_sl (pv 2))))
  (qs_one (qs_while (rt_val re_bl (by intro _; rfl)) (qs_cons (qs_set (i := 5) sc_classes_of.nd rfl (Or.inl rfl) re_newN)
  (qs_cons (qs_set (i := 6) sc_classes_of.nd rfl (Or.inl rfl) (re_lst ra_nil lim_nil))
  (qs_cons (qs_lend 0 (qs_for rfl (ri_enum rfl T.enumerate (rq_sl (pv 0))) (rg_tp rfl (rgs_cons (rg_nm (i := 7) sc_classes_of.nd rfl (Or.inl rfl)) (rgs_cons (rg_nm (i := 8) sc_classes_of.nd rfl (Or.inl rfl)) rgs_nil)))
  (qs_cons (qs_set (i := 9) sc_classes_of.nd rfl (Or.inl rfl) (re_tupD (ra_cons (re_at (units64 hr) (rq_sl (pv 3)) (rq_sl (pv 7))) (ra_star (re_lc (own := [("other", 12)]) rfl sc_classes_of.nd (ri_seq (rq_ex (re_var (pv 8)))) (blkOk_by (own := [("other", 12)]) (N := ["rows", "marks", "kinds", "found", "many", "seen", "later", "state", "row", "key", "at", "mark", "other"]) (sc := defScope s_classes_of) (by decide +kernel)) (fun _ _ _ _ _ => (rg_nm (i := 12) sc_classes_of.nd rfl (Or.inl rfl))) (fun _ _ _ _ _ => rts_nil) (fun _ _ _ _ _ => (re_at (units64 hr) (rq_sl (pv 3)) (rq_sl (pv 12))))) ra_nil))))
  (qs_cons (qs_if (rt_cmp (op2_notIn (units65 hr)) (rq_sl (pv 9)) (rq_sl (pv 5)) (by with_unfolding_all rfl)) (qs_one (qs_st (units64 hr) (pv 5) (rq_sl (pv 9)) (re_cb1 cal_len rfl T.len (rq_sl (pv 5))))) qs_nil)
  (qs_one (qs_expr (re_mut PySem.F.plainAttrs_list PySem.F.slot_list_append PySem.F.type_list_append mut_append (pv 6) (ra_cons (re_at (units64 hr) (rq_sl (pv 5)) (rq_sl (pv 9))) ra_nil))))))))
  (qs_cons (qs_if (rt_cmp (op2_eq (units64 hr)) (rq_ex (re_cb1 cal_len rfl T.len (rq_sl (pv 5)))) (rq_sl (pv 4)) (nomark _)) (qs_one (qs_retV (pv 6))) qs_nil)
  (qs_one (qs_parA (i := 3) (j := 4) rfl sc_classes_of.nd rfl rfl (by decide) (Or.inr rfl) (Or.inl rfl) (re_var (pv 6)) (re_cb1 cal_len rfl T.len (rq_sl (pv 5))))))))))))))
theorem ok_least_machine (D : DefIn K mg "least_machine" s_least_machine) (T : Fre mg)   (G_reached_from : FnM P w K mg base 1 "reached_from" ["start", "rows", "marks"] none m_reached_from) (G_classes_of : FnM P w K mg base 2 "classes_of" ["rows", "marks"] none m_classes_of) : FnM P w K mg base 3 "least_machine" ["rows", "marks"] none m_least_machine :=
  Mi.DefIn.fnM (N := ["rows", "marks", "some", "told", "lots", "firsts", "state", "lot", "joined", "other"]) (ps := ["rows", "marks"]) (io := none) (body := b_least_machine) D sc_least_machine (fun _ _ _ _ _ _ us hl => match us, hl with | [_, _], _ => rfl) (fun cdv A outer s H E hr hgd => (qs_cons (qs_asg (re_call G_reached_from hr hgd rfl (ra_cons re_int (ra_cons (re_var (pv 0)) (ra_cons (re_var (pv 1)) ra_nil))) (lim_cons (lim_cons (lim_cons lim_nil)))) (rg_tp rfl (rgs_cons (rg_nm (i := 2) sc_least_machine.nd rfl (Or.inr rfl)) (rgs_cons (rg_nm (i := 3) sc_least_machine.nd rfl (Or.inr rfl)) rgs_nil))))
  (qs_cons (qs_set (i := 4) sc_least_machine.nd rfl (Or.inr rfl) (re_call G_classes_of hr hgd rfl (ra_cons (re_var (pv 2)) (ra_cons (re_var (pv 3)) ra_nil)) (lim_cons (lim_cons lim_nil))))
  (qs_cons (qs_set (i := 5) sc_least_machine.nd rfl (Or.inr rfl) re_newK)
  (qs_cons (qs_lend 4 (qs_for rfl (ri_enum rfl T.enumerate (rq_sl (pv 4))) (rg_tp rfl (rgs_cons (rg_nm (i := 6) sc_least_machine.nd rfl (Or.inl rfl)) (rgs_cons (rg_nm (i := 7) sc_least_machine.nd rfl (Or.inl rfl)) rgs_nil)))
  (qs_one (qs_if (rt_cmp (op2_notIn (units65 hr)) (rq_sl (pv 7)) (rq_sl (pv 5)) (by with_unfolding_all rfl)) (qs_one (qs_st (units64 hr) (pv 5) (rq_sl (pv 7)) (re_var (pv 6)))) qs_nil))))
  (qs_cons (qs_setLc (i := 8) (own := [("lot", 7)]) rfl sc_least_machine.nd rfl rfl (sw_true rfl rfl rfl (by decide +kernel)) (ri_range1 rfl T.range (ra_cons (re_cb1 cal_len rfl T.len (rq_sl (pv 5))) ra_nil)) (blkOk_by (own := [("lot", 7)]) (N := ["rows", "marks", "some", "told", "lots", "firsts", "state", "lot", "joined", "other"]) (sc := defScope s_least_machine) (by decide +kernel)) (fun _ _ _ _ _ => (rg_nm (i := 7) sc_least_machine.nd rfl (Or.inl rfl))) (fun _ _ _ _ _ => rts_nil) (fun _ _ _ _ _ => (re_ct1 cal_tup rfl T.tuple (rq_ex (re_lc (own := [("other", 9)]) rfl sc_least_machine.nd (ri_seq (rq_ex (re_at (units64 hr) (rq_sl (pv 2)) (rq_ex (re_at (units64 hr) (rq_sl (pv 5)) (rq_sl (pv 7))))))) (blkOk_by (own := [("other", 9)]) (N := ["rows", "marks", "some", "told", "lots", "firsts", "state", "lot", "joined", "other"]) (by kernel_rfl)) (fun _ _ _ _ _ => (rg_nm (i := 9) sc_least_machine.nd rfl (Or.inl rfl))) (fun _ _ _ _ _ => rts_nil) (fun _ _ _ _ _ => (re_at (units64 hr) (rq_sl (pv 4)) (rq_sl (pv 9)))))))))
  (qs_one (qs_ret (re_call G_reached_from hr hgd rfl (ra_cons (re_at (units64 hr) (rq_sl (pv 4)) (rq_ex re_int)) (ra_cons (re_var (pv 8)) (ra_cons (re_lc (own := [("lot", 7)]) rfl sc_least_machine.nd (ri_range1 rfl T.range (ra_cons (re_cb1 cal_len rfl T.len (rq_sl (pv 5))) ra_nil)) (blkOk_by (own := [("lot", 7)]) (N := ["rows", "marks", "some", "told", "lots", "firsts", "state", "lot", "joined", "other"]) (sc := defScope s_least_machine) (by decide +kernel)) (fun _ _ _ _ _ => (rg_nm (i := 7) sc_least_machine.nd rfl (Or.inl rfl))) (fun _ _ _ _ _ => rts_nil) (fun _ _ _ _ _ => (re_at (units64 hr) (rq_sl (pv 3)) (rq_ex (re_at (units64 hr) (rq_sl (pv 5)) (rq_sl (pv 7))))))) ra_nil))) (lim_cons (lim_cons (lim_cons lim_nil))))))))))))
theorem ok_KnownMachine_init2 (D : DefInit K mg "KnownMachine" s_KnownMachine_init "KnownMachine.__init__" []) (T : Fre mg) (F_KnownMachine : CF K mg "KnownMachine")  (A_KnownMachine_own_letters : AtF K "own_letters" ("KnownMachine", 0)) (A_KnownMachine_own_rows : AtF K "own_rows" ("KnownMachine", 1))  : MkM P w K mg base 1 "KnownMachine" ["self", "rows", "letters"] [] m_KnownMachine_init :=
  Mi.DefInit.mkM (N := ["self", "rows", "letters"]) (ps := ["self", "rows", "letters"]) (body := b_KnownMachine_init) (dms := []) D F_KnownMachine.ne sc_KnownMachine_init 0 (fun G M H => by simp [Reps, Rep]) (fun fd F => ⟨[], .nil, F.bindsN (fun _ _ _ _ _ _ us hl => match us, hl with | [_, _, _], _ => rfl)⟩) (fun cdv A outer s H E hr hgd => (iss_cons (is_set (re_var (pv 1)) (pgi_slt A_KnownMachine_own_rows (pv 0)))
  (iss_one (is_set (re_var (pv 2)) (pgi_slt A_KnownMachine_own_letters (pv 0))))))
theorem ok_least_word (D : DefIn K mg "least_word" s_least_word) (T : Fre mg)   (G_least_machine : FnM P w K mg base 3 "least_machine" ["rows", "marks"] none m_least_machine) (G_Word_init3 : MkM P w K mg base 6 "Word" ["self", "base", "rows", "letters"] [] m_Word_init) (G_Word_init2 : MkM P w K mg base 6 "Word" ["self", "base", "rows", "letters"] [.non] m_Word_init) (G_KnownMachine_init2 : MkM P w K mg base 1 "KnownMachine" ["self", "rows", "letters"] [] m_KnownMachine_init) : FnM P w K mg base 8 "least_word" ["base", "rows", "letters"] none m_least_word :=
  Mi.DefIn.fnM (N := ["base", "rows", "letters", "lean", "told"]) (ps := ["base", "rows", "letters"]) (io := none) (body := b_least_word) D sc_least_word (fun _ _ _ _ _ _ us hl => match us, hl with | [_, _, _], _ => rfl) (fun cdv A outer s H E hr hgd => (qs_cons (qs_asg (re_call G_least_machine hr hgd rfl (ra_cons (re_var (pv 1)) (ra_cons (re_var (pv 2)) ra_nil)) (lim_cons (lim_cons lim_nil))) (rg_tp rfl (rgs_cons (rg_nm (i := 3) sc_least_word.nd rfl (Or.inl rfl)) (rgs_cons (rg_nm (i := 4) sc_least_word.nd rfl (Or.inl rfl)) rgs_nil))))
  (qs_one (qs_ret (re_mk G_Word_init2 hr hgd rfl (ra_cons (re_var (pv 0)) (ra_cons (re_mk G_KnownMachine_init2 hr hgd rfl (ra_cons (re_var (pv 3)) (ra_cons (re_var (pv 4)) ra_nil)) (lim_cons (lim_cons lim_nil)) rfl) ra_nil)) (lim_cons (lim_cons lim_nil)) rfl)))))
theorem ok_ends_word (D : DefIn K mg "ends_word" s_ends_word) (T : Fre mg)   (G_require_base : FnM P w K mg base 4 "require_base" ["value"] none m_require_base) (G_least_word : FnM P w K mg base 8 "least_word" ["base", "rows", "letters"] none m_least_word) : FnM P w K mg base 9 "ends_word" ["base"] none m_ends_word :=
  Mi.DefIn.fnM (N := ["base"]) (ps := ["base"]) (io := none) (body := b_ends_word) D sc_ends_word (fun _ _ _ _ _ _ us hl => match us, hl with | [_], _ => rfl) (fun cdv A outer s H E hr hgd => (qs_cons (qs_expr (re_call G_require_base hr hgd rfl (ra_cons (re_var (pv 0)) ra_nil) (lim_cons lim_nil)))
  (qs_one (qs_ret (re_call G_least_word hr hgd rfl (ra_cons (re_var (pv 0)) (ra_cons (re_tup (ra_cons (re_bin op2_add (rq_ex (re_bin op2_mul (rq_ex (re_tup (ra_cons re_int ra_nil) (lim_cons lim_nil))) (rq_ex (re_bin op2_subI (rq_sl (pv 0)) (rq_ex re_int))))) (rq_ex (re_tup (ra_cons re_int ra_nil) (lim_cons lim_nil)))) (ra_cons (re_bin op2_add (rq_ex (re_bin op2_mul (rq_ex (re_tup (ra_cons re_int ra_nil) (lim_cons lim_nil))) (rq_ex (re_bin op2_subI (rq_sl (pv 0)) (rq_ex re_int))))) (rq_ex (re_tup (ra_cons re_int ra_nil) (lim_cons lim_nil)))) ra_nil)) (lim_cons (lim_cons lim_nil))) (ra_cons (re_tup (ra_cons re_int (ra_cons re_int ra_nil)) (lim_cons (lim_cons lim_nil))) ra_nil))) (lim_cons (lim_cons (lim_cons lim_nil))))))))
theorem ok_doubling_word (D : DefIn K mg "doubling_word" s_doubling_word) (T : Fre mg)   (G_ends_word : FnM P w K mg base 9 "ends_word" ["base"] none m_ends_word) : FnM P w K mg base 10 "doubling_word" [] none m_doubling_word :=
  Mi.DefIn.fnM (N := []) (ps := []) (io := none) (body := b_doubling_word) D sc_doubling_word (fun _ _ _ _ _ _ us hl => match us, hl with | [], _ => rfl) (fun cdv A outer s H E hr hgd => (qs_one (qs_ret (re_call G_ends_word hr hgd rfl (ra_cons re_int ra_nil) (lim_cons lim_nil)))))
theorem ok_fold_word (D : DefIn K mg "fold_word" s_fold_word) (T : Fre mg)   (G_least_word : FnM P w K mg base 8 "least_word" ["base", "rows", "letters"] none m_least_word) : FnM P w K mg base 9 "fold_word" [] none m_fold_word :=
  Mi.DefIn.fnM (N := ["rows"]) (ps := []) (io := none) (body := b_fold_word) D sc_fold_word (fun _ _ _ _ _ _ us hl => match us, hl with | [], _ => rfl) (fun cdv A outer s H E hr hgd => (qs_cons (qs_set (i := 0) sc_fold_word.nd rfl (Or.inl rfl) (re_tup (ra_cons (re_tup (ra_cons re_int (ra_cons re_int ra_nil)) (lim_cons (lim_cons lim_nil))) (ra_cons (re_tup (ra_cons re_int (ra_cons re_int ra_nil)) (lim_cons (lim_cons lim_nil))) (ra_cons (re_tup (ra_cons re_int (ra_cons re_int ra_nil)) (lim_cons (lim_cons lim_nil))) (ra_cons (re_tup (ra_cons re_int (ra_cons re_int ra_nil)) (lim_cons (lim_cons lim_nil))) ra_nil)))) (lim_cons (lim_cons (lim_cons (lim_cons lim_nil))))))
  (qs_one (qs_ret (re_call G_least_word hr hgd rfl (ra_cons re_int (ra_cons (re_var (pv 0)) (ra_cons (re_tup (ra_cons re_int (ra_cons re_int (ra_cons re_int (ra_cons re_int ra_nil)))) (lim_cons (lim_cons (lim_cons (lim_cons lim_nil))))) ra_nil))) (lim_cons (lim_cons (lim_cons lim_nil))))))))
theorem ok_pairs_word (D : DefIn K mg "pairs_word" s_pairs_word) (T : Fre mg)   (G_least_word : FnM P w K mg base 8 "least_word" ["base", "rows", "letters"] none m_least_word) : FnM P w K mg base 9 "pairs_word" [] none m_pairs_word :=
  Mi.DefIn.fnM (N := []) (ps := []) (io := none) (body := b_pairs_word) D sc_pairs_word (fun _ _ _ _ _ _ us hl => match us, hl with | [], _ => rfl) (fun cdv A outer s H E hr hgd => (qs_one (qs_ret (re_call G_least_word hr hgd rfl (ra_cons re_int (ra_cons (re_tup (ra_cons (re_tup (ra_cons re_int (ra_cons re_int ra_nil)) (lim_cons (lim_cons lim_nil))) (ra_cons (re_tup (ra_cons re_int (ra_cons re_int ra_nil)) (lim_cons (lim_cons lim_nil))) (ra_cons (re_tup (ra_cons re_int (ra_cons re_int ra_nil)) (lim_cons (lim_cons lim_nil))) (ra_cons (re_tup (ra_cons re_int (ra_cons re_int ra_nil)) (lim_cons (lim_cons lim_nil))) ra_nil)))) (lim_cons (lim_cons (lim_cons (lim_cons lim_nil))))) (ra_cons (re_tup (ra_cons re_int (ra_cons re_int (ra_cons re_int (ra_cons re_int ra_nil)))) (lim_cons (lim_cons (lim_cons (lim_cons lim_nil))))) ra_nil))) (lim_cons (lim_cons (lim_cons lim_nil)))))))
theorem ok_powers_word (D : DefIn K mg "powers_word" s_powers_word) (T : Fre mg)   (G_require_base : FnM P w K mg base 4 "require_base" ["value"] none m_require_base) (G_least_word : FnM P w K mg base 8 "least_word" ["base", "rows", "letters"] none m_least_word) : FnM P w K mg base 9 "powers_word" ["base"] none m_powers_word :=
  Mi.DefIn.fnM (N := ["base"]) (ps := ["base"]) (io := none) (body := b_powers_word) D sc_powers_word (fun _ _ _ _ _ _ us hl => match us, hl with | [_], _ => rfl) (fun cdv A outer s H E hr hgd => (qs_cons (qs_expr (re_call G_require_base hr hgd rfl (ra_cons (re_var (pv 0)) ra_nil) (lim_cons lim_nil)))
  (qs_one (qs_ret (re_call G_least_word hr hgd rfl (ra_cons (re_var (pv 0)) (ra_cons (re_tup (ra_cons (re_bin op2_add (rq_ex (re_tup (ra_cons re_int (ra_cons re_int ra_nil)) (lim_cons (lim_cons lim_nil)))) (rq_ex (re_bin op2_mul (rq_ex (re_tup (ra_cons re_int ra_nil) (lim_cons lim_nil))) (rq_ex (re_bin op2_subI (rq_sl (pv 0)) (rq_ex re_int)))))) (ra_cons (re_bin op2_add (rq_ex (re_tup (ra_cons re_int ra_nil) (lim_cons lim_nil))) (rq_ex (re_bin op2_mul (rq_ex (re_tup (ra_cons re_int ra_nil) (lim_cons lim_nil))) (rq_ex (re_bin op2_subI (rq_sl (pv 0)) (rq_ex re_int)))))) (ra_cons (re_bin op2_mul (rq_ex (re_tup (ra_cons re_int ra_nil) (lim_cons lim_nil))) (rq_sl (pv 0))) ra_nil))) (lim_cons (lim_cons (lim_cons lim_nil)))) (ra_cons (re_tup (ra_cons re_int (ra_cons re_int (ra_cons re_int ra_nil))) (lim_cons (lim_cons (lim_cons lim_nil)))) ra_nil))) (lim_cons (lim_cons (lim_cons lim_nil))))))))
theorem ok_law_digits (D : DefIn K mg "_law_digits" s_law_digits) (T : Fre mg)    : FnM P w K mg base 1 "_law_digits" ["base", "place"] none m_law_digits :=
  Mi.DefIn.fnM (N := ["base", "place", "found", "left"]) (ps := ["base", "place"]) (io := none) (body := b_law_digits) D sc_law_digits (fun _ _ _ _ _ _ us hl => match us, hl with | [_, _], _ => rfl) (fun cdv A outer s H E hr hgd => (qs_cons (qs_par (i := 2) (j := 3) rfl sc_law_digits.nd rfl rfl (by decide) rfl rfl (re_lst ra_nil lim_nil) (re_var (pv 1)) (by rfl))
  (qs_cons (qs_while (rt_cmp op2_gtI (rq_sl (pv 3)) (rq_ex re_int) (nomark _)) (qs_cons (qs_expr (re_mut PySem.F.plainAttrs_list PySem.F.slot_list_append PySem.F.type_list_append mut_append (pv 2) (ra_cons (re_bin op2_modI (rq_sl (pv 3)) (rq_sl (pv 0))) ra_nil)))
  (qs_one (qs_set (i := 3) sc_law_digits.nd rfl (Or.inl rfl) (re_bin op2_divI (rq_sl (pv 3)) (rq_sl (pv 0)))))))
  (qs_one (qs_ret (re_ct1 cal_tup rfl T.tuple (rq_ex (re_rev (rq_sl (pv 2))))))))))
theorem ok_law_noughts (D : DefIn K mg "_law_noughts" s_law_noughts) (T : Fre mg)    : FnM P w K mg base 1 "_law_noughts" ["base", "place"] none m_law_noughts :=
  Mi.DefIn.fnM (N := ["base", "place", "found", "left"]) (ps := ["base", "place"]) (io := none) (body := b_law_noughts) D sc_law_noughts (fun _ _ _ _ _ _ us hl => match us, hl with | [_, _], _ => rfl) (fun cdv A outer s H E hr hgd => (qs_cons (qs_par (i := 2) (j := 3) rfl sc_law_noughts.nd rfl rfl (by decide) rfl rfl re_int (re_var (pv 1)) (by rfl))
  (qs_cons (qs_while (rt_cmp (op2_eq (units64 hr)) (rq_ex (re_bin op2_modI (rq_sl (pv 3)) (rq_sl (pv 0)))) (rq_ex re_int) (nomark _)) (qs_one (qs_par (i := 2) (j := 3) rfl sc_law_noughts.nd rfl rfl (by decide) rfl rfl (re_bin op2_add (rq_sl (pv 2)) (rq_ex re_int)) (re_bin op2_divI (rq_sl (pv 3)) (rq_sl (pv 0))) (by rfl))))
  (qs_one (qs_retV (pv 2))))))
theorem ok_law_odd (D : DefIn K mg "_law_odd" s_law_odd) (T : Fre mg)    : FnM P w K mg base 1 "_law_odd" ["base", "place"] none m_law_odd :=
  Mi.DefIn.fnM (N := ["base", "place", "left"]) (ps := ["base", "place"]) (io := none) (body := b_law_odd) D sc_law_odd (fun _ _ _ _ _ _ us hl => match us, hl with | [_, _], _ => rfl) (fun cdv A outer s H E hr hgd => (qs_cons (qs_set (i := 2) sc_law_odd.nd rfl (Or.inl rfl) (re_var (pv 1)))
  (qs_cons (qs_while (rt_cmp (op2_eq (units64 hr)) (rq_ex (re_bin op2_modI (rq_sl (pv 2)) (rq_sl (pv 0)))) (rq_ex re_int) (nomark _)) (qs_one (qs_set (i := 2) sc_law_odd.nd rfl (Or.inl rfl) (re_bin op2_divI (rq_sl (pv 2)) (rq_sl (pv 0))))))
  (qs_one (qs_retV (pv 2))))))
theorem ok_law_due (D : DefIn K mg "_law_due" s_law_due) (T : Fre mg)   (G_law_digits : FnM P w K mg base 1 "_law_digits" ["base", "place"] none m_law_digits) (G_law_noughts : FnM P w K mg base 1 "_law_noughts" ["base", "place"] none m_law_noughts) (G_law_odd : FnM P w K mg base 1 "_law_odd" ["base", "place"] none m_law_odd) : FnM P w K mg base 2 "_law_due" ["base", "place"] none m_law_due :=
  Mi.DefIn.fnM (N := ["base", "place", "digits", "found", "one", "two"]) (ps := ["base", "place"]) (io := none) (body := b_law_due) D sc_law_due (fun _ _ _ _ _ _ us hl => match us, hl with | [_, _], _ => rfl) (fun cdv A outer s H E hr hgd => (qs_cons (qs_set (i := 2) sc_law_due.nd rfl (Or.inl rfl) (re_call G_law_digits hr hgd rfl (ra_cons re_int (ra_cons (re_var (pv 1)) ra_nil)) (lim_cons (lim_cons lim_nil))))
  (qs_cons (qs_set (i := 3) sc_law_due.nd rfl (Or.inl rfl) (re_lst (ra_cons (re_bin op2_modI (rq_ex (re_cb1 (cal_sum rfl) rfl T.sum (rq_sl (pv 2)))) (rq_ex re_int)) (ra_cons (re_bin op2_modI (rq_ex (re_call G_law_noughts hr hgd rfl (ra_cons re_int (ra_cons (re_bin op2_add (rq_sl (pv 1)) (rq_ex re_int)) ra_nil)) (lim_cons (lim_cons lim_nil)))) (rq_ex re_int)) (ra_cons (re_ct1 cal_int rfl T.int (rq_ex (re_cmp (op2_eq (units64 hr)) (rq_ex (re_bin op2_modI (rq_ex (re_call G_law_odd hr hgd rfl (ra_cons re_int (ra_cons (re_bin op2_add (rq_sl (pv 1)) (rq_ex re_int)) ra_nil)) (lim_cons (lim_cons lim_nil)))) (rq_ex re_int))) (rq_ex re_int) (nomark _)))) ra_nil))) (lim_cons (lim_cons (lim_cons lim_nil)))))
  (qs_cons (qs_expr (re_mut PySem.F.plainAttrs_list PySem.F.slot_list_append PySem.F.type_list_append mut_append (pv 3) (ra_cons (re_bin op2_modI (rq_ex (re_cb1 cal_len rfl T.len (rq_ex (re_lc (own := [("one", 4), ("two", 5)]) rfl sc_law_due.nd (ri_zip rfl T.zip (rq_ex (re_var (pv 2))) (rq_ex (re_slLo (rq_sl (pv 2)) (rq_ex re_int)))) (blkOk_by (own := [("one", 4), ("two", 5)]) (N := ["base", "place", "digits", "found", "one", "two"]) (sc := defScope s_law_due) (by decide +kernel)) (fun _ _ _ _ _ => (rg_tp rfl (rgs_cons (rg_nm (i := 4) sc_law_due.nd rfl (Or.inl rfl)) (rgs_cons (rg_nm (i := 5) sc_law_due.nd rfl (Or.inl rfl)) rgs_nil)))) (fun _ _ _ _ _ => (rts_one (rt_w (rw_and (rt_cmp (op2_eq (units64 hr)) (rq_sl (pv 4)) (rq_ex re_int) (nomark _)) (rw_and1 (rt_cmp (op2_eq (units64 hr)) (rq_sl (pv 5)) (rq_ex re_int) (nomark _))))))) (fun _ _ _ _ _ => re_int))))) (rq_ex re_int)) ra_nil)))
  (qs_cons (qs_expr (re_mut PySem.F.plainAttrs_list PySem.F.slot_list_append PySem.F.type_list_append mut_append (pv 3) (ra_cons (re_ct1 cal_int rfl T.int (rq_ex (re_and (re_cmp op2_gtI (rq_sl (pv 1)) (rq_ex re_int) (nomark _)) (re_one (re_cmp (op2_eq (units64 hr)) (rq_ex (re_call G_law_odd hr hgd rfl (ra_cons (re_var (pv 0)) (ra_cons (re_var (pv 1)) ra_nil)) (lim_cons (lim_cons lim_nil)))) (rq_ex re_int) (nomark _)))))) ra_nil)))
  (qs_one (qs_ret (re_bin op2_add (rq_sl (pv 3)) (rq_ex (re_lst (ra_cons (re_bin op2_modI (rq_ex (re_call G_law_noughts hr hgd rfl (ra_cons (re_var (pv 0)) (ra_cons (re_bin op2_add (rq_sl (pv 1)) (rq_ex re_int)) ra_nil)) (lim_cons (lim_cons lim_nil)))) (rq_ex re_int)) ra_nil) (lim_cons lim_nil)))))))))))
theorem ok_Word_base (D : DefPrp K "Word" "base" "Word.base" s_Word_base) (T : Fre mg) (F_Word : CF K mg "Word")  (A_Word_own_base : AtF K "own_base" ("Word", 0))  : PrpM P w K mg base 1 "Word" "base" m_Word_base :=
  Mi.DefPrp.prpM (N := ["self"]) (ps := ["self"]) (F := b_Word_base) D F_Word.ne F_Word.c sc_Word_base rfl (fun _ _ _ _ _ _ us hl => match us, hl with | [_], _ => rfl) (fun cdv A outer s H E hr hgd => (qs_one (qs_ret (re_attr (atb_cons A_Word_own_base atb_nil) (rq_sl (pv 0))))))
theorem ok_Word_rows (D : DefPrp K "Word" "rows" "Word.rows" s_Word_rows) (T : Fre mg) (F_Word : CF K mg "Word")  (A_KnownMachine_own_rows : AtF K "own_rows" ("KnownMachine", 1)) (A_Word_own_rows : AtF K "own_rows" ("Word", 2))  : PrpM P w K mg base 1 "Word" "rows" m_Word_rows :=
  Mi.DefPrp.prpM (N := ["self"]) (ps := ["self"]) (F := b_Word_rows) D F_Word.ne F_Word.c sc_Word_rows rfl (fun _ _ _ _ _ _ us hl => match us, hl with | [_], _ => rfl) (fun cdv A outer s H E hr hgd => (qs_one (qs_ret (re_attr (atb_cons A_KnownMachine_own_rows (atb_cons A_Word_own_rows atb_nil)) (rq_sl (pv 0))))))
theorem ok_Word_letters (D : DefPrp K "Word" "letters" "Word.letters" s_Word_letters) (T : Fre mg) (F_Word : CF K mg "Word")  (A_KnownMachine_own_letters : AtF K "own_letters" ("KnownMachine", 0)) (A_Word_own_letters : AtF K "own_letters" ("Word", 1))  : PrpM P w K mg base 1 "Word" "letters" m_Word_letters :=
  Mi.DefPrp.prpM (N := ["self"]) (ps := ["self"]) (F := b_Word_letters) D F_Word.ne F_Word.c sc_Word_letters rfl (fun _ _ _ _ _ _ us hl => match us, hl with | [_], _ => rfl) (fun cdv A outer s H E hr hgd => (qs_one (qs_ret (re_attr (atb_cons A_KnownMachine_own_letters (atb_cons A_Word_own_letters atb_nil)) (rq_sl (pv 0))))))
theorem ok_law_wd_reached (D : DefIn K mg "_law_wd_reached" s_law_wd_reached) (T : Fre mg)    : FnM P w K mg base 1 "_law_wd_reached" ["rows", "start"] none m_law_wd_reached :=
  Mi.DefIn.fnM (N := ["rows", "start", "found", "at", "later"]) (ps := ["rows", "start"]) (io := none) (body := b_law_wd_reached) D sc_law_wd_reached (fun _ _ _ _ _ _ us hl => match us, hl with | [_, _], _ => rfl) (fun cdv A outer s H E hr hgd => (qs_cons (qs_par (i := 2) (j := 3) rfl sc_law_wd_reached.nd rfl rfl (by decide) rfl rfl (re_lst (ra_cons (re_var (pv 1)) ra_nil) (lim_cons lim_nil)) re_int (by rfl))
  (qs_cons (qs_while (rt_cmp (op2_lt (units0 hr)) (rq_sl (pv 3)) (rq_ex (re_cb1 cal_len rfl T.len (rq_sl (pv 2)))) (nomark _)) (qs_cons (qs_for rfl (ri_seq (rq_ex (re_at (units64 hr) (rq_sl (pv 0)) (rq_ex (re_at (units64 hr) (rq_sl (pv 2)) (rq_sl (pv 3))))))) (rg_nm (i := 4) sc_law_wd_reached.nd rfl (Or.inl rfl))
  (qs_one (qs_if (rt_cmp (op2_notIn (units65 hr)) (rq_sl (pv 4)) (rq_sl (pv 2)) (by with_unfolding_all rfl)) (qs_one (qs_expr (re_mut PySem.F.plainAttrs_list PySem.F.slot_list_append PySem.F.type_list_append mut_append (pv 2) (ra_cons (re_var (pv 4)) ra_nil)))) qs_nil)))
  (qs_one (qs_set (i := 3) sc_law_wd_reached.nd rfl (Or.inl rfl) (re_bin op2_add (rq_sl (pv 3)) (rq_ex re_int))))))
  (qs_one (qs_retV (pv 2))))))
theorem ok_law_wd_classes (D : DefIn K mg "_law_wd_classes" s_law_wd_classes) (T : Fre mg)    : FnM P w K mg base 1 "_law_wd_classes" ["rows", "letters"] none m_law_wd_classes :=
  Mi.DefIn.fnM (N := ["rows", "letters", "marks", "turn", "kinds", "later", "state", "row", "key", "one"]) (ps := ["rows", "letters"]) (io := none) (body := b_law_wd_classes) D sc_law_wd_classes (fun _ _ _ _ _ _ us hl => match us, hl with | [_, _], _ => rfl) (fun cdv A outer s H E hr hgd => (qs_cons (qs_set (i := 2) sc_law_wd_classes.nd rfl (Or.inr rfl) (re_ct1 (cal_list rfl) rfl T.list (rq_sl (pv 1))))
  (qs_cons (qs_for rfl (ri_range1 rfl T.range (ra_cons (re_cb1 cal_len rfl T.len (rq_sl (pv 0))) ra_nil)) (rg_nm (i := 3) sc_law_wd_classes.nd rfl (Or.inl rfl))
  (qs_cons (qs_par (i := 4) (j := 5) rfl sc_law_wd_classes.nd rfl rfl (by decide) rfl rfl re_newN (re_lst ra_nil lim_nil) (by rfl))
  (qs_cons (qs_lend 0 (qs_for rfl (ri_enum rfl T.enumerate (rq_sl (pv 0))) (rg_tp rfl (rgs_cons (rg_nm (i := 6) sc_law_wd_classes.nd rfl (Or.inl rfl)) (rgs_cons (rg_nm (i := 7) sc_law_wd_classes.nd rfl (Or.inl rfl)) rgs_nil)))
  (qs_cons (qs_set (i := 8) sc_law_wd_classes.nd rfl (Or.inl rfl) (re_bin op2_add (rq_ex (re_tup (ra_cons (re_at (units64 hr) (rq_sl (pv 2)) (rq_sl (pv 6))) ra_nil) (lim_cons lim_nil))) (rq_ex (re_ct1 cal_tup rfl T.tuple (rq_ex (re_lc (own := [("one", 9)]) rfl sc_law_wd_classes.nd (ri_seq (rq_ex (re_var (pv 7)))) (blkOk_by (own := [("one", 9)]) (N := ["rows", "letters", "marks", "turn", "kinds", "later", "state", "row", "key", "one"]) (sc := defScope s_law_wd_classes) (by decide +kernel)) (fun _ _ _ _ _ => (rg_nm (i := 9) sc_law_wd_classes.nd rfl (Or.inl rfl))) (fun _ _ _ _ _ => rts_nil) (fun _ _ _ _ _ => (re_at (units64 hr) (rq_sl (pv 2)) (rq_sl (pv 9))))))))))
  (qs_cons (qs_st (units64 hr) (pv 4) (rq_sl (pv 8)) (re_pur PySem.F.plainAttrs_dict PySem.F.slot_dict_get PySem.F.type_dict_get (pur_get (units64 hr)) (pv 4) (ra_cons (re_var (pv 8)) (ra_cons (re_cb1 cal_len rfl T.len (rq_sl (pv 4))) ra_nil))))
  (qs_one (qs_expr (re_mut PySem.F.plainAttrs_list PySem.F.slot_list_append PySem.F.type_list_append mut_append (pv 5) (ra_cons (re_at (units64 hr) (rq_sl (pv 4)) (rq_sl (pv 8))) ra_nil))))))))
  (qs_one (qs_set (i := 2) sc_law_wd_classes.nd rfl (Or.inr rfl) (re_var (pv 5)))))))
  (qs_one (qs_retV (pv 2))))))
theorem ok_law_wd_least (D : DefIn K mg "_law_wd_least" s_law_wd_least) (T : Fre mg)   (G_law_wd_reached : FnM P w K mg base 1 "_law_wd_reached" ["rows", "start"] none m_law_wd_reached) (G_law_wd_classes : FnM P w K mg base 1 "_law_wd_classes" ["rows", "letters"] none m_law_wd_classes) : FnM P w K mg base 2 "_law_wd_least" ["word"] none m_law_wd_least :=
  Mi.DefIn.fnM (N := ["word", "base", "rows", "letters", "kinds", "chosen", "state", "kind", "lean", "order", "index", "told", "row", "at", "one"]) (ps := ["word"]) (io := none) (body := b_law_wd_least) D sc_law_wd_least (fun _ _ _ _ _ _ us hl => match us, hl with | [_], _ => rfl) (fun cdv A outer s H E hr hgd => (qs_cons (qs_asg (re_var (pv 0)) (rg_tp rfl (rgs_cons (rg_nm (i := 1) sc_law_wd_least.nd rfl (Or.inl rfl)) (rgs_cons (rg_nm (i := 2) sc_law_wd_least.nd rfl (Or.inl rfl)) (rgs_cons (rg_nm (i := 3) sc_law_wd_least.nd rfl (Or.inr rfl)) rgs_nil)))))
  (qs_cons (qs_parA (i := 4) (j := 5) rfl sc_law_wd_least.nd rfl rfl (by decide) (Or.inr rfl) (Or.inr rfl) (re_call G_law_wd_classes hr hgd rfl (ra_cons (re_var (pv 2)) (ra_cons (re_var (pv 3)) ra_nil)) (lim_cons (lim_cons lim_nil))) re_newK)
  (qs_cons (qs_lend 4 (qs_for rfl (ri_enum rfl T.enumerate (rq_sl (pv 4))) (rg_tp rfl (rgs_cons (rg_nm (i := 6) sc_law_wd_least.nd rfl (Or.inl rfl)) (rgs_cons (rg_nm (i := 7) sc_law_wd_least.nd rfl (Or.inl rfl)) rgs_nil)))
  (qs_one (qs_st (units64 hr) (pv 5) (rq_sl (pv 7)) (re_pur PySem.F.plainAttrs_dict PySem.F.slot_dict_get PySem.F.type_dict_get (pur_get (units64 hr)) (pv 5) (ra_cons (re_var (pv 7)) (ra_cons (re_var (pv 6)) ra_nil)))))))
  (qs_cons (qs_set (i := 8) sc_law_wd_least.nd rfl (Or.inr rfl) (re_lc (own := [("row", 12)]) rfl sc_law_wd_least.nd (ri_seq (rq_ex (re_var (pv 2)))) (blkOk_by (own := [("row", 12)]) (N := ["word", "base", "rows", "letters", "kinds", "chosen", "state", "kind", "lean", "order", "index", "told", "row", "at", "one"]) (sc := defScope s_law_wd_least) (by decide +kernel)) (fun _ _ _ _ _ => (rg_nm (i := 12) sc_law_wd_least.nd rfl (Or.inl rfl))) (fun _ _ _ _ _ => rts_nil) (fun _ _ _ _ _ => (re_ct1 cal_tup rfl T.tuple (rq_ex (re_lc (own := [("one", 14)]) rfl sc_law_wd_least.nd (ri_seq (rq_ex (re_var (pv 12)))) (blkOk_by (own := [("one", 14)]) (N := ["word", "base", "rows", "letters", "kinds", "chosen", "state", "kind", "lean", "order", "index", "told", "row", "at", "one"]) (by kernel_rfl)) (fun _ _ _ _ _ => (rg_nm (i := 14) sc_law_wd_least.nd rfl (Or.inl rfl))) (fun _ _ _ _ _ => rts_nil) (fun _ _ _ _ _ => (re_at (units64 hr) (rq_sl (pv 5)) (rq_ex (re_at (units64 hr) (rq_sl (pv 4)) (rq_sl (pv 14))))))))))))
  (qs_cons (qs_set (i := 9) sc_law_wd_least.nd rfl (Or.inl rfl) (re_call G_law_wd_reached hr hgd rfl (ra_cons (re_var (pv 8)) (ra_cons (re_at (units64 hr) (rq_sl (pv 5)) (rq_ex (re_at (units64 hr) (rq_sl (pv 4)) (rq_ex re_int)))) ra_nil)) (lim_cons (lim_cons lim_nil))))
  (qs_cons (qs_set (i := 10) sc_law_wd_least.nd rfl (Or.inr rfl) (re_ct1 (cal_dictP rfl) rfl T.dict (rq_ex (re_lc (own := [("at", 13), ("state", 6)]) rfl sc_law_wd_least.nd (ri_enum rfl T.enumerate (rq_ex (re_var (pv 9)))) (blkOk_by (own := [("at", 13), ("state", 6)]) (N := ["word", "base", "rows", "letters", "kinds", "chosen", "state", "kind", "lean", "order", "index", "told", "row", "at", "one"]) (sc := defScope s_law_wd_least) (by decide +kernel)) (fun _ _ _ _ _ => (rg_tp rfl (rgs_cons (rg_nm (i := 13) sc_law_wd_least.nd rfl (Or.inl rfl)) (rgs_cons (rg_nm (i := 6) sc_law_wd_least.nd rfl (Or.inl rfl)) rgs_nil)))) (fun _ _ _ _ _ => rts_nil) (fun _ _ _ _ _ => (re_tup (ra_cons (re_var (pv 6)) (ra_cons (re_var (pv 13)) ra_nil)) (lim_cons (lim_cons lim_nil))))))))
  (qs_cons (qs_set (i := 11) sc_law_wd_least.nd rfl (Or.inl rfl) (re_ct1 cal_tup rfl T.tuple (rq_ex (re_lc (own := [("state", 6)]) rfl sc_law_wd_least.nd (ri_seq (rq_ex (re_var (pv 9)))) (blkOk_by (own := [("state", 6)]) (N := ["word", "base", "rows", "letters", "kinds", "chosen", "state", "kind", "lean", "order", "index", "told", "row", "at", "one"]) (sc := defScope s_law_wd_least) (by decide +kernel)) (fun _ _ _ _ _ => (rg_nm (i := 6) sc_law_wd_least.nd rfl (Or.inl rfl))) (fun _ _ _ _ _ => rts_nil) (fun _ _ _ _ _ => (re_ct1 cal_tup rfl T.tuple (rq_ex (re_lc (own := [("one", 14)]) rfl sc_law_wd_least.nd (ri_seq (rq_ex (re_at (units64 hr) (rq_sl (pv 8)) (rq_sl (pv 6))))) (blkOk_by (own := [("one", 14)]) (N := ["word", "base", "rows", "letters", "kinds", "chosen", "state", "kind", "lean", "order", "index", "told", "row", "at", "one"]) (by kernel_rfl)) (fun _ _ _ _ _ => (rg_nm (i := 14) sc_law_wd_least.nd rfl (Or.inl rfl))) (fun _ _ _ _ _ => rts_nil) (fun _ _ _ _ _ => (re_at (units64 hr) (rq_sl (pv 10)) (rq_sl (pv 14))))))))))))
  (qs_one (qs_ret (re_tup (ra_cons (re_var (pv 1)) (ra_cons (re_var (pv 11)) (ra_cons (re_ct1 cal_tup rfl T.tuple (rq_ex (re_lc (own := [("state", 6)]) rfl sc_law_wd_least.nd (ri_seq (rq_ex (re_var (pv 9)))) (blkOk_by (own := [("state", 6)]) (N := ["word", "base", "rows", "letters", "kinds", "chosen", "state", "kind", "lean", "order", "index", "told", "row", "at", "one"]) (sc := defScope s_law_wd_least) (by decide +kernel)) (fun _ _ _ _ _ => (rg_nm (i := 6) sc_law_wd_least.nd rfl (Or.inl rfl))) (fun _ _ _ _ _ => rts_nil) (fun _ _ _ _ _ => (re_at (units64 hr) (rq_sl (pv 3)) (rq_sl (pv 6))))))) ra_nil))) (lim_cons (lim_cons (lim_cons lim_nil))))))))))))))
theorem ok_law_great (D : DefIn K mg "_law_great" s_law_great) (T : Fre mg)   (G_law_roll : FnM P w K mg base 1 "_law_roll" ["dice", "total"] (some 0) m_law_roll) : FnM P w K mg base 2 "_law_great" ["dice"] (some 0) m_law_great :=
  Mi.DefIn.fnM (N := ["dice", "way", "found", "turn"]) (ps := ["dice"]) (io := (some 0)) (body := b_law_great) D sc_law_great (fun _ _ _ _ _ _ us hl => match us, hl with | [_], _ => rfl) (fun cdv A outer s H E hr hgd => (qs_cons (qs_set (i := 1) sc_law_great.nd rfl (Or.inl rfl) (re_callIo G_law_roll hr hgd rfl (rh_hole (pv 0) (rh_cons re_int rh_nil)) (hlim_hole (nohole_cons nohole_nil))))
  (qs_cons (qs_if (rt_cmp (op2_lt (units0 hr)) (rq_sl (pv 1)) (rq_ex re_int) (nomark _)) (qs_one (qs_ret (re_callIo G_law_roll hr hgd rfl (rh_hole (pv 0) (rh_cons re_int rh_nil)) (hlim_hole (nohole_cons nohole_nil))))) qs_nil)
  (qs_cons (qs_if (rt_cmp (op2_eq (units64 hr)) (rq_sl (pv 1)) (rq_ex re_int) (nomark _)) (qs_one (qs_ret (re_callIo G_law_roll hr hgd rfl (rh_hole (pv 0) (rh_cons (re_bin op2_powI (rq_ex re_int) (rq_ex re_int)) rh_nil)) (hlim_hole (nohole_cons nohole_nil))))) qs_nil)
  (qs_cons (qs_set (i := 2) sc_law_great.nd rfl (Or.inl rfl) re_int)
  (qs_cons (qs_for rfl (ri_range1 rfl T.range (ra_cons re_int ra_nil)) (rg_nm (i := 3) sc_law_great.nd rfl (Or.inl rfl))
  (qs_one (qs_set (i := 2) sc_law_great.nd rfl (Or.inl rfl) (re_bin op2_add (rq_ex (re_bin op2_mul (rq_sl (pv 2)) (rq_ex (re_bin op2_powI (rq_ex re_int) (rq_ex re_int))))) (rq_ex (re_callIo G_law_roll hr hgd rfl (rh_hole (pv 0) (rh_cons (re_bin op2_powI (rq_ex re_int) (rq_ex re_int)) rh_nil)) (hlim_hole (nohole_cons nohole_nil))))))))
  (qs_one (qs_retV (pv 2)))))))))
theorem ok_law_power (D : DefIn K mg "_law_power" s_law_power) (T : Fre mg)    : FnM P w K mg base 1 "_law_power" ["base", "many"] none m_law_power :=
  Mi.DefIn.fnM (N := ["base", "many", "found", "turn"]) (ps := ["base", "many"]) (io := none) (body := b_law_power) D sc_law_power (fun _ _ _ _ _ _ us hl => match us, hl with | [_, _], _ => rfl) (fun cdv A outer s H E hr hgd => (qs_cons (qs_set (i := 2) sc_law_power.nd rfl (Or.inl rfl) re_int)
  (qs_cons (qs_for rfl (ri_range1 rfl T.range (ra_cons (re_var (pv 1)) ra_nil)) (rg_nm (i := 3) sc_law_power.nd rfl (Or.inl rfl))
  (qs_one (qs_set (i := 2) sc_law_power.nd rfl (Or.inl rfl) (re_bin op2_mul (rq_sl (pv 2)) (rq_sl (pv 0))))))
  (qs_one (qs_retV (pv 2))))))
theorem ok_require_place (D : DefIn K mg "require_place" s_require_place) (T : Fre mg)   (G_require_within : FnM P w K mg base 3 "require_within" ["value", "least", "most"] none m_require_within) : FnM P w K mg base 4 "require_place" ["value"] none m_require_place :=
  Mi.DefIn.fnM (N := ["value"]) (ps := ["value"]) (io := none) (body := b_require_place) D sc_require_place (fun _ _ _ _ _ _ us hl => match us, hl with | [_], _ => rfl) (fun cdv A outer s H E hr hgd => (qs_one (qs_expr (re_call G_require_within hr hgd rfl (ra_cons (re_var (pv 0)) (ra_cons re_int (ra_cons (re_gint rfl T.c_MAX_PLACE) ra_nil))) (lim_cons (lim_cons (lim_cons lim_nil)))))))
theorem ok_digits_in (D : DefIn K mg "digits_in" s_digits_in) (T : Fre mg)    : FnM P w K mg base 1 "digits_in" ["base", "place"] none m_digits_in :=
  Mi.DefIn.fnM (N := ["base", "place", "found", "left"]) (ps := ["base", "place"]) (io := none) (body := b_digits_in) D sc_digits_in (fun _ _ _ _ _ _ us hl => match us, hl with | [_, _], _ => rfl) (fun cdv A outer s H E hr hgd => (qs_cons (qs_par (i := 2) (j := 3) rfl sc_digits_in.nd rfl rfl (by decide) rfl rfl (re_lst ra_nil lim_nil) (re_var (pv 1)) (by rfl))
  (qs_cons (qs_while (rt_cmp op2_gtI (rq_sl (pv 3)) (rq_ex re_int) (nomark _)) (qs_cons (qs_expr (re_mut PySem.F.plainAttrs_list PySem.F.slot_list_append PySem.F.type_list_append mut_append (pv 2) (ra_cons (re_bin op2_modI (rq_sl (pv 3)) (rq_sl (pv 0))) ra_nil)))
  (qs_one (qs_set (i := 3) sc_digits_in.nd rfl (Or.inl rfl) (re_bin op2_divI (rq_sl (pv 3)) (rq_sl (pv 0)))))))
  (qs_one (qs_ret (re_ct1 cal_tup rfl T.tuple (rq_ex (re_rev (rq_sl (pv 2))))))))))
theorem ok_state_in (D : DefIn K mg "state_in" s_state_in) (T : Fre mg)  (A_KnownMachine_own_rows : AtF K "own_rows" ("KnownMachine", 1)) (A_Word_own_base : AtF K "own_base" ("Word", 0)) (A_Word_own_rows : AtF K "own_rows" ("Word", 2)) (G_digits_in : FnM P w K mg base 1 "digits_in" ["base", "place"] none m_digits_in) : FnM P w K mg base 2 "state_in" ["word", "place"] none m_state_in :=
  Mi.DefIn.fnM (N := ["word", "place", "state", "digit"]) (ps := ["word", "place"]) (io := none) (body := b_state_in) D sc_state_in (fun _ _ _ _ _ _ us hl => match us, hl with | [_, _], _ => rfl) (fun cdv A outer s H E hr hgd => (qs_cons (qs_set (i := 2) sc_state_in.nd rfl (Or.inl rfl) re_int)
  (qs_cons (qs_for rfl (ri_seq (rq_ex (re_call G_digits_in hr hgd rfl (ra_cons (re_attr (atb_cons A_Word_own_base atb_nil) (rq_sl (pv 0))) (ra_cons (re_var (pv 1)) ra_nil)) (lim_cons (lim_cons lim_nil))))) (rg_nm (i := 3) sc_state_in.nd rfl (Or.inl rfl))
  (qs_one (qs_set (i := 2) sc_state_in.nd rfl (Or.inl rfl) (re_at (units64 hr) (rq_ex (re_at (units64 hr) (rq_ex (re_attr (atb_cons A_KnownMachine_own_rows (atb_cons A_Word_own_rows atb_nil)) (rq_sl (pv 0)))) (rq_sl (pv 2)))) (rq_sl (pv 3))))))
  (qs_one (qs_retV (pv 2))))))
theorem ok_letter_in (D : DefIn K mg "letter_in" s_letter_in) (T : Fre mg)  (A_KnownMachine_own_letters : AtF K "own_letters" ("KnownMachine", 0)) (A_Word_own_letters : AtF K "own_letters" ("Word", 1)) (G_state_in : FnM P w K mg base 2 "state_in" ["word", "place"] none m_state_in) : FnM P w K mg base 3 "letter_in" ["word", "place"] none m_letter_in :=
  Mi.DefIn.fnM (N := ["word", "place"]) (ps := ["word", "place"]) (io := none) (body := b_letter_in) D sc_letter_in (fun _ _ _ _ _ _ us hl => match us, hl with | [_, _], _ => rfl) (fun cdv A outer s H E hr hgd => (qs_one (qs_ret (re_at (units64 hr) (rq_ex (re_attr (atb_cons A_KnownMachine_own_letters (atb_cons A_Word_own_letters atb_nil)) (rq_sl (pv 0)))) (rq_ex (re_call G_state_in hr hgd rfl (ra_cons (re_var (pv 0)) (ra_cons (re_var (pv 1)) ra_nil)) (lim_cons (lim_cons lim_nil))))))))
theorem ok_part_in (D : DefIn K mg "part_in" s_part_in) (T : Fre mg)   (G_letter_in : FnM P w K mg base 3 "letter_in" ["word", "place"] none m_letter_in) : FnM P w K mg base 4 "part_in" ["word", "place", "many"] none m_part_in :=
  Mi.DefIn.fnM (N := ["word", "place", "many", "at"]) (ps := ["word", "place", "many"]) (io := none) (body := b_part_in) D sc_part_in (fun _ _ _ _ _ _ us hl => match us, hl with | [_, _, _], _ => rfl) (fun cdv A outer s H E hr hgd => (qs_one (qs_ret (re_ct1 cal_tup rfl T.tuple (rq_ex (re_lc (own := [("at", 3)]) rfl sc_part_in.nd (ri_range1 rfl T.range (ra_cons (re_var (pv 2)) ra_nil)) (blkOk_by (own := [("at", 3)]) (N := ["word", "place", "many", "at"]) (sc := defScope s_part_in) (by decide +kernel)) (fun _ _ _ _ _ => (rg_nm (i := 3) sc_part_in.nd rfl (Or.inl rfl))) (fun _ _ _ _ _ => rts_nil) (fun _ _ _ _ _ => (re_call G_letter_in hr hgd rfl (ra_cons (re_var (pv 0)) (ra_cons (re_bin op2_add (rq_sl (pv 1)) (rq_sl (pv 3))) ra_nil)) (lim_cons (lim_cons lim_nil))))))))))
theorem ok_Word_part (D : DefMeth K "Word" "part" "Word.part" s_Word_part) (T : Fre mg) (F_Word : CF K mg "Word")   (G_require_place : FnM P w K mg base 4 "require_place" ["value"] none m_require_place) (G_require_within : FnM P w K mg base 3 "require_within" ["value", "least", "most"] none m_require_within) (G_part_in : FnM P w K mg base 4 "part_in" ["word", "place", "many"] none m_part_in) : MthM P w K mg base 5 "Word" "part" ["self", "place", "many"] m_Word_part :=
  Mi.DefMeth.mthM (N := ["self", "place", "many"]) (ps := ["self", "place", "many"]) (F := b_Word_part) D F_Word.ne F_Word.c sc_Word_part (fun _ _ _ _ _ _ us hl => match us, hl with | [_, _, _], _ => rfl) (fun cdv A outer s H E hr hgd => (qs_cons (qs_expr (re_call G_require_place hr hgd rfl (ra_cons (re_var (pv 1)) ra_nil) (lim_cons lim_nil)))
  (qs_cons (qs_expr (re_call G_require_within hr hgd rfl (ra_cons (re_var (pv 2)) (ra_cons re_int (ra_cons (re_gint rfl T.c_MAX_PART) ra_nil))) (lim_cons (lim_cons (lim_cons lim_nil)))))
  (qs_one (qs_ret (re_call G_part_in hr hgd rfl (ra_cons (re_var (pv 0)) (ra_cons (re_var (pv 1)) (ra_cons (re_var (pv 2)) ra_nil))) (lim_cons (lim_cons (lim_cons lim_nil)))))))))
theorem ok_Word_letter (D : DefMeth K "Word" "letter" "Word.letter" s_Word_letter) (T : Fre mg) (F_Word : CF K mg "Word")   (G_require_place : FnM P w K mg base 4 "require_place" ["value"] none m_require_place) (G_letter_in : FnM P w K mg base 3 "letter_in" ["word", "place"] none m_letter_in) : MthM P w K mg base 5 "Word" "letter" ["self", "place"] m_Word_letter :=
  Mi.DefMeth.mthM (N := ["self", "place"]) (ps := ["self", "place"]) (F := b_Word_letter) D F_Word.ne F_Word.c sc_Word_letter (fun _ _ _ _ _ _ us hl => match us, hl with | [_, _], _ => rfl) (fun cdv A outer s H E hr hgd => (qs_cons (qs_expr (re_call G_require_place hr hgd rfl (ra_cons (re_var (pv 1)) ra_nil) (lim_cons lim_nil)))
  (qs_one (qs_ret (re_call G_letter_in hr hgd rfl (ra_cons (re_var (pv 0)) (ra_cons (re_var (pv 1)) ra_nil)) (lim_cons (lim_cons lim_nil)))))))
theorem ok_law_right (D : DefIn K mg "_law_right" s_law_right) (T : Fre mg)   (G_law_roll : FnM P w K mg base 1 "_law_roll" ["dice", "total"] (some 0) m_law_roll) (G_parity_word : FnM P w K mg base 8 "parity_word" [] none m_parity_word) (G_doubling_word : FnM P w K mg base 10 "doubling_word" [] none m_doubling_word) (G_fold_word : FnM P w K mg base 9 "fold_word" [] none m_fold_word) (G_pairs_word : FnM P w K mg base 9 "pairs_word" [] none m_pairs_word) (G_powers_word : FnM P w K mg base 9 "powers_word" ["base"] none m_powers_word) (G_ends_word : FnM P w K mg base 9 "ends_word" ["base"] none m_ends_word) (G_law_due : FnM P w K mg base 2 "_law_due" ["base", "place"] none m_law_due) (G_Word_base : PrpM P w K mg base 1 "Word" "base" m_Word_base) (G_Word_rows : PrpM P w K mg base 1 "Word" "rows" m_Word_rows) (G_Word_letters : PrpM P w K mg base 1 "Word" "letters" m_Word_letters) (G_law_wd_least : FnM P w K mg base 2 "_law_wd_least" ["word"] none m_law_wd_least) (G_law_great : FnM P w K mg base 2 "_law_great" ["dice"] (some 0) m_law_great) (G_law_power : FnM P w K mg base 1 "_law_power" ["base", "many"] none m_law_power) (G_Word_part : MthM P w K mg base 5 "Word" "part" ["self", "place", "many"] m_Word_part) (G_Word_letter : MthM P w K mg base 5 "Word" "letter" ["self", "place"] m_Word_letter) : FnM P w K mg base 11 "_law_right" ["dice"] (some 0) m_law_right :=
  Mi.DefIn.fnM (N := ["dice", "base", "words", "word", "plain", "place", "near", "rows", "due", "at", "spot", "turn", "row"]) (ps := ["dice"]) (io := (some 0)) (body := b_law_right) D sc_law_right (fun _ _ _ _ _ _ us hl => match us, hl with | [_], _ => rfl) (fun cdv A outer s H E hr hgd => (qs_cons (qs_set (i := 1) sc_law_right.nd rfl (Or.inr rfl) (re_bin op2_add (rq_ex re_int) (rq_ex (re_callIo G_law_roll hr hgd rfl (rh_hole (pv 0) (rh_cons re_int rh_nil)) (hlim_hole (nohole_cons nohole_nil))))))
  (qs_cons (qs_set (i := 2) sc_law_right.nd rfl (Or.inl rfl) (re_lst (ra_cons (re_call0 G_parity_word hr hgd rfl rfl) (ra_cons (re_call0 G_doubling_word hr hgd rfl rfl) (ra_cons (re_call0 G_fold_word hr hgd rfl rfl) (ra_cons (re_call0 G_pairs_word hr hgd rfl rfl) (ra_cons (re_call G_powers_word hr hgd rfl (ra_cons (re_var (pv 1)) ra_nil) (lim_cons lim_nil)) (ra_cons (re_call G_ends_word hr hgd rfl (ra_cons (re_var (pv 1)) ra_nil) (lim_cons lim_nil)) ra_nil)))))) (lim_cons (lim_cons (lim_cons (lim_cons (lim_cons (lim_cons lim_nil))))))))
  (qs_cons (qs_if (rt_cmp (op2_ne (units64 hr)) (rq_ex (re_lc (own := [("word", 3)]) rfl sc_law_right.nd (ri_seq (rq_ex (re_var (pv 2)))) (blkOk_by (own := [("word", 3)]) (N := ["dice", "base", "words", "word", "plain", "place", "near", "rows", "due", "at", "spot", "turn", "row"]) (sc := defScope s_law_right) (by decide +kernel)) (fun _ _ _ _ _ => (rg_nm (i := 3) sc_law_right.nd rfl (Or.inl rfl))) (fun _ _ _ _ _ => rts_nil) (fun _ _ _ _ _ => (re_prop (k := 1) (ptb_cons G_Word_base ptb_nil) hr hgd (re_var (pv 3)))))) (rq_ex (re_lst (ra_cons re_int (ra_cons re_int (ra_cons re_int (ra_cons re_int (ra_cons (re_var (pv 1)) (ra_cons (re_var (pv 1)) ra_nil)))))) (lim_cons (lim_cons (lim_cons (lim_cons (lim_cons (lim_cons lim_nil)))))))) (nomark _)) (qs_one (qs_ret re_bl)) qs_nil)
  (qs_cons (qs_lend 2 (qs_for rfl (ri_seq (rq_sl (pv 2))) (rg_nm (i := 3) sc_law_right.nd rfl (Or.inl rfl))
  (qs_cons (qs_set (i := 4) sc_law_right.nd rfl (Or.inl rfl) (re_tup (ra_cons (re_prop (k := 1) (ptb_cons G_Word_base ptb_nil) hr hgd (re_var (pv 3))) (ra_cons (re_prop (k := 1) (ptb_cons G_Word_rows ptb_nil) hr hgd (re_var (pv 3))) (ra_cons (re_prop (k := 1) (ptb_cons G_Word_letters ptb_nil) hr hgd (re_var (pv 3))) ra_nil))) (lim_cons (lim_cons (lim_cons lim_nil)))))
  (qs_one (qs_if (rt_cmp (op2_ne (units64 hr)) (rq_ex (re_call G_law_wd_least hr hgd rfl (ra_cons (re_var (pv 4)) ra_nil) (lim_cons lim_nil))) (rq_sl (pv 4)) (nomark _)) (qs_one (qs_ret re_bl)) qs_nil)))))
  (qs_cons (qs_for rfl (ri_seq (rq_ex (re_bin op2_add (rq_ex (re_lc (own := [("turn", 11)]) rfl sc_law_right.nd (ri_range1 rfl T.range (ra_cons re_int ra_nil)) (blkOk_by (own := [("turn", 11)]) (N := ["dice", "base", "words", "word", "plain", "place", "near", "rows", "due", "at", "spot", "turn", "row"]) (sc := defScope s_law_right) (by decide +kernel)) (fun _ _ _ _ _ => (rg_nm (i := 11) sc_law_right.nd rfl (Or.inl rfl))) (fun _ _ _ _ _ => rts_nil) (fun _ _ _ _ _ => (re_callIo G_law_great hr hgd rfl (rh_hole (pv 0) rh_nil) (hlim_hole nohole_nil))))) (rq_ex (re_lst (ra_cons (re_call G_law_power hr hgd rfl (ra_cons (re_var (pv 1)) (ra_cons (re_bin op2_add (rq_ex re_int) (rq_ex (re_callIo G_law_roll hr hgd rfl (rh_hole (pv 0) (rh_cons re_int rh_nil)) (hlim_hole (nohole_cons nohole_nil))))) ra_nil)) (lim_cons (lim_cons lim_nil))) (ra_cons re_int (ra_cons re_int (ra_cons re_int ra_nil)))) (lim_cons (lim_cons (lim_cons (lim_cons lim_nil))))))))) (rg_nm (i := 5) sc_law_right.nd rfl (Or.inl rfl))
  (qs_one (qs_for rfl (ri_seq (rq_ex (re_tup (ra_cons (re_var (pv 5)) (ra_cons (re_bin op2_add (rq_sl (pv 5)) (rq_ex re_int)) ra_nil)) (lim_cons (lim_cons lim_nil))))) (rg_nm (i := 6) sc_law_right.nd rfl (Or.inr rfl))
  (qs_one (qs_if (rt_cmp (op2_ne (units64 hr)) (rq_ex (re_lc (own := [("word", 3)]) rfl sc_law_right.nd (ri_seq (rq_ex (re_var (pv 2)))) (blkOk_by (own := [("word", 3)]) (N := ["dice", "base", "words", "word", "plain", "place", "near", "rows", "due", "at", "spot", "turn", "row"]) (sc := defScope s_law_right) (by decide +kernel)) (fun _ _ _ _ _ => (rg_nm (i := 3) sc_law_right.nd rfl (Or.inl rfl))) (fun _ _ _ _ _ => rts_nil) (fun _ _ _ _ _ => (re_meth (k := 5) (n := 1) (mtb_cons G_Word_letter mtb_nil) hr hgd (re_var (pv 3)) (ra_cons (re_var (pv 6)) ra_nil) (lim_cons lim_nil))))) (rq_ex (re_call G_law_due hr hgd rfl (ra_cons (re_var (pv 1)) (ra_cons (re_var (pv 6)) ra_nil)) (lim_cons (lim_cons lim_nil)))) (nomark _)) (qs_one (qs_ret re_bl)) qs_nil)))))
  (qs_cons (qs_set (i := 7) sc_law_right.nd rfl (Or.inr rfl) (re_lc (own := [("at", 9)]) rfl sc_law_right.nd (ri_range1 rfl T.range (ra_cons re_int ra_nil)) (blkOk_by (own := [("at", 9)]) (N := ["dice", "base", "words", "word", "plain", "place", "near", "rows", "due", "at", "spot", "turn", "row"]) (sc := defScope s_law_right) (by decide +kernel)) (fun _ _ _ _ _ => (rg_nm (i := 9) sc_law_right.nd rfl (Or.inl rfl))) (fun _ _ _ _ _ => rts_nil) (fun _ _ _ _ _ => (re_call G_law_due hr hgd rfl (ra_cons (re_var (pv 1)) (ra_cons (re_var (pv 9)) ra_nil)) (lim_cons (lim_cons lim_nil))))))
  (qs_cons (qs_setLc (i := 8) (own := [("spot", 10)]) rfl sc_law_right.nd rfl rfl (sw_true rfl rfl rfl (by decide +kernel)) (ri_range1 rfl T.range (ra_cons re_int ra_nil)) (blkOk_by (own := [("spot", 10)]) (N := ["dice", "base", "words", "word", "plain", "place", "near", "rows", "due", "at", "spot", "turn", "row"]) (sc := defScope s_law_right) (by decide +kernel)) (fun _ _ _ _ _ => (rg_nm (i := 10) sc_law_right.nd rfl (Or.inr rfl))) (fun _ _ _ _ _ => rts_nil) (fun _ _ _ _ _ => (re_ct1 cal_tup rfl T.tuple (rq_ex (re_lc (own := [("row", 12)]) rfl sc_law_right.nd (ri_seq (rq_ex (re_var (pv 7)))) (blkOk_by (own := [("row", 12)]) (N := ["dice", "base", "words", "word", "plain", "place", "near", "rows", "due", "at", "spot", "turn", "row"]) (by kernel_rfl)) (fun _ _ _ _ _ => (rg_nm (i := 12) sc_law_right.nd rfl (Or.inl rfl))) (fun _ _ _ _ _ => rts_nil) (fun _ _ _ _ _ => (re_at (units64 hr) (rq_sl (pv 12)) (rq_sl (pv 10)))))))))
  (qs_one (qs_ret (re_cmp (op2_eq (units64 hr)) (rq_ex (re_lc (own := [("word", 3)]) rfl sc_law_right.nd (ri_seq (rq_ex (re_var (pv 2)))) (blkOk_by (own := [("word", 3)]) (N := ["dice", "base", "words", "word", "plain", "place", "near", "rows", "due", "at", "spot", "turn", "row"]) (sc := defScope s_law_right) (by decide +kernel)) (fun _ _ _ _ _ => (rg_nm (i := 3) sc_law_right.nd rfl (Or.inl rfl))) (fun _ _ _ _ _ => rts_nil) (fun _ _ _ _ _ => (re_meth (k := 5) (n := 2) (mtb_cons G_Word_part mtb_nil) hr hgd (re_var (pv 3)) (ra_cons re_int (ra_cons re_int ra_nil)) (lim_cons (lim_cons lim_nil)))))) (rq_sl (pv 8)) (nomark _))))))))))))
theorem ok_law {fd : FuncData} (F : FunD K "law" "law" (defArgs s_law) (defBody s_law) (defScope s_law) [] [] (He.ga K "law") fd) (T : Fre mg)   (G_law_dice : FnM P w K mg base 1 "_law_dice" ["script", "spot"] none m_law_dice) (G_Word_len : MthM P w K mg base 1 "Word" "__len__" ["self"] m_Word_len) (G_law_right : FnM P w K mg base 11 "_law_right" ["dice"] (some 0) m_law_right) (G_parity_word : FnM P w K mg base 8 "parity_word" [] none m_parity_word) (G_doubling_word : FnM P w K mg base 10 "doubling_word" [] none m_doubling_word) (G_powers_word : FnM P w K mg base 9 "powers_word" ["base"] none m_powers_word) : FnG P w K mg base 12 (He.ga K "law") fd ["script"] (spM P w K 1 none m_law) :=
  fnG_law (N := ["script", "spot", "dice", "turn"]) (body := b_law) F sc_law (fun cdv A outer s H E hr hgd => (qs_cons (qs_for rfl (ri_range1 rfl T.range (ra_cons (re_cb2 (cal_max2 rfl) rfl T.max (rq_ex re_int) (rq_ex (re_cb2 (cal_min2 rfl) rfl T.min (rq_ex re_int) (rq_ex (re_lenA (k := 1) (mtb_cons G_Word_len mtb_nil) hr hgd rfl T.len (rq_sl (pv 0))))))) ra_nil)) (rg_nm (i := 1) sc_law.nd rfl (Or.inl rfl))
  (qs_cons (qs_set (i := 2) sc_law.nd rfl (Or.inl rfl) (re_call G_law_dice hr hgd rfl (ra_cons (re_var (pv 0)) (ra_cons (re_var (pv 1)) ra_nil)) (lim_cons (lim_cons lim_nil))))
  (qs_one (qs_for rfl (ri_range1 rfl T.range (ra_cons re_int ra_nil)) (rg_nm (i := 3) sc_law.nd rfl (Or.inl rfl))
  (qs_one (qs_if (rt_not (rt_q (rq_ex (re_callIo G_law_right hr hgd rfl (rh_hole (pv 2) rh_nil) (hlim_hole nohole_nil))) (by intro _; rfl))) (qs_one (qs_ret re_bl)) qs_nil))))))
  (qs_one (qs_ret (re_cmp (op2_eq (units64 hr)) (rq_ex (re_lst (ra_cons (re_lenA (k := 1) (mtb_cons G_Word_len mtb_nil) hr hgd rfl T.len (rq_ex (re_call0 G_parity_word hr hgd rfl rfl))) (ra_cons (re_lenA (k := 1) (mtb_cons G_Word_len mtb_nil) hr hgd rfl T.len (rq_ex (re_call0 G_doubling_word hr hgd rfl rfl))) (ra_cons (re_lenA (k := 1) (mtb_cons G_Word_len mtb_nil) hr hgd rfl T.len (rq_ex (re_call G_powers_word hr hgd rfl (ra_cons re_int ra_nil) (lim_cons lim_nil)))) ra_nil))) (lim_cons (lim_cons (lim_cons lim_nil))))) (rq_ex (re_lst (ra_cons re_int (ra_cons re_int (ra_cons re_int ra_nil))) (lim_cons (lim_cons (lim_cons lim_nil))))) (nomark _))))))
end
end Pf

set_option Elab.async false
set_option linter.all false
set_option maxRecDepth 100000
set_option maxHeartbeats 4000000
/-! the head -/
namespace Mi
open PySem PySem.Spec PyProof.Rows L2 My

abbrev FTs : Type := PySem.W.Frag → Bool
def obsM (fn : List He5.DefA) (xt : List FTs) (K : PySem.W.Frag) : He.AlD := ((xt.all fun t => t K) && fn.all fun d => d.ok K, fn.map fun d => He5.fnA K (d.at_ K))
def valMH (fn : List He5.DefA) : He.AlD := (true, fn.map He5.DefA.val)
def SaysM (fn : List He5.DefA) (xt : List FTs) (K : PySem.W.Frag) : Prop := obsM fn xt K = valMH fn
def obsMG (n : Nat) (fn : List He5.DefA) (xt : List FTs) (g : Addr → Option Obj) : He.AlD := obsM fn xt (He.frG g (He.asD g n))
def hookM (n : Nat) (fn : List He5.DefA) (xt : List FTs) : PySem.W.Hook where
  α := He.AlD
  obs := fun s => obsMG n fn xt s.heap.get?
  val := fun _ => valMH fn
  says := fun _ h => ∃ K : PySem.W.Frag, K.In h ∧ SaysM fn xt K
  of := fun _ _ e => ⟨_, He.frG_in, e⟩
  keeps := fun _ _ _ ⟨K, hK, c⟩ k => ⟨K, PySem.W.Frag.In.keeps hK k, c⟩
theorem obsMG_eq {n : Nat} {fn : List He5.DefA} {xt : List FTs} {g : Addr → Option Obj} {s : Shared} (h : ∀ a, g a = s.heap.get? a) : obsMG n fn xt g = (hookM n fn xt).obs s := by
  have e : g = s.heap.get? := funext h
  rw [e] <;> rfl
section
variable {fn : List He5.DefA} {xt : List FTs} {K : PySem.W.Frag}
theorem SaysM.test (c : SaysM fn xt K) (i : Nat) {t : FTs} (h : xt[i]? = some t := by rfl) : t K = true := by
  have c1 := (He.ba (show ((xt.all fun t => t K) && fn.all fun d => d.ok K) = true from congrArg (fun z : He.AlD => z.1) c)).1
  exact List.all_eq_true.mp c1 t (List.mem_of_getElem? h)
theorem SaysM.def_ (c : SaysM fn xt K) (i : Nat) {d : He5.DefA} (h : fn[i]? = some d := by rfl) : ∃ fd, FunD K d.name d.qual d.params d.body d.scope (d.dvs K) (d.kws K) (d.at_ K) fd := by
  have c2 := (He.ba (show ((xt.all fun t => t K) && fn.all fun d => d.ok K) = true from congrArg (fun z : He.AlD => z.1) c)).2
  have e : fn.map (fun d => He5.fnA K (d.at_ K)) = fn.map He5.DefA.val := congrArg (fun z : He.AlD => z.2) c
  have e2 : (fn.map fun d => He5.fnA K (d.at_ K))[i]? = (fn.map He5.DefA.val)[i]? := by rw [e]
  rw [List.getElem?_map, List.getElem?_map, h] at e2
  exact He5.DefA.funD (Option.some.inj e2) (List.all_eq_true.mp c2 d (List.mem_of_getElem? h))
end
/-- the tests of a class of one's own -/
def clsT (C : Str) : FTs := fun K => sclsB K (He.ga K C) && (isiB K (He.ga K C) && (kitB K (.ref (He.ga K C)) (.ref (He.ga K C)) true && (tags.all fun t => kitB K (.type t) (.ref (He.ga K C)) false) && He.Fa.ok K (.glo C)))
theorem cf_of {K : PySem.W.Frag} {mg : Str → Option Value} {h : Heap} {C : Str} (X : K.In h) (G : h.Ns mainGlobals mg) (ne : C ≠ ("" : Str)) (t : clsT C K = true) : CF K mg C := by
  obtain ⟨h1, t⟩ := He.ba t
  obtain ⟨h2, t⟩ := He.ba t
  obtain ⟨t, h5⟩ := He.ba t
  obtain ⟨h3, h4⟩ := He.ba t
  exact ⟨ne, scls_ok h1, isi_ok h2, kit_ok h3, fun t ht => kit_ok (List.all_eq_true.mp h4 t ht), He.glo_ok X G h5⟩
def slT (C f : Str) (i : Nat) : FTs := fun K => sclsB K (He.ga K C) && slotB K (He.ga K C) f i
theorem at_of {K : PySem.W.Frag} {C f : Str} {i : Nat} (ne : C ≠ ("" : Str)) (t : slT C f i K = true) : AtF K f (C, i) := by
  obtain ⟨h1, h2⟩ := He.ba t
  exact ⟨ne, scls_ok h1, slot_ok h2⟩
def prT (C f : Str) : FTs := fun K => propB K (He.ga K C) f
end Mi

set_option Elab.async false
set_option linter.all false
set_option maxRecDepth 100000
set_option maxHeartbeats 4000000
/-! running the small machine by simp -/
namespace Mi
open PySem PySem.Spec PyProof.Rows L2 My

theorem shM_int (i : Int) : shM (.int i) = some (.int i) := by
  simp [shM, datM, SeqAt.shaped, PyData.canLay0, PyData.depth]
theorem eqM_ii (i j : Int) : eqM (.int i) (.int j) = some (vB (decide (i = j))) := by
  simp only [eqM, shM_int, Option.bind_some, Option.map_some, PyData.eqv]
  congr 1
theorem neM_ii (i j : Int) : neM (.int i) (.int j) = some (vB (!decide (i = j))) := by
  simp only [neM, shM_int, Option.bind_some, Option.map_some, PyData.eqv]
  congr 1
theorem datsM_ints (ns : List Int) : datsM (ns.map MV.int) = some (ns.map PyData.int) := by
  induction ns with
  | nil => rfl
  | cons n ns ih => simp only [List.map_cons, datsM, datM, Option.bind_some, ih, Option.map_some]
theorem lay_ints (ns : List Int) : PyData.canLayAll0 (ns.map PyData.int) = true := by
  induction ns with
  | nil => rfl
  | cons n ns ih => simp only [List.map_cons, PyData.canLayAll0, PyData.canLay0, ih, Bool.and_self]
theorem depth_ints (ns : List Int) : PyData.depthAll (ns.map PyData.int) ≤ 1 := by
  induction ns with
  | nil => simp [PyData.depthAll]
  | cons n ns ih => simp only [List.map_cons, PyData.depthAll, PyData.depth]; omega
theorem eqv_ints : ∀ ns ms : List Int, PyData.eqvAll (ns.map PyData.int) (ms.map PyData.int) = decide (ns = ms)
  | [], [] => rfl
  | [], m :: ms => by simp [PyData.eqvAll]
  | n :: ns, [] => by simp [PyData.eqvAll]
  | n :: ns, m :: ms => by
    simp only [List.map_cons, PyData.eqvAll, PyData.eqv, eqv_ints ns ms]
    by_cases h : n = m <;> by_cases h2 : ns = ms <;> simp [h, h2]
theorem shM_tup (ns : List Int) : shM (.tup (ns.map MV.int)) = some (.tuple (ns.map .int)) := by
  have := depth_ints ns
  simp only [shM, datM, datsM_ints, Option.map_some, Option.bind_some, SeqAt.shaped, PyData.canLay0, lay_ints, PyData.depth, Bool.true_and]
  exact if_pos (decide_eq_true (by omega))
theorem shM_lst (ns : List Int) : shM (.lst (ns.map MV.int)) = some (.list (ns.map .int)) := by
  have := depth_ints ns
  simp only [shM, datM, datsM_ints, Option.map_some, Option.bind_some, SeqAt.shaped, PyData.canLay0, lay_ints, PyData.depth, Bool.true_and]
  exact if_pos (decide_eq_true (by omega))
theorem eqM_tt (ns ms : List Int) : eqM (.tup (ns.map MV.int)) (.tup (ms.map MV.int)) = some (vB (decide (ns = ms))) := by
  simp only [eqM, shM_tup, Option.bind_some, Option.map_some, PyData.eqv, eqv_ints]
theorem neM_tt (ns ms : List Int) : neM (.tup (ns.map MV.int)) (.tup (ms.map MV.int)) = some (vB (!decide (ns = ms))) := by
  simp only [neM, shM_tup, Option.bind_some, Option.map_some, PyData.eqv, eqv_ints]
theorem eqM_ll (ns ms : List Int) : eqM (.lst (ns.map MV.int)) (.lst (ms.map MV.int)) = some (vB (decide (ns = ms))) := by
  simp only [eqM, shM_lst, Option.bind_some, Option.map_some, PyData.eqv, eqv_ints]
theorem neM_ll (ns ms : List Int) : neM (.lst (ns.map MV.int)) (.lst (ms.map MV.int)) = some (vB (!decide (ns = ms))) := by
  simp only [neM, shM_lst, Option.bind_some, Option.map_some, PyData.eqv, eqv_ints]
theorem rangeM1_nat (n : Nat) (h : n < 2 ^ 62) : rangeM1 [.int (n : Int)] = some ((List.range n).map fun k => .int ((k : Nat) : Int)) := by
  simp only [rangeM1]
  rw [if_pos ⟨by omega, by omega⟩]
  simp
theorem rangeM2_nat (m n : Nat) (hm : m < 2 ^ 62) (h : n < 2 ^ 62) : rangeM2 [.int (m : Int), .int (n : Int)] = some ((List.range (n - m)).map fun k => .int ((m + k : Nat) : Int)) := by
  simp only [rangeM2]
  rw [if_pos ⟨by omega, by omega, by omega, by omega⟩]
  have e : ((n : Int) - m).toNat = n - m := by omega
  rw [e]
  simp
/-! ### loops -/
theorem forM_inv {t : Tg} {s : FS} {ms : List MV} {γ : Sg} (I : Nat → Sg → Prop) (h0 : I 0 γ)
    (hs : ∀ i m γ, ms[i]? = some m → I i γ → ∃ γ1 γ2, asgM t m γ = some γ1 ∧ (s γ1 = .nx γ2 ∨ s γ1 = .ct γ2) ∧ I (i + 1) γ2) : ∃ γ', forM t s ms γ = .nx γ' ∧ I ms.length γ' := by
  induction ms generalizing γ I with
  | nil => exact ⟨γ, rfl, h0⟩
  | cons m ms ih =>
    obtain ⟨γ1, γ2, e1, e2, h1⟩ := hs 0 m γ rfl h0
    obtain ⟨γ', e3, h2⟩ := ih (γ := γ2) (fun i => I (i + 1)) h1 fun i m' γ hm hi => hs (i + 1) m' γ (by simpa using hm) hi
    refine ⟨γ', ?_, h2⟩
    simp only [forM, e1]
    rcases e2 with e2 | e2 <;> rw [e2] <;> exact e3
theorem whileM_inv {t : FT} {s : FS} (I : Nat → Sg → Prop)
    (hs : ∀ k γ, I k γ → (∃ γ1, t γ = .ok false γ1 ∧ I 0 γ1 ∧ k = 0) ∨ ∃ γ1 γ2 k', t γ = .ok true γ1 ∧ (s γ1 = .nx γ2 ∨ s γ1 = .ct γ2) ∧ I k' γ2 ∧ k' < k) :
    ∀ n k γ, k < n → I k γ → ∃ γ', whileM t s n γ = .nx γ' ∧ ∃ γ1, t γ1 = .ok false γ' ∧ I 0 γ'
  | 0, k, γ, h, _ => absurd h (by omega)
  | n + 1, k, γ, h, hi => by
    rcases hs k γ hi with ⟨γ1, e, h1, _⟩ | ⟨γ1, γ2, k', e1, e2, h2, hk⟩
    · refine ⟨γ1, ?_, γ, e, h1⟩
      simp only [whileM, e]
    · obtain ⟨γ', e3, h3⟩ := whileM_inv I hs n k' γ2 (by omega) h2
      refine ⟨γ', ?_, h3⟩
      simp only [whileM, e1]
      rcases e2 with e2 | e2 <;> rw [e2] <;> exact e3
/-- .. a test that changes nothing -/
theorem whileP {t : Mi.FT} {s : FS} (I : Nat → Sg → Prop) (hs : ∀ k γ, I k γ → (k = 0 ∧ t γ = .ok false γ) ∨ (t γ = .ok true γ ∧ ∃ γ2 k', s γ = .nx γ2 ∧ I k' γ2 ∧ k' < k)) :
    ∀ n k γ, k < n → I k γ → ∃ γ', whileM t s n γ = .nx γ' ∧ I 0 γ' ∧ t γ' = .ok false γ'
  | 0, k, γ, h, _ => absurd h (by omega)
  | n + 1, k, γ, h, hi => by
    rcases hs k γ hi with ⟨rfl, e⟩ | ⟨e1, γ2, k', e2, h2, hk⟩
    · exact ⟨γ, by simp only [whileM, e], hi, e⟩
    · obtain ⟨γ', e3, h3⟩ := whileP I hs n k' γ2 (by omega) h2
      exact ⟨γ', by simp only [whileM, e1, e2]; exact e3, h3⟩
/-- .. a body that goes on -/
theorem forP {t : Tg} {s : FS} {ms : List MV} {γ : Sg} (I : Nat → Sg → Prop) (h0 : I 0 γ)
    (hs : ∀ i m γ, ms[i]? = some m → I i γ → ∃ γ1 γ2, asgM t m γ = some γ1 ∧ s γ1 = .nx γ2 ∧ I (i + 1) γ2) : ∃ γ', forM t s ms γ = .nx γ' ∧ I ms.length γ' :=
  forM_inv I h0 fun i m γ hm hi => let ⟨γ1, γ2, h1, h2, h3⟩ := hs i m γ hm hi; ⟨γ1, γ2, h1, .inl h2, h3⟩
/-! ### dice -/
def Dice (N : Nat) (d : MV) : Prop := ∃ (a b : Int) (c : Nat), d = .lst [.int a, .int b, .int c] ∧ c ≤ N
theorem Dice.mono {N N' : Nat} {d : MV} (h : Dice N d) (l : N ≤ N') : Dice N' d := by
  obtain ⟨a, b, c, e, hc⟩ := h
  exact ⟨a, b, c, e, by omega⟩
theorem log2_le {n k : Nat} (h : n < 2 ^ k) (hk : 0 < k) : n.log2 < k := by
  by_cases h0 : n = 0
  · subst h0; simpa using hk
  · exact (Nat.log2_lt h0).mpr h
end Mi

set_option Elab.async false
set_option linter.all false
set_option maxRecDepth 100000
set_option maxHeartbeats 1000000
namespace Pf
open PySem PySem.Spec PyProof.Rows L2 My Mi
theorem roll_ok {N : Nat} {d : MV} {n : Int} (hd : Dice N d) (hN : N < 2 ^ 64) (hn : 0 < n) (hl : n.natAbs.log2 < 9000) : ∃ r d', m_law_roll [d, .int n] = .rt (vI r) (some d') ∧ 0 ≤ r ∧ r < n ∧ Dice (N + 1) d' := by
  obtain ⟨a, b, c, rfl, hc⟩ := hd
  by_cases ha : 0 < a
  · refine ⟨a % n, .lst [.int (a / n), .int b, .int c], ?_, Int.emod_nonneg _ (by omega), Int.emod_lt_of_pos _ hn, a / n, b, c, rfl, by omega⟩
    simp [Mi.runM, Mi.finM, Mi.outG, Mi.initG, Mi.sSeq, Mi.sSet, Mi.sIf, Mi.sRet, Mi.sRetV, Mi.sRetN, Mi.sExpr, Mi.sNil, Mi.sPar, Mi.sPar3, Mi.put2, Mi.put3, Mi.sAug, Mi.sSt, Mi.sAsg, Mi.asgM, Mi.asgMs, Mi.sFor, Mi.sWhile, Mi.fSeq, Mi.seqM, Mi.fArgs, Mi.fEnum, Mi.fZip, Mi.walkable, Mi.sLend, Mi.sBreak, Mi.sCont, Mi.e1, Mi.e2, Mi.eC, Mi.eVar, Mi.eTup, Mi.eLst, Mi.aNil, Mi.aCons, Mi.eIf, Mi.eAn, Mi.eOr, Mi.eNt, Mi.eNew, Mi.eCall, Mi.eMeth, Mi.eProp, Mi.eMk, Mi.eMut, Mi.ePur, Mi.tB, Mi.tQ, Mi.tNt, Mi.tAn, Mi.tOrr, Mi.oEv, Mi.oGet, Mi.canSet, Mi.hasC, Mi.Kd.mine, Mi.isTy, Mi.isTyB, Mi.tbF, Mi.hNil, Mi.hCons, Mi.hHole, Mi.eCallIo, Mi.aStar, Mi.rowM, Mi.eTupD, Mi.addM, Mi.ltM, Mi.mulM, Mi.addI, Mi.subI, Mi.mulI, Mi.divI, Mi.modI, Mi.powI, Mi.ltI, Mi.leI, Mi.gtI, Mi.geI, Mi.iiM, Mi.negI, Mi.addS, Mi.addT, Mi.addL, Mi.ltT, Mi.repT, Mi.eqM_ii, Mi.neM_ii, Mi.eqM_tt, Mi.neM_tt, Mi.eqM_ll, Mi.neM_ll, Mi.isN, Mi.notN, Mi.nonB, Mi.inM, Mi.inDt, Mi.inS, Mi.inL, Mi.lenM, Mi.lenS, Mi.lenT, Mi.lenD, Mi.absM, Mi.maxII, Mi.minII, Mi.intM, Mi.boolM, Mi.intsM, Mi.blsM, Mi.sumM, Mi.allM, Mi.anyM, Mi.maxM, Mi.minM, Mi.sortM, Mi.tupM, Mi.lstM, Mi.listM, Mi.lstD, Mi.atM, Mi.ixM, atI, ixN, Mi.stM, Mi.truM, Mi.appM, Mi.popM, Mi.slLo, Mi.slHi, Mi.slM, Mi.revM, Mi.atrM, Mi.cutM, m_law_roll, b_law_roll, ha, hn, CDivW, hl]
  · have h1 : CMulW 86028157 ((c : Int) + 1) := by
      unfold CMulW
      have := log2_le (n := ((c : Int) + 1).natAbs) (k := 65) (by omega) (by omega)
      have e : (86028157 : Int).natAbs.log2 = 26 := by decide +kernel
      omega
    have h2 : CMulW 179 ((c : Int) + 1) := by
      unfold CMulW
      have := log2_le (n := ((c : Int) + 1).natAbs) (k := 65) (by omega) (by omega)
      have e : (179 : Int).natAbs.log2 = 7 := by decide +kernel
      omega
    have h3 : ∀ x : Int, 0 ≤ x → x < 2305843009213693951 → CMulW x x := fun x h h' => by
      unfold CMulW
      have := log2_le (n := x.natAbs) (k := 61) (by omega) (by omega)
      omega
    have h4 : ∀ x : Int, 0 ≤ x → x < 2305843009213693951 → CMulW x 15485867 := fun x h h' => by
      unfold CMulW
      have := log2_le (n := x.natAbs) (k := 61) (by omega) (by omega)
      have e : (15485867 : Int).natAbs.log2 = 23 := by decide +kernel
      omega
    have g1 : ∀ x : Int, 0 ≤ x % 2305843009213693951 ∧ x % 2305843009213693951 < 2305843009213693951 := fun x => ⟨Int.emod_nonneg _ (by decide), Int.emod_lt_of_pos _ (by decide)⟩
    have g2 : ∀ x : Int, 0 ≤ x % 2305843009213693907 ∧ x % 2305843009213693907 < 2305843009213693951 := fun x => ⟨Int.emod_nonneg _ (by decide), by have := Int.emod_lt_of_pos x (b := 2305843009213693907) (by decide); omega⟩
    have h5 : ∀ x : Int, CDivW x 65579 := fun x => by
      unfold CDivW
      decide +kernel
    have h6 : CMulW ((b + 86028157 * ((c : Int) + 1)) % 2305843009213693951) ((b + 86028157 * ((c : Int) + 1)) % 2305843009213693951) := h3 _ (g1 _).1 (g1 _).2
    refine ⟨_, .lst [.int a, .int b, .int ((c : Int) + 1)], (?_ : _ = RF.rt (vI ((((((b + 86028157 * ((c : Int) + 1)) % 2305843009213693951) * ((b + 86028157 * ((c : Int) + 1)) % 2305843009213693951) + 179 * ((c : Int) + 1)) % 2305843009213693907 * 15485867 + (b + 86028157 * ((c : Int) + 1)) % 2305843009213693951) / 65579) % n)) _), Int.emod_nonneg _ (by omega), Int.emod_lt_of_pos _ hn, a, b, c + 1, rfl, by omega⟩
    have h7 := h4 _ (g2 (((b + 86028157 * ((c : Int) + 1)) % 2305843009213693951) * ((b + 86028157 * ((c : Int) + 1)) % 2305843009213693951) + 179 * ((c : Int) + 1))).1 (g2 _).2
    simp [Mi.runM, Mi.finM, Mi.outG, Mi.initG, Mi.sSeq, Mi.sSet, Mi.sIf, Mi.sRet, Mi.sRetV, Mi.sRetN, Mi.sExpr, Mi.sNil, Mi.sPar, Mi.sPar3, Mi.put2, Mi.put3, Mi.sAug, Mi.sSt, Mi.sAsg, Mi.asgM, Mi.asgMs, Mi.sFor, Mi.sWhile, Mi.fSeq, Mi.seqM, Mi.fArgs, Mi.fEnum, Mi.fZip, Mi.walkable, Mi.sLend, Mi.sBreak, Mi.sCont, Mi.e1, Mi.e2, Mi.eC, Mi.eVar, Mi.eTup, Mi.eLst, Mi.aNil, Mi.aCons, Mi.eIf, Mi.eAn, Mi.eOr, Mi.eNt, Mi.eNew, Mi.eCall, Mi.eMeth, Mi.eProp, Mi.eMk, Mi.eMut, Mi.ePur, Mi.tB, Mi.tQ, Mi.tNt, Mi.tAn, Mi.tOrr, Mi.oEv, Mi.oGet, Mi.canSet, Mi.hasC, Mi.Kd.mine, Mi.isTy, Mi.isTyB, Mi.tbF, Mi.hNil, Mi.hCons, Mi.hHole, Mi.eCallIo, Mi.aStar, Mi.rowM, Mi.eTupD, Mi.addM, Mi.ltM, Mi.mulM, Mi.addI, Mi.subI, Mi.mulI, Mi.divI, Mi.modI, Mi.powI, Mi.ltI, Mi.leI, Mi.gtI, Mi.geI, Mi.iiM, Mi.negI, Mi.addS, Mi.addT, Mi.addL, Mi.ltT, Mi.repT, Mi.eqM_ii, Mi.neM_ii, Mi.eqM_tt, Mi.neM_tt, Mi.eqM_ll, Mi.neM_ll, Mi.isN, Mi.notN, Mi.nonB, Mi.inM, Mi.inDt, Mi.inS, Mi.inL, Mi.lenM, Mi.lenS, Mi.lenT, Mi.lenD, Mi.absM, Mi.maxII, Mi.minII, Mi.intM, Mi.boolM, Mi.intsM, Mi.blsM, Mi.sumM, Mi.allM, Mi.anyM, Mi.maxM, Mi.minM, Mi.sortM, Mi.tupM, Mi.lstM, Mi.listM, Mi.lstD, Mi.atM, Mi.ixM, atI, ixN, Mi.stM, Mi.truM, Mi.appM, Mi.popM, Mi.slLo, Mi.slHi, Mi.slM, Mi.revM, Mi.atrM, Mi.cutM, m_law_roll, b_law_roll, ha, hn, hl, h1, h2, h6, h7, h5]
theorem dice_ok (ns : List Int) (k : Nat) (hl : ns.length ≤ 63) (hk : k ≤ 5) : ∃ d, m_law_dice [.lst (ns.map .int), .int k] = .rt ⟨.own, d⟩ none ∧ Dice 0 d := by
  have h1 : CPowW 10 54 := by decide +kernel
  have h2 : CPowW 1000000000000000000000000000000000000000000000000000000 6 := by decide +kernel
  have h3 : CPowW 10 16 := by decide +kernel
  have hm : CMulW 743 (k : Int) := by
    unfold CMulW
    have := log2_le (n := ((k : Int)).natAbs) (k := 65) (by omega) (by omega)
    have e : (743 : Int).natAbs.log2 = 9 := by decide +kernel
    omega
  have hm1 : CMulW 149 (k : Int) := by
    unfold CMulW
    have := log2_le (n := ((k : Int)).natAbs) (k := 65) (by omega) (by omega)
    have e : (149 : Int).natAbs.log2 = 7 := by decide +kernel
    omega
  have hm2 : ∀ y : Int, CMulW (y % 2305843009213693921) 67 := fun y => by
    unfold CMulW
    have := Int.emod_nonneg y (b := 2305843009213693921) (by decide)
    have := Int.emod_lt_of_pos y (b := 2305843009213693921) (by decide)
    have := log2_le (n := (y % 2305843009213693921).natAbs) (k := 61) (by omega) (by omega)
    have e : (67 : Int).natAbs.log2 = 6 := by decide +kernel
    omega
  have hm3 : ∀ b : Bool, CMulW 37 (if b = true then 1 else 0) := fun b => by cases b <;> decide +kernel
  have hm4 : ∀ x : Int, CMulW 37 (if x < 0 then 1 else 0) := fun x => by split <;> decide +kernel
  have hp : (0 : Int) < (10 ^ 54) ^ 6 := by decide +kernel
  have key : ∃ a b : Int, m_law_dice [.lst (ns.map .int), .int k] = .rt ⟨.own, .lst [.int a, .int b, .int 0]⟩ none := by
    by_cases hlt : k < ns.length
    · simp [Mi.runM, Mi.finM, Mi.outG, Mi.initG, Mi.sSeq, Mi.sSet, Mi.sIf, Mi.sRet, Mi.sRetV, Mi.sRetN, Mi.sExpr, Mi.sNil, Mi.sPar, Mi.sPar3, Mi.put2, Mi.put3, Mi.sAug, Mi.sSt, Mi.sAsg, Mi.asgM, Mi.asgMs, Mi.sFor, Mi.sWhile, Mi.fSeq, Mi.seqM, Mi.fArgs, Mi.fEnum, Mi.fZip, Mi.walkable, Mi.sLend, Mi.sBreak, Mi.sCont, Mi.e1, Mi.e2, Mi.eC, Mi.eVar, Mi.eTup, Mi.eLst, Mi.aNil, Mi.aCons, Mi.eIf, Mi.eAn, Mi.eOr, Mi.eNt, Mi.eNew, Mi.eCall, Mi.eMeth, Mi.eProp, Mi.eMk, Mi.eMut, Mi.ePur, Mi.tB, Mi.tQ, Mi.tNt, Mi.tAn, Mi.tOrr, Mi.oEv, Mi.oGet, Mi.canSet, Mi.hasC, Mi.Kd.mine, Mi.isTy, Mi.isTyB, Mi.tbF, Mi.hNil, Mi.hCons, Mi.hHole, Mi.eCallIo, Mi.aStar, Mi.rowM, Mi.eTupD, Mi.addM, Mi.ltM, Mi.mulM, Mi.addI, Mi.subI, Mi.mulI, Mi.divI, Mi.modI, Mi.powI, Mi.ltI, Mi.leI, Mi.gtI, Mi.geI, Mi.iiM, Mi.negI, Mi.addS, Mi.addT, Mi.addL, Mi.ltT, Mi.repT, Mi.eqM_ii, Mi.neM_ii, Mi.eqM_tt, Mi.neM_tt, Mi.eqM_ll, Mi.neM_ll, Mi.isN, Mi.notN, Mi.nonB, Mi.inM, Mi.inDt, Mi.inS, Mi.inL, Mi.lenM, Mi.lenS, Mi.lenT, Mi.lenD, Mi.absM, Mi.maxII, Mi.minII, Mi.intM, Mi.boolM, Mi.intsM, Mi.blsM, Mi.sumM, Mi.allM, Mi.anyM, Mi.maxM, Mi.minM, Mi.sortM, Mi.tupM, Mi.lstM, Mi.listM, Mi.lstD, Mi.atM, Mi.ixM, atI, ixN, Mi.stM, Mi.truM, Mi.appM, Mi.popM, Mi.slLo, Mi.slHi, Mi.slM, Mi.revM, Mi.atrM, Mi.cutM, m_law_dice, b_law_dice, hlt, h1, h2, h3, hm, hm2, hm3, hm4, hp]
    · simp [Mi.runM, Mi.finM, Mi.outG, Mi.initG, Mi.sSeq, Mi.sSet, Mi.sIf, Mi.sRet, Mi.sRetV, Mi.sRetN, Mi.sExpr, Mi.sNil, Mi.sPar, Mi.sPar3, Mi.put2, Mi.put3, Mi.sAug, Mi.sSt, Mi.sAsg, Mi.asgM, Mi.asgMs, Mi.sFor, Mi.sWhile, Mi.fSeq, Mi.seqM, Mi.fArgs, Mi.fEnum, Mi.fZip, Mi.walkable, Mi.sLend, Mi.sBreak, Mi.sCont, Mi.e1, Mi.e2, Mi.eC, Mi.eVar, Mi.eTup, Mi.eLst, Mi.aNil, Mi.aCons, Mi.eIf, Mi.eAn, Mi.eOr, Mi.eNt, Mi.eNew, Mi.eCall, Mi.eMeth, Mi.eProp, Mi.eMk, Mi.eMut, Mi.ePur, Mi.tB, Mi.tQ, Mi.tNt, Mi.tAn, Mi.tOrr, Mi.oEv, Mi.oGet, Mi.canSet, Mi.hasC, Mi.Kd.mine, Mi.isTy, Mi.isTyB, Mi.tbF, Mi.hNil, Mi.hCons, Mi.hHole, Mi.eCallIo, Mi.aStar, Mi.rowM, Mi.eTupD, Mi.addM, Mi.ltM, Mi.mulM, Mi.addI, Mi.subI, Mi.mulI, Mi.divI, Mi.modI, Mi.powI, Mi.ltI, Mi.leI, Mi.gtI, Mi.geI, Mi.iiM, Mi.negI, Mi.addS, Mi.addT, Mi.addL, Mi.ltT, Mi.repT, Mi.eqM_ii, Mi.neM_ii, Mi.eqM_tt, Mi.neM_tt, Mi.eqM_ll, Mi.neM_ll, Mi.isN, Mi.notN, Mi.nonB, Mi.inM, Mi.inDt, Mi.inS, Mi.inL, Mi.lenM, Mi.lenS, Mi.lenT, Mi.lenD, Mi.absM, Mi.maxII, Mi.minII, Mi.intM, Mi.boolM, Mi.intsM, Mi.blsM, Mi.sumM, Mi.allM, Mi.anyM, Mi.maxM, Mi.minM, Mi.sortM, Mi.tupM, Mi.lstM, Mi.listM, Mi.lstD, Mi.atM, Mi.ixM, atI, ixN, Mi.stM, Mi.truM, Mi.appM, Mi.popM, Mi.slLo, Mi.slHi, Mi.slM, Mi.revM, Mi.atrM, Mi.cutM, m_law_dice, b_law_dice, hlt, h1, h2, h3, hm, hm1, hm2, hm3, hm4, hp]
  obtain ⟨a, b, e⟩ := key
  exact ⟨_, e, a, b, 0, rfl, by omega⟩
theorem great_ok {N : Nat} {d : MV} (hd : Dice N d) (hN : N + 20 < 2 ^ 64) : ∃ r d', m_law_great [d] = .rt (vI r) (some d') ∧ 0 ≤ r ∧ r < 10 ^ 54 ∧ Dice (N + 10) d' := by
  obtain ⟨w, d1, e1, w0, w1, hd1⟩ := roll_ok hd (n := 4) (by omega) (by omega) (by decide +kernel)
  by_cases h2 : w < 2
  · obtain ⟨r, d2, e2, r0, r1, hd2⟩ := roll_ok hd1 (n := 40) (by omega) (by omega) (by decide +kernel)
    refine ⟨r, d2, ?_, r0, by omega, hd2.mono (by omega)⟩
    simp [Mi.runM, Mi.finM, Mi.outG, Mi.initG, Mi.sSeq, Mi.sSet, Mi.sIf, Mi.sRet, Mi.sRetV, Mi.sRetN, Mi.sExpr, Mi.sNil, Mi.sPar, Mi.sPar3, Mi.put2, Mi.put3, Mi.sAug, Mi.sSt, Mi.sAsg, Mi.asgM, Mi.asgMs, Mi.sFor, Mi.sWhile, Mi.fSeq, Mi.seqM, Mi.fArgs, Mi.fEnum, Mi.fZip, Mi.walkable, Mi.sLend, Mi.sBreak, Mi.sCont, Mi.e1, Mi.e2, Mi.eC, Mi.eVar, Mi.eTup, Mi.eLst, Mi.aNil, Mi.aCons, Mi.eIf, Mi.eAn, Mi.eOr, Mi.eNt, Mi.eNew, Mi.eCall, Mi.eMeth, Mi.eProp, Mi.eMk, Mi.eMut, Mi.ePur, Mi.tB, Mi.tQ, Mi.tNt, Mi.tAn, Mi.tOrr, Mi.oEv, Mi.oGet, Mi.canSet, Mi.hasC, Mi.Kd.mine, Mi.isTy, Mi.isTyB, Mi.tbF, Mi.hNil, Mi.hCons, Mi.hHole, Mi.eCallIo, Mi.aStar, Mi.rowM, Mi.eTupD, Mi.addM, Mi.ltM, Mi.mulM, Mi.addI, Mi.subI, Mi.mulI, Mi.divI, Mi.modI, Mi.powI, Mi.ltI, Mi.leI, Mi.gtI, Mi.geI, Mi.iiM, Mi.negI, Mi.addS, Mi.addT, Mi.addL, Mi.ltT, Mi.repT, Mi.eqM_ii, Mi.neM_ii, Mi.eqM_tt, Mi.neM_tt, Mi.eqM_ll, Mi.neM_ll, Mi.isN, Mi.notN, Mi.nonB, Mi.inM, Mi.inDt, Mi.inS, Mi.inL, Mi.lenM, Mi.lenS, Mi.lenT, Mi.lenD, Mi.absM, Mi.maxII, Mi.minII, Mi.intM, Mi.boolM, Mi.intsM, Mi.blsM, Mi.sumM, Mi.allM, Mi.anyM, Mi.maxM, Mi.minM, Mi.sortM, Mi.tupM, Mi.lstM, Mi.listM, Mi.lstD, Mi.atM, Mi.ixM, atI, ixN, Mi.stM, Mi.truM, Mi.appM, Mi.popM, Mi.slLo, Mi.slHi, Mi.slM, Mi.revM, Mi.atrM, Mi.cutM, m_law_great, b_law_great, e1, e2, h2]
  · by_cases h3 : w = 2
    · obtain ⟨r, d2, e2, r0, r1, hd2⟩ := roll_ok hd1 (n := 1000000) (by omega) (by omega) (by decide +kernel)
      refine ⟨r, d2, ?_, r0, by omega, hd2.mono (by omega)⟩
      subst h3
      have hp : CPowW 10 6 := by decide +kernel
      simp [Mi.runM, Mi.finM, Mi.outG, Mi.initG, Mi.sSeq, Mi.sSet, Mi.sIf, Mi.sRet, Mi.sRetV, Mi.sRetN, Mi.sExpr, Mi.sNil, Mi.sPar, Mi.sPar3, Mi.put2, Mi.put3, Mi.sAug, Mi.sSt, Mi.sAsg, Mi.asgM, Mi.asgMs, Mi.sFor, Mi.sWhile, Mi.fSeq, Mi.seqM, Mi.fArgs, Mi.fEnum, Mi.fZip, Mi.walkable, Mi.sLend, Mi.sBreak, Mi.sCont, Mi.e1, Mi.e2, Mi.eC, Mi.eVar, Mi.eTup, Mi.eLst, Mi.aNil, Mi.aCons, Mi.eIf, Mi.eAn, Mi.eOr, Mi.eNt, Mi.eNew, Mi.eCall, Mi.eMeth, Mi.eProp, Mi.eMk, Mi.eMut, Mi.ePur, Mi.tB, Mi.tQ, Mi.tNt, Mi.tAn, Mi.tOrr, Mi.oEv, Mi.oGet, Mi.canSet, Mi.hasC, Mi.Kd.mine, Mi.isTy, Mi.isTyB, Mi.tbF, Mi.hNil, Mi.hCons, Mi.hHole, Mi.eCallIo, Mi.aStar, Mi.rowM, Mi.eTupD, Mi.addM, Mi.ltM, Mi.mulM, Mi.addI, Mi.subI, Mi.mulI, Mi.divI, Mi.modI, Mi.powI, Mi.ltI, Mi.leI, Mi.gtI, Mi.geI, Mi.iiM, Mi.negI, Mi.addS, Mi.addT, Mi.addL, Mi.ltT, Mi.repT, Mi.eqM_ii, Mi.neM_ii, Mi.eqM_tt, Mi.neM_tt, Mi.eqM_ll, Mi.neM_ll, Mi.isN, Mi.notN, Mi.nonB, Mi.inM, Mi.inDt, Mi.inS, Mi.inL, Mi.lenM, Mi.lenS, Mi.lenT, Mi.lenD, Mi.absM, Mi.maxII, Mi.minII, Mi.intM, Mi.boolM, Mi.intsM, Mi.blsM, Mi.sumM, Mi.allM, Mi.anyM, Mi.maxM, Mi.minM, Mi.sortM, Mi.tupM, Mi.lstM, Mi.listM, Mi.lstD, Mi.atM, Mi.ixM, atI, ixN, Mi.stM, Mi.truM, Mi.appM, Mi.popM, Mi.slLo, Mi.slHi, Mi.slM, Mi.revM, Mi.atrM, Mi.cutM, m_law_great, b_law_great, e1, e2, hp]
    · have hp : CPowW 10 6 := by decide +kernel
      have hi := forM_inv (t := .nm 3) (ms := (List.range 9).map fun k => .int ((k : Nat) : Int)) (γ := [some ⟨.io, d1⟩, some ⟨.val, .int w⟩, some ⟨.val, .int 0⟩, none])
        (s := l_law_great_1)
        (fun i γ => ∃ (f : Int) (d : MV) (t : Option Cell), γ = [some ⟨.io, d⟩, some ⟨.val, .int w⟩, some ⟨.val, .int f⟩, t] ∧ (t = none ∨ ∃ c, t = some ⟨.val, c⟩) ∧ 0 ≤ f ∧ f < 10 ^ (6 * i) ∧ i ≤ 9 ∧ Dice (N + 1 + i) d)
        ⟨0, d1, none, rfl, .inl rfl, by omega, by decide, by omega, hd1⟩ (by
          rintro i m _ hm ⟨f, d, t, rfl, ht, f0, f1, i9, hd⟩
          have hi : i < 9 := by
            have := (List.getElem?_eq_some_iff.mp hm).1
            simpa using this
          obtain ⟨r, d', e2, r0, r1, hd'⟩ := roll_ok hd (n := 1000000) (by omega) (by omega) (by decide +kernel)
          have hmul : CMulW f 1000000 := by
            unfold CMulW
            have b1 : f < 2 ^ 200 := Int.lt_of_lt_of_le f1 (by
              rcases (by omega : i = 0 ∨ i = 1 ∨ i = 2 ∨ i = 3 ∨ i = 4 ∨ i = 5 ∨ i = 6 ∨ i = 7 ∨ i = 8) with rfl | rfl | rfl | rfl | rfl | rfl | rfl | rfl | rfl <;> decide +kernel)
            have := log2_le (n := f.natAbs) (k := 200) (by omega) (by omega)
            have e : (1000000 : Int).natAbs.log2 = 19 := by decide +kernel
            omega
          refine ⟨[some ⟨.io, d⟩, some ⟨.val, .int w⟩, some ⟨.val, .int f⟩, some ⟨.val, m⟩], [some ⟨.io, d'⟩, some ⟨.val, .int w⟩, some ⟨.val, .int (f * 1000000 + r)⟩, some ⟨.val, m⟩], ?_, .inl ?_, f * 1000000 + r, d', _, rfl, .inr ⟨m, rfl⟩, by omega, ?_, by omega, hd'.mono (by omega)⟩
          · rcases ht with rfl | ⟨c, rfl⟩ <;> rfl
          · simp [Mi.runM, Mi.finM, Mi.outG, Mi.initG, Mi.sSeq, Mi.sSet, Mi.sIf, Mi.sRet, Mi.sRetV, Mi.sRetN, Mi.sExpr, Mi.sNil, Mi.sPar, Mi.sPar3, Mi.put2, Mi.put3, Mi.sAug, Mi.sSt, Mi.sAsg, Mi.asgM, Mi.asgMs, Mi.sFor, Mi.sWhile, Mi.fSeq, Mi.seqM, Mi.fArgs, Mi.fEnum, Mi.fZip, Mi.walkable, Mi.sLend, Mi.sBreak, Mi.sCont, Mi.e1, Mi.e2, Mi.eC, Mi.eVar, Mi.eTup, Mi.eLst, Mi.aNil, Mi.aCons, Mi.eIf, Mi.eAn, Mi.eOr, Mi.eNt, Mi.eNew, Mi.eCall, Mi.eMeth, Mi.eProp, Mi.eMk, Mi.eMut, Mi.ePur, Mi.tB, Mi.tQ, Mi.tNt, Mi.tAn, Mi.tOrr, Mi.oEv, Mi.oGet, Mi.canSet, Mi.hasC, Mi.Kd.mine, Mi.isTy, Mi.isTyB, Mi.tbF, Mi.hNil, Mi.hCons, Mi.hHole, Mi.eCallIo, Mi.aStar, Mi.rowM, Mi.eTupD, Mi.addM, Mi.ltM, Mi.mulM, Mi.addI, Mi.subI, Mi.mulI, Mi.divI, Mi.modI, Mi.powI, Mi.ltI, Mi.leI, Mi.gtI, Mi.geI, Mi.iiM, Mi.negI, Mi.addS, Mi.addT, Mi.addL, Mi.ltT, Mi.repT, Mi.eqM_ii, Mi.neM_ii, Mi.eqM_tt, Mi.neM_tt, Mi.eqM_ll, Mi.neM_ll, Mi.isN, Mi.notN, Mi.nonB, Mi.inM, Mi.inDt, Mi.inS, Mi.inL, Mi.lenM, Mi.lenS, Mi.lenT, Mi.lenD, Mi.absM, Mi.maxII, Mi.minII, Mi.intM, Mi.boolM, Mi.intsM, Mi.blsM, Mi.sumM, Mi.allM, Mi.anyM, Mi.maxM, Mi.minM, Mi.sortM, Mi.tupM, Mi.lstM, Mi.listM, Mi.lstD, Mi.atM, Mi.ixM, atI, ixN, Mi.stM, Mi.truM, Mi.appM, Mi.popM, Mi.slLo, Mi.slHi, Mi.slM, Mi.revM, Mi.atrM, Mi.cutM, l_law_great_1, e2, hp, hmul]
          · have : (10 : Int) ^ (6 * (i + 1)) = 10 ^ (6 * i) * 1000000 := by rw [show 6 * (i + 1) = 6 * i + 6 by omega, Int.pow_add, show (10 : Int) ^ 6 = 1000000 from by decide]
            omega)
      obtain ⟨γ', e3, f, d2, t, rfl, _, f0, f1, _, hd2⟩ := hi
      refine ⟨f, d2, ?_, f0, by simpa using f1, hd2.mono (by simp)⟩
      have hr : rangeM1 [.int 9] = some ((List.range 9).map fun k => .int ((k : Nat) : Int)) := rangeM1_nat 9 (by omega)
      have h3' : (w == 2) = false := by simpa using h3
      simp [Mi.runM, Mi.finM, Mi.outG, Mi.initG, Mi.sSeq, Mi.sSet, Mi.sIf, Mi.sRet, Mi.sRetV, Mi.sRetN, Mi.sExpr, Mi.sNil, Mi.sPar, Mi.sPar3, Mi.put2, Mi.put3, Mi.sAug, Mi.sSt, Mi.sAsg, Mi.asgM, Mi.asgMs, Mi.sFor, Mi.sWhile, Mi.fSeq, Mi.seqM, Mi.fArgs, Mi.fEnum, Mi.fZip, Mi.walkable, Mi.sLend, Mi.sBreak, Mi.sCont, Mi.e1, Mi.e2, Mi.eC, Mi.eVar, Mi.eTup, Mi.eLst, Mi.aNil, Mi.aCons, Mi.eIf, Mi.eAn, Mi.eOr, Mi.eNt, Mi.eNew, Mi.eCall, Mi.eMeth, Mi.eProp, Mi.eMk, Mi.eMut, Mi.ePur, Mi.tB, Mi.tQ, Mi.tNt, Mi.tAn, Mi.tOrr, Mi.oEv, Mi.oGet, Mi.canSet, Mi.hasC, Mi.Kd.mine, Mi.isTy, Mi.isTyB, Mi.tbF, Mi.hNil, Mi.hCons, Mi.hHole, Mi.eCallIo, Mi.aStar, Mi.rowM, Mi.eTupD, Mi.addM, Mi.ltM, Mi.mulM, Mi.addI, Mi.subI, Mi.mulI, Mi.divI, Mi.modI, Mi.powI, Mi.ltI, Mi.leI, Mi.gtI, Mi.geI, Mi.iiM, Mi.negI, Mi.addS, Mi.addT, Mi.addL, Mi.ltT, Mi.repT, Mi.eqM_ii, Mi.neM_ii, Mi.eqM_tt, Mi.neM_tt, Mi.eqM_ll, Mi.neM_ll, Mi.isN, Mi.notN, Mi.nonB, Mi.inM, Mi.inDt, Mi.inS, Mi.inL, Mi.lenM, Mi.lenS, Mi.lenT, Mi.lenD, Mi.absM, Mi.maxII, Mi.minII, Mi.intM, Mi.boolM, Mi.intsM, Mi.blsM, Mi.sumM, Mi.allM, Mi.anyM, Mi.maxM, Mi.minM, Mi.sortM, Mi.tupM, Mi.lstM, Mi.listM, Mi.lstD, Mi.atM, Mi.ixM, atI, ixN, Mi.stM, Mi.truM, Mi.appM, Mi.popM, Mi.slLo, Mi.slHi, Mi.slM, Mi.revM, Mi.atrM, Mi.cutM, m_law_great, b_law_great, e1, h2, h3, h3', hr, e3]
end Pf

set_option Elab.async false
set_option linter.all false
set_option maxRecDepth 100000
set_option maxHeartbeats 4000000
/-! numbers, digits, machines: plain -/
namespace Mi
open PySem PySem.Spec PyProof.Rows L2 My

abbrev iv (n : Nat) : MV := .int (n : Int)
abbrev tv (l : List Nat) : MV := .tup (l.map iv)
abbrev rv (rows : List (List Nat)) : MV := .tup (rows.map tv)
/-- the digits, the lowest first -/
def lds (b p : Nat) : List Nat := if h : 2 ≤ b ∧ 0 < p then p % b :: lds b (p / b) else []
termination_by p
decreasing_by exact Nat.div_lt_self h.2 h.1
theorem lds_zero {b : Nat} : lds b 0 = [] := by
  rw [lds, dif_neg]
  omega
theorem lds_pos {b p : Nat} (hb : 2 ≤ b) (h : 0 < p) : lds b p = p % b :: lds b (p / b) := by
  rw [lds, dif_pos ⟨hb, h⟩]
theorem lds_len {b : Nat} (hb : 2 ≤ b) : ∀ {k p : Nat}, p < 2 ^ k → (lds b p).length ≤ k := by
  intro k
  induction k with
  | zero =>
    intro p h
    have : p = 0 := by omega
    subst this
    rw [lds_zero]
    exact Nat.le_refl _
  | succ k ih =>
    intro p h
    by_cases hp : 0 < p
    · rw [lds_pos hb hp, List.length_cons]
      have : p / b < 2 ^ k := by
        have h1 : p / b ≤ p / 2 := Nat.div_le_div_left hb (by omega)
        have h2 : p / 2 < 2 ^ k := by omega
        omega
      have := ih this
      omega
    · have : p = 0 := by omega
      subst this
      rw [lds_zero]
      exact Nat.zero_le _
theorem lds_nil {b p : Nat} (hb : 2 ≤ b) (h : (lds b p).length = 0) : p = 0 := by
  by_cases hp : 0 < p
  · rw [lds_pos hb hp] at h
    cases h
  · omega
theorem lds_lt {b : Nat} (hb : 2 ≤ b) : ∀ p, ∀ d ∈ lds b p, d < b := by
  intro p
  induction p using Nat.strongRecOn with
  | ind p ih =>
    by_cases hp : 0 < p
    · rw [lds_pos hb hp]
      intro d hd
      rcases List.mem_cons.mp hd with rfl | hd
      · exact Nat.mod_lt _ (by omega)
      · exact ih (p / b) (Nat.div_lt_self hp hb) d hd
    · have : p = 0 := by omega
      subst this
      rw [lds_zero]
      intro d hd
      cases hd
def digs (b p : Nat) : List Nat := (lds b p).reverse
/-- a step of a machine -/
def stp (rows : List (List Nat)) (s d : Nat) : Nat := (rows.getD s []).getD d 0
def stOf (rows : List (List Nat)) (ds : List Nat) : Nat := ds.foldl (stp rows) 0
def stAt (rows : List (List Nat)) (b p : Nat) : Nat := stOf rows (digs b p)
theorem stAt_zero {rows : List (List Nat)} {b : Nat} : stAt rows b 0 = 0 := by
  unfold stAt digs stOf
  rw [lds_zero]
  rfl
theorem stAt_pos {rows : List (List Nat)} {b p : Nat} (hb : 2 ≤ b) (h : 0 < p) : stAt rows b p = stp rows (stAt rows b (p / b)) (p % b) := by
  unfold stAt digs stOf
  rw [lds_pos hb h, List.reverse_cons, List.foldl_append]
  rfl
/-- n states, b digits -/
structure Mach (b : Nat) (rows : List (List Nat)) (lets : List Nat) : Prop where
  hb : 2 ≤ b
  ne : 0 < rows.length
  row : ∀ r ∈ rows, r.length = b ∧ ∀ s ∈ r, s < rows.length
  len : lets.length = rows.length
theorem Mach.stp {b : Nat} {rows : List (List Nat)} {lets : List Nat} (M : Mach b rows lets) {s d : Nat} (hs : s < rows.length) (hd : d < b) : Mi.stp rows s d < rows.length := by
  unfold Mi.stp
  have h1 := M.row _ (List.getElem_mem hs)
  have e1 : rows.getD s [] = rows[s] := by
    rw [List.getD_eq_getElem?_getD, List.getElem?_eq_getElem hs]
    rfl
  have hd' : d < (rows[s]).length := by rw [h1.1]; exact hd
  have e2 : (rows[s]).getD d 0 = (rows[s])[d] := by
    rw [List.getD_eq_getElem?_getD, List.getElem?_eq_getElem hd']
    rfl
  rw [e1, e2]
  exact h1.2 _ (List.getElem_mem _)
theorem Mach.fold {b : Nat} {rows : List (List Nat)} {lets : List Nat} (M : Mach b rows lets) : ∀ {ds : List Nat} {s : Nat}, s < rows.length → (∀ d ∈ ds, d < b) → ds.foldl (Mi.stp rows) s < rows.length
  | [], s, hs, _ => hs
  | d :: ds, s, hs, h => M.fold (ds := ds) (s := Mi.stp rows s d) (M.stp hs (h d List.mem_cons_self)) fun e he => h e (List.mem_cons_of_mem _ he)
theorem Mach.stAt {b : Nat} {rows : List (List Nat)} {lets : List Nat} (M : Mach b rows lets) (p : Nat) : Mi.stAt rows b p < rows.length :=
  M.fold M.ne fun d hd => lds_lt M.hb p d (List.mem_reverse.mp hd)
/-- an index that is a number -/
theorem atI_nat {α : Type} (xs : List α) (k : Nat) : atI xs ((k : Nat) : Int) = xs[k]? := by
  unfold atI ixN
  rw [if_pos (by omega)]
  by_cases h : k < xs.length
  · rw [if_pos (by omega)]
    rfl
  · rw [if_neg (by omega), List.getElem?_eq_none (by omega)]
    rfl
theorem atM_tup (xs : List MV) (k : Nat) (h : k < xs.length) : atM (.tup xs) (.int ((k : Nat) : Int)) = some (vV xs[k]) := by
  unfold atM ixM
  simp only [atI_nat, List.getElem?_eq_getElem h]
  rfl
theorem atM_lst (xs : List MV) (k : Nat) (h : k < xs.length) : atM (.lst xs) (.int ((k : Nat) : Int)) = some (vV xs[k]) := by
  unfold atM ixM
  simp only [atI_nat, List.getElem?_eq_getElem h]
  rfl
end Mi

set_option Elab.async false
set_option linter.all false
set_option maxRecDepth 100000
set_option maxHeartbeats 1000000
namespace Pf
open PySem PySem.Spec PyProof.Rows L2 My Mi
theorem digits_ok {b p : Nat} (hb : 2 ≤ b) (hb2 : b < 2 ^ 60) (hp : p < 2 ^ 1000) : m_law_digits [iv b, iv p] = .rt (vV (tv (digs b p))) none := by
  have hlen := lds_len hb hp
  have hsz : sizeLine = 16777216 := sizeLine_eq
  have hw := whileP (t := tB (e2 gtI (.sl 3) (.ex (eC (.int 0))))) (s := l_law_digits_1)
    (fun k γ => ∃ (found : List Nat) (left : Nat), γ = [some ⟨.val, iv b⟩, some ⟨.val, iv p⟩, some ⟨.own, .lst (found.map iv)⟩, some ⟨.val, iv left⟩] ∧ found ++ lds b left = lds b p ∧ k = (lds b left).length)
    (by
      rintro k _ ⟨found, left, rfl, e, rfl⟩
      by_cases hl : 0 < left
      · have hf : found.length < sizeLine := by
          have := congrArg List.length e
          rw [List.length_append, lds_pos hb hl, List.length_cons] at this
          omega
        have hd : CDivW (left : Int) (b : Int) := by
          unfold CDivW
          have := log2_le (n := ((b : Int)).natAbs) (k := 61) (by omega) (by omega)
          exact ⟨by omega, by omega⟩
        have hb0 : (0 : Int) < b := by omega
        have hb1 : 0 < b := by omega
        refine .inr ⟨by simp [Mi.runM, Mi.finM, Mi.outG, Mi.initG, Mi.sSeq, Mi.sSet, Mi.sIf, Mi.sRet, Mi.sRetV, Mi.sRetN, Mi.sExpr, Mi.sNil, Mi.sPar, Mi.sPar3, Mi.put2, Mi.put3, Mi.sAug, Mi.sSt, Mi.sAsg, Mi.asgM, Mi.asgMs, Mi.sFor, Mi.sWhile, Mi.fSeq, Mi.seqM, Mi.fArgs, Mi.fEnum, Mi.fZip, Mi.walkable, Mi.sLend, Mi.sBreak, Mi.sCont, Mi.e1, Mi.e2, Mi.eC, Mi.eVar, Mi.eTup, Mi.eLst, Mi.aNil, Mi.aCons, Mi.eIf, Mi.eAn, Mi.eOr, Mi.eNt, Mi.eNew, Mi.eCall, Mi.eMeth, Mi.eProp, Mi.eMk, Mi.eMut, Mi.ePur, Mi.tB, Mi.tQ, Mi.tNt, Mi.tAn, Mi.tOrr, Mi.oEv, Mi.oGet, Mi.canSet, Mi.hasC, Mi.Kd.mine, Mi.isTy, Mi.isTyB, Mi.tbF, Mi.hNil, Mi.hCons, Mi.hHole, Mi.eCallIo, Mi.aStar, Mi.rowM, Mi.eTupD, Mi.addM, Mi.ltM, Mi.mulM, Mi.addI, Mi.subI, Mi.mulI, Mi.divI, Mi.modI, Mi.powI, Mi.ltI, Mi.leI, Mi.gtI, Mi.geI, Mi.iiM, Mi.negI, Mi.addS, Mi.addT, Mi.addL, Mi.ltT, Mi.repT, Mi.eqM_ii, Mi.neM_ii, Mi.eqM_tt, Mi.neM_tt, Mi.eqM_ll, Mi.neM_ll, Mi.isN, Mi.notN, Mi.nonB, Mi.inM, Mi.inDt, Mi.inS, Mi.inL, Mi.lenM, Mi.lenS, Mi.lenT, Mi.lenD, Mi.absM, Mi.maxII, Mi.minII, Mi.intM, Mi.boolM, Mi.intsM, Mi.blsM, Mi.sumM, Mi.allM, Mi.anyM, Mi.maxM, Mi.minM, Mi.sortM, Mi.tupM, Mi.lstM, Mi.listM, Mi.lstD, Mi.atM, Mi.ixM, atI, ixN, Mi.stM, Mi.truM, Mi.appM, Mi.popM, Mi.slLo, Mi.slHi, Mi.slM, Mi.revM, Mi.atrM, Mi.cutM, hl], [some ⟨.val, iv b⟩, some ⟨.val, iv p⟩, some ⟨.own, .lst ((found ++ [left % b]).map iv)⟩, some ⟨.val, iv (left / b)⟩], (lds b (left / b)).length, ?_, ⟨found ++ [left % b], left / b, rfl, ?_, rfl⟩, ?_⟩
        · simp [Mi.runM, Mi.finM, Mi.outG, Mi.initG, Mi.sSeq, Mi.sSet, Mi.sIf, Mi.sRet, Mi.sRetV, Mi.sRetN, Mi.sExpr, Mi.sNil, Mi.sPar, Mi.sPar3, Mi.put2, Mi.put3, Mi.sAug, Mi.sSt, Mi.sAsg, Mi.asgM, Mi.asgMs, Mi.sFor, Mi.sWhile, Mi.fSeq, Mi.seqM, Mi.fArgs, Mi.fEnum, Mi.fZip, Mi.walkable, Mi.sLend, Mi.sBreak, Mi.sCont, Mi.e1, Mi.e2, Mi.eC, Mi.eVar, Mi.eTup, Mi.eLst, Mi.aNil, Mi.aCons, Mi.eIf, Mi.eAn, Mi.eOr, Mi.eNt, Mi.eNew, Mi.eCall, Mi.eMeth, Mi.eProp, Mi.eMk, Mi.eMut, Mi.ePur, Mi.tB, Mi.tQ, Mi.tNt, Mi.tAn, Mi.tOrr, Mi.oEv, Mi.oGet, Mi.canSet, Mi.hasC, Mi.Kd.mine, Mi.isTy, Mi.isTyB, Mi.tbF, Mi.hNil, Mi.hCons, Mi.hHole, Mi.eCallIo, Mi.aStar, Mi.rowM, Mi.eTupD, Mi.addM, Mi.ltM, Mi.mulM, Mi.addI, Mi.subI, Mi.mulI, Mi.divI, Mi.modI, Mi.powI, Mi.ltI, Mi.leI, Mi.gtI, Mi.geI, Mi.iiM, Mi.negI, Mi.addS, Mi.addT, Mi.addL, Mi.ltT, Mi.repT, Mi.eqM_ii, Mi.neM_ii, Mi.eqM_tt, Mi.neM_tt, Mi.eqM_ll, Mi.neM_ll, Mi.isN, Mi.notN, Mi.nonB, Mi.inM, Mi.inDt, Mi.inS, Mi.inL, Mi.lenM, Mi.lenS, Mi.lenT, Mi.lenD, Mi.absM, Mi.maxII, Mi.minII, Mi.intM, Mi.boolM, Mi.intsM, Mi.blsM, Mi.sumM, Mi.allM, Mi.anyM, Mi.maxM, Mi.minM, Mi.sortM, Mi.tupM, Mi.lstM, Mi.listM, Mi.lstD, Mi.atM, Mi.ixM, atI, ixN, Mi.stM, Mi.truM, Mi.appM, Mi.popM, Mi.slLo, Mi.slHi, Mi.slM, Mi.revM, Mi.atrM, Mi.cutM, l_law_digits_1, hb0, hb1, hf, hd]
        · rw [List.append_assoc, List.singleton_append, ← lds_pos hb hl]
          exact e
        · rw [lds_pos hb hl, List.length_cons]
          omega
      · have : left = 0 := by omega
        subst this
        exact .inl ⟨by rw [lds_zero]; rfl, by simp [Mi.runM, Mi.finM, Mi.outG, Mi.initG, Mi.sSeq, Mi.sSet, Mi.sIf, Mi.sRet, Mi.sRetV, Mi.sRetN, Mi.sExpr, Mi.sNil, Mi.sPar, Mi.sPar3, Mi.put2, Mi.put3, Mi.sAug, Mi.sSt, Mi.sAsg, Mi.asgM, Mi.asgMs, Mi.sFor, Mi.sWhile, Mi.fSeq, Mi.seqM, Mi.fArgs, Mi.fEnum, Mi.fZip, Mi.walkable, Mi.sLend, Mi.sBreak, Mi.sCont, Mi.e1, Mi.e2, Mi.eC, Mi.eVar, Mi.eTup, Mi.eLst, Mi.aNil, Mi.aCons, Mi.eIf, Mi.eAn, Mi.eOr, Mi.eNt, Mi.eNew, Mi.eCall, Mi.eMeth, Mi.eProp, Mi.eMk, Mi.eMut, Mi.ePur, Mi.tB, Mi.tQ, Mi.tNt, Mi.tAn, Mi.tOrr, Mi.oEv, Mi.oGet, Mi.canSet, Mi.hasC, Mi.Kd.mine, Mi.isTy, Mi.isTyB, Mi.tbF, Mi.hNil, Mi.hCons, Mi.hHole, Mi.eCallIo, Mi.aStar, Mi.rowM, Mi.eTupD, Mi.addM, Mi.ltM, Mi.mulM, Mi.addI, Mi.subI, Mi.mulI, Mi.divI, Mi.modI, Mi.powI, Mi.ltI, Mi.leI, Mi.gtI, Mi.geI, Mi.iiM, Mi.negI, Mi.addS, Mi.addT, Mi.addL, Mi.ltT, Mi.repT, Mi.eqM_ii, Mi.neM_ii, Mi.eqM_tt, Mi.neM_tt, Mi.eqM_ll, Mi.neM_ll, Mi.isN, Mi.notN, Mi.nonB, Mi.inM, Mi.inDt, Mi.inS, Mi.inL, Mi.lenM, Mi.lenS, Mi.lenT, Mi.lenD, Mi.absM, Mi.maxII, Mi.minII, Mi.intM, Mi.boolM, Mi.intsM, Mi.blsM, Mi.sumM, Mi.allM, Mi.anyM, Mi.maxM, Mi.minM, Mi.sortM, Mi.tupM, Mi.lstM, Mi.listM, Mi.lstD, Mi.atM, Mi.ixM, atI, ixN, Mi.stM, Mi.truM, Mi.appM, Mi.popM, Mi.slLo, Mi.slHi, Mi.slM, Mi.revM, Mi.atrM, Mi.cutM]⟩)
    fuel (lds b p).length [some ⟨.val, iv b⟩, some ⟨.val, iv p⟩, some ⟨.own, .lst []⟩, some ⟨.val, iv p⟩] (by unfold fuel; omega) ⟨[], p, rfl, rfl, rfl⟩
  obtain ⟨γ', e1, ⟨found, left, rfl, e2, e3⟩, _⟩ := hw
  have hl := lds_nil hb e3.symm
  subst hl
  rw [lds_zero, List.append_nil] at e2
  subst e2
  simp [Mi.runM, Mi.finM, Mi.outG, Mi.initG, Mi.sSeq, Mi.sSet, Mi.sIf, Mi.sRet, Mi.sRetV, Mi.sRetN, Mi.sExpr, Mi.sNil, Mi.sPar, Mi.sPar3, Mi.put2, Mi.put3, Mi.sAug, Mi.sSt, Mi.sAsg, Mi.asgM, Mi.asgMs, Mi.sFor, Mi.sWhile, Mi.fSeq, Mi.seqM, Mi.fArgs, Mi.fEnum, Mi.fZip, Mi.walkable, Mi.sLend, Mi.sBreak, Mi.sCont, Mi.e1, Mi.e2, Mi.eC, Mi.eVar, Mi.eTup, Mi.eLst, Mi.aNil, Mi.aCons, Mi.eIf, Mi.eAn, Mi.eOr, Mi.eNt, Mi.eNew, Mi.eCall, Mi.eMeth, Mi.eProp, Mi.eMk, Mi.eMut, Mi.ePur, Mi.tB, Mi.tQ, Mi.tNt, Mi.tAn, Mi.tOrr, Mi.oEv, Mi.oGet, Mi.canSet, Mi.hasC, Mi.Kd.mine, Mi.isTy, Mi.isTyB, Mi.tbF, Mi.hNil, Mi.hCons, Mi.hHole, Mi.eCallIo, Mi.aStar, Mi.rowM, Mi.eTupD, Mi.addM, Mi.ltM, Mi.mulM, Mi.addI, Mi.subI, Mi.mulI, Mi.divI, Mi.modI, Mi.powI, Mi.ltI, Mi.leI, Mi.gtI, Mi.geI, Mi.iiM, Mi.negI, Mi.addS, Mi.addT, Mi.addL, Mi.ltT, Mi.repT, Mi.eqM_ii, Mi.neM_ii, Mi.eqM_tt, Mi.neM_tt, Mi.eqM_ll, Mi.neM_ll, Mi.isN, Mi.notN, Mi.nonB, Mi.inM, Mi.inDt, Mi.inS, Mi.inL, Mi.lenM, Mi.lenS, Mi.lenT, Mi.lenD, Mi.absM, Mi.maxII, Mi.minII, Mi.intM, Mi.boolM, Mi.intsM, Mi.blsM, Mi.sumM, Mi.allM, Mi.anyM, Mi.maxM, Mi.minM, Mi.sortM, Mi.tupM, Mi.lstM, Mi.listM, Mi.lstD, Mi.atM, Mi.ixM, atI, ixN, Mi.stM, Mi.truM, Mi.appM, Mi.popM, Mi.slLo, Mi.slHi, Mi.slM, Mi.revM, Mi.atrM, Mi.cutM, m_law_digits, b_law_digits, e1, digs]
end Pf

set_option Elab.async false
set_option linter.all false
set_option maxRecDepth 100000
set_option maxHeartbeats 1000000
namespace Pf
open PySem PySem.Spec PyProof.Rows L2 My Mi
theorem kw : (("KnownMachine" : Str) = ("Word" : Str)) = False := eq_false (by decide +kernel)
theorem digits_in_eq : m_digits_in = m_law_digits := rfl
/-- a word as a value -/
abbrev wv (b : Nat) (rows : List (List Nat)) (lets : List Nat) : MV := .ins "Word" [iv b, tv lets, rv rows]
theorem state_ok {b p : Nat} {rows : List (List Nat)} {lets : List Nat} (M : Mach b rows lets) (hb2 : b < 2 ^ 60) (hp : p < 2 ^ 1000) : m_state_in [wv b rows lets, iv p] = .rt (vV (iv (stAt rows b p))) none := by
  have hd := digits_ok M.hb hb2 hp
  rw [← digits_in_eq] at hd
  have hi := forP (t := .nm 3) (s := l_state_in_1) (ms := (digs b p).map iv) (γ := [some ⟨.val, wv b rows lets⟩, some ⟨.val, iv p⟩, some ⟨.val, .int 0⟩, none])
    (fun i γ => ∃ t : Option Cell, γ = [some ⟨.val, wv b rows lets⟩, some ⟨.val, iv p⟩, some ⟨.val, iv (stOf rows ((digs b p).take i))⟩, t] ∧ (t = none ∨ ∃ c, t = some ⟨.val, c⟩))
    ⟨none, rfl, .inl rfl⟩ (by
      rintro i m _ hm ⟨t, rfl, ht⟩
      rw [List.getElem?_map] at hm
      obtain ⟨d, hd, rfl⟩ := Option.map_eq_some_iff.mp hm
      have hdb : d < b := lds_lt M.hb p d (List.mem_reverse.mp (List.mem_of_getElem? hd))
      have hst : stOf rows ((digs b p).take i) < rows.length := M.fold M.ne fun e he => lds_lt M.hb p e (List.mem_reverse.mp (List.mem_of_mem_take he))
      have e1 : stOf rows ((digs b p).take (i + 1)) = Mi.stp rows (stOf rows ((digs b p).take i)) d := by
        unfold stOf
        rw [List.take_add_one, hd, Option.toList_some, List.foldl_append]
        rfl
      refine ⟨[some ⟨.val, wv b rows lets⟩, some ⟨.val, iv p⟩, some ⟨.val, iv (stOf rows ((digs b p).take i))⟩, some ⟨.val, iv d⟩], [some ⟨.val, wv b rows lets⟩, some ⟨.val, iv p⟩, some ⟨.val, iv (stOf rows ((digs b p).take (i + 1)))⟩, some ⟨.val, iv d⟩], ?_, ?_, _, rfl, .inr ⟨_, rfl⟩⟩
      · rcases ht with rfl | ⟨c, rfl⟩ <;> rfl
      · generalize stOf rows ((digs b p).take i) = s at hst e1
        have hr := M.row _ (List.getElem_mem hst)
        have a1 : atM (rv rows) (iv s) = some (vV (tv rows[s])) := by
          rw [show rv rows = .tup (rows.map tv) from rfl, atM_tup _ s (by simpa using hst)]
          simp
        have a2 : atM (tv rows[s]) (iv d) = some (vV (iv (Mi.stp rows s d))) := by
          rw [show tv rows[s] = .tup (rows[s].map iv) from rfl, atM_tup _ d (by rw [List.length_map, hr.1]; exact hdb)]
          simp [Mi.stp, List.getD_eq_getElem?_getD, hst, hr.1, hdb]
        rw [e1]
        simp [Mi.runM, Mi.finM, Mi.outG, Mi.initG, Mi.sSeq, Mi.sSet, Mi.sIf, Mi.sRet, Mi.sRetV, Mi.sRetN, Mi.sExpr, Mi.sNil, Mi.sPar, Mi.sPar3, Mi.put2, Mi.put3, Mi.sAug, Mi.sSt, Mi.sAsg, Mi.asgM, Mi.asgMs, Mi.sFor, Mi.sWhile, Mi.fSeq, Mi.seqM, Mi.fArgs, Mi.fEnum, Mi.fZip, Mi.walkable, Mi.sLend, Mi.sBreak, Mi.sCont, Mi.e1, Mi.e2, Mi.eC, Mi.eVar, Mi.eTup, Mi.eLst, Mi.aNil, Mi.aCons, Mi.eIf, Mi.eAn, Mi.eOr, Mi.eNt, Mi.eNew, Mi.eCall, Mi.eMeth, Mi.eProp, Mi.eMk, Mi.eMut, Mi.ePur, Mi.tB, Mi.tQ, Mi.tNt, Mi.tAn, Mi.tOrr, Mi.oEv, Mi.oGet, Mi.canSet, Mi.hasC, Mi.Kd.mine, Mi.isTy, Mi.isTyB, Mi.tbF, Mi.hNil, Mi.hCons, Mi.hHole, Mi.eCallIo, Mi.aStar, Mi.rowM, Mi.eTupD, Mi.addM, Mi.ltM, Mi.mulM, Mi.addI, Mi.subI, Mi.mulI, Mi.divI, Mi.modI, Mi.powI, Mi.ltI, Mi.leI, Mi.gtI, Mi.geI, Mi.iiM, Mi.negI, Mi.addS, Mi.addT, Mi.addL, Mi.ltT, Mi.repT, Mi.eqM_ii, Mi.neM_ii, Mi.eqM_tt, Mi.neM_tt, Mi.eqM_ll, Mi.neM_ll, Mi.isN, Mi.notN, Mi.nonB, Mi.inM, Mi.inDt, Mi.inS, Mi.inL, Mi.lenM, Mi.lenS, Mi.lenT, Mi.lenD, Mi.absM, Mi.maxII, Mi.minII, Mi.intM, Mi.boolM, Mi.intsM, Mi.blsM, Mi.sumM, Mi.allM, Mi.anyM, Mi.maxM, Mi.minM, Mi.sortM, Mi.tupM, Mi.lstM, Mi.listM, Mi.lstD, Mi.stM, Mi.truM, Mi.appM, Mi.popM, Mi.slLo, Mi.slHi, Mi.slM, Mi.revM, Mi.atrM, Mi.cutM, l_state_in_1, kw, a1, a2])
  obtain ⟨γ', h1, t, rfl, _⟩ := hi
  rw [List.length_map, List.take_length] at h1
  have h2 : stOf rows (digs b p) = stAt rows b p := rfl
  rw [h2] at h1
  simp [Mi.runM, Mi.finM, Mi.outG, Mi.initG, Mi.sSeq, Mi.sSet, Mi.sIf, Mi.sRet, Mi.sRetV, Mi.sRetN, Mi.sExpr, Mi.sNil, Mi.sPar, Mi.sPar3, Mi.put2, Mi.put3, Mi.sAug, Mi.sSt, Mi.sAsg, Mi.asgM, Mi.asgMs, Mi.sFor, Mi.sWhile, Mi.fSeq, Mi.seqM, Mi.fArgs, Mi.fEnum, Mi.fZip, Mi.walkable, Mi.sLend, Mi.sBreak, Mi.sCont, Mi.e1, Mi.e2, Mi.eC, Mi.eVar, Mi.eTup, Mi.eLst, Mi.aNil, Mi.aCons, Mi.eIf, Mi.eAn, Mi.eOr, Mi.eNt, Mi.eNew, Mi.eCall, Mi.eMeth, Mi.eProp, Mi.eMk, Mi.eMut, Mi.ePur, Mi.tB, Mi.tQ, Mi.tNt, Mi.tAn, Mi.tOrr, Mi.oEv, Mi.oGet, Mi.canSet, Mi.hasC, Mi.Kd.mine, Mi.isTy, Mi.isTyB, Mi.tbF, Mi.hNil, Mi.hCons, Mi.hHole, Mi.eCallIo, Mi.aStar, Mi.rowM, Mi.eTupD, Mi.addM, Mi.ltM, Mi.mulM, Mi.addI, Mi.subI, Mi.mulI, Mi.divI, Mi.modI, Mi.powI, Mi.ltI, Mi.leI, Mi.gtI, Mi.geI, Mi.iiM, Mi.negI, Mi.addS, Mi.addT, Mi.addL, Mi.ltT, Mi.repT, Mi.eqM_ii, Mi.neM_ii, Mi.eqM_tt, Mi.neM_tt, Mi.eqM_ll, Mi.neM_ll, Mi.isN, Mi.notN, Mi.nonB, Mi.inM, Mi.inDt, Mi.inS, Mi.inL, Mi.lenM, Mi.lenS, Mi.lenT, Mi.lenD, Mi.absM, Mi.maxII, Mi.minII, Mi.intM, Mi.boolM, Mi.intsM, Mi.blsM, Mi.sumM, Mi.allM, Mi.anyM, Mi.maxM, Mi.minM, Mi.sortM, Mi.tupM, Mi.lstM, Mi.listM, Mi.lstD, Mi.stM, Mi.truM, Mi.appM, Mi.popM, Mi.slLo, Mi.slHi, Mi.slM, Mi.revM, Mi.atrM, Mi.cutM, m_state_in, b_state_in, kw, hd, h1]
theorem letter_ok {b p : Nat} {rows : List (List Nat)} {lets : List Nat} (M : Mach b rows lets) (hb2 : b < 2 ^ 60) (hp : p < 2 ^ 1000) : m_letter_in [wv b rows lets, iv p] = .rt (vV (iv (lets.getD (stAt rows b p) 0))) none := by
  have hs := state_ok M hb2 hp
  have hlt : stAt rows b p < lets.length := by rw [M.len]; exact M.stAt p
  have a1 : atM (tv lets) (iv (stAt rows b p)) = some (vV (iv (lets.getD (stAt rows b p) 0))) := by
    rw [show tv lets = .tup (lets.map iv) from rfl, atM_tup _ _ (by rw [List.length_map]; exact hlt)]
    simp [List.getD_eq_getElem?_getD, hlt]
  simp [Mi.runM, Mi.finM, Mi.outG, Mi.initG, Mi.sSeq, Mi.sSet, Mi.sIf, Mi.sRet, Mi.sRetV, Mi.sRetN, Mi.sExpr, Mi.sNil, Mi.sPar, Mi.sPar3, Mi.put2, Mi.put3, Mi.sAug, Mi.sSt, Mi.sAsg, Mi.asgM, Mi.asgMs, Mi.sFor, Mi.sWhile, Mi.fSeq, Mi.seqM, Mi.fArgs, Mi.fEnum, Mi.fZip, Mi.walkable, Mi.sLend, Mi.sBreak, Mi.sCont, Mi.e1, Mi.e2, Mi.eC, Mi.eVar, Mi.eTup, Mi.eLst, Mi.aNil, Mi.aCons, Mi.eIf, Mi.eAn, Mi.eOr, Mi.eNt, Mi.eNew, Mi.eCall, Mi.eMeth, Mi.eProp, Mi.eMk, Mi.eMut, Mi.ePur, Mi.tB, Mi.tQ, Mi.tNt, Mi.tAn, Mi.tOrr, Mi.oEv, Mi.oGet, Mi.canSet, Mi.hasC, Mi.Kd.mine, Mi.isTy, Mi.isTyB, Mi.tbF, Mi.hNil, Mi.hCons, Mi.hHole, Mi.eCallIo, Mi.aStar, Mi.rowM, Mi.eTupD, Mi.addM, Mi.ltM, Mi.mulM, Mi.addI, Mi.subI, Mi.mulI, Mi.divI, Mi.modI, Mi.powI, Mi.ltI, Mi.leI, Mi.gtI, Mi.geI, Mi.iiM, Mi.negI, Mi.addS, Mi.addT, Mi.addL, Mi.ltT, Mi.repT, Mi.eqM_ii, Mi.neM_ii, Mi.eqM_tt, Mi.neM_tt, Mi.eqM_ll, Mi.neM_ll, Mi.isN, Mi.notN, Mi.nonB, Mi.inM, Mi.inDt, Mi.inS, Mi.inL, Mi.lenM, Mi.lenS, Mi.lenT, Mi.lenD, Mi.absM, Mi.maxII, Mi.minII, Mi.intM, Mi.boolM, Mi.intsM, Mi.blsM, Mi.sumM, Mi.allM, Mi.anyM, Mi.maxM, Mi.minM, Mi.sortM, Mi.tupM, Mi.lstM, Mi.listM, Mi.lstD, Mi.stM, Mi.truM, Mi.appM, Mi.popM, Mi.slLo, Mi.slHi, Mi.slM, Mi.revM, Mi.atrM, Mi.cutM, m_letter_in, b_letter_in, kw, hs, a1]
theorem kit_ii : L2.kitB "int" "int" = some true := by decide +kernel
theorem kit_ib : L2.kitB "int" "bool" = some false := by decide +kernel
theorem is_integer_ok (i : Int) : m_is_integer [.int i] = .rt (vB true) none := by
  simp [Mi.runM, Mi.finM, Mi.outG, Mi.initG, Mi.sSeq, Mi.sSet, Mi.sIf, Mi.sRet, Mi.sRetV, Mi.sRetN, Mi.sExpr, Mi.sNil, Mi.sPar, Mi.sPar3, Mi.put2, Mi.put3, Mi.sAug, Mi.sSt, Mi.sAsg, Mi.asgM, Mi.asgMs, Mi.sFor, Mi.sWhile, Mi.fSeq, Mi.seqM, Mi.fArgs, Mi.fEnum, Mi.fZip, Mi.walkable, Mi.sLend, Mi.sBreak, Mi.sCont, Mi.e1, Mi.e2, Mi.eC, Mi.eVar, Mi.eTup, Mi.eLst, Mi.aNil, Mi.aCons, Mi.eIf, Mi.eAn, Mi.eOr, Mi.eNt, Mi.eNew, Mi.eCall, Mi.eMeth, Mi.eProp, Mi.eMk, Mi.eMut, Mi.ePur, Mi.tB, Mi.tQ, Mi.tNt, Mi.tAn, Mi.tOrr, Mi.oEv, Mi.oGet, Mi.canSet, Mi.hasC, Mi.Kd.mine, Mi.isTy, Mi.isTyB, Mi.tbF, Mi.hNil, Mi.hCons, Mi.hHole, Mi.eCallIo, Mi.aStar, Mi.rowM, Mi.eTupD, Mi.addM, Mi.ltM, Mi.mulM, Mi.addI, Mi.subI, Mi.mulI, Mi.divI, Mi.modI, Mi.powI, Mi.ltI, Mi.leI, Mi.gtI, Mi.geI, Mi.iiM, Mi.negI, Mi.addS, Mi.addT, Mi.addL, Mi.ltT, Mi.repT, Mi.eqM_ii, Mi.neM_ii, Mi.eqM_tt, Mi.neM_tt, Mi.eqM_ll, Mi.neM_ll, Mi.isN, Mi.notN, Mi.nonB, Mi.inM, Mi.inDt, Mi.inS, Mi.inL, Mi.lenM, Mi.lenS, Mi.lenT, Mi.lenD, Mi.absM, Mi.maxII, Mi.minII, Mi.intM, Mi.boolM, Mi.intsM, Mi.blsM, Mi.sumM, Mi.allM, Mi.anyM, Mi.maxM, Mi.minM, Mi.sortM, Mi.tupM, Mi.lstM, Mi.listM, Mi.lstD, Mi.stM, Mi.truM, Mi.appM, Mi.popM, Mi.slLo, Mi.slHi, Mi.slM, Mi.revM, Mi.atrM, Mi.cutM, m_is_integer, b_is_integer, isiT, tagM, kit_ii, kit_ib]
theorem within_ok (p lo hi : Int) : m_is_within [.int p, .int lo, .int hi] = .rt (vB (decide (lo ≤ p ∧ p ≤ hi))) none := by
  have h := is_integer_ok p
  by_cases h1 : lo ≤ p <;> by_cases h2 : p ≤ hi <;> simp [Mi.runM, Mi.finM, Mi.outG, Mi.initG, Mi.sSeq, Mi.sSet, Mi.sIf, Mi.sRet, Mi.sRetV, Mi.sRetN, Mi.sExpr, Mi.sNil, Mi.sPar, Mi.sPar3, Mi.put2, Mi.put3, Mi.sAug, Mi.sSt, Mi.sAsg, Mi.asgM, Mi.asgMs, Mi.sFor, Mi.sWhile, Mi.fSeq, Mi.seqM, Mi.fArgs, Mi.fEnum, Mi.fZip, Mi.walkable, Mi.sLend, Mi.sBreak, Mi.sCont, Mi.e1, Mi.e2, Mi.eC, Mi.eVar, Mi.eTup, Mi.eLst, Mi.aNil, Mi.aCons, Mi.eIf, Mi.eAn, Mi.eOr, Mi.eNt, Mi.eNew, Mi.eCall, Mi.eMeth, Mi.eProp, Mi.eMk, Mi.eMut, Mi.ePur, Mi.tB, Mi.tQ, Mi.tNt, Mi.tAn, Mi.tOrr, Mi.oEv, Mi.oGet, Mi.canSet, Mi.hasC, Mi.Kd.mine, Mi.isTy, Mi.isTyB, Mi.tbF, Mi.hNil, Mi.hCons, Mi.hHole, Mi.eCallIo, Mi.aStar, Mi.rowM, Mi.eTupD, Mi.addM, Mi.ltM, Mi.mulM, Mi.addI, Mi.subI, Mi.mulI, Mi.divI, Mi.modI, Mi.powI, Mi.ltI, Mi.leI, Mi.gtI, Mi.geI, Mi.iiM, Mi.negI, Mi.addS, Mi.addT, Mi.addL, Mi.ltT, Mi.repT, Mi.eqM_ii, Mi.neM_ii, Mi.eqM_tt, Mi.neM_tt, Mi.eqM_ll, Mi.neM_ll, Mi.isN, Mi.notN, Mi.nonB, Mi.inM, Mi.inDt, Mi.inS, Mi.inL, Mi.lenM, Mi.lenS, Mi.lenT, Mi.lenD, Mi.absM, Mi.maxII, Mi.minII, Mi.intM, Mi.boolM, Mi.intsM, Mi.blsM, Mi.sumM, Mi.allM, Mi.anyM, Mi.maxM, Mi.minM, Mi.sortM, Mi.tupM, Mi.lstM, Mi.listM, Mi.lstD, Mi.stM, Mi.truM, Mi.appM, Mi.popM, Mi.slLo, Mi.slHi, Mi.slM, Mi.revM, Mi.atrM, Mi.cutM, m_is_within, b_is_within, h, eChain, h1, h2]
theorem require_within_ok (p lo hi : Int) (h1 : lo ≤ p) (h2 : p ≤ hi) : m_require_within [.int p, .int lo, .int hi] = .rt ⟨.val, .non⟩ none := by
  have h := within_ok p lo hi
  simp [Mi.runM, Mi.finM, Mi.outG, Mi.initG, Mi.sSeq, Mi.sSet, Mi.sIf, Mi.sRet, Mi.sRetV, Mi.sRetN, Mi.sExpr, Mi.sNil, Mi.sPar, Mi.sPar3, Mi.put2, Mi.put3, Mi.sAug, Mi.sSt, Mi.sAsg, Mi.asgM, Mi.asgMs, Mi.sFor, Mi.sWhile, Mi.fSeq, Mi.seqM, Mi.fArgs, Mi.fEnum, Mi.fZip, Mi.walkable, Mi.sLend, Mi.sBreak, Mi.sCont, Mi.e1, Mi.e2, Mi.eC, Mi.eVar, Mi.eTup, Mi.eLst, Mi.aNil, Mi.aCons, Mi.eIf, Mi.eAn, Mi.eOr, Mi.eNt, Mi.eNew, Mi.eCall, Mi.eMeth, Mi.eProp, Mi.eMk, Mi.eMut, Mi.ePur, Mi.tB, Mi.tQ, Mi.tNt, Mi.tAn, Mi.tOrr, Mi.oEv, Mi.oGet, Mi.canSet, Mi.hasC, Mi.Kd.mine, Mi.isTy, Mi.isTyB, Mi.tbF, Mi.hNil, Mi.hCons, Mi.hHole, Mi.eCallIo, Mi.aStar, Mi.rowM, Mi.eTupD, Mi.addM, Mi.ltM, Mi.mulM, Mi.addI, Mi.subI, Mi.mulI, Mi.divI, Mi.modI, Mi.powI, Mi.ltI, Mi.leI, Mi.gtI, Mi.geI, Mi.iiM, Mi.negI, Mi.addS, Mi.addT, Mi.addL, Mi.ltT, Mi.repT, Mi.eqM_ii, Mi.neM_ii, Mi.eqM_tt, Mi.neM_tt, Mi.eqM_ll, Mi.neM_ll, Mi.isN, Mi.notN, Mi.nonB, Mi.inM, Mi.inDt, Mi.inS, Mi.inL, Mi.lenM, Mi.lenS, Mi.lenT, Mi.lenD, Mi.absM, Mi.maxII, Mi.minII, Mi.intM, Mi.boolM, Mi.intsM, Mi.blsM, Mi.sumM, Mi.allM, Mi.anyM, Mi.maxM, Mi.minM, Mi.sortM, Mi.tupM, Mi.lstM, Mi.listM, Mi.lstD, Mi.stM, Mi.truM, Mi.appM, Mi.popM, Mi.slLo, Mi.slHi, Mi.slM, Mi.revM, Mi.atrM, Mi.cutM, m_require_within, b_require_within, h, h1, h2]
theorem require_place_ok (p : Nat) (h : p ≤ 10 ^ 60) : m_require_place [iv p] = .rt ⟨.val, .non⟩ none := by
  have h := require_within_ok p 0 1000000000000000000000000000000000000000000000000000000000000 (by omega) (by omega)
  simp [Mi.runM, Mi.finM, Mi.outG, Mi.initG, Mi.sSeq, Mi.sSet, Mi.sIf, Mi.sRet, Mi.sRetV, Mi.sRetN, Mi.sExpr, Mi.sNil, Mi.sPar, Mi.sPar3, Mi.put2, Mi.put3, Mi.sAug, Mi.sSt, Mi.sAsg, Mi.asgM, Mi.asgMs, Mi.sFor, Mi.sWhile, Mi.fSeq, Mi.seqM, Mi.fArgs, Mi.fEnum, Mi.fZip, Mi.walkable, Mi.sLend, Mi.sBreak, Mi.sCont, Mi.e1, Mi.e2, Mi.eC, Mi.eVar, Mi.eTup, Mi.eLst, Mi.aNil, Mi.aCons, Mi.eIf, Mi.eAn, Mi.eOr, Mi.eNt, Mi.eNew, Mi.eCall, Mi.eMeth, Mi.eProp, Mi.eMk, Mi.eMut, Mi.ePur, Mi.tB, Mi.tQ, Mi.tNt, Mi.tAn, Mi.tOrr, Mi.oEv, Mi.oGet, Mi.canSet, Mi.hasC, Mi.Kd.mine, Mi.isTy, Mi.isTyB, Mi.tbF, Mi.hNil, Mi.hCons, Mi.hHole, Mi.eCallIo, Mi.aStar, Mi.rowM, Mi.eTupD, Mi.addM, Mi.ltM, Mi.mulM, Mi.addI, Mi.subI, Mi.mulI, Mi.divI, Mi.modI, Mi.powI, Mi.ltI, Mi.leI, Mi.gtI, Mi.geI, Mi.iiM, Mi.negI, Mi.addS, Mi.addT, Mi.addL, Mi.ltT, Mi.repT, Mi.eqM_ii, Mi.neM_ii, Mi.eqM_tt, Mi.neM_tt, Mi.eqM_ll, Mi.neM_ll, Mi.isN, Mi.notN, Mi.nonB, Mi.inM, Mi.inDt, Mi.inS, Mi.inL, Mi.lenM, Mi.lenS, Mi.lenT, Mi.lenD, Mi.absM, Mi.maxII, Mi.minII, Mi.intM, Mi.boolM, Mi.intsM, Mi.blsM, Mi.sumM, Mi.allM, Mi.anyM, Mi.maxM, Mi.minM, Mi.sortM, Mi.tupM, Mi.lstM, Mi.listM, Mi.lstD, Mi.stM, Mi.truM, Mi.appM, Mi.popM, Mi.slLo, Mi.slHi, Mi.slM, Mi.revM, Mi.atrM, Mi.cutM, m_require_place, b_require_place, h]
theorem Word_letter_ok {b p : Nat} {rows : List (List Nat)} {lets : List Nat} (M : Mach b rows lets) (hb2 : b < 2 ^ 60) (hp : p ≤ 10 ^ 60) : m_Word_letter [wv b rows lets, iv p] = .rt (vV (iv (lets.getD (stAt rows b p) 0))) none := by
  have hl := letter_ok M hb2 (p := p) (by
    have : (10 : Nat) ^ 60 < 2 ^ 1000 := by decide +kernel
    omega)
  have hr := require_place_ok p hp
  simp [Mi.runM, Mi.finM, Mi.outG, Mi.initG, Mi.sSeq, Mi.sSet, Mi.sIf, Mi.sRet, Mi.sRetV, Mi.sRetN, Mi.sExpr, Mi.sNil, Mi.sPar, Mi.sPar3, Mi.put2, Mi.put3, Mi.sAug, Mi.sSt, Mi.sAsg, Mi.asgM, Mi.asgMs, Mi.sFor, Mi.sWhile, Mi.fSeq, Mi.seqM, Mi.fArgs, Mi.fEnum, Mi.fZip, Mi.walkable, Mi.sLend, Mi.sBreak, Mi.sCont, Mi.e1, Mi.e2, Mi.eC, Mi.eVar, Mi.eTup, Mi.eLst, Mi.aNil, Mi.aCons, Mi.eIf, Mi.eAn, Mi.eOr, Mi.eNt, Mi.eNew, Mi.eCall, Mi.eMeth, Mi.eProp, Mi.eMk, Mi.eMut, Mi.ePur, Mi.tB, Mi.tQ, Mi.tNt, Mi.tAn, Mi.tOrr, Mi.oEv, Mi.oGet, Mi.canSet, Mi.hasC, Mi.Kd.mine, Mi.isTy, Mi.isTyB, Mi.tbF, Mi.hNil, Mi.hCons, Mi.hHole, Mi.eCallIo, Mi.aStar, Mi.rowM, Mi.eTupD, Mi.addM, Mi.ltM, Mi.mulM, Mi.addI, Mi.subI, Mi.mulI, Mi.divI, Mi.modI, Mi.powI, Mi.ltI, Mi.leI, Mi.gtI, Mi.geI, Mi.iiM, Mi.negI, Mi.addS, Mi.addT, Mi.addL, Mi.ltT, Mi.repT, Mi.eqM_ii, Mi.neM_ii, Mi.eqM_tt, Mi.neM_tt, Mi.eqM_ll, Mi.neM_ll, Mi.isN, Mi.notN, Mi.nonB, Mi.inM, Mi.inDt, Mi.inS, Mi.inL, Mi.lenM, Mi.lenS, Mi.lenT, Mi.lenD, Mi.absM, Mi.maxII, Mi.minII, Mi.intM, Mi.boolM, Mi.intsM, Mi.blsM, Mi.sumM, Mi.allM, Mi.anyM, Mi.maxM, Mi.minM, Mi.sortM, Mi.tupM, Mi.lstM, Mi.listM, Mi.lstD, Mi.stM, Mi.truM, Mi.appM, Mi.popM, Mi.slLo, Mi.slHi, Mi.slM, Mi.revM, Mi.atrM, Mi.cutM, m_Word_letter, b_Word_letter, hr, hl]
theorem lt_big {p : Nat} (h : p ≤ 10 ^ 60) : p < 2 ^ 1000 := Nat.lt_of_le_of_lt h (by decide +kernel)
theorem part_comp {b n : Nat} {rows : List (List Nat)} {lets : List Nat} (M : Mach b rows lets) (hb2 : b < 2 ^ 60) : ∀ ks : List Nat, (∀ k ∈ ks, k ≤ 10 ^ 60) →
    compM (.nm 3) tYesM c_part_in_1 [3] (ks.map iv) [some ⟨.val, wv b rows lets⟩, some ⟨.val, .int 0⟩, some ⟨.val, iv n⟩, none] = some (ks.map fun k => iv (lets.getD (stAt rows b k) 0), [some ⟨.val, wv b rows lets⟩, some ⟨.val, .int 0⟩, some ⟨.val, iv n⟩, none])
  | [], _ => rfl
  | k :: ks, h => by
    have hl := letter_ok M hb2 (lt_big (h k List.mem_cons_self))
    have h1 := part_comp M hb2 (n := n) ks fun k' hk => h k' (List.mem_cons_of_mem _ hk)
    have a1 : asgM (.nm 3) (iv k) [some ⟨.val, wv b rows lets⟩, some ⟨.val, .int 0⟩, some ⟨.val, iv n⟩, none] = some [some ⟨.val, wv b rows lets⟩, some ⟨.val, .int 0⟩, some ⟨.val, iv n⟩, some ⟨.val, iv k⟩] := rfl
    have a2 : c_part_in_1 [some ⟨.val, wv b rows lets⟩, some ⟨.val, .int 0⟩, some ⟨.val, iv n⟩, some ⟨.val, iv k⟩] = .ok (vV (iv (lets.getD (stAt rows b k) 0))) [some ⟨.val, wv b rows lets⟩, some ⟨.val, .int 0⟩, some ⟨.val, iv n⟩, some ⟨.val, iv k⟩] := by
      simp [Mi.runM, Mi.finM, Mi.outG, Mi.initG, Mi.sSeq, Mi.sSet, Mi.sIf, Mi.sRet, Mi.sRetV, Mi.sRetN, Mi.sExpr, Mi.sNil, Mi.sPar, Mi.sPar3, Mi.put2, Mi.put3, Mi.sAug, Mi.sSt, Mi.sAsg, Mi.asgM, Mi.asgMs, Mi.sFor, Mi.sWhile, Mi.fSeq, Mi.seqM, Mi.fArgs, Mi.fEnum, Mi.fZip, Mi.walkable, Mi.sLend, Mi.sBreak, Mi.sCont, Mi.e1, Mi.e2, Mi.eC, Mi.eVar, Mi.eTup, Mi.eLst, Mi.aNil, Mi.aCons, Mi.eIf, Mi.eAn, Mi.eOr, Mi.eNt, Mi.eNew, Mi.eCall, Mi.eMeth, Mi.eProp, Mi.eMk, Mi.eMut, Mi.ePur, Mi.tB, Mi.tQ, Mi.tNt, Mi.tAn, Mi.tOrr, Mi.oEv, Mi.oGet, Mi.canSet, Mi.hasC, Mi.Kd.mine, Mi.isTy, Mi.isTyB, Mi.tbF, Mi.hNil, Mi.hCons, Mi.hHole, Mi.eCallIo, Mi.aStar, Mi.rowM, Mi.eTupD, Mi.addM, Mi.ltM, Mi.mulM, Mi.addI, Mi.subI, Mi.mulI, Mi.divI, Mi.modI, Mi.powI, Mi.ltI, Mi.leI, Mi.gtI, Mi.geI, Mi.iiM, Mi.negI, Mi.addS, Mi.addT, Mi.addL, Mi.ltT, Mi.repT, Mi.eqM_ii, Mi.neM_ii, Mi.eqM_tt, Mi.neM_tt, Mi.eqM_ll, Mi.neM_ll, Mi.isN, Mi.notN, Mi.nonB, Mi.inM, Mi.inDt, Mi.inS, Mi.inL, Mi.lenM, Mi.lenS, Mi.lenT, Mi.lenD, Mi.absM, Mi.maxII, Mi.minII, Mi.intM, Mi.boolM, Mi.intsM, Mi.blsM, Mi.sumM, Mi.allM, Mi.anyM, Mi.maxM, Mi.minM, Mi.sortM, Mi.tupM, Mi.lstM, Mi.listM, Mi.lstD, Mi.stM, Mi.truM, Mi.appM, Mi.popM, Mi.slLo, Mi.slHi, Mi.slM, Mi.revM, Mi.atrM, Mi.cutM, c_part_in_1, hl]
    simp only [List.map_cons, compM, a1, tYesM, a2, wipeG, List.set_cons_succ, List.set_cons_zero, h1, Option.map_some]
end Pf

set_option Elab.async false
set_option linter.all false
namespace Mi
open PySem PySem.Spec PyProof.Rows L2 My
/-! single steps of a reading, stated over anything, for the kernel's sake -/
theorem fArgs_one {g : List MV → Option (List MV)} {i : Nat} {γ : Sg} {m : MV} {r : List MV} (h : γ[i]? = some (some ⟨.val, m⟩)) (hg : g [m] = some r) : fArgs g (aCons (eVar i) aNil) γ = .ok r γ := by
  simp only [fArgs, aCons, eVar, aNil, h, hg]
theorem eComp_of {t : Tg} {fi : FI} {tt : FT} {f : FE} {vs : List Nat} {γ γ1 γ2 : Sg} {ms rs : List MV} (h : fi γ = .ok ms γ1) (hl : ms.length ≤ sizeLine) (hc : compM t tt f vs ms (wipeG γ1 vs) = some (rs, γ2)) : eComp t fi tt f vs γ = .ok ⟨.own, .lst rs⟩ (backG γ1 vs γ2) := by
  simp only [eComp, h, if_pos hl, hc]
theorem e1_ex {g : MV → Option Cell} {f : FE} {γ γ1 : Sg} {c u : Cell} (h : f γ = .ok c γ1) (hg : g c.v = some u) : e1 g (.ex f) γ = .ok u γ1 := by
  simp only [e1, oEv, oGet, h, hg]
theorem sRet_of {f : FE} {γ γ1 : Sg} {c : Cell} (h : f γ = .ok c γ1) : sRet f γ = .rt c γ1 := by
  simp only [sRet, h]
theorem runM_rt {n : Nat} {body : FS} {ms : List MV} {m : MV} {γ : Sg} (h : body (initG none n ms) = .rt ⟨.val, m⟩ γ) : runM none n body ms = .rt ⟨.val, m⟩ none := by
  simp only [runM, finM, h, outG]
theorem eCall_rt {g : List MV → RF} {fa : FA} {γ γ1 : Sg} {ms : List MV} {c : Cell} (h : fa γ = .ok ms γ1) (hg : g ms = .rt c none) : eCall g fa γ = .ok c γ1 := by
  simp only [eCall, h, hg]
theorem sExpr_of {f : FE} {γ γ1 : Sg} {c : Cell} (h : f γ = .ok c γ1) : sExpr f γ = .nx γ1 := by
  simp only [sExpr, h]
theorem sSeq_go {f g : FS} {γ γ1 : Sg} (h : f γ = .nx γ1) : sSeq f g γ = g γ1 := by
  simp only [sSeq, h]
theorem small_size {n : Nat} (h : n ≤ 5000) : n ≤ sizeLine := by rw [sizeLine_eq]; omega
theorem lt62 {n : Nat} (h : n ≤ 5000) : n < 2 ^ 62 := Nat.lt_of_le_of_lt h (by decide +kernel)
theorem le60 {n : Nat} (h : n ≤ 5000) : n ≤ 10 ^ 60 := Nat.le_trans h (by decide +kernel)
end Mi

set_option Elab.async false
set_option linter.all false
set_option maxRecDepth 100000
set_option maxHeartbeats 1000000
namespace Pf
open PySem PySem.Spec PyProof.Rows L2 My Mi
theorem part_h2 {b n : Nat} {rows : List (List Nat)} {lets : List Nat} (M : Mach b rows lets) (hb2 : b < 2 ^ 60) (hn : n ≤ 5000) : eComp (.nm 3) (fArgs rangeM1 (aCons (eVar 2) aNil)) tYesM c_part_in_1 [3] [some ⟨.val, wv b rows lets⟩, some ⟨.val, .int 0⟩, some ⟨.val, iv n⟩, none] = .ok ⟨.own, .lst ((List.range n).map fun k => iv (lets.getD (stAt rows b k) 0))⟩ [some ⟨.val, wv b rows lets⟩, some ⟨.val, .int 0⟩, some ⟨.val, iv n⟩, none] := by
  have hr : rangeM1 [iv n] = some ((List.range n).map iv) := rangeM1_nat n (lt62 hn)
  have hc := part_comp M hb2 (n := n) (List.range n) fun k hk => le60 (Nat.le_of_lt (Nat.lt_of_lt_of_le (List.mem_range.mp hk) hn))
  have h1 : fArgs rangeM1 (aCons (eVar 2) aNil) [some ⟨.val, wv b rows lets⟩, some ⟨.val, .int 0⟩, some ⟨.val, iv n⟩, none] = .ok ((List.range n).map iv) [some ⟨.val, wv b rows lets⟩, some ⟨.val, .int 0⟩, some ⟨.val, iv n⟩, none] := fArgs_one rfl hr
  have h2 := eComp_of (t := .nm 3) (tt := tYesM) (f := c_part_in_1) (vs := [3]) h1 (by rw [List.length_map, List.length_range]; exact small_size hn) hc
  exact h2
theorem part_ok {b n : Nat} {rows : List (List Nat)} {lets : List Nat} (M : Mach b rows lets) (hb2 : b < 2 ^ 60) (hn : n ≤ 5000) : m_part_in [wv b rows lets, .int 0, iv n] = .rt (vV (.tup ((List.range n).map fun k => iv (lets.getD (stAt rows b k) 0)))) none :=
  runM_rt (sRet_of (e1_ex (part_h2 M hb2 hn) rfl))
end Pf

set_option Elab.async false
set_option linter.all false
set_option maxRecDepth 100000
set_option maxHeartbeats 1000000
namespace Pf
open PySem PySem.Spec PyProof.Rows L2 My Mi
theorem Word_part_ok {b n : Nat} {rows : List (List Nat)} {lets : List Nat} (M : Mach b rows lets) (hb2 : b < 2 ^ 60) (hn : n ≤ 5000) : m_Word_part [wv b rows lets, .int 0, iv n] = .rt (vV (.tup ((List.range n).map fun k => iv (lets.getD (stAt rows b k) 0)))) none := by
  have h1 : m_require_place [.int 0] = .rt ⟨.val, .non⟩ none := require_place_ok 0 (Nat.zero_le _)
  have h2 : m_require_within [iv n, .int 0, .int 5000] = .rt ⟨.val, .non⟩ none := require_within_ok n 0 5000 (by omega) (by omega)
  have h3 := part_ok M hb2 hn
  have a1 : aCons (eVar 1) aNil [some ⟨.val, wv b rows lets⟩, some ⟨.val, .int 0⟩, some ⟨.val, iv n⟩] = .ok [.int 0] [some ⟨.val, wv b rows lets⟩, some ⟨.val, .int 0⟩, some ⟨.val, iv n⟩] := rfl
  have a2 : aCons (eVar 2) (aCons (eC (.int 0)) (aCons (eC (.int 5000)) aNil)) [some ⟨.val, wv b rows lets⟩, some ⟨.val, .int 0⟩, some ⟨.val, iv n⟩] = .ok [iv n, .int 0, .int 5000] [some ⟨.val, wv b rows lets⟩, some ⟨.val, .int 0⟩, some ⟨.val, iv n⟩] := rfl
  have a3 : aCons (eVar 0) (aCons (eVar 1) (aCons (eVar 2) aNil)) [some ⟨.val, wv b rows lets⟩, some ⟨.val, .int 0⟩, some ⟨.val, iv n⟩] = .ok [wv b rows lets, .int 0, iv n] [some ⟨.val, wv b rows lets⟩, some ⟨.val, .int 0⟩, some ⟨.val, iv n⟩] := rfl
  have b3 := sRet_of (eCall_rt a3 h3)
  have b2 := sSeq_go (g := sRet (eCall m_part_in (aCons (eVar 0) (aCons (eVar 1) (aCons (eVar 2) aNil))))) (sExpr_of (eCall_rt a2 h2))
  have b1 := sSeq_go (g := sSeq (sExpr (eCall m_require_within (aCons (eVar 2) (aCons (eC (.int 0)) (aCons (eC (.int 5000)) aNil))))) (sRet (eCall m_part_in (aCons (eVar 0) (aCons (eVar 1) (aCons (eVar 2) aNil)))))) (sExpr_of (eCall_rt a1 h1))
  exact runM_rt (b1.trans (b2.trans b3))
end Pf

set_option Elab.async false
set_option linter.all false
set_option maxRecDepth 100000
set_option maxHeartbeats 1000000
namespace Pf
open PySem PySem.Spec PyProof.Rows L2 My Mi
/-- the number of noughts a number ends in, and what stands before them -/
def nts (b n : Nat) : Nat := if h : 2 ≤ b ∧ 0 < n ∧ n % b = 0 then nts b (n / b) + 1 else 0
termination_by n
decreasing_by exact Nat.div_lt_self h.2.1 h.1
def odo (b n : Nat) : Nat := if h : 2 ≤ b ∧ 0 < n ∧ n % b = 0 then odo b (n / b) else n
termination_by n
decreasing_by exact Nat.div_lt_self h.2.1 h.1
theorem nts_go {b n : Nat} (hb : 2 ≤ b) (hn : 0 < n) (h : n % b = 0) : nts b n = nts b (n / b) + 1 := by
  rw [nts]; simp [hb, hn, h]
theorem nts_end {b n : Nat} (h : n % b ≠ 0) : nts b n = 0 := by
  rw [nts]; simp [h]
theorem odo_go {b n : Nat} (hb : 2 ≤ b) (hn : 0 < n) (h : n % b = 0) : odo b n = odo b (n / b) := by
  rw [odo]; simp [hb, hn, h]
theorem odo_end {b n : Nat} (h : n % b ≠ 0) : odo b n = n := by
  rw [odo]; simp [h]
theorem div_pos_of {b n : Nat} (hb : 2 ≤ b) (hn : 0 < n) (h : n % b = 0) : 0 < n / b :=
  Nat.div_pos (Nat.le_of_dvd hn (Nat.dvd_of_mod_eq_zero h)) (by omega)
theorem nts_le {b : Nat} (hb : 2 ≤ b) : ∀ n : Nat, nts b n ≤ n
  | n => by
    by_cases h : 0 < n ∧ n % b = 0
    · have := nts_le hb (n / b)
      have := Nat.div_lt_self h.1 hb
      rw [nts_go hb h.1 h.2]
      omega
    · rw [nts]
      rw [dif_neg (fun g => h g.2)]
      omega
termination_by n => n
decreasing_by exact Nat.div_lt_self h.1 hb
theorem odd_ok {b p : Nat} (hb : 2 ≤ b) (hb2 : b < 2 ^ 60) (hp0 : 0 < p) (hp : nts b p < 10 ^ 9) : m_law_odd [iv b, iv p] = .rt (vV (iv (odo b p))) none := by
  have hb0 : (b : Int) ≠ 0 := by omega
  have hb1 : (0 : Int) < b := by omega
  have hbN : 0 < b := by omega
  have hw := whileP (t := tB (e2 eqM (.ex (e2 modI (.sl 2) (.sl 0))) (.ex (eC (.int 0))))) (s := l_law_odd_1)
    (fun k γ => ∃ left : Nat, γ = [some ⟨.val, iv b⟩, some ⟨.val, iv p⟩, some ⟨.val, iv left⟩] ∧ 0 < left ∧ odo b left = odo b p ∧ k = nts b left)
    (by
      rintro k _ ⟨left, rfl, h0, e, rfl⟩
      have hd : CDivW (left : Int) (b : Int) := by
        unfold CDivW
        have := log2_le (n := ((b : Int)).natAbs) (k := 61) (by omega) (by omega)
        exact ⟨by omega, by omega⟩
      by_cases hl : left % b = 0
      · have hz : ((left : Int) % (b : Int)) = 0 := by omega
        refine .inr ⟨by simp [Mi.runM, Mi.finM, Mi.outG, Mi.initG, Mi.sSeq, Mi.sSet, Mi.sIf, Mi.sRet, Mi.sRetV, Mi.sRetN, Mi.sExpr, Mi.sNil, Mi.sPar, Mi.sPar3, Mi.put2, Mi.put3, Mi.sAug, Mi.sSt, Mi.sAsg, Mi.asgM, Mi.asgMs, Mi.sFor, Mi.sWhile, Mi.fSeq, Mi.seqM, Mi.fArgs, Mi.fEnum, Mi.fZip, Mi.walkable, Mi.sLend, Mi.sBreak, Mi.sCont, Mi.e1, Mi.e2, Mi.eC, Mi.eVar, Mi.eTup, Mi.eLst, Mi.aNil, Mi.aCons, Mi.eIf, Mi.eAn, Mi.eOr, Mi.eNt, Mi.eNew, Mi.eCall, Mi.eMeth, Mi.eProp, Mi.eMk, Mi.eMut, Mi.ePur, Mi.tB, Mi.tQ, Mi.tNt, Mi.tAn, Mi.tOrr, Mi.oEv, Mi.oGet, Mi.canSet, Mi.hasC, Mi.Kd.mine, Mi.isTy, Mi.isTyB, Mi.tbF, Mi.hNil, Mi.hCons, Mi.hHole, Mi.eCallIo, Mi.aStar, Mi.rowM, Mi.eTupD, Mi.addM, Mi.ltM, Mi.mulM, Mi.addI, Mi.subI, Mi.mulI, Mi.divI, Mi.modI, Mi.powI, Mi.ltI, Mi.leI, Mi.gtI, Mi.geI, Mi.iiM, Mi.negI, Mi.addS, Mi.addT, Mi.addL, Mi.ltT, Mi.repT, Mi.eqM_ii, Mi.neM_ii, Mi.eqM_tt, Mi.neM_tt, Mi.eqM_ll, Mi.neM_ll, Mi.isN, Mi.notN, Mi.nonB, Mi.inM, Mi.inDt, Mi.inS, Mi.inL, Mi.lenM, Mi.lenS, Mi.lenT, Mi.lenD, Mi.absM, Mi.maxII, Mi.minII, Mi.intM, Mi.boolM, Mi.intsM, Mi.blsM, Mi.sumM, Mi.allM, Mi.anyM, Mi.maxM, Mi.minM, Mi.sortM, Mi.tupM, Mi.lstM, Mi.listM, Mi.lstD, Mi.atM, Mi.ixM, atI, ixN, Mi.stM, Mi.truM, Mi.appM, Mi.popM, Mi.slLo, Mi.slHi, Mi.slM, Mi.revM, Mi.atrM, Mi.cutM, hb0, hb1, hbN, hd, eqM_ii, hz], [some ⟨.val, iv b⟩, some ⟨.val, iv p⟩, some ⟨.val, iv (left / b)⟩], nts b (left / b), ?_, ⟨left / b, rfl, div_pos_of hb h0 hl, ?_, rfl⟩, ?_⟩
        · simp [Mi.runM, Mi.finM, Mi.outG, Mi.initG, Mi.sSeq, Mi.sSet, Mi.sIf, Mi.sRet, Mi.sRetV, Mi.sRetN, Mi.sExpr, Mi.sNil, Mi.sPar, Mi.sPar3, Mi.put2, Mi.put3, Mi.sAug, Mi.sSt, Mi.sAsg, Mi.asgM, Mi.asgMs, Mi.sFor, Mi.sWhile, Mi.fSeq, Mi.seqM, Mi.fArgs, Mi.fEnum, Mi.fZip, Mi.walkable, Mi.sLend, Mi.sBreak, Mi.sCont, Mi.e1, Mi.e2, Mi.eC, Mi.eVar, Mi.eTup, Mi.eLst, Mi.aNil, Mi.aCons, Mi.eIf, Mi.eAn, Mi.eOr, Mi.eNt, Mi.eNew, Mi.eCall, Mi.eMeth, Mi.eProp, Mi.eMk, Mi.eMut, Mi.ePur, Mi.tB, Mi.tQ, Mi.tNt, Mi.tAn, Mi.tOrr, Mi.oEv, Mi.oGet, Mi.canSet, Mi.hasC, Mi.Kd.mine, Mi.isTy, Mi.isTyB, Mi.tbF, Mi.hNil, Mi.hCons, Mi.hHole, Mi.eCallIo, Mi.aStar, Mi.rowM, Mi.eTupD, Mi.addM, Mi.ltM, Mi.mulM, Mi.addI, Mi.subI, Mi.mulI, Mi.divI, Mi.modI, Mi.powI, Mi.ltI, Mi.leI, Mi.gtI, Mi.geI, Mi.iiM, Mi.negI, Mi.addS, Mi.addT, Mi.addL, Mi.ltT, Mi.repT, Mi.eqM_ii, Mi.neM_ii, Mi.eqM_tt, Mi.neM_tt, Mi.eqM_ll, Mi.neM_ll, Mi.isN, Mi.notN, Mi.nonB, Mi.inM, Mi.inDt, Mi.inS, Mi.inL, Mi.lenM, Mi.lenS, Mi.lenT, Mi.lenD, Mi.absM, Mi.maxII, Mi.minII, Mi.intM, Mi.boolM, Mi.intsM, Mi.blsM, Mi.sumM, Mi.allM, Mi.anyM, Mi.maxM, Mi.minM, Mi.sortM, Mi.tupM, Mi.lstM, Mi.listM, Mi.lstD, Mi.atM, Mi.ixM, atI, ixN, Mi.stM, Mi.truM, Mi.appM, Mi.popM, Mi.slLo, Mi.slHi, Mi.slM, Mi.revM, Mi.atrM, Mi.cutM, l_law_odd_1, hb0, hb1, hbN, hd]
        · rw [← odo_go hb h0 hl]; exact e
        · rw [nts_go hb h0 hl]; omega
      · have hz : ¬ ((left : Int) % (b : Int)) = 0 := by omega
        exact .inl ⟨nts_end hl, by simp [Mi.runM, Mi.finM, Mi.outG, Mi.initG, Mi.sSeq, Mi.sSet, Mi.sIf, Mi.sRet, Mi.sRetV, Mi.sRetN, Mi.sExpr, Mi.sNil, Mi.sPar, Mi.sPar3, Mi.put2, Mi.put3, Mi.sAug, Mi.sSt, Mi.sAsg, Mi.asgM, Mi.asgMs, Mi.sFor, Mi.sWhile, Mi.fSeq, Mi.seqM, Mi.fArgs, Mi.fEnum, Mi.fZip, Mi.walkable, Mi.sLend, Mi.sBreak, Mi.sCont, Mi.e1, Mi.e2, Mi.eC, Mi.eVar, Mi.eTup, Mi.eLst, Mi.aNil, Mi.aCons, Mi.eIf, Mi.eAn, Mi.eOr, Mi.eNt, Mi.eNew, Mi.eCall, Mi.eMeth, Mi.eProp, Mi.eMk, Mi.eMut, Mi.ePur, Mi.tB, Mi.tQ, Mi.tNt, Mi.tAn, Mi.tOrr, Mi.oEv, Mi.oGet, Mi.canSet, Mi.hasC, Mi.Kd.mine, Mi.isTy, Mi.isTyB, Mi.tbF, Mi.hNil, Mi.hCons, Mi.hHole, Mi.eCallIo, Mi.aStar, Mi.rowM, Mi.eTupD, Mi.addM, Mi.ltM, Mi.mulM, Mi.addI, Mi.subI, Mi.mulI, Mi.divI, Mi.modI, Mi.powI, Mi.ltI, Mi.leI, Mi.gtI, Mi.geI, Mi.iiM, Mi.negI, Mi.addS, Mi.addT, Mi.addL, Mi.ltT, Mi.repT, Mi.eqM_ii, Mi.neM_ii, Mi.eqM_tt, Mi.neM_tt, Mi.eqM_ll, Mi.neM_ll, Mi.isN, Mi.notN, Mi.nonB, Mi.inM, Mi.inDt, Mi.inS, Mi.inL, Mi.lenM, Mi.lenS, Mi.lenT, Mi.lenD, Mi.absM, Mi.maxII, Mi.minII, Mi.intM, Mi.boolM, Mi.intsM, Mi.blsM, Mi.sumM, Mi.allM, Mi.anyM, Mi.maxM, Mi.minM, Mi.sortM, Mi.tupM, Mi.lstM, Mi.listM, Mi.lstD, Mi.atM, Mi.ixM, atI, ixN, Mi.stM, Mi.truM, Mi.appM, Mi.popM, Mi.slLo, Mi.slHi, Mi.slM, Mi.revM, Mi.atrM, Mi.cutM, hb0, hb1, hbN, hd, eqM_ii, hz]⟩)
    fuel (nts b p) [some ⟨.val, iv b⟩, some ⟨.val, iv p⟩, some ⟨.val, iv p⟩] (by unfold fuel; omega) ⟨p, rfl, hp0, rfl, rfl⟩
  obtain ⟨γ', h1, ⟨left, rfl, h2, h3, h4⟩, _⟩ := hw
  have h5 : odo b left = left := by
    by_cases hl : left % b = 0
    · rw [nts_go hb h2 hl] at h4; omega
    · exact odo_end hl
  rw [h5] at h3
  subst h3
  simp [Mi.runM, Mi.finM, Mi.outG, Mi.initG, Mi.sSeq, Mi.sSet, Mi.sIf, Mi.sRet, Mi.sRetV, Mi.sRetN, Mi.sExpr, Mi.sNil, Mi.sPar, Mi.sPar3, Mi.put2, Mi.put3, Mi.sAug, Mi.sSt, Mi.sAsg, Mi.asgM, Mi.asgMs, Mi.sFor, Mi.sWhile, Mi.fSeq, Mi.seqM, Mi.fArgs, Mi.fEnum, Mi.fZip, Mi.walkable, Mi.sLend, Mi.sBreak, Mi.sCont, Mi.e1, Mi.e2, Mi.eC, Mi.eVar, Mi.eTup, Mi.eLst, Mi.aNil, Mi.aCons, Mi.eIf, Mi.eAn, Mi.eOr, Mi.eNt, Mi.eNew, Mi.eCall, Mi.eMeth, Mi.eProp, Mi.eMk, Mi.eMut, Mi.ePur, Mi.tB, Mi.tQ, Mi.tNt, Mi.tAn, Mi.tOrr, Mi.oEv, Mi.oGet, Mi.canSet, Mi.hasC, Mi.Kd.mine, Mi.isTy, Mi.isTyB, Mi.tbF, Mi.hNil, Mi.hCons, Mi.hHole, Mi.eCallIo, Mi.aStar, Mi.rowM, Mi.eTupD, Mi.addM, Mi.ltM, Mi.mulM, Mi.addI, Mi.subI, Mi.mulI, Mi.divI, Mi.modI, Mi.powI, Mi.ltI, Mi.leI, Mi.gtI, Mi.geI, Mi.iiM, Mi.negI, Mi.addS, Mi.addT, Mi.addL, Mi.ltT, Mi.repT, Mi.eqM_ii, Mi.neM_ii, Mi.eqM_tt, Mi.neM_tt, Mi.eqM_ll, Mi.neM_ll, Mi.isN, Mi.notN, Mi.nonB, Mi.inM, Mi.inDt, Mi.inS, Mi.inL, Mi.lenM, Mi.lenS, Mi.lenT, Mi.lenD, Mi.absM, Mi.maxII, Mi.minII, Mi.intM, Mi.boolM, Mi.intsM, Mi.blsM, Mi.sumM, Mi.allM, Mi.anyM, Mi.maxM, Mi.minM, Mi.sortM, Mi.tupM, Mi.lstM, Mi.listM, Mi.lstD, Mi.atM, Mi.ixM, atI, ixN, Mi.stM, Mi.truM, Mi.appM, Mi.popM, Mi.slLo, Mi.slHi, Mi.slM, Mi.revM, Mi.atrM, Mi.cutM, m_law_odd, b_law_odd, h1]
end Pf

set_option Elab.async false
set_option linter.all false
set_option maxRecDepth 100000
set_option maxHeartbeats 1000000
namespace Pf
open PySem PySem.Spec PyProof.Rows L2 My Mi
theorem noughts_ok {b p : Nat} (hb : 2 ≤ b) (hb2 : b < 2 ^ 60) (hp0 : 0 < p) (hp : nts b p < 10 ^ 9) : m_law_noughts [iv b, iv p] = .rt (vV (iv (nts b p))) none := by
  have hb0 : (b : Int) ≠ 0 := by omega
  have hb1 : (0 : Int) < b := by omega
  have hbN : 0 < b := by omega
  have hw := whileP (t := tB (e2 eqM (.ex (e2 modI (.sl 3) (.sl 0))) (.ex (eC (.int 0))))) (s := l_law_noughts_1)
    (fun k γ => ∃ found left : Nat, γ = [some ⟨.val, iv b⟩, some ⟨.val, iv p⟩, some ⟨.val, iv found⟩, some ⟨.val, iv left⟩] ∧ 0 < left ∧ found + nts b left = nts b p ∧ k = nts b left)
    (by
      rintro k _ ⟨found, left, rfl, h0, e, rfl⟩
      have hd : CDivW (left : Int) (b : Int) := by
        unfold CDivW
        have := log2_le (n := ((b : Int)).natAbs) (k := 61) (by omega) (by omega)
        exact ⟨by omega, by omega⟩
      by_cases hl : left % b = 0
      · have hz : ((left : Int) % (b : Int)) = 0 := by omega
        have hg := nts_go hb h0 hl
        refine .inr ⟨by simp [Mi.runM, Mi.finM, Mi.outG, Mi.initG, Mi.sSeq, Mi.sSet, Mi.sIf, Mi.sRet, Mi.sRetV, Mi.sRetN, Mi.sExpr, Mi.sNil, Mi.sPar, Mi.sPar3, Mi.put2, Mi.put3, Mi.sAug, Mi.sSt, Mi.sAsg, Mi.asgM, Mi.asgMs, Mi.sFor, Mi.sWhile, Mi.fSeq, Mi.seqM, Mi.fArgs, Mi.fEnum, Mi.fZip, Mi.walkable, Mi.sLend, Mi.sBreak, Mi.sCont, Mi.e1, Mi.e2, Mi.eC, Mi.eVar, Mi.eTup, Mi.eLst, Mi.aNil, Mi.aCons, Mi.eIf, Mi.eAn, Mi.eOr, Mi.eNt, Mi.eNew, Mi.eCall, Mi.eMeth, Mi.eProp, Mi.eMk, Mi.eMut, Mi.ePur, Mi.tB, Mi.tQ, Mi.tNt, Mi.tAn, Mi.tOrr, Mi.oEv, Mi.oGet, Mi.canSet, Mi.hasC, Mi.Kd.mine, Mi.isTy, Mi.isTyB, Mi.tbF, Mi.hNil, Mi.hCons, Mi.hHole, Mi.eCallIo, Mi.aStar, Mi.rowM, Mi.eTupD, Mi.addM, Mi.ltM, Mi.mulM, Mi.addI, Mi.subI, Mi.mulI, Mi.divI, Mi.modI, Mi.powI, Mi.ltI, Mi.leI, Mi.gtI, Mi.geI, Mi.iiM, Mi.negI, Mi.addS, Mi.addT, Mi.addL, Mi.ltT, Mi.repT, Mi.eqM_ii, Mi.neM_ii, Mi.eqM_tt, Mi.neM_tt, Mi.eqM_ll, Mi.neM_ll, Mi.isN, Mi.notN, Mi.nonB, Mi.inM, Mi.inDt, Mi.inS, Mi.inL, Mi.lenM, Mi.lenS, Mi.lenT, Mi.lenD, Mi.absM, Mi.maxII, Mi.minII, Mi.intM, Mi.boolM, Mi.intsM, Mi.blsM, Mi.sumM, Mi.allM, Mi.anyM, Mi.maxM, Mi.minM, Mi.sortM, Mi.tupM, Mi.lstM, Mi.listM, Mi.lstD, Mi.atM, Mi.ixM, atI, ixN, Mi.stM, Mi.truM, Mi.appM, Mi.popM, Mi.slLo, Mi.slHi, Mi.slM, Mi.revM, Mi.atrM, Mi.cutM, hb0, hb1, hbN, hd, eqM_ii, hz], [some ⟨.val, iv b⟩, some ⟨.val, iv p⟩, some ⟨.val, iv (found + 1 : Nat)⟩, some ⟨.val, iv (left / b)⟩], nts b (left / b), ?_, ⟨found + 1, left / b, rfl, div_pos_of hb h0 hl, by omega, rfl⟩, by omega⟩
        simp [Mi.runM, Mi.finM, Mi.outG, Mi.initG, Mi.sSeq, Mi.sSet, Mi.sIf, Mi.sRet, Mi.sRetV, Mi.sRetN, Mi.sExpr, Mi.sNil, Mi.sPar, Mi.sPar3, Mi.put2, Mi.put3, Mi.sAug, Mi.sSt, Mi.sAsg, Mi.asgM, Mi.asgMs, Mi.sFor, Mi.sWhile, Mi.fSeq, Mi.seqM, Mi.fArgs, Mi.fEnum, Mi.fZip, Mi.walkable, Mi.sLend, Mi.sBreak, Mi.sCont, Mi.e1, Mi.e2, Mi.eC, Mi.eVar, Mi.eTup, Mi.eLst, Mi.aNil, Mi.aCons, Mi.eIf, Mi.eAn, Mi.eOr, Mi.eNt, Mi.eNew, Mi.eCall, Mi.eMeth, Mi.eProp, Mi.eMk, Mi.eMut, Mi.ePur, Mi.tB, Mi.tQ, Mi.tNt, Mi.tAn, Mi.tOrr, Mi.oEv, Mi.oGet, Mi.canSet, Mi.hasC, Mi.Kd.mine, Mi.isTy, Mi.isTyB, Mi.tbF, Mi.hNil, Mi.hCons, Mi.hHole, Mi.eCallIo, Mi.aStar, Mi.rowM, Mi.eTupD, Mi.addM, Mi.ltM, Mi.mulM, Mi.addI, Mi.subI, Mi.mulI, Mi.divI, Mi.modI, Mi.powI, Mi.ltI, Mi.leI, Mi.gtI, Mi.geI, Mi.iiM, Mi.negI, Mi.addS, Mi.addT, Mi.addL, Mi.ltT, Mi.repT, Mi.eqM_ii, Mi.neM_ii, Mi.eqM_tt, Mi.neM_tt, Mi.eqM_ll, Mi.neM_ll, Mi.isN, Mi.notN, Mi.nonB, Mi.inM, Mi.inDt, Mi.inS, Mi.inL, Mi.lenM, Mi.lenS, Mi.lenT, Mi.lenD, Mi.absM, Mi.maxII, Mi.minII, Mi.intM, Mi.boolM, Mi.intsM, Mi.blsM, Mi.sumM, Mi.allM, Mi.anyM, Mi.maxM, Mi.minM, Mi.sortM, Mi.tupM, Mi.lstM, Mi.listM, Mi.lstD, Mi.atM, Mi.ixM, atI, ixN, Mi.stM, Mi.truM, Mi.appM, Mi.popM, Mi.slLo, Mi.slHi, Mi.slM, Mi.revM, Mi.atrM, Mi.cutM, l_law_noughts_1, hb0, hb1, hbN, hd]
      · have hz : ¬ ((left : Int) % (b : Int)) = 0 := by omega
        exact .inl ⟨nts_end hl, by simp [Mi.runM, Mi.finM, Mi.outG, Mi.initG, Mi.sSeq, Mi.sSet, Mi.sIf, Mi.sRet, Mi.sRetV, Mi.sRetN, Mi.sExpr, Mi.sNil, Mi.sPar, Mi.sPar3, Mi.put2, Mi.put3, Mi.sAug, Mi.sSt, Mi.sAsg, Mi.asgM, Mi.asgMs, Mi.sFor, Mi.sWhile, Mi.fSeq, Mi.seqM, Mi.fArgs, Mi.fEnum, Mi.fZip, Mi.walkable, Mi.sLend, Mi.sBreak, Mi.sCont, Mi.e1, Mi.e2, Mi.eC, Mi.eVar, Mi.eTup, Mi.eLst, Mi.aNil, Mi.aCons, Mi.eIf, Mi.eAn, Mi.eOr, Mi.eNt, Mi.eNew, Mi.eCall, Mi.eMeth, Mi.eProp, Mi.eMk, Mi.eMut, Mi.ePur, Mi.tB, Mi.tQ, Mi.tNt, Mi.tAn, Mi.tOrr, Mi.oEv, Mi.oGet, Mi.canSet, Mi.hasC, Mi.Kd.mine, Mi.isTy, Mi.isTyB, Mi.tbF, Mi.hNil, Mi.hCons, Mi.hHole, Mi.eCallIo, Mi.aStar, Mi.rowM, Mi.eTupD, Mi.addM, Mi.ltM, Mi.mulM, Mi.addI, Mi.subI, Mi.mulI, Mi.divI, Mi.modI, Mi.powI, Mi.ltI, Mi.leI, Mi.gtI, Mi.geI, Mi.iiM, Mi.negI, Mi.addS, Mi.addT, Mi.addL, Mi.ltT, Mi.repT, Mi.eqM_ii, Mi.neM_ii, Mi.eqM_tt, Mi.neM_tt, Mi.eqM_ll, Mi.neM_ll, Mi.isN, Mi.notN, Mi.nonB, Mi.inM, Mi.inDt, Mi.inS, Mi.inL, Mi.lenM, Mi.lenS, Mi.lenT, Mi.lenD, Mi.absM, Mi.maxII, Mi.minII, Mi.intM, Mi.boolM, Mi.intsM, Mi.blsM, Mi.sumM, Mi.allM, Mi.anyM, Mi.maxM, Mi.minM, Mi.sortM, Mi.tupM, Mi.lstM, Mi.listM, Mi.lstD, Mi.atM, Mi.ixM, atI, ixN, Mi.stM, Mi.truM, Mi.appM, Mi.popM, Mi.slLo, Mi.slHi, Mi.slM, Mi.revM, Mi.atrM, Mi.cutM, hb0, hb1, hbN, hd, eqM_ii, hz]⟩)
    fuel (nts b p) [some ⟨.val, iv b⟩, some ⟨.val, iv p⟩, some ⟨.val, iv 0⟩, some ⟨.val, iv p⟩] (by unfold fuel; omega) ⟨0, p, rfl, hp0, by omega, rfl⟩
  obtain ⟨γ', h1, ⟨found, left, rfl, h2, h3, h4⟩, _⟩ := hw
  have h5 : found = nts b p := by omega
  subst h5
  have h6 : (iv 0) = .int 0 := rfl
  rw [h6] at h1
  simp [Mi.runM, Mi.finM, Mi.outG, Mi.initG, Mi.sSeq, Mi.sSet, Mi.sIf, Mi.sRet, Mi.sRetV, Mi.sRetN, Mi.sExpr, Mi.sNil, Mi.sPar, Mi.sPar3, Mi.put2, Mi.put3, Mi.sAug, Mi.sSt, Mi.sAsg, Mi.asgM, Mi.asgMs, Mi.sFor, Mi.sWhile, Mi.fSeq, Mi.seqM, Mi.fArgs, Mi.fEnum, Mi.fZip, Mi.walkable, Mi.sLend, Mi.sBreak, Mi.sCont, Mi.e1, Mi.e2, Mi.eC, Mi.eVar, Mi.eTup, Mi.eLst, Mi.aNil, Mi.aCons, Mi.eIf, Mi.eAn, Mi.eOr, Mi.eNt, Mi.eNew, Mi.eCall, Mi.eMeth, Mi.eProp, Mi.eMk, Mi.eMut, Mi.ePur, Mi.tB, Mi.tQ, Mi.tNt, Mi.tAn, Mi.tOrr, Mi.oEv, Mi.oGet, Mi.canSet, Mi.hasC, Mi.Kd.mine, Mi.isTy, Mi.isTyB, Mi.tbF, Mi.hNil, Mi.hCons, Mi.hHole, Mi.eCallIo, Mi.aStar, Mi.rowM, Mi.eTupD, Mi.addM, Mi.ltM, Mi.mulM, Mi.addI, Mi.subI, Mi.mulI, Mi.divI, Mi.modI, Mi.powI, Mi.ltI, Mi.leI, Mi.gtI, Mi.geI, Mi.iiM, Mi.negI, Mi.addS, Mi.addT, Mi.addL, Mi.ltT, Mi.repT, Mi.eqM_ii, Mi.neM_ii, Mi.eqM_tt, Mi.neM_tt, Mi.eqM_ll, Mi.neM_ll, Mi.isN, Mi.notN, Mi.nonB, Mi.inM, Mi.inDt, Mi.inS, Mi.inL, Mi.lenM, Mi.lenS, Mi.lenT, Mi.lenD, Mi.absM, Mi.maxII, Mi.minII, Mi.intM, Mi.boolM, Mi.intsM, Mi.blsM, Mi.sumM, Mi.allM, Mi.anyM, Mi.maxM, Mi.minM, Mi.sortM, Mi.tupM, Mi.lstM, Mi.listM, Mi.lstD, Mi.atM, Mi.ixM, atI, ixN, Mi.stM, Mi.truM, Mi.appM, Mi.popM, Mi.slLo, Mi.slHi, Mi.slM, Mi.revM, Mi.atrM, Mi.cutM, m_law_noughts, b_law_noughts, h1]
end Pf

set_option Elab.async false
set_option linter.all false
set_option maxRecDepth 100000
set_option maxHeartbeats 1000000
namespace Pf
open PySem PySem.Spec PyProof.Rows L2 My Mi
theorem sFor_of {t : Tg} {fi : FI} {s : FS} {γ γ1 γ2 : Sg} {ms : List MV} (h : fi γ = .ok ms γ1) (h2 : forM t s ms γ1 = .nx γ2) : sFor t fi s γ = .nx γ2 := by
  simp only [sFor, h, h2]
theorem power_step {b i : Nat} {c x : Option Cell} (hb : 2 ≤ b) (hm : CMulW ((b ^ i : Nat) : Int) (b : Int)) : l_law_power_1 [some ⟨.val, iv b⟩, x, some ⟨.val, iv (b ^ i)⟩, c] = .nx [some ⟨.val, iv b⟩, x, some ⟨.val, iv (b ^ (i + 1))⟩, c] := by
  have hm2 : mulM (iv (b ^ i)) (iv b) = some (vV (iv (b ^ (i + 1)))) := by
    simp only [mulM, mulI, iiM, iv, if_pos hm, Option.some_or, Nat.pow_succ, Int.natCast_mul]
  show sSet 2 (e2 mulM (.sl 2) (.sl 0)) _ = _
  generalize hg : mulM = g at hm2
  simp [Mi.runM, Mi.finM, Mi.outG, Mi.initG, Mi.sSeq, Mi.sSet, Mi.sIf, Mi.sRet, Mi.sRetV, Mi.sRetN, Mi.sExpr, Mi.sNil, Mi.sPar, Mi.sPar3, Mi.put2, Mi.put3, Mi.sAug, Mi.sSt, Mi.sAsg, Mi.asgM, Mi.asgMs, Mi.sFor, Mi.sWhile, Mi.fSeq, Mi.seqM, Mi.fArgs, Mi.fEnum, Mi.fZip, Mi.walkable, Mi.sLend, Mi.sBreak, Mi.sCont, Mi.e1, Mi.e2, Mi.eC, Mi.eVar, Mi.eTup, Mi.eLst, Mi.aNil, Mi.aCons, Mi.eIf, Mi.eAn, Mi.eOr, Mi.eNt, Mi.eNew, Mi.eCall, Mi.eMeth, Mi.eProp, Mi.eMk, Mi.eMut, Mi.ePur, Mi.tB, Mi.tQ, Mi.tNt, Mi.tAn, Mi.tOrr, Mi.oEv, Mi.oGet, Mi.canSet, Mi.hasC, Mi.Kd.mine, Mi.isTy, Mi.isTyB, Mi.tbF, Mi.hNil, Mi.hCons, Mi.hHole, Mi.eCallIo, Mi.aStar, Mi.rowM, Mi.eTupD, Mi.addM, Mi.ltM, Mi.mulM, Mi.addI, Mi.subI, Mi.mulI, Mi.divI, Mi.modI, Mi.powI, Mi.ltI, Mi.leI, Mi.gtI, Mi.geI, Mi.iiM, Mi.negI, Mi.addS, Mi.addT, Mi.addL, Mi.ltT, Mi.repT, Mi.eqM_ii, Mi.neM_ii, Mi.eqM_tt, Mi.neM_tt, Mi.eqM_ll, Mi.neM_ll, Mi.isN, Mi.notN, Mi.nonB, Mi.inM, Mi.inDt, Mi.inS, Mi.inL, Mi.lenM, Mi.lenS, Mi.lenT, Mi.lenD, Mi.absM, Mi.maxII, Mi.minII, Mi.intM, Mi.boolM, Mi.intsM, Mi.blsM, Mi.sumM, Mi.allM, Mi.anyM, Mi.maxM, Mi.minM, Mi.sortM, Mi.tupM, Mi.lstM, Mi.listM, Mi.lstD, Mi.atM, Mi.ixM, atI, ixN, Mi.stM, Mi.truM, Mi.appM, Mi.popM, Mi.slLo, Mi.slHi, Mi.slM, Mi.revM, Mi.atrM, Mi.cutM, hm2]
theorem pow_mulW {b i : Nat} (hb2 : b < 2 ^ 60) (hi : i ≤ 60) : CMulW ((b ^ i : Nat) : Int) (b : Int) := by
  have h1 : b ^ i ≤ (2 ^ 60) ^ i := Nat.pow_le_pow_left (Nat.le_of_lt hb2) i
  have h2 : (2 ^ 60) ^ i ≤ (2 ^ 60) ^ 60 := Nat.pow_le_pow_right (by omega) hi
  have h3 : ((2 : Nat) ^ 60) ^ 60 < 2 ^ 3601 := by decide +kernel
  unfold CMulW
  have a := log2_le (n := ((b ^ i : Nat) : Int).natAbs) (k := 3601) (by omega) (by omega)
  have c := log2_le (n := ((b : Int)).natAbs) (k := 61) (by omega) (by omega)
  omega
theorem power_for {b n : Nat} (hb : 2 ≤ b) (hb2 : b < 2 ^ 60) (hn : n ≤ 60) : ∃ c, forM (.nm 3) l_law_power_1 ((List.range n).map iv) [some ⟨.val, iv b⟩, some ⟨.val, iv n⟩, some ⟨.val, iv (b ^ 0)⟩, none] = .nx [some ⟨.val, iv b⟩, some ⟨.val, iv n⟩, some ⟨.val, iv (b ^ n)⟩, c] := by
  have hf := forP (t := .nm 3) (s := l_law_power_1) (ms := (List.range n).map iv) (γ := [some ⟨.val, iv b⟩, some ⟨.val, iv n⟩, some ⟨.val, iv (b ^ 0)⟩, none])
    (fun i γ => ∃ c : Option Cell, γ = [some ⟨.val, iv b⟩, some ⟨.val, iv n⟩, some ⟨.val, iv (b ^ i)⟩, c] ∧ (c = none ∨ ∃ x, c = some ⟨.val, x⟩))
    ⟨none, rfl, .inl rfl⟩
    (by
      rintro i m _ hm ⟨c, rfl, hc⟩
      have hi2 : i < n := by
        have := (List.getElem?_eq_some_iff.mp hm).1
        simpa using this
      refine ⟨[some ⟨.val, iv b⟩, some ⟨.val, iv n⟩, some ⟨.val, iv (b ^ i)⟩, some ⟨.val, m⟩], _, ?_, power_step hb (pow_mulW hb2 (by omega)), _, rfl, .inr ⟨_, rfl⟩⟩
      rcases hc with rfl | ⟨x, rfl⟩ <;> simp [Mi.runM, Mi.finM, Mi.outG, Mi.initG, Mi.sSeq, Mi.sSet, Mi.sIf, Mi.sRet, Mi.sRetV, Mi.sRetN, Mi.sExpr, Mi.sNil, Mi.sPar, Mi.sPar3, Mi.put2, Mi.put3, Mi.sAug, Mi.sSt, Mi.sAsg, Mi.asgM, Mi.asgMs, Mi.sFor, Mi.sWhile, Mi.fSeq, Mi.seqM, Mi.fArgs, Mi.fEnum, Mi.fZip, Mi.walkable, Mi.sLend, Mi.sBreak, Mi.sCont, Mi.e1, Mi.e2, Mi.eC, Mi.eVar, Mi.eTup, Mi.eLst, Mi.aNil, Mi.aCons, Mi.eIf, Mi.eAn, Mi.eOr, Mi.eNt, Mi.eNew, Mi.eCall, Mi.eMeth, Mi.eProp, Mi.eMk, Mi.eMut, Mi.ePur, Mi.tB, Mi.tQ, Mi.tNt, Mi.tAn, Mi.tOrr, Mi.oEv, Mi.oGet, Mi.canSet, Mi.hasC, Mi.Kd.mine, Mi.isTy, Mi.isTyB, Mi.tbF, Mi.hNil, Mi.hCons, Mi.hHole, Mi.eCallIo, Mi.aStar, Mi.rowM, Mi.eTupD, Mi.addM, Mi.ltM, Mi.mulM, Mi.addI, Mi.subI, Mi.mulI, Mi.divI, Mi.modI, Mi.powI, Mi.ltI, Mi.leI, Mi.gtI, Mi.geI, Mi.iiM, Mi.negI, Mi.addS, Mi.addT, Mi.addL, Mi.ltT, Mi.repT, Mi.eqM_ii, Mi.neM_ii, Mi.eqM_tt, Mi.neM_tt, Mi.eqM_ll, Mi.neM_ll, Mi.isN, Mi.notN, Mi.nonB, Mi.inM, Mi.inDt, Mi.inS, Mi.inL, Mi.lenM, Mi.lenS, Mi.lenT, Mi.lenD, Mi.absM, Mi.maxII, Mi.minII, Mi.intM, Mi.boolM, Mi.intsM, Mi.blsM, Mi.sumM, Mi.allM, Mi.anyM, Mi.maxM, Mi.minM, Mi.sortM, Mi.tupM, Mi.lstM, Mi.listM, Mi.lstD, Mi.atM, Mi.ixM, atI, ixN, Mi.stM, Mi.truM, Mi.appM, Mi.popM, Mi.slLo, Mi.slHi, Mi.slM, Mi.revM, Mi.atrM, Mi.cutM])
  obtain ⟨γ', h2, c, rfl, _⟩ := hf
  have hl : ((List.range n).map iv).length = n := by simp
  rw [hl] at h2
  exact ⟨c, h2⟩
theorem power_ok {b n : Nat} (hb : 2 ≤ b) (hb2 : b < 2 ^ 60) (hn : n ≤ 60) : m_law_power [iv b, iv n] = .rt (vV (iv (b ^ n))) none := by
  obtain ⟨c, h⟩ := power_for hb hb2 hn
  have hr : rangeM1 [iv n] = some ((List.range n).map iv) := rangeM1_nat n (lt62 (by omega))
  have h1 : fArgs rangeM1 (aCons (eVar 1) aNil) [some ⟨.val, iv b⟩, some ⟨.val, iv n⟩, some ⟨.val, iv (b ^ 0)⟩, none] = .ok ((List.range n).map iv) [some ⟨.val, iv b⟩, some ⟨.val, iv n⟩, some ⟨.val, iv (b ^ 0)⟩, none] := fArgs_one rfl hr
  have h0 : sSet 2 (eC (.int 1)) [some ⟨.val, iv b⟩, some ⟨.val, iv n⟩, none, none] = .nx [some ⟨.val, iv b⟩, some ⟨.val, iv n⟩, some ⟨.val, iv (b ^ 0)⟩, none] := rfl
  have b1 := sSeq_go (g := sSeq (sFor (.nm 3) (fArgs rangeM1 (aCons (eVar 1) aNil)) l_law_power_1) (sRetV 2)) h0
  have b2 := sSeq_go (g := sRetV 2) (sFor_of h1 h)
  have b3 : sRetV 2 [some ⟨.val, iv b⟩, some ⟨.val, iv n⟩, some ⟨.val, iv (b ^ n)⟩, c] = .rt (vV (iv (b ^ n))) [some ⟨.val, iv b⟩, some ⟨.val, iv n⟩, some ⟨.val, iv (b ^ n)⟩, c] := rfl
  exact runM_rt (b1.trans (b2.trans b3))
end Pf

set_option Elab.async false
set_option linter.all false
set_option maxRecDepth 100000
set_option maxHeartbeats 1000000
namespace Pf
open PySem PySem.Spec PyProof.Rows L2 My Mi
theorem parity_v : m_parity_word [] = .rt (vV (wv 2 [[0, 1], [1, 0]] [0, 1])) none := by kernel_rfl
end Pf

set_option Elab.async false
set_option linter.all false
set_option maxRecDepth 100000
set_option maxHeartbeats 1000000
namespace Pf
open PySem PySem.Spec PyProof.Rows L2 My Mi
theorem doubling_v : m_doubling_word [] = .rt (vV (wv 2 [[0, 1], [0, 0]] [0, 1])) none := by kernel_rfl
theorem fold_v : m_fold_word [] = .rt (vV (wv 2 [[0, 1], [2, 1], [0, 3], [2, 3]] [1, 1, 0, 0])) none := by kernel_rfl
theorem pairs_v : m_pairs_word [] = .rt (vV (wv 2 [[0, 1], [0, 2], [3, 1], [3, 2]] [0, 0, 1, 1])) none := by kernel_rfl
end Pf

set_option Elab.async false
set_option linter.all false
set_option maxRecDepth 100000
set_option maxHeartbeats 1000000
namespace Pf
open PySem PySem.Spec PyProof.Rows L2 My Mi
/-- a word's plain tuple, as law_right hands it to the law's own least -/
abbrev pl (b : Nat) (rows : List (List Nat)) (lets : List Nat) : MV := .tup [iv b, rv rows, tv lets]
theorem powers2_v : m_powers_word [.int 2] = .rt (vV (wv 2 [[0, 1], [1, 2], [2, 2]] [0, 1, 0])) none := by kernel_rfl
theorem least_parity : m_law_wd_least [pl 2 [[0, 1], [1, 0]] [0, 1]] = .rt (vV (pl 2 [[0, 1], [1, 0]] [0, 1])) none := by kernel_rfl
end Pf

set_option Elab.async false
set_option linter.all false
set_option maxRecDepth 100000
set_option maxHeartbeats 1000000
namespace Pf
open PySem PySem.Spec PyProof.Rows L2 My Mi
theorem least_doubling : m_law_wd_least [pl 2 [[0, 1], [0, 0]] [0, 1]] = .rt (vV (pl 2 [[0, 1], [0, 0]] [0, 1])) none := by kernel_rfl
theorem least_fold : m_law_wd_least [pl 2 [[0, 1], [2, 1], [0, 3], [2, 3]] [1, 1, 0, 0]] = .rt (vV (pl 2 [[0, 1], [2, 1], [0, 3], [2, 3]] [1, 1, 0, 0])) none := by kernel_rfl
theorem least_pairs : m_law_wd_least [pl 2 [[0, 1], [0, 2], [3, 1], [3, 2]] [0, 0, 1, 1]] = .rt (vV (pl 2 [[0, 1], [0, 2], [3, 1], [3, 2]] [0, 0, 1, 1])) none := by kernel_rfl
theorem powers3_v : m_powers_word [.int 3] = .rt (vV (wv 3 [[0, 1, 2], [1, 2, 2], [2, 2, 2]] [0, 1, 0])) none := by kernel_rfl
theorem ends3_v : m_ends_word [.int 3] = .rt (vV (wv 3 [[0, 0, 1], [0, 0, 0]] [0, 1])) none := by kernel_rfl
end Pf

set_option Elab.async false
set_option linter.all false
set_option maxRecDepth 100000
set_option maxHeartbeats 1000000
namespace Pf
open PySem PySem.Spec PyProof.Rows L2 My Mi
theorem powers4_v : m_powers_word [.int 4] = .rt (vV (wv 4 [[0, 1, 2, 2], [1, 2, 2, 2], [2, 2, 2, 2]] [0, 1, 0])) none := by kernel_rfl
theorem powers5_v : m_powers_word [.int 5] = .rt (vV (wv 5 [[0, 1, 2, 2, 2], [1, 2, 2, 2, 2], [2, 2, 2, 2, 2]] [0, 1, 0])) none := by kernel_rfl
theorem ends2_v : m_ends_word [.int 2] = .rt (vV (wv 2 [[0, 1], [0, 0]] [0, 1])) none := by kernel_rfl
theorem ends4_v : m_ends_word [.int 4] = .rt (vV (wv 4 [[0, 0, 0, 1], [0, 0, 0, 0]] [0, 1])) none := by kernel_rfl
theorem ends5_v : m_ends_word [.int 5] = .rt (vV (wv 5 [[0, 0, 0, 0, 1], [0, 0, 0, 0, 0]] [0, 1])) none := by kernel_rfl
theorem least_powers2 : m_law_wd_least [pl 2 [[0, 1], [1, 2], [2, 2]] [0, 1, 0]] = .rt (vV (pl 2 [[0, 1], [1, 2], [2, 2]] [0, 1, 0])) none := by kernel_rfl
theorem least_powers3 : m_law_wd_least [pl 3 [[0, 1, 2], [1, 2, 2], [2, 2, 2]] [0, 1, 0]] = .rt (vV (pl 3 [[0, 1, 2], [1, 2, 2], [2, 2, 2]] [0, 1, 0])) none := by kernel_rfl
theorem least_powers4 : m_law_wd_least [pl 4 [[0, 1, 2, 2], [1, 2, 2, 2], [2, 2, 2, 2]] [0, 1, 0]] = .rt (vV (pl 4 [[0, 1, 2, 2], [1, 2, 2, 2], [2, 2, 2, 2]] [0, 1, 0])) none := by kernel_rfl
theorem least_powers5 : m_law_wd_least [pl 5 [[0, 1, 2, 2, 2], [1, 2, 2, 2, 2], [2, 2, 2, 2, 2]] [0, 1, 0]] = .rt (vV (pl 5 [[0, 1, 2, 2, 2], [1, 2, 2, 2, 2], [2, 2, 2, 2, 2]] [0, 1, 0])) none := by kernel_rfl
theorem least_ends3 : m_law_wd_least [pl 3 [[0, 0, 1], [0, 0, 0]] [0, 1]] = .rt (vV (pl 3 [[0, 0, 1], [0, 0, 0]] [0, 1])) none := by kernel_rfl
theorem least_ends4 : m_law_wd_least [pl 4 [[0, 0, 0, 1], [0, 0, 0, 0]] [0, 1]] = .rt (vV (pl 4 [[0, 0, 0, 1], [0, 0, 0, 0]] [0, 1])) none := by kernel_rfl
theorem least_ends5 : m_law_wd_least [pl 5 [[0, 0, 0, 0, 1], [0, 0, 0, 0, 0]] [0, 1]] = .rt (vV (pl 5 [[0, 0, 0, 0, 1], [0, 0, 0, 0, 0]] [0, 1])) none := by kernel_rfl
end Pf

set_option Elab.async false
set_option linter.all false
set_option maxRecDepth 100000
set_option maxHeartbeats 1000000
namespace Pf
open PySem PySem.Spec PyProof.Rows L2 My Mi
/-! plain: what the known words tell -/
theorem nts_log {b : Nat} (hb : 2 ≤ b) : ∀ (k n : Nat), 0 < n → n < 2 ^ k → nts b n < k
  | 0, n, h0, h => by omega
  | k + 1, n, h0, h => by
    by_cases hm : n % b = 0
    · rw [nts_go hb h0 hm]
      have h1 : n / b ≤ n / 2 := Nat.div_le_div_left hb (by omega)
      have h2 : n / 2 < 2 ^ k := by omega
      have := nts_log hb k (n / b) (div_pos_of hb h0 hm) (by omega)
      omega
    · rw [nts_end hm]; omega
theorem st_ind {rows : List (List Nat)} {b : Nat} (hb : 2 ≤ b) (f : Nat → Nat) (h0 : f 0 = 0) (hs : ∀ p, 0 < p → f p = stp rows (f (p / b)) (p % b)) : ∀ p, stAt rows b p = f p := by
  intro p
  induction p using Nat.strongRecOn with
  | ind p ih =>
    by_cases hp : 0 < p
    · rw [stAt_pos hb hp, ih _ (Nat.div_lt_self hp hb), hs p hp]
    · have : p = 0 := by omega
      subst this
      rw [stAt_zero, h0]
theorem sum_rev (l : List Nat) : l.reverse.sum = l.sum := by
  induction l with
  | nil => rfl
  | cons a l ih => simp [ih]; omega
theorem stp2 (a b c d s e : Nat) (hs : s < 2) (he : e < 2) : stp [[a, b], [c, d]] s e = if s = 0 then (if e = 0 then a else b) else (if e = 0 then c else d) := by
  rcases (by omega : s = 0 ∨ s = 1) with rfl | rfl <;> rcases (by omega : e = 0 ∨ e = 1) with rfl | rfl <;> rfl
theorem parity_st (p : Nat) : stAt [[0, 1], [1, 0]] 2 p = (digs 2 p).sum % 2 := by
  refine st_ind (f := fun p => (digs 2 p).sum % 2) (by omega) ?_ (fun p hp => ?_) p
  · simp [digs, lds_zero]
  · simp only [digs, sum_rev, lds_pos (b := 2) (by omega) hp, List.sum_cons]
    rw [stp2 _ _ _ _ _ _ (Nat.mod_lt _ (by omega)) (Nat.mod_lt _ (by omega))]
    generalize (lds 2 (p / 2)).sum = x
    split <;> split <;> omega
theorem nts_one {b : Nat} (hb : 2 ≤ b) : nts b 1 = 0 := nts_end (by rw [Nat.mod_eq_of_lt (by omega)]; omega)
theorem nts_suc {b p : Nat} (hb : 2 ≤ b) : nts b (p + 1) = if p % b = b - 1 then nts b (p / b + 1) + 1 else 0 := by
  have hdm := Nat.div_add_mod p b
  have hml := Nat.mod_lt p (show 0 < b by omega)
  split
  · rename_i h
    have e1 : p + 1 = b * (p / b + 1) := by rw [Nat.mul_add]; omega
    have e2 : (p + 1) / b = p / b + 1 := by rw [e1, Nat.mul_div_cancel_left _ (by omega)]
    rw [nts_go hb (by omega) (by rw [e1]; exact Nat.mul_mod_right _ _), e2]
  · rename_i h
    refine nts_end ?_
    rw [Nat.add_mod, Nat.mod_eq_of_lt (show 1 < b by omega), Nat.mod_eq_of_lt (by omega)]
    omega
theorem ends_st {b : Nat} {rows : List (List Nat)} (hb : 2 ≤ b) (hr : ∀ s < 2, ∀ d < b, stp rows s d = if d = b - 1 then 1 - s else 0) (p : Nat) : stAt rows b p = nts b (p + 1) % 2 := by
  refine st_ind (f := fun p => nts b (p + 1) % 2) hb ?_ (fun p hp => ?_) p
  · simp [nts_one hb]
  · rw [hr _ (Nat.mod_lt _ (by omega)) _ (Nat.mod_lt _ (by omega)), nts_suc hb]
    split
    · omega
    · rfl
theorem odo_one {b : Nat} (hb : 2 ≤ b) : odo b 1 = 1 := odo_end (by rw [Nat.mod_eq_of_lt (by omega)]; omega)
theorem powers_st {b : Nat} {rows : List (List Nat)} (hb : 2 ≤ b) (hr : ∀ s < 3, ∀ d < b, stp rows s d = if s = 0 then (if d < 2 then d else 2) else if s = 1 then (if d = 0 then 1 else 2) else 2) (p : Nat) : stAt rows b p = if p = 0 then 0 else if odo b p = 1 then 1 else 2 := by
  refine st_ind (f := fun p => if p = 0 then 0 else if odo b p = 1 then 1 else 2) hb (by rfl) (fun p hp => ?_) p
  have hdm := Nat.div_add_mod p b
  have hml := Nat.mod_lt p (show 0 < b by omega)
  rw [hr _ (by split; omega; split <;> omega) _ hml]
  have hp0 : p ≠ 0 := by omega
  simp only [if_neg hp0]
  by_cases hd : p % b = 0
  · have h1 := div_pos_of hb hp hd
    have h2 : p / b ≠ 0 := by omega
    rw [odo_go hb hp hd]
    simp only [hd, if_neg h2]
    by_cases h3 : odo b (p / b) = 1 <;> simp [h3]
  · rw [odo_end hd]
    by_cases h2 : p / b = 0
    · have h3 : p % b = p := by rw [h2] at hdm; omega
      rw [h3]
      simp only [h2, if_pos]
      by_cases h4 : p = 1
      · subst h4; rfl
      · rw [if_neg h4, if_neg (by omega)]
    · have h3 : p ≠ 1 := fun h => by
        subst h
        rw [Nat.div_eq_of_lt (by omega)] at h2
        exact h2 rfl
      rw [if_neg h3]
      simp only [if_neg h2]
      by_cases h4 : odo b (p / b) = 1 <;> simp [h4, hd]
theorem odo_suc2 {p : Nat} : odo 2 (p + 1) = if p % 2 = 1 then odo 2 (p / 2 + 1) else p + 1 := by
  split
  · rename_i h
    rw [odo_go (by omega) (by omega) (by omega)]
    congr 1
    omega
  · exact odo_end (by omega)
theorem fold_st (p : Nat) : stAt [[0, 1], [2, 1], [0, 3], [2, 3]] 2 p = p % 2 + if odo 2 (p + 1) % 4 = 1 then 0 else 2 := by
  refine st_ind (f := fun p => p % 2 + if odo 2 (p + 1) % 4 = 1 then 0 else 2) (by omega) ?_ (fun p hp => ?_) p
  · simp [odo_one]
  · show (p % 2 + if odo 2 (p + 1) % 4 = 1 then 0 else 2) = stp [[0, 1], [2, 1], [0, 3], [2, 3]] (p / 2 % 2 + if odo 2 (p / 2 + 1) % 4 = 1 then 0 else 2) (p % 2)
    rw [odo_suc2]
    rcases (by omega : p % 2 = 0 ∨ p % 2 = 1) with h | h <;> rcases (by omega : p / 2 % 2 = 0 ∨ p / 2 % 2 = 1) with h2 | h2
    · have : (p + 1) % 4 = 1 := by omega
      rw [h, h2]
      by_cases h3 : odo 2 (p / 2 + 1) % 4 = 1 <;> simp [h3, this, stp]
    · have : ¬ (p + 1) % 4 = 1 := by omega
      rw [h, h2]
      by_cases h3 : odo 2 (p / 2 + 1) % 4 = 1 <;> simp [h3, this, stp]
    · rw [h, h2]
      by_cases h3 : odo 2 (p / 2 + 1) % 4 = 1 <;> simp [h3, stp]
    · rw [h, h2]
      by_cases h3 : odo 2 (p / 2 + 1) % 4 = 1 <;> simp [h3, stp]
def cnt11 : List Nat → Nat
  | a :: b :: r => (if a = 1 ∧ b = 1 then 1 else 0) + cnt11 (b :: r)
  | _ => 0
theorem cnt11_app (d : Nat) : ∀ l : List Nat, cnt11 (l ++ [d]) = cnt11 l + if l.getLast? = some 1 ∧ d = 1 then 1 else 0
  | [] => by simp [cnt11]
  | [a] => by simp [cnt11]
  | a :: b :: r => by
    have := cnt11_app d (b :: r)
    simp only [List.cons_append, cnt11] at this ⊢
    rw [this]
    simp only [List.getLast?_cons_cons]
    omega
theorem digs_pos {b p : Nat} (hb : 2 ≤ b) (h : 0 < p) : digs b p = digs b (p / b) ++ [p % b] := by
  unfold digs
  rw [lds_pos hb h, List.reverse_cons]
theorem digs_last {b p : Nat} (hb : 2 ≤ b) : (digs b p).getLast? = if p = 0 then none else some (p % b) := by
  split
  · rename_i h; subst h; unfold digs; rw [lds_zero]; rfl
  · rw [digs_pos hb (by omega)]; simp
theorem pairs_st (p : Nat) : stAt [[0, 1], [0, 2], [3, 1], [3, 2]] 2 p = if cnt11 (digs 2 p) % 2 = 0 then p % 2 else 3 - p % 2 := by
  refine st_ind (f := fun p => if cnt11 (digs 2 p) % 2 = 0 then p % 2 else 3 - p % 2) (by omega) ?_ (fun p hp => ?_) p
  · simp [digs, lds_zero, cnt11]
  · show (if cnt11 (digs 2 p) % 2 = 0 then p % 2 else 3 - p % 2) = stp [[0, 1], [0, 2], [3, 1], [3, 2]] (if cnt11 (digs 2 (p / 2)) % 2 = 0 then p / 2 % 2 else 3 - p / 2 % 2) (p % 2)
    rw [digs_pos (b := 2) (p := p) (by omega) hp, cnt11_app, digs_last (by omega)]
    generalize cnt11 (digs 2 (p / 2)) = x
    rcases (by omega : p % 2 = 0 ∨ p % 2 = 1) with h | h <;> rcases (by omega : p / 2 % 2 = 0 ∨ p / 2 % 2 = 1) with h2 | h2 <;> rcases (by omega : x % 2 = 0 ∨ x % 2 = 1) with h3 | h3
    all_goals
      have e : (if p / 2 = 0 then none else some (p / 2 % 2)) = some 1 ↔ p / 2 % 2 = 1 := by
        split
        · rename_i hz; rw [hz]; simp
        · simp
      simp only [h, h2, h3, e, stp]
      simp (config := { decide := true }) [h3]
    all_goals
      have h5 : 2 ≤ p := by omega
      simp only [h5, if_true]
      omega
end Pf

set_option Elab.async false
set_option linter.all false
namespace Mi
open PySem PySem.Spec PyProof.Rows L2 My
/-! comprehensions and loops as maps and folds -/
/-- one turn of a comprehension: m gives r -/
def One (t : Tg) (tt : FT) (f : FE) (vs : List Nat) (γ : Sg) (m r : MV) : Prop := ∃ γ1 γ2 c γ3, asgM t m γ = some γ1 ∧ tt γ1 = .ok true γ2 ∧ f γ2 = .ok c γ3 ∧ wipeG γ3 vs = γ ∧ c.v = r
def Skip (t : Tg) (tt : FT) (vs : List Nat) (γ : Sg) (m : MV) : Prop := ∃ γ1 γ2, asgM t m γ = some γ1 ∧ tt γ1 = .ok false γ2 ∧ wipeG γ2 vs = γ
theorem compM_map {t : Tg} {tt : FT} {f : FE} {vs : List Nat} {γ : Sg} {α : Type} (e g : α → MV) : ∀ l : List α, (∀ m ∈ l, One t tt f vs γ (e m) (g m)) → compM t tt f vs (l.map e) γ = some (l.map g, γ)
  | [], _ => rfl
  | m :: l, h => by
    obtain ⟨γ1, γ2, c, γ3, h1, h2, h3, h4, h5⟩ := h m List.mem_cons_self
    have := compM_map e g l fun m' hm => h m' (List.mem_cons_of_mem _ hm)
    simp only [List.map_cons, compM, h1, h2, h3, h4, this, Option.map_some, h5]
theorem compM_filter {t : Tg} {tt : FT} {f : FE} {vs : List Nat} {γ : Sg} {α : Type} (e g : α → MV) (p : α → Bool) : ∀ l : List α, (∀ m ∈ l, p m = true → One t tt f vs γ (e m) (g m)) → (∀ m ∈ l, p m = false → Skip t tt vs γ (e m)) → compM t tt f vs (l.map e) γ = some ((l.filter p).map g, γ)
  | [], _, _ => rfl
  | m :: l, h, h' => by
    have ih := compM_filter e g p l (fun m' hm => h m' (List.mem_cons_of_mem _ hm)) fun m' hm => h' m' (List.mem_cons_of_mem _ hm)
    cases hp : p m with
    | true =>
      obtain ⟨γ1, γ2, c, γ3, h1, h2, h3, h4, h5⟩ := h m List.mem_cons_self hp
      simp only [List.map_cons, compM, h1, h2, h3, h4, ih, Option.map_some, h5, List.filter_cons_of_pos hp]
    | false =>
      obtain ⟨γ1, γ2, h1, h2, h3⟩ := h' m List.mem_cons_self hp
      have hn : ¬ p m = true := by rw [hp]; exact Bool.false_ne_true
      simp only [List.map_cons, compM, h1, h2, h3, ih, List.filter_cons_of_neg hn]
theorem eComp_map {t : Tg} {fi : FI} {tt : FT} {f : FE} {vs : List Nat} {γ γ1 γ2 γ3 : Sg} {α : Type} (e g : α → MV) (l : List α) (h : fi γ = .ok (l.map e) γ1) (hl : l.length ≤ sizeLine) (hw : wipeG γ1 vs = γ2) (hf : ∀ m ∈ l, One t tt f vs γ2 (e m) (g m)) (hb : backG γ1 vs γ2 = γ3) :
    eComp t fi tt f vs γ = .ok ⟨.own, .lst (l.map g)⟩ γ3 := by
  simp only [eComp, h, List.length_map, if_pos hl, hw, compM_map e g l hf, hb]
theorem eComp_filter {t : Tg} {fi : FI} {tt : FT} {f : FE} {vs : List Nat} {γ γ1 γ2 γ3 : Sg} {α : Type} (e g : α → MV) (p : α → Bool) (l : List α) (h : fi γ = .ok (l.map e) γ1) (hl : l.length ≤ sizeLine) (hw : wipeG γ1 vs = γ2) (hf : ∀ m ∈ l, p m = true → One t tt f vs γ2 (e m) (g m))
    (hs : ∀ m ∈ l, p m = false → Skip t tt vs γ2 (e m)) (hb : backG γ1 vs γ2 = γ3) : eComp t fi tt f vs γ = .ok ⟨.own, .lst ((l.filter p).map g)⟩ γ3 := by
  simp only [eComp, h, List.length_map, if_pos hl, hw, compM_filter e g p l hf hs, hb]
/-- a loop as a fold: enc tells the slots by what the loop's own names hold and by the state -/
theorem forM_fold {t : Tg} {s : FS} {α β β' : Type} (em : β' → MV) (enc : β → α → Sg) (step : α → β' → α) (P : α → Prop) : ∀ (ms : List β') (l : β) (a : α), P a →
    (∀ l a m, m ∈ ms → P a → P (step a m) ∧ ∃ γ1 l', asgM t (em m) (enc l a) = some γ1 ∧ s γ1 = .nx (enc l' (step a m))) → ∃ l', forM t s (ms.map em) (enc l a) = .nx (enc l' (ms.foldl step a)) ∧ P (ms.foldl step a)
  | [], l, a, h, _ => ⟨l, rfl, h⟩
  | m :: ms, l, a, h, hs => by
    obtain ⟨h1, γ1, l', h2, h3⟩ := hs l a m List.mem_cons_self h
    obtain ⟨l2, h4, h5⟩ := forM_fold em enc step P ms l' (step a m) h1 fun l a m' hm => hs l a m' (List.mem_cons_of_mem _ hm)
    exact ⟨l2, by simp only [List.map_cons, forM, h2, h3, h4, List.foldl_cons], h5⟩
/-- .. of which each turn leaves the state -/
theorem forM_same {t : Tg} {s : FS} {β' : Type} (em : β' → MV) (P : Sg → Prop) : ∀ (ms : List β') (γ : Sg), P γ → (∀ γ m, m ∈ ms → P γ → ∃ γ1 γ2, asgM t (em m) γ = some γ1 ∧ s γ1 = .nx γ2 ∧ P γ2) → ∃ γ', forM t s (ms.map em) γ = .nx γ' ∧ P γ'
  | [], γ, h, _ => ⟨γ, rfl, h⟩
  | m :: ms, γ, h, hs => by
    obtain ⟨γ1, γ2, h1, h2, h3⟩ := hs γ m List.mem_cons_self h
    obtain ⟨γ', h4, h5⟩ := forM_same em P ms γ2 h3 fun γ m' hm => hs γ m' (List.mem_cons_of_mem _ hm)
    exact ⟨γ', by simp only [List.map_cons, forM, h1, h2, h4], h5⟩
theorem sFor_nx {t : Tg} {fi : FI} {s : FS} {γ γ1 γ2 : Sg} {ms : List MV} (h : fi γ = .ok ms γ1) (h2 : forM t s ms γ1 = .nx γ2) : sFor t fi s γ = .nx γ2 := by
  simp only [sFor, h, h2]
/-- the law's spots: range(max(1, min(m, len(script)))) -/
theorem fArgs_of {g : List MV → Option (List MV)} {fa : FA} {γ γ1 : Sg} {ms r : List MV} (h : fa γ = .ok ms γ1) (hg : g ms = some r) : fArgs g fa γ = .ok r γ1 := by
  simp only [fArgs, h, hg]
theorem e2_of {g : MV → MV → Option Cell} {o q : Opd} {γ γ1 γ2 : Sg} {c d u : Cell} {v w : MV} (h : oEv o γ = .ok c γ1) (h2 : oEv q γ1 = .ok d γ2) (k1 : oGet o c γ2 = some v) (k2 : oGet q d γ2 = some w) (hg : g v w = some u) : e2 g o q γ = .ok u γ2 := by
  simp only [e2, h, h2, k1, k2, hg]
theorem e1_of {g : MV → Option Cell} {o : Opd} {γ γ1 : Sg} {c u : Cell} {v : MV} (h : oEv o γ = .ok c γ1) (k1 : oGet o c γ1 = some v) (hg : g v = some u) : e1 g o γ = .ok u γ1 := by
  simp only [e1, h, k1, hg]
theorem oEv_ex {f : FE} {γ γ1 : Sg} {c : Cell} (h : f γ = .ok c γ1) : oEv (.ex f) γ = .ok c γ1 := by
  simp only [oEv, oGet, h]
theorem aCons_of {f : FE} {r : FA} {γ γ1 γ2 : Sg} {c : Cell} {ms : List MV} (h : f γ = .ok c γ1) (h2 : r γ1 = .ok ms γ2) : aCons f r γ = .ok (c.v :: ms) γ2 := by
  simp only [aCons, h, h2]
theorem spots_num (m n : Nat) : (if (if (n : Int) < (m : Int) then (n : Int) else (m : Int)) > 1 then (if (n : Int) < (m : Int) then (n : Int) else (m : Int)) else 1) = ((max 1 (min m n) : Nat) : Int) := by
  split <;> split <;> omega
theorem spots_fi {lenf : MV → Option Cell} {s : MV} {γ : Sg} {n m : Nat} (hm : m ≤ 5000) (h : lenf s = some (vI (n : Int))) (h0 : oEv (.sl 0) γ = .ok ⟨.val, s⟩ γ) (k0 : oGet (.sl 0) ⟨.val, s⟩ γ = some s) :
    fArgs rangeM1 (aCons (e2 maxII (.ex (eC (.int 1))) (.ex (e2 minII (.ex (eC (.int (m : Int)))) (.ex (e1 lenf (.sl 0)))))) aNil) γ = .ok ((List.range (max 1 (min m n))).map iv) γ := by
  have a1 : e1 lenf (.sl 0) γ = .ok (vI (n : Int)) γ := e1_of h0 k0 h
  have a2 : minII (.int (m : Int)) (.int (n : Int)) = some (vI (if (n : Int) < (m : Int) then (n : Int) else (m : Int))) := rfl
  have a3 := e2_of (oEv_ex (f := eC (.int (m : Int))) (γ := γ) rfl) (oEv_ex a1) rfl rfl a2
  have a4 : maxII (.int 1) (.int (if (n : Int) < (m : Int) then (n : Int) else (m : Int))) = some (vV (iv (max 1 (min m n)))) := by
    have e := spots_num m n
    unfold iv
    rw [← e]; rfl
  have a5 := e2_of (oEv_ex (f := eC (.int 1)) (γ := γ) rfl) (oEv_ex a3) rfl rfl a4
  exact fArgs_of (aCons_of a5 rfl) (rangeM1_nat _ (lt62 (by omega)))
end Mi

set_option Elab.async false
set_option linter.all false
set_option maxRecDepth 100000
set_option maxHeartbeats 1000000
namespace Pf
open PySem PySem.Spec PyProof.Rows L2 My Mi
def b2n (c : Bool) : Nat := if c then 1 else 0
def dueL (b p : Nat) : List Nat := [(digs 2 p).sum % 2, nts 2 (p + 1) % 2, b2n (decide (odo 2 (p + 1) % 4 = 1)), cnt11 (digs 2 p) % 2, b2n (decide (0 < p) && decide (odo b p = 1)), nts b (p + 1) % 2]
theorem intsM_iv (l : List Nat) : intsM (l.map iv) = some (l.map fun (n : Nat) => (n : Int)) := by
  induction l with
  | nil => rfl
  | cons a l ih => rw [List.map_cons, intsM, ih]; rfl
theorem sum_cast (l : List Nat) : (l.map fun (n : Nat) => (n : Int)).sum = (l.sum : Nat) := by
  induction l with
  | nil => rfl
  | cons a l ih => simp [ih]
theorem sumM_tv (l : List Nat) : sumM (tv l) = some (vV (iv l.sum)) := by
  simp only [sumM, intsM_iv, Option.map_some, sum_cast]
theorem cnt11_zip : ∀ l : List Nat, ((l.zip l.tail).filter fun q => decide (q.1 = 1) && decide (q.2 = 1)).length = cnt11 l
  | [] => rfl
  | [a] => rfl
  | a :: b :: r => by
    have := cnt11_zip (b :: r)
    simp only [List.tail_cons, List.zip_cons_cons, cnt11] at this ⊢
    by_cases h : a = 1 ∧ b = 1
    · rw [List.filter_cons_of_pos (by simp [h.1, h.2]), List.length_cons, this, if_pos h, Nat.add_comm]
    · rw [List.filter_cons_of_neg (by simpa using h), this, if_neg h, Nat.zero_add]
theorem pairs_zip : ∀ l l2 : List Nat, pairsM (l.map iv) (l2.map iv) = (l.zip l2).map fun q => .tup [iv q.1, iv q.2]
  | [], _ => by simp [pairsM]
  | _ :: _, [] => by simp [pairsM]
  | a :: l, b :: l2 => by
    have := pairs_zip l l2
    unfold pairsM at this ⊢
    simp only [List.map_cons, List.zipWith_cons_cons, List.zip_cons_cons, this]
theorem slLo_one (l : List Nat) : slLo (tv l) (.int 1) = some (vV (tv l.tail)) := by
  cases l with
  | nil => rfl
  | cons a l =>
    have e : cutM ((a :: l).map iv) (some 1) none = l.map iv := by
      unfold cutM
      have h1 : HT.sIx ((a :: l).map iv).length 0 (some 1) = 1 := by
        unfold HT.sIx
        simp
      have h2 : HT.sIx ((a :: l).map iv).length ((a :: l).map iv).length none = ((a :: l).map iv).length := rfl
      rw [h1, h2]; simp only [List.map_cons, List.drop_succ_cons, List.drop_zero, List.length_cons, Nat.add_sub_cancel]; exact List.take_of_length_le (Nat.le_refl _)
    show some (vV (.tup (cutM ((a :: l).map iv) (some 1) none))) = _
    rw [e]
    rfl
end Pf

set_option Elab.async false
set_option linter.all false
set_option maxRecDepth 100000
set_option maxHeartbeats 1000000
namespace Pf
open PySem PySem.Spec PyProof.Rows L2 My Mi
def due1 : FS := sSet 2 (eCall m_law_digits (aCons (eC (.int 2)) (aCons (eVar 1) aNil)))
def due2 : FS := sSet 3 (eLst (aCons (e2 modI (.ex (e1 sumM (.sl 2))) (.ex (eC (.int 2)))) (aCons (e2 modI (.ex (eCall m_law_noughts (aCons (eC (.int 2)) (aCons (e2 addM (.sl 1) (.ex (eC (.int 1)))) aNil)))) (.ex (eC (.int 2)))) (aCons (e1 intM (.ex (e2 eqM (.ex (e2 modI (.ex (eCall m_law_odd (aCons (eC (.int 2)) (aCons (e2 addM (.sl 1) (.ex (eC (.int 1)))) aNil)))) (.ex (eC (.int 4))))) (.ex (eC (.int 1)))))) aNil))))
def due3c : Mi.FE := eComp (.tp [(.nm 4), (.nm 5)]) (fZip (.ex (eVar 2)) (.ex (e2 slLo (.sl 2) (.ex (eC (.int 1)))))) t_law_due_1 (eC (.int 1)) [4, 5]
def due3 : FS := sExpr (eMut "list" appM 3 (aCons (e2 modI (.ex (e1 lenM (.ex due3c))) (.ex (eC (.int 2)))) aNil))
def due4 : FS := sExpr (eMut "list" appM 3 (aCons (e1 intM (.ex (eAn (e2 gtI (.sl 1) (.ex (eC (.int 0)))) (e2 eqM (.ex (eCall m_law_odd (aCons (eVar 0) (aCons (eVar 1) aNil)))) (.ex (eC (.int 1))))))) aNil))
def due5 : FS := sRet (e2 addM (.sl 3) (.ex (eLst (aCons (e2 modI (.ex (eCall m_law_noughts (aCons (eVar 0) (aCons (e2 addM (.sl 1) (.ex (eC (.int 1)))) aNil)))) (.ex (eC (.int 2)))) aNil))))
theorem due_body : b_law_due = sSeq due1 (sSeq due2 (sSeq due3 (sSeq due4 due5))) := rfl
section
variable {b p : Nat}
theorem due1_ok (hp : p < 2 ^ 990) : due1 [some ⟨.val, iv b⟩, some ⟨.val, iv p⟩, none, none, none, none] = .nx [some ⟨.val, iv b⟩, some ⟨.val, iv p⟩, some ⟨.val, tv (digs 2 p)⟩, none, none, none] := by
  have h := digits_ok (b := 2) (p := p) (by omega) (by omega) (Nat.lt_of_lt_of_le hp (Nat.pow_le_pow_right (by omega) (by omega)))
  have h' : m_law_digits [.int 2, .int (p : Int)] = .rt (vV (tv (digs 2 p))) none := h
  simp [Mi.runM, Mi.finM, Mi.outG, Mi.initG, Mi.sSeq, Mi.sSet, Mi.sIf, Mi.sRet, Mi.sRetV, Mi.sRetN, Mi.sExpr, Mi.sNil, Mi.sPar, Mi.sPar3, Mi.put2, Mi.put3, Mi.sAug, Mi.sSt, Mi.sAsg, Mi.asgM, Mi.asgMs, Mi.sFor, Mi.sWhile, Mi.fSeq, Mi.seqM, Mi.fArgs, Mi.fEnum, Mi.fZip, Mi.walkable, Mi.sLend, Mi.sBreak, Mi.sCont, Mi.e1, Mi.e2, Mi.eC, Mi.eVar, Mi.eTup, Mi.eLst, Mi.aNil, Mi.aCons, Mi.eIf, Mi.eAn, Mi.eOr, Mi.eNt, Mi.eNew, Mi.eCall, Mi.eMeth, Mi.eProp, Mi.eMk, Mi.eMut, Mi.ePur, Mi.tB, Mi.tQ, Mi.tNt, Mi.tAn, Mi.tOrr, Mi.oEv, Mi.oGet, Mi.canSet, Mi.hasC, Mi.Kd.mine, Mi.isTy, Mi.isTyB, Mi.tbF, Mi.hNil, Mi.hCons, Mi.hHole, Mi.eCallIo, Mi.aStar, Mi.rowM, Mi.eTupD, Mi.addM, Mi.ltM, Mi.mulM, Mi.addI, Mi.subI, Mi.mulI, Mi.divI, Mi.modI, Mi.powI, Mi.ltI, Mi.leI, Mi.gtI, Mi.geI, Mi.iiM, Mi.negI, Mi.addS, Mi.addT, Mi.addL, Mi.ltT, Mi.repT, Mi.eqM_ii, Mi.neM_ii, Mi.eqM_tt, Mi.neM_tt, Mi.eqM_ll, Mi.neM_ll, Mi.isN, Mi.notN, Mi.nonB, Mi.inM, Mi.inDt, Mi.inS, Mi.inL, Mi.lenM, Mi.lenS, Mi.lenT, Mi.lenD, Mi.absM, Mi.maxII, Mi.minII, Mi.intM, Mi.boolM, Mi.intsM, Mi.blsM, Mi.sumM, Mi.allM, Mi.anyM, Mi.maxM, Mi.minM, Mi.sortM, Mi.tupM, Mi.lstM, Mi.listM, Mi.lstD, Mi.stM, Mi.truM, Mi.appM, Mi.popM, Mi.slLo, Mi.slHi, Mi.slM, Mi.revM, Mi.atrM, Mi.cutM, due1, h']
theorem nts_ok2 {b n : Nat} (hb : 2 ≤ b) (h0 : 0 < n) (hp : n < 2 ^ 991) : nts b n < 10 ^ 9 := by
  have := nts_log hb 991 n h0 hp
  omega
theorem due2_ok (hp : p < 2 ^ 990) : due2 [some ⟨.val, iv b⟩, some ⟨.val, iv p⟩, some ⟨.val, tv (digs 2 p)⟩, none, none, none] = .nx [some ⟨.val, iv b⟩, some ⟨.val, iv p⟩, some ⟨.val, tv (digs 2 p)⟩, some ⟨.own, .lst ((((dueL b p).take 3)).map iv)⟩, none, none] := by
  have hp1 : p + 1 < 2 ^ 991 := by
    have : (2 : Nat) ^ 991 = 2 * 2 ^ 990 := by rw [Nat.pow_succ]; omega
    omega
  have h1 : m_law_noughts [.int 2, .int ((p : Int) + 1)] = .rt (vV (iv (nts 2 (p + 1)))) none := noughts_ok (b := 2) (p := p + 1) (by omega) (by omega) (by omega) (nts_ok2 (by omega) (by omega) hp1)
  have h2 : m_law_odd [.int 2, .int ((p : Int) + 1)] = .rt (vV (iv (odo 2 (p + 1)))) none := odd_ok (b := 2) (p := p + 1) (by omega) (by omega) (by omega) (nts_ok2 (by omega) (by omega) hp1)
  have h3 := sumM_tv (digs 2 p)
  have e1 : ((digs 2 p).sum : Int) % 2 = (((digs 2 p).sum % 2 : Nat) : Int) := by omega
  generalize hg : sumM = g at h3
  unfold due2
  rw [hg]
  have e2 : (if decide (odo 2 (p + 1) % 4 = 1) = true then (1 : Int) else 0) = ((b2n (decide (odo 2 (p + 1) % 4 = 1)) : Nat) : Int) := by unfold b2n; split <;> rfl
  simp [Mi.runM, Mi.finM, Mi.outG, Mi.initG, Mi.sSeq, Mi.sSet, Mi.sIf, Mi.sRet, Mi.sRetV, Mi.sRetN, Mi.sExpr, Mi.sNil, Mi.sPar, Mi.sPar3, Mi.put2, Mi.put3, Mi.sAug, Mi.sSt, Mi.sAsg, Mi.asgM, Mi.asgMs, Mi.sFor, Mi.sWhile, Mi.fSeq, Mi.seqM, Mi.fArgs, Mi.fEnum, Mi.fZip, Mi.walkable, Mi.sLend, Mi.sBreak, Mi.sCont, Mi.e1, Mi.e2, Mi.eC, Mi.eVar, Mi.eTup, Mi.eLst, Mi.aNil, Mi.aCons, Mi.eIf, Mi.eAn, Mi.eOr, Mi.eNt, Mi.eNew, Mi.eCall, Mi.eMeth, Mi.eProp, Mi.eMk, Mi.eMut, Mi.ePur, Mi.tB, Mi.tQ, Mi.tNt, Mi.tAn, Mi.tOrr, Mi.oEv, Mi.oGet, Mi.canSet, Mi.hasC, Mi.Kd.mine, Mi.isTy, Mi.isTyB, Mi.tbF, Mi.hNil, Mi.hCons, Mi.hHole, Mi.eCallIo, Mi.aStar, Mi.rowM, Mi.eTupD, Mi.addM, Mi.ltM, Mi.mulM, Mi.addI, Mi.subI, Mi.mulI, Mi.divI, Mi.modI, Mi.powI, Mi.ltI, Mi.leI, Mi.gtI, Mi.geI, Mi.iiM, Mi.negI, Mi.addS, Mi.addT, Mi.addL, Mi.ltT, Mi.repT, Mi.eqM_ii, Mi.neM_ii, Mi.eqM_tt, Mi.neM_tt, Mi.eqM_ll, Mi.neM_ll, Mi.isN, Mi.notN, Mi.nonB, Mi.inM, Mi.inDt, Mi.inS, Mi.inL, Mi.lenM, Mi.lenS, Mi.lenT, Mi.lenD, Mi.absM, Mi.maxII, Mi.minII, Mi.intM, Mi.boolM, Mi.intsM, Mi.blsM, Mi.sumM, Mi.allM, Mi.anyM, Mi.maxM, Mi.minM, Mi.sortM, Mi.tupM, Mi.lstM, Mi.listM, Mi.lstD, Mi.stM, Mi.truM, Mi.appM, Mi.popM, Mi.slLo, Mi.slHi, Mi.slM, Mi.revM, Mi.atrM, Mi.cutM, h1, h2, h3, dueL]
  unfold b2n
  by_cases h : odo 2 (p + 1) % 4 = 1
  · have : ((odo 2 (p + 1) : Nat) : Int) % 4 = 1 := by omega
    simp [h, this]
  · have : ¬ ((odo 2 (p + 1) : Nat) : Int) % 4 = 1 := by omega
    simp [h, this]
theorem due3_comp {x : Option Cell} (hp : p < 2 ^ 990) : due3c [some ⟨.val, iv b⟩, some ⟨.val, iv p⟩, some ⟨.val, tv (digs 2 p)⟩, x, none, none] = .ok ⟨.own, .lst ((((digs 2 p).zip (digs 2 p).tail).filter fun q => decide (q.1 = 1) && decide (q.2 = 1)).map fun _ => .int 1)⟩ [some ⟨.val, iv b⟩, some ⟨.val, iv p⟩, some ⟨.val, tv (digs 2 p)⟩, x, none, none] := by
  have hlen : (digs 2 p).length ≤ 990 := by
    unfold digs
    rw [List.length_reverse]
    exact lds_len (by omega) hp
  have hf : fZip (.ex (eVar 2)) (.ex (e2 slLo (.sl 2) (.ex (eC (.int 1))))) [some ⟨.val, iv b⟩, some ⟨.val, iv p⟩, some ⟨.val, tv (digs 2 p)⟩, x, none, none] = .ok (((digs 2 p).zip (digs 2 p).tail).map fun q => .tup [iv q.1, iv q.2]) [some ⟨.val, iv b⟩, some ⟨.val, iv p⟩, some ⟨.val, tv (digs 2 p)⟩, x, none, none] := by
    have h := slLo_one (digs 2 p)
    rw [← pairs_zip]
    generalize slLo = g at h
    generalize digs 2 p = l at h
    simp only [fZip, walkable, oEv, oGet, eVar, e2, eC, List.getElem?_cons_succ, List.getElem?_cons_zero, h]
    rfl
  refine eComp_filter (fun q : Nat × Nat => .tup [iv q.1, iv q.2]) (fun _ => .int 1) (fun q => decide (q.1 = 1) && decide (q.2 = 1)) _ hf (by rw [List.length_zip]; exact small_size (by omega)) rfl (fun q _ hq => ?_) (fun q _ hq => ?_) rfl
  · simp only [Bool.and_eq_true, decide_eq_true_eq] at hq
    have hz : t_law_due_1 [some ⟨.val, iv b⟩, some ⟨.val, iv p⟩, some ⟨.val, tv (digs 2 p)⟩, x, some ⟨.val, iv q.1⟩, some ⟨.val, iv q.2⟩] = .ok true [some ⟨.val, iv b⟩, some ⟨.val, iv p⟩, some ⟨.val, tv (digs 2 p)⟩, x, some ⟨.val, iv q.1⟩, some ⟨.val, iv q.2⟩] := by
      simp [Mi.runM, Mi.finM, Mi.outG, Mi.initG, Mi.sSeq, Mi.sSet, Mi.sIf, Mi.sRet, Mi.sRetV, Mi.sRetN, Mi.sExpr, Mi.sNil, Mi.sPar, Mi.sPar3, Mi.put2, Mi.put3, Mi.sAug, Mi.sSt, Mi.sAsg, Mi.asgM, Mi.asgMs, Mi.sFor, Mi.sWhile, Mi.fSeq, Mi.seqM, Mi.fArgs, Mi.fEnum, Mi.fZip, Mi.walkable, Mi.sLend, Mi.sBreak, Mi.sCont, Mi.e1, Mi.e2, Mi.eC, Mi.eVar, Mi.eTup, Mi.eLst, Mi.aNil, Mi.aCons, Mi.eIf, Mi.eAn, Mi.eOr, Mi.eNt, Mi.eNew, Mi.eCall, Mi.eMeth, Mi.eProp, Mi.eMk, Mi.eMut, Mi.ePur, Mi.tB, Mi.tQ, Mi.tNt, Mi.tAn, Mi.tOrr, Mi.oEv, Mi.oGet, Mi.canSet, Mi.hasC, Mi.Kd.mine, Mi.isTy, Mi.isTyB, Mi.tbF, Mi.hNil, Mi.hCons, Mi.hHole, Mi.eCallIo, Mi.aStar, Mi.rowM, Mi.eTupD, Mi.addM, Mi.ltM, Mi.mulM, Mi.addI, Mi.subI, Mi.mulI, Mi.divI, Mi.modI, Mi.powI, Mi.ltI, Mi.leI, Mi.gtI, Mi.geI, Mi.iiM, Mi.negI, Mi.addS, Mi.addT, Mi.addL, Mi.ltT, Mi.repT, Mi.eqM_ii, Mi.neM_ii, Mi.eqM_tt, Mi.neM_tt, Mi.eqM_ll, Mi.neM_ll, Mi.isN, Mi.notN, Mi.nonB, Mi.inM, Mi.inDt, Mi.inS, Mi.inL, Mi.lenM, Mi.lenS, Mi.lenT, Mi.lenD, Mi.absM, Mi.maxII, Mi.minII, Mi.intM, Mi.boolM, Mi.intsM, Mi.blsM, Mi.sumM, Mi.allM, Mi.anyM, Mi.maxM, Mi.minM, Mi.sortM, Mi.tupM, Mi.lstM, Mi.listM, Mi.lstD, Mi.stM, Mi.truM, Mi.appM, Mi.popM, Mi.slLo, Mi.slHi, Mi.slM, Mi.revM, Mi.atrM, Mi.cutM, t_law_due_1, hq.1, hq.2]
    exact ⟨_, _, _, _, rfl, hz, rfl, rfl, rfl⟩
  · have hz : t_law_due_1 [some ⟨.val, iv b⟩, some ⟨.val, iv p⟩, some ⟨.val, tv (digs 2 p)⟩, x, some ⟨.val, iv q.1⟩, some ⟨.val, iv q.2⟩] = .ok false [some ⟨.val, iv b⟩, some ⟨.val, iv p⟩, some ⟨.val, tv (digs 2 p)⟩, x, some ⟨.val, iv q.1⟩, some ⟨.val, iv q.2⟩] := by
      by_cases h1 : q.1 = 1
      · have h2 : ¬ q.2 = 1 := by simpa [h1] using hq
        have h2' : ¬ ((q.2 : Nat) : Int) = 1 := by omega
        simp [Mi.runM, Mi.finM, Mi.outG, Mi.initG, Mi.sSeq, Mi.sSet, Mi.sIf, Mi.sRet, Mi.sRetV, Mi.sRetN, Mi.sExpr, Mi.sNil, Mi.sPar, Mi.sPar3, Mi.put2, Mi.put3, Mi.sAug, Mi.sSt, Mi.sAsg, Mi.asgM, Mi.asgMs, Mi.sFor, Mi.sWhile, Mi.fSeq, Mi.seqM, Mi.fArgs, Mi.fEnum, Mi.fZip, Mi.walkable, Mi.sLend, Mi.sBreak, Mi.sCont, Mi.e1, Mi.e2, Mi.eC, Mi.eVar, Mi.eTup, Mi.eLst, Mi.aNil, Mi.aCons, Mi.eIf, Mi.eAn, Mi.eOr, Mi.eNt, Mi.eNew, Mi.eCall, Mi.eMeth, Mi.eProp, Mi.eMk, Mi.eMut, Mi.ePur, Mi.tB, Mi.tQ, Mi.tNt, Mi.tAn, Mi.tOrr, Mi.oEv, Mi.oGet, Mi.canSet, Mi.hasC, Mi.Kd.mine, Mi.isTy, Mi.isTyB, Mi.tbF, Mi.hNil, Mi.hCons, Mi.hHole, Mi.eCallIo, Mi.aStar, Mi.rowM, Mi.eTupD, Mi.addM, Mi.ltM, Mi.mulM, Mi.addI, Mi.subI, Mi.mulI, Mi.divI, Mi.modI, Mi.powI, Mi.ltI, Mi.leI, Mi.gtI, Mi.geI, Mi.iiM, Mi.negI, Mi.addS, Mi.addT, Mi.addL, Mi.ltT, Mi.repT, Mi.eqM_ii, Mi.neM_ii, Mi.eqM_tt, Mi.neM_tt, Mi.eqM_ll, Mi.neM_ll, Mi.isN, Mi.notN, Mi.nonB, Mi.inM, Mi.inDt, Mi.inS, Mi.inL, Mi.lenM, Mi.lenS, Mi.lenT, Mi.lenD, Mi.absM, Mi.maxII, Mi.minII, Mi.intM, Mi.boolM, Mi.intsM, Mi.blsM, Mi.sumM, Mi.allM, Mi.anyM, Mi.maxM, Mi.minM, Mi.sortM, Mi.tupM, Mi.lstM, Mi.listM, Mi.lstD, Mi.stM, Mi.truM, Mi.appM, Mi.popM, Mi.slLo, Mi.slHi, Mi.slM, Mi.revM, Mi.atrM, Mi.cutM, t_law_due_1, h1, h2, h2']
      · have h1' : ¬ ((q.1 : Nat) : Int) = 1 := by omega
        simp [Mi.runM, Mi.finM, Mi.outG, Mi.initG, Mi.sSeq, Mi.sSet, Mi.sIf, Mi.sRet, Mi.sRetV, Mi.sRetN, Mi.sExpr, Mi.sNil, Mi.sPar, Mi.sPar3, Mi.put2, Mi.put3, Mi.sAug, Mi.sSt, Mi.sAsg, Mi.asgM, Mi.asgMs, Mi.sFor, Mi.sWhile, Mi.fSeq, Mi.seqM, Mi.fArgs, Mi.fEnum, Mi.fZip, Mi.walkable, Mi.sLend, Mi.sBreak, Mi.sCont, Mi.e1, Mi.e2, Mi.eC, Mi.eVar, Mi.eTup, Mi.eLst, Mi.aNil, Mi.aCons, Mi.eIf, Mi.eAn, Mi.eOr, Mi.eNt, Mi.eNew, Mi.eCall, Mi.eMeth, Mi.eProp, Mi.eMk, Mi.eMut, Mi.ePur, Mi.tB, Mi.tQ, Mi.tNt, Mi.tAn, Mi.tOrr, Mi.oEv, Mi.oGet, Mi.canSet, Mi.hasC, Mi.Kd.mine, Mi.isTy, Mi.isTyB, Mi.tbF, Mi.hNil, Mi.hCons, Mi.hHole, Mi.eCallIo, Mi.aStar, Mi.rowM, Mi.eTupD, Mi.addM, Mi.ltM, Mi.mulM, Mi.addI, Mi.subI, Mi.mulI, Mi.divI, Mi.modI, Mi.powI, Mi.ltI, Mi.leI, Mi.gtI, Mi.geI, Mi.iiM, Mi.negI, Mi.addS, Mi.addT, Mi.addL, Mi.ltT, Mi.repT, Mi.eqM_ii, Mi.neM_ii, Mi.eqM_tt, Mi.neM_tt, Mi.eqM_ll, Mi.neM_ll, Mi.isN, Mi.notN, Mi.nonB, Mi.inM, Mi.inDt, Mi.inS, Mi.inL, Mi.lenM, Mi.lenS, Mi.lenT, Mi.lenD, Mi.absM, Mi.maxII, Mi.minII, Mi.intM, Mi.boolM, Mi.intsM, Mi.blsM, Mi.sumM, Mi.allM, Mi.anyM, Mi.maxM, Mi.minM, Mi.sortM, Mi.tupM, Mi.lstM, Mi.listM, Mi.lstD, Mi.stM, Mi.truM, Mi.appM, Mi.popM, Mi.slLo, Mi.slHi, Mi.slM, Mi.revM, Mi.atrM, Mi.cutM, t_law_due_1, h1, h1']
    exact ⟨_, _, rfl, hz, rfl⟩
theorem due3_ok {l : List Nat} (hl : l.length < 100) (hp : p < 2 ^ 990) : due3 [some ⟨.val, iv b⟩, some ⟨.val, iv p⟩, some ⟨.val, tv (digs 2 p)⟩, some ⟨.own, .lst (l.map iv)⟩, none, none] = .nx [some ⟨.val, iv b⟩, some ⟨.val, iv p⟩, some ⟨.val, tv (digs 2 p)⟩, some ⟨.own, .lst ((l ++ [cnt11 (digs 2 p) % 2]).map iv)⟩, none, none] := by
  have h := due3_comp (b := b) (x := some ⟨.own, .lst (l.map iv)⟩) hp
  have hz := cnt11_zip (digs 2 p)
  have hs : l.length < sizeLine := by rw [sizeLine_eq]; omega
  simp [Mi.runM, Mi.finM, Mi.outG, Mi.initG, Mi.sSeq, Mi.sSet, Mi.sIf, Mi.sRet, Mi.sRetV, Mi.sRetN, Mi.sExpr, Mi.sNil, Mi.sPar, Mi.sPar3, Mi.put2, Mi.put3, Mi.sAug, Mi.sSt, Mi.sAsg, Mi.asgM, Mi.asgMs, Mi.sFor, Mi.sWhile, Mi.fSeq, Mi.seqM, Mi.fArgs, Mi.fEnum, Mi.fZip, Mi.walkable, Mi.sLend, Mi.sBreak, Mi.sCont, Mi.e1, Mi.e2, Mi.eC, Mi.eVar, Mi.eTup, Mi.eLst, Mi.aNil, Mi.aCons, Mi.eIf, Mi.eAn, Mi.eOr, Mi.eNt, Mi.eNew, Mi.eCall, Mi.eMeth, Mi.eProp, Mi.eMk, Mi.eMut, Mi.ePur, Mi.tB, Mi.tQ, Mi.tNt, Mi.tAn, Mi.tOrr, Mi.oEv, Mi.oGet, Mi.canSet, Mi.hasC, Mi.Kd.mine, Mi.isTy, Mi.isTyB, Mi.tbF, Mi.hNil, Mi.hCons, Mi.hHole, Mi.eCallIo, Mi.aStar, Mi.rowM, Mi.eTupD, Mi.addM, Mi.ltM, Mi.mulM, Mi.addI, Mi.subI, Mi.mulI, Mi.divI, Mi.modI, Mi.powI, Mi.ltI, Mi.leI, Mi.gtI, Mi.geI, Mi.iiM, Mi.negI, Mi.addS, Mi.addT, Mi.addL, Mi.ltT, Mi.repT, Mi.eqM_ii, Mi.neM_ii, Mi.eqM_tt, Mi.neM_tt, Mi.eqM_ll, Mi.neM_ll, Mi.isN, Mi.notN, Mi.nonB, Mi.inM, Mi.inDt, Mi.inS, Mi.inL, Mi.lenM, Mi.lenS, Mi.lenT, Mi.lenD, Mi.absM, Mi.maxII, Mi.minII, Mi.intM, Mi.boolM, Mi.intsM, Mi.blsM, Mi.sumM, Mi.allM, Mi.anyM, Mi.maxM, Mi.minM, Mi.sortM, Mi.tupM, Mi.lstM, Mi.listM, Mi.lstD, Mi.stM, Mi.truM, Mi.appM, Mi.popM, Mi.slLo, Mi.slHi, Mi.slM, Mi.revM, Mi.atrM, Mi.cutM, due3, h, hz, hs]
theorem due4_ok {l : List Nat} {x : Option Cell} (hl : l.length < 100) (hb : 2 ≤ b) (hb2 : b < 2 ^ 60) (hp : p < 2 ^ 990) : due4 [some ⟨.val, iv b⟩, some ⟨.val, iv p⟩, x, some ⟨.own, .lst (l.map iv)⟩, none, none] = .nx [some ⟨.val, iv b⟩, some ⟨.val, iv p⟩, x, some ⟨.own, .lst ((l ++ [b2n (decide (0 < p) && decide (odo b p = 1))]).map iv)⟩, none, none] := by
  have hs : l.length < sizeLine := by rw [sizeLine_eq]; omega
  by_cases h0 : 0 < p
  · have h := odd_ok hb hb2 h0 (nts_ok2 hb h0 (Nat.lt_of_lt_of_le hp (Nat.pow_le_pow_right (by omega) (by omega))))
    by_cases h1 : odo b p = 1
    · simp [Mi.runM, Mi.finM, Mi.outG, Mi.initG, Mi.sSeq, Mi.sSet, Mi.sIf, Mi.sRet, Mi.sRetV, Mi.sRetN, Mi.sExpr, Mi.sNil, Mi.sPar, Mi.sPar3, Mi.put2, Mi.put3, Mi.sAug, Mi.sSt, Mi.sAsg, Mi.asgM, Mi.asgMs, Mi.sFor, Mi.sWhile, Mi.fSeq, Mi.seqM, Mi.fArgs, Mi.fEnum, Mi.fZip, Mi.walkable, Mi.sLend, Mi.sBreak, Mi.sCont, Mi.e1, Mi.e2, Mi.eC, Mi.eVar, Mi.eTup, Mi.eLst, Mi.aNil, Mi.aCons, Mi.eIf, Mi.eAn, Mi.eOr, Mi.eNt, Mi.eNew, Mi.eCall, Mi.eMeth, Mi.eProp, Mi.eMk, Mi.eMut, Mi.ePur, Mi.tB, Mi.tQ, Mi.tNt, Mi.tAn, Mi.tOrr, Mi.oEv, Mi.oGet, Mi.canSet, Mi.hasC, Mi.Kd.mine, Mi.isTy, Mi.isTyB, Mi.tbF, Mi.hNil, Mi.hCons, Mi.hHole, Mi.eCallIo, Mi.aStar, Mi.rowM, Mi.eTupD, Mi.addM, Mi.ltM, Mi.mulM, Mi.addI, Mi.subI, Mi.mulI, Mi.divI, Mi.modI, Mi.powI, Mi.ltI, Mi.leI, Mi.gtI, Mi.geI, Mi.iiM, Mi.negI, Mi.addS, Mi.addT, Mi.addL, Mi.ltT, Mi.repT, Mi.eqM_ii, Mi.neM_ii, Mi.eqM_tt, Mi.neM_tt, Mi.eqM_ll, Mi.neM_ll, Mi.isN, Mi.notN, Mi.nonB, Mi.inM, Mi.inDt, Mi.inS, Mi.inL, Mi.lenM, Mi.lenS, Mi.lenT, Mi.lenD, Mi.absM, Mi.maxII, Mi.minII, Mi.intM, Mi.boolM, Mi.intsM, Mi.blsM, Mi.sumM, Mi.allM, Mi.anyM, Mi.maxM, Mi.minM, Mi.sortM, Mi.tupM, Mi.lstM, Mi.listM, Mi.lstD, Mi.stM, Mi.truM, Mi.appM, Mi.popM, Mi.slLo, Mi.slHi, Mi.slM, Mi.revM, Mi.atrM, Mi.cutM, due4, h, hs, h0, h1, b2n]
    · have h1' : ¬ ((odo b p : Nat) : Int) = 1 := by omega
      simp [Mi.runM, Mi.finM, Mi.outG, Mi.initG, Mi.sSeq, Mi.sSet, Mi.sIf, Mi.sRet, Mi.sRetV, Mi.sRetN, Mi.sExpr, Mi.sNil, Mi.sPar, Mi.sPar3, Mi.put2, Mi.put3, Mi.sAug, Mi.sSt, Mi.sAsg, Mi.asgM, Mi.asgMs, Mi.sFor, Mi.sWhile, Mi.fSeq, Mi.seqM, Mi.fArgs, Mi.fEnum, Mi.fZip, Mi.walkable, Mi.sLend, Mi.sBreak, Mi.sCont, Mi.e1, Mi.e2, Mi.eC, Mi.eVar, Mi.eTup, Mi.eLst, Mi.aNil, Mi.aCons, Mi.eIf, Mi.eAn, Mi.eOr, Mi.eNt, Mi.eNew, Mi.eCall, Mi.eMeth, Mi.eProp, Mi.eMk, Mi.eMut, Mi.ePur, Mi.tB, Mi.tQ, Mi.tNt, Mi.tAn, Mi.tOrr, Mi.oEv, Mi.oGet, Mi.canSet, Mi.hasC, Mi.Kd.mine, Mi.isTy, Mi.isTyB, Mi.tbF, Mi.hNil, Mi.hCons, Mi.hHole, Mi.eCallIo, Mi.aStar, Mi.rowM, Mi.eTupD, Mi.addM, Mi.ltM, Mi.mulM, Mi.addI, Mi.subI, Mi.mulI, Mi.divI, Mi.modI, Mi.powI, Mi.ltI, Mi.leI, Mi.gtI, Mi.geI, Mi.iiM, Mi.negI, Mi.addS, Mi.addT, Mi.addL, Mi.ltT, Mi.repT, Mi.eqM_ii, Mi.neM_ii, Mi.eqM_tt, Mi.neM_tt, Mi.eqM_ll, Mi.neM_ll, Mi.isN, Mi.notN, Mi.nonB, Mi.inM, Mi.inDt, Mi.inS, Mi.inL, Mi.lenM, Mi.lenS, Mi.lenT, Mi.lenD, Mi.absM, Mi.maxII, Mi.minII, Mi.intM, Mi.boolM, Mi.intsM, Mi.blsM, Mi.sumM, Mi.allM, Mi.anyM, Mi.maxM, Mi.minM, Mi.sortM, Mi.tupM, Mi.lstM, Mi.listM, Mi.lstD, Mi.stM, Mi.truM, Mi.appM, Mi.popM, Mi.slLo, Mi.slHi, Mi.slM, Mi.revM, Mi.atrM, Mi.cutM, due4, h, hs, h0, h1, h1', b2n]
  · simp [Mi.runM, Mi.finM, Mi.outG, Mi.initG, Mi.sSeq, Mi.sSet, Mi.sIf, Mi.sRet, Mi.sRetV, Mi.sRetN, Mi.sExpr, Mi.sNil, Mi.sPar, Mi.sPar3, Mi.put2, Mi.put3, Mi.sAug, Mi.sSt, Mi.sAsg, Mi.asgM, Mi.asgMs, Mi.sFor, Mi.sWhile, Mi.fSeq, Mi.seqM, Mi.fArgs, Mi.fEnum, Mi.fZip, Mi.walkable, Mi.sLend, Mi.sBreak, Mi.sCont, Mi.e1, Mi.e2, Mi.eC, Mi.eVar, Mi.eTup, Mi.eLst, Mi.aNil, Mi.aCons, Mi.eIf, Mi.eAn, Mi.eOr, Mi.eNt, Mi.eNew, Mi.eCall, Mi.eMeth, Mi.eProp, Mi.eMk, Mi.eMut, Mi.ePur, Mi.tB, Mi.tQ, Mi.tNt, Mi.tAn, Mi.tOrr, Mi.oEv, Mi.oGet, Mi.canSet, Mi.hasC, Mi.Kd.mine, Mi.isTy, Mi.isTyB, Mi.tbF, Mi.hNil, Mi.hCons, Mi.hHole, Mi.eCallIo, Mi.aStar, Mi.rowM, Mi.eTupD, Mi.addM, Mi.ltM, Mi.mulM, Mi.addI, Mi.subI, Mi.mulI, Mi.divI, Mi.modI, Mi.powI, Mi.ltI, Mi.leI, Mi.gtI, Mi.geI, Mi.iiM, Mi.negI, Mi.addS, Mi.addT, Mi.addL, Mi.ltT, Mi.repT, Mi.eqM_ii, Mi.neM_ii, Mi.eqM_tt, Mi.neM_tt, Mi.eqM_ll, Mi.neM_ll, Mi.isN, Mi.notN, Mi.nonB, Mi.inM, Mi.inDt, Mi.inS, Mi.inL, Mi.lenM, Mi.lenS, Mi.lenT, Mi.lenD, Mi.absM, Mi.maxII, Mi.minII, Mi.intM, Mi.boolM, Mi.intsM, Mi.blsM, Mi.sumM, Mi.allM, Mi.anyM, Mi.maxM, Mi.minM, Mi.sortM, Mi.tupM, Mi.lstM, Mi.listM, Mi.lstD, Mi.stM, Mi.truM, Mi.appM, Mi.popM, Mi.slLo, Mi.slHi, Mi.slM, Mi.revM, Mi.atrM, Mi.cutM, due4, hs, h0, b2n]
theorem due5_ok {l : List Nat} {x : Option Cell} (hl : l.length < 100) (hb : 2 ≤ b) (hb2 : b < 2 ^ 60) (hp : p < 2 ^ 990) : due5 [some ⟨.val, iv b⟩, some ⟨.val, iv p⟩, x, some ⟨.own, .lst (l.map iv)⟩, none, none] = .rt ⟨.own, .lst ((l ++ [nts b (p + 1) % 2]).map iv)⟩ [some ⟨.val, iv b⟩, some ⟨.val, iv p⟩, x, some ⟨.own, .lst (l.map iv)⟩, none, none] := by
  have hp1 : p + 1 < 2 ^ 991 := by
    have : (2 : Nat) ^ 991 = 2 * 2 ^ 990 := by rw [Nat.pow_succ]; omega
    omega
  have h1 : m_law_noughts [.int (b : Int), .int ((p : Int) + 1)] = .rt (vV (iv (nts b (p + 1)))) none := noughts_ok (b := b) (p := p + 1) hb hb2 (by omega) (nts_ok2 hb (by omega) hp1)
  have hs : l.length + 1 ≤ sizeLine := by rw [sizeLine_eq]; omega
  simp [Mi.runM, Mi.finM, Mi.outG, Mi.initG, Mi.sSeq, Mi.sSet, Mi.sIf, Mi.sRet, Mi.sRetV, Mi.sRetN, Mi.sExpr, Mi.sNil, Mi.sPar, Mi.sPar3, Mi.put2, Mi.put3, Mi.sAug, Mi.sSt, Mi.sAsg, Mi.asgM, Mi.asgMs, Mi.sFor, Mi.sWhile, Mi.fSeq, Mi.seqM, Mi.fArgs, Mi.fEnum, Mi.fZip, Mi.walkable, Mi.sLend, Mi.sBreak, Mi.sCont, Mi.e1, Mi.e2, Mi.eC, Mi.eVar, Mi.eTup, Mi.eLst, Mi.aNil, Mi.aCons, Mi.eIf, Mi.eAn, Mi.eOr, Mi.eNt, Mi.eNew, Mi.eCall, Mi.eMeth, Mi.eProp, Mi.eMk, Mi.eMut, Mi.ePur, Mi.tB, Mi.tQ, Mi.tNt, Mi.tAn, Mi.tOrr, Mi.oEv, Mi.oGet, Mi.canSet, Mi.hasC, Mi.Kd.mine, Mi.isTy, Mi.isTyB, Mi.tbF, Mi.hNil, Mi.hCons, Mi.hHole, Mi.eCallIo, Mi.aStar, Mi.rowM, Mi.eTupD, Mi.addM, Mi.ltM, Mi.mulM, Mi.addI, Mi.subI, Mi.mulI, Mi.divI, Mi.modI, Mi.powI, Mi.ltI, Mi.leI, Mi.gtI, Mi.geI, Mi.iiM, Mi.negI, Mi.addS, Mi.addT, Mi.addL, Mi.ltT, Mi.repT, Mi.eqM_ii, Mi.neM_ii, Mi.eqM_tt, Mi.neM_tt, Mi.eqM_ll, Mi.neM_ll, Mi.isN, Mi.notN, Mi.nonB, Mi.inM, Mi.inDt, Mi.inS, Mi.inL, Mi.lenM, Mi.lenS, Mi.lenT, Mi.lenD, Mi.absM, Mi.maxII, Mi.minII, Mi.intM, Mi.boolM, Mi.intsM, Mi.blsM, Mi.sumM, Mi.allM, Mi.anyM, Mi.maxM, Mi.minM, Mi.sortM, Mi.tupM, Mi.lstM, Mi.listM, Mi.lstD, Mi.stM, Mi.truM, Mi.appM, Mi.popM, Mi.slLo, Mi.slHi, Mi.slM, Mi.revM, Mi.atrM, Mi.cutM, due5, h1, hs]
theorem due_ok (hb : 2 ≤ b) (hb2 : b < 2 ^ 60) (hp : p < 2 ^ 990) : m_law_due [iv b, iv p] = .rt ⟨.own, .lst ((dueL b p).map iv)⟩ none := by
  have e : b_law_due (initG none 6 [iv b, iv p]) = .rt ⟨.own, .lst ((dueL b p).map iv)⟩ [some ⟨.val, iv b⟩, some ⟨.val, iv p⟩, some ⟨.val, tv (digs 2 p)⟩, some ⟨.own, .lst (((dueL b p).take 5).map iv)⟩, none, none] := by
    rw [due_body]
    refine (sSeq_go (due1_ok hp)).trans ((sSeq_go (due2_ok hp)).trans ((sSeq_go (due3_ok (l := (dueL b p).take 3) (by simp [dueL]) hp)).trans ((sSeq_go (due4_ok (l := (dueL b p).take 3 ++ [cnt11 (digs 2 p) % 2]) (by simp [dueL]) hb hb2 hp)).trans ?_)))
    exact due5_ok (l := ((dueL b p).take 3 ++ [cnt11 (digs 2 p) % 2]) ++ [b2n (decide (0 < p) && decide (odo b p = 1))]) (by simp [dueL]) hb hb2 hp
  unfold m_law_due runM
  rw [e]
  rfl
end
end Pf

set_option Elab.async false
set_option linter.all false
set_option maxRecDepth 100000
set_option maxHeartbeats 1000000
namespace Pf
open PySem PySem.Spec PyProof.Rows L2 My Mi
abbrev WD := Nat × List (List Nat) × List Nat
def wvd (w : WD) : MV := wv w.1 w.2.1 w.2.2
def prow (b : Nat) : List (List Nat) := [[0, 1] ++ List.replicate (b - 2) 2, [1] ++ List.replicate (b - 1) 2, List.replicate b 2]
def erow (b : Nat) : List (List Nat) := [List.replicate (b - 1) 0 ++ [1], List.replicate b 0]
def wl (b : Nat) : List WD := [(2, [[0, 1], [1, 0]], [0, 1]), (2, [[0, 1], [0, 0]], [0, 1]), (2, [[0, 1], [2, 1], [0, 3], [2, 3]], [1, 1, 0, 0]), (2, [[0, 1], [0, 2], [3, 1], [3, 2]], [0, 0, 1, 1]), (b, prow b, [0, 1, 0]), (b, erow b, [0, 1])]
def r1 : FS := sSet 1 (e2 addM (.ex (eC (.int 2))) (.ex (eCallIo m_law_roll 0 (hHole 0 (hCons (eC (.int 4)) hNil)))))
def r2 : FS := sSet 2 (eLst (aCons (eCall m_parity_word aNil) (aCons (eCall m_doubling_word aNil) (aCons (eCall m_fold_word aNil) (aCons (eCall m_pairs_word aNil) (aCons (eCall m_powers_word (aCons (eVar 1) aNil)) (aCons (eCall m_ends_word (aCons (eVar 1) aNil)) aNil)))))))
def r3 : FS := sIf (tB (e2 neM (.ex (eComp (.nm 3) (fSeq (.ex (eVar 2))) tYesM c_law_right_8 [3])) (.ex (eLst (aCons (eC (.int 2)) (aCons (eC (.int 2)) (aCons (eC (.int 2)) (aCons (eC (.int 2)) (aCons (eVar 1) (aCons (eVar 1) aNil))))))))))
  (sRet (eC (.bl false)))
  sNil
def r4 : FS := sLend 2 (sFor (.nm 3) (fSeq (.sl 2))
  l_law_right_7)
def r5 : FS := sFor (.nm 5) (fSeq (.ex (e2 addM (.ex (eComp (.nm 11) (fArgs rangeM1 (aCons (eC (.int 4)) aNil)) tYesM (eCallIo m_law_great 0 (hHole 0 hNil)) [11])) (.ex (eLst (aCons (eCall m_law_power (aCons (eVar 1) (aCons (e2 addM (.ex (eC (.int 1))) (.ex (eCallIo m_law_roll 0 (hHole 0 (hCons (eC (.int 40)) hNil))))) aNil))) (aCons (eC (.int 0)) (aCons (eC (.int 1)) (aCons (eC (.int 2)) aNil)))))))))
  l_law_right_6
def r6 : FS := sSet 7 (eComp (.nm 9) (fArgs rangeM1 (aCons (eC (.int 60)) aNil)) tYesM c_law_right_3 [9])
def r7 : FS := sSet 8 (eComp (.nm 10) (fArgs rangeM1 (aCons (eC (.int 6)) aNil)) tYesM c_law_right_2 [10])
def r8 : FS := sRet (e2 eqM (.ex (eComp (.nm 3) (fSeq (.ex (eVar 2))) tYesM c_law_right_1 [3])) (.sl 8))
theorem right_body : b_law_right = sSeq r1 (sSeq r2 (sSeq r3 (sSeq r4 (sSeq r5 (sSeq r6 (sSeq r7 r8)))))) := rfl
def g0 (d : MV) (b : Nat) (x y z u : Option Cell) (l : Option Cell) : Sg := [some ⟨.io, d⟩, some ⟨.val, iv b⟩, l, x, y, z, u, none, none, none, none, none, none]
abbrev lastw (b : Nat) : MV := wv b (erow b) [0, 1]
theorem right_a (d : MV) (b : Nat) (h2 : 2 ≤ b) (h5 : b ≤ 5) : r2 (g0 d b none none none none none) = .nx (g0 d b none none none none (some ⟨.own, .lst ((wl b).map wvd)⟩)) := by
  rcases (by omega : b = 2 ∨ b = 3 ∨ b = 4 ∨ b = 5) with rfl | rfl | rfl | rfl <;> kernel_rfl
abbrev wlv (b : Nat) : Option Cell := some ⟨.val, .lst ((wl b).map wvd)⟩
theorem right_b (d : MV) (b : Nat) (h2 : 2 ≤ b) (h5 : b ≤ 5) : r3 (g0 d b none none none none (some ⟨.own, .lst ((wl b).map wvd)⟩)) = .nx (g0 d b none none none none (wlv b)) := by
  rcases (by omega : b = 2 ∨ b = 3 ∨ b = 4 ∨ b = 5) with rfl | rfl | rfl | rfl <;> kernel_rfl
theorem right_c (d : MV) (b : Nat) (h2 : 2 ≤ b) (h5 : b ≤ 5) : r4 (g0 d b none none none none (wlv b)) = .nx (g0 d b (some ⟨.val, lastw b⟩) (some ⟨.val, pl b (erow b) [0, 1]⟩) none none (wlv b)) := by
  rcases (by omega : b = 2 ∨ b = 3 ∨ b = 4 ∨ b = 5) with rfl | rfl | rfl | rfl <;> kernel_rfl
theorem right_d (d : MV) (b : Nat) (h2 : 2 ≤ b) (h5 : b ≤ 5) (x y : Option Cell) : finM (some 0) (sSeq r6 (sSeq r7 r8) (g0 d b (some ⟨.val, lastw b⟩) (some ⟨.val, pl b (erow b) [0, 1]⟩) x y (wlv b))) = .rt (vB true) (some d) := by
  rcases (by omega : b = 2 ∨ b = 3 ∨ b = 4 ∨ b = 5) with rfl | rfl | rfl | rfl <;> kernel_rfl
end Pf

set_option Elab.async false
set_option linter.all false
set_option maxRecDepth 100000
set_option maxHeartbeats 1000000
namespace Pf
open PySem PySem.Spec PyProof.Rows L2 My Mi
def letW (n : Nat) (w : WD) : Nat := w.2.2.getD (stAt w.2.1 w.1 n) 0
theorem get6 (a b c d e f : Nat) (s : Nat) : True := trivial
theorem stp_prow {b : Nat} (h2 : 2 ≤ b) (h5 : b ≤ 5) : ∀ s < 3, ∀ d < b, stp (prow b) s d = if s = 0 then (if d < 2 then d else 2) else if s = 1 then (if d = 0 then 1 else 2) else 2 := by
  rcases (by omega : b = 2 ∨ b = 3 ∨ b = 4 ∨ b = 5) with rfl | rfl | rfl | rfl <;> decide
theorem stp_erow {b : Nat} (h2 : 2 ≤ b) (h5 : b ≤ 5) : ∀ s < 2, ∀ d < b, stp (erow b) s d = if d = b - 1 then 1 - s else 0 := by
  rcases (by omega : b = 2 ∨ b = 3 ∨ b = 4 ∨ b = 5) with rfl | rfl | rfl | rfl <;> decide
theorem letters_due {b : Nat} (h2 : 2 ≤ b) (h5 : b ≤ 5) (n : Nat) : (wl b).map (letW n) = dueL b n := by
  have e1 : ∀ x, x < 2 → [0, 1].getD x 0 = x := fun x hx => by
    rcases (by omega : x = 0 ∨ x = 1) with rfl | rfl <;> rfl
  have p1 := parity_st n
  have p2 := ends_st (b := 2) (rows := [[0, 1], [0, 0]]) (by omega) (by decide) n
  have p3 := fold_st n
  have p4 := pairs_st n
  have p5 := powers_st h2 (stp_prow h2 h5) n
  have p6 := ends_st h2 (stp_erow h2 h5) n
  simp only [wl, List.map_cons, List.map_nil, letW, p1, p2, p3, p4, p5, p6, dueL]
  rw [e1 _ (Nat.mod_lt _ (by omega)), e1 _ (Nat.mod_lt _ (by omega)), e1 _ (Nat.mod_lt _ (by omega))]
  congr 1
  congr 1
  congr 1
  · by_cases h : odo 2 (n + 1) % 4 = 1 <;> rcases (by omega : n % 2 = 0 ∨ n % 2 = 1) with h2 | h2 <;> simp [h, h2, b2n]
  congr 1
  · by_cases h : cnt11 (digs 2 n) % 2 = 0 <;> rcases (by omega : n % 2 = 0 ∨ n % 2 = 1) with h2 | h2
    · simp [h, h2]
    · simp [h, h2]
    · have : cnt11 (digs 2 n) % 2 = 1 := by omega
      simp [this, h2]
    · have : cnt11 (digs 2 n) % 2 = 1 := by omega
      simp [this, h2]
  congr 1
  · by_cases h : n = 0
    · subst h; simp [b2n]
    · have : 0 < n := by omega
      by_cases h3 : odo b n = 1 <;> simp [h, h3, b2n, this]
theorem mach_wl {b : Nat} (h2 : 2 ≤ b) (h5 : b ≤ 5) : ∀ w ∈ wl b, Mach w.1 w.2.1 w.2.2 ∧ w.1 < 2 ^ 60 := by
  have key : ∀ w ∈ wl b, (2 ≤ w.1 ∧ 0 < w.2.1.length ∧ (∀ r ∈ w.2.1, r.length = w.1 ∧ ∀ s ∈ r, s < w.2.1.length) ∧ w.2.2.length = w.2.1.length) ∧ w.1 ≤ 5 := by
    rcases (by omega : b = 2 ∨ b = 3 ∨ b = 4 ∨ b = 5) with rfl | rfl | rfl | rfl <;> decide
  exact fun w hw => let h := key w hw; ⟨⟨h.1.1, h.1.2.1, h.1.2.2.1, h.1.2.2.2⟩, Nat.lt_of_le_of_lt h.2 (by decide)⟩
section
variable {b n : Nat} {d : MV} {x y z : Option Cell}
theorem words_letters (h2 : 2 ≤ b) (h5 : b ≤ 5) (hn : n ≤ 10 ^ 60) (hx : ∃ m, x = some ⟨.val, m⟩) : eComp (.nm 3) (fSeq (.ex (eVar 2))) tYesM c_law_right_4 [3] (g0 d b x y z (some ⟨.val, iv n⟩) (wlv b)) = .ok ⟨.own, .lst ((dueL b n).map iv)⟩ (g0 d b x y z (some ⟨.val, iv n⟩) (wlv b)) := by
  obtain ⟨xm, rfl⟩ := hx
  rw [← letters_due h2 h5 n, List.map_map]
  refine eComp_map wvd (iv ∘ letW n) (wl b) (γ1 := g0 d b (some ⟨.val, xm⟩) y z (some ⟨.val, iv n⟩) (wlv b)) (γ2 := g0 d b none y z (some ⟨.val, iv n⟩) (wlv b)) rfl (small_size (by simp [wl])) rfl (fun w hw => ?_) rfl
  obtain ⟨M, hb⟩ := mach_wl h2 h5 w hw
  have h := Word_letter_ok M hb hn
  refine ⟨g0 d b (some ⟨.val, wvd w⟩) y z (some ⟨.val, iv n⟩) (wlv b), g0 d b (some ⟨.val, wvd w⟩) y z (some ⟨.val, iv n⟩) (wlv b), vV (iv (letW n w)), g0 d b (some ⟨.val, wvd w⟩) y z (some ⟨.val, iv n⟩) (wlv b), rfl, rfl, ?_, rfl, rfl⟩
  unfold c_law_right_4 eMeth
  have a1 : eVar 3 (g0 d b (some ⟨.val, wvd w⟩) y z (some ⟨.val, iv n⟩) (wlv b)) = .ok ⟨.val, wv w.1 w.2.1 w.2.2⟩ (g0 d b (some ⟨.val, wvd w⟩) y z (some ⟨.val, iv n⟩) (wlv b)) := rfl
  have a2 : aCons (eVar 6) aNil (g0 d b (some ⟨.val, wvd w⟩) y z (some ⟨.val, iv n⟩) (wlv b)) = .ok [iv n] (g0 d b (some ⟨.val, wvd w⟩) y z (some ⟨.val, iv n⟩) (wlv b)) := rfl
  simp only [a1, a2, wv, tbF, if_true, h]
  rfl
end
end Pf

set_option Elab.async false
set_option linter.all false
set_option maxRecDepth 100000
set_option maxHeartbeats 1000000
namespace Pf
open PySem PySem.Spec PyProof.Rows L2 My Mi
section
variable {b n : Nat} {d : MV} {x y z : Option Cell}
theorem map_iv (l : List Nat) : l.map iv = (l.map fun n : Nat => (n : Int)).map MV.int := by
  rw [List.map_map]; rfl
theorem neM_iv (l : List Nat) : neM (.lst (l.map iv)) (.lst (l.map iv)) = some (vB false) := by
  rw [map_iv, neM_ll]
  simp
theorem near_ok (h2 : 2 ≤ b) (h5 : b ≤ 5) (hn : n ≤ 10 ^ 60) (hx : ∃ m, x = some ⟨.val, m⟩) : l_law_right_5 (g0 d b x y z (some ⟨.val, iv n⟩) (wlv b)) = .nx (g0 d b x y z (some ⟨.val, iv n⟩) (wlv b)) := by
  have a1 := words_letters (d := d) (y := y) (z := z) h2 h5 hn hx
  have hn2 : n < 2 ^ 990 := Nat.lt_of_le_of_lt hn (by decide +kernel)
  have a2 := due_ok (b := b) (p := n) h2 (Nat.lt_of_le_of_lt h5 (by decide +kernel)) hn2
  have a3 : aCons (eVar 1) (aCons (eVar 6) aNil) (g0 d b x y z (some ⟨.val, iv n⟩) (wlv b)) = .ok [iv b, iv n] (g0 d b x y z (some ⟨.val, iv n⟩) (wlv b)) := rfl
  have a4 := eCall_rt (g := m_law_due) a3 a2
  have a5 := neM_iv (dueL b n)
  generalize hg : neM = g at a5
  unfold l_law_right_5
  rw [hg]
  simp only [sIf, Mi.tB, e2, oEv, oGet, a1, a4, a5, sNil]
theorem pair_c1 : fSeq (.ex (eTup (aCons (eVar 5) (aCons (e2 addM (.sl 5) (.ex (eC (.int 1)))) aNil)))) (g0 d b x y (some ⟨.val, iv n⟩) z (wlv b)) = .ok [iv n, iv (n + 1)] (g0 d b x y (some ⟨.val, iv n⟩) z (wlv b)) := rfl
theorem pair_c3 : asgM (.nm 6) (iv (n + 1)) (g0 d b x y (some ⟨.val, iv n⟩) (some ⟨.val, iv n⟩) (wlv b)) = some (g0 d b x y (some ⟨.val, iv n⟩) (some ⟨.val, iv (n + 1)⟩) (wlv b)) := rfl
theorem pair_c2 (hz : ∃ m, z = some ⟨.val, m⟩ ∨ z = none) : asgM (.nm 6) (iv n) (g0 d b x y (some ⟨.val, iv n⟩) z (wlv b)) = some (g0 d b x y (some ⟨.val, iv n⟩) (some ⟨.val, iv n⟩) (wlv b)) := by
  obtain ⟨m, rfl | rfl⟩ := hz <;> rfl
theorem two_go {t : Tg} {s : FS} {m1 m2 : MV} {γ γ1 γ2 γ3 γ4 : Sg} (h1 : asgM t m1 γ = some γ1) (h2 : s γ1 = .nx γ2) (h3 : asgM t m2 γ2 = some γ3) (h4 : s γ3 = .nx γ4) : Mi.forM t s [m1, m2] γ = .nx γ4 := by
  simp only [Mi.forM, h1, h2, h3, h4]
theorem pair_ok (h2 : 2 ≤ b) (h5 : b ≤ 5) (hn : n + 1 ≤ 10 ^ 60) (hx : ∃ m, x = some ⟨.val, m⟩) (hz : ∃ m, z = some ⟨.val, m⟩ ∨ z = none) : l_law_right_6 (g0 d b x y (some ⟨.val, iv n⟩) z (wlv b)) = .nx (g0 d b x y (some ⟨.val, iv n⟩) (some ⟨.val, iv (n + 1)⟩) (wlv b)) :=
  sFor_nx pair_c1 (two_go (pair_c2 hz) (near_ok h2 h5 (Nat.le_of_succ_le hn) hx) pair_c3 (near_ok h2 h5 hn hx))
/-- the places -/
def r5i : Mi.FI := fSeq (.ex (e2 addM (.ex (eComp (.nm 11) (fArgs rangeM1 (aCons (eC (.int 4)) aNil)) tYesM (eCallIo m_law_great 0 (hHole 0 hNil)) [11])) (.ex (eLst (aCons (eCall m_law_power (aCons (eVar 1) (aCons (e2 addM (.ex (eC (.int 1))) (.ex (eCallIo m_law_roll 0 (hHole 0 (hCons (eC (.int 40)) hNil))))) aNil))) (aCons (eC (.int 0)) (aCons (eC (.int 1)) (aCons (eC (.int 2)) aNil))))))))
theorem r5_eq : r5 = sFor (.nm 5) r5i l_law_right_6 := rfl
theorem callIo1 {F : List MV → RF} {c : Cell} {d' : MV} {γ : Sg} (hF : F [d] = .rt c (some d')) : eCallIo F 0 (hHole 0 hNil) (some ⟨.io, d⟩ :: γ) = .ok c (some ⟨.io, d'⟩ :: γ) := by
  simp only [eCallIo, hHole, hasC, hNil, List.getElem?_cons_zero, Kd.mine, if_true, List.map_cons, List.map_nil, Option.getD, hF, List.set_cons_zero]
theorem callIo2 {F : List MV → RF} {c : Cell} {d' m : MV} {γ : Sg} (hF : F [d, m] = .rt c (some d')) : eCallIo F 0 (hHole 0 (hCons (eC m) hNil)) (some ⟨.io, d⟩ :: γ) = .ok c (some ⟨.io, d'⟩ :: γ) := by
  simp only [eCallIo, hHole, hasC, hCons, eC, hNil, List.getElem?_cons_zero, Kd.mine, if_true, List.map_cons, List.map_nil, Option.getD, hF, List.set_cons_zero]
/-- a comprehension whose elements are drawn -/
theorem comp_drawn {t : Nat} {F : List MV → RF} {γ : Sg} {Q : Int → Prop} {D : Nat → MV → Prop} {L : Nat} (hF : ∀ N d, N < L → D N d → ∃ r d', F [d] = .rt (vI r) (some d') ∧ Q r ∧ D (N + 1) d')
    (ht : ∀ (d m : MV), asgM (.nm (t + 1)) m (some ⟨.io, d⟩ :: γ) = some (some ⟨.io, d⟩ :: γ.set t (some ⟨.val, m⟩))) (hw : (γ.set t none) = γ) : ∀ (ms : List MV) (N : Nat) (d : MV), N + ms.length ≤ L → D N d →
    ∃ (rs : List Int) (d' : MV), compM (.nm (t + 1)) tYesM (eCallIo F 0 (hHole 0 hNil)) [t + 1] ms (some ⟨.io, d⟩ :: γ) = some (rs.map .int, some ⟨.io, d'⟩ :: γ) ∧ (∀ r ∈ rs, Q r) ∧ D (N + ms.length) d' ∧ rs.length = ms.length
  | [], N, d, _, hd => ⟨[], d, rfl, fun r h => absurd h List.not_mem_nil, hd, rfl⟩
  | m :: ms, N, d, hl, hd => by
    have hl' : N + (ms.length + 1) ≤ L := hl
    obtain ⟨r, d', h1, h2, h3⟩ := hF N d (by omega) hd
    obtain ⟨rs, d2, h4, h5, h6, h7⟩ := comp_drawn hF ht hw ms (N + 1) d' (by omega) h3
    refine ⟨r :: rs, d2, ?_, fun q hq => ?_, by rw [List.length_cons, ← Nat.add_assoc, Nat.add_right_comm]; exact h6, by simp [h7]⟩
    · simp only [compM, ht, tYesM, callIo1 h1, wipeG, List.set_cons_succ, List.set_set, hw, h4, Option.map_some, List.map_cons]
    · rcases List.mem_cons.mp hq with rfl | hq
      · exact h2
      · exact h5 q hq
end
end Pf

set_option Elab.async false
set_option linter.all false
set_option maxRecDepth 100000
set_option maxHeartbeats 1000000
namespace Pf
open PySem PySem.Spec PyProof.Rows L2 My Mi
section
variable {b n : Nat} {d : MV} {x y z : Option Cell}
def rA : Mi.FE := eComp (.nm 11) (fArgs rangeM1 (aCons (eC (.int 4)) aNil)) tYesM (eCallIo m_law_great 0 (hHole 0 hNil)) [11]
def rP : Mi.FE := eCall m_law_power (aCons (eVar 1) (aCons (e2 addM (.ex (eC (.int 1))) (.ex (eCallIo m_law_roll 0 (hHole 0 (hCons (eC (.int 40)) hNil))))) aNil))
def rB : Mi.FE := eLst (aCons rP (aCons (eC (.int 0)) (aCons (eC (.int 1)) (aCons (eC (.int 2)) aNil))))
theorem r5i_eq : r5i = fSeq (.ex (e2 addM (.ex rA) (.ex rB))) := rfl
theorem g0_cons : g0 d b x y none none (wlv b) = some ⟨.io, d⟩ :: [some ⟨.val, iv b⟩, wlv b, x, y, none, none, none, none, none, none, none, none] := rfl
theorem rA_ok {N : Nat} (hd : Dice N d) (hN : N + 100 < 2 ^ 64) : ∃ (rs : List Int) (d' : MV), rA (g0 d b x y none none (wlv b)) = .ok ⟨.own, .lst (rs.map .int)⟩ (g0 d' b x y none none (wlv b)) ∧ (∀ r ∈ rs, 0 ≤ r ∧ r < 10 ^ 54) ∧ Dice (N + 40) d' ∧ rs.length = 4 := by
  obtain ⟨rs, d', h1, h2, h3, h4⟩ := comp_drawn (t := 10) (F := m_law_great) (γ := [some ⟨.val, iv b⟩, wlv b, x, y, none, none, none, none, none, none, none, none]) (Q := fun r => 0 ≤ r ∧ r < 10 ^ 54) (D := fun k e => Dice (N + 10 * k) e) (L := 4)
    (fun k e hk he => by
      obtain ⟨r, e', h1, h2, h3, h4⟩ := great_ok he (by omega)
      exact ⟨r, e', h1, ⟨h2, h3⟩, h4.mono (by omega)⟩) (fun d m => rfl) rfl [.int 0, .int 1, .int 2, .int 3] 0 d (by decide) (hd.mono (by omega))
  refine ⟨rs, d', ?_, h2, h3.mono (by simp), h4⟩
  have hf : fArgs rangeM1 (aCons (eC (.int 4)) aNil) (g0 d b x y none none (wlv b)) = .ok [.int 0, .int 1, .int 2, .int 3] (g0 d b x y none none (wlv b)) := by kernel_rfl
  exact eComp_of (t := .nm 11) (tt := tYesM) (f := eCallIo m_law_great 0 (hHole 0 hNil)) (vs := [11]) hf (small_size (by decide)) h1
theorem rP_ok {N : Nat} (hd : Dice N d) (hN : N + 100 < 2 ^ 64) (h2 : 2 ≤ b) (h5 : b ≤ 5) : ∃ (r : Nat) (d' : MV), rP (g0 d b x y none none (wlv b)) = .ok (vV (iv (b ^ (1 + r)))) (g0 d' b x y none none (wlv b)) ∧ r < 40 ∧ Dice (N + 1) d' := by
  obtain ⟨r, d', h1, r0, r1, hd'⟩ := roll_ok hd (n := 40) (by omega) (by omega) (by decide +kernel)
  obtain ⟨r, rfl⟩ : ∃ k : Nat, r = (k : Int) := ⟨r.toNat, by omega⟩
  refine ⟨r, d', ?_, by omega, hd'⟩
  have h3 := power_ok (b := b) (n := 1 + r) h2 (Nat.lt_of_le_of_lt h5 (by decide +kernel)) (by omega)
  have h4 := callIo2 (γ := [some ⟨.val, iv b⟩, wlv b, x, y, none, none, none, none, none, none, none, none]) h1
  have h5' : aCons (eVar 1) (aCons (e2 addM (.ex (eC (.int 1))) (.ex (eCallIo m_law_roll 0 (hHole 0 (hCons (eC (.int 40)) hNil))))) aNil) (g0 d b x y none none (wlv b)) = .ok [iv b, iv (1 + r)] (g0 d' b x y none none (wlv b)) := by
    have e1 : e2 addM (.ex (eC (.int 1))) (.ex (eCallIo m_law_roll 0 (hHole 0 (hCons (eC (.int 40)) hNil)))) (g0 d b x y none none (wlv b)) = .ok (vV (iv (1 + r))) (g0 d' b x y none none (wlv b)) := by
      have e3 : addM (.int 1) (.int (r : Int)) = some (vV (iv (1 + r))) := by
        show some (vV (.int ((1 : Int) + r))) = _
        rw [show (1 : Int) + r = ((1 + r : Nat) : Int) by omega]
      generalize addM = g at e3
      rw [g0_cons]
      simp only [e2, oEv, oGet, eC, h4, vI, e3]
      rfl
    have e2' : eVar 1 (g0 d b x y none none (wlv b)) = .ok (vV (iv b)) (g0 d b x y none none (wlv b)) := rfl
    simp only [aCons, e2', e1, aNil]
  exact eCall_rt h5' h3
theorem rB_ok {N : Nat} (hd : Dice N d) (hN : N + 100 < 2 ^ 64) (h2 : 2 ≤ b) (h5 : b ≤ 5) : ∃ (r : Nat) (d' : MV), rB (g0 d b x y none none (wlv b)) = .ok ⟨.own, .lst ([b ^ (1 + r), 0, 1, 2].map iv)⟩ (g0 d' b x y none none (wlv b)) ∧ r < 40 ∧ Dice (N + 1) d' := by
  obtain ⟨r, d', h1, r1, hd'⟩ := rP_ok (x := x) (y := y) hd hN h2 h5
  refine ⟨r, d', ?_, r1, hd'⟩
  unfold rB
  simp only [eLst, aCons, h1, eC, aNil]
  rfl
theorem r5i_ok {N : Nat} (hd : Dice N d) (hN : N + 200 < 2 ^ 64) (h2 : 2 ≤ b) (h5 : b ≤ 5) : ∃ (ps : List Nat) (d' : MV), r5i (g0 d b x y none none (wlv b)) = .ok (ps.map iv) (g0 d' b x y none none (wlv b)) ∧ (∀ p ∈ ps, p + 1 ≤ 10 ^ 60) ∧ Dice (N + 50) d' := by
  obtain ⟨rs, d1, a1, a2, hd1, a4⟩ := rA_ok (b := b) (x := x) (y := y) hd (by omega)
  obtain ⟨r, d2, b1, b2, hd2⟩ := rB_ok (x := x) (y := y) hd1 (by omega) h2 h5
  have hrs : rs = (rs.map Int.toNat).map fun n : Nat => (n : Int) := by
    rw [List.map_map]
    exact (List.map_id rs).symm.trans (List.map_congr_left fun z hz => (Int.toNat_of_nonneg (a2 z hz).1).symm)
  refine ⟨rs.map Int.toNat ++ [b ^ (1 + r), 0, 1, 2], d2, ?_, fun p hp => ?_, hd2.mono (by omega)⟩
  · have e3 : addM (.lst (rs.map .int)) (.lst ([b ^ (1 + r), 0, 1, 2].map iv)) = some ⟨.own, .lst ((rs.map Int.toNat ++ [b ^ (1 + r), 0, 1, 2]).map iv)⟩ := by
      have hs : (rs.map MV.int).length + ([b ^ (1 + r), 0, 1, 2].map iv).length ≤ sizeLine := by simp [a4]; exact small_size (by decide)
      have q : addL (.lst (rs.map .int)) (.lst ([b ^ (1 + r), 0, 1, 2].map iv)) = some ⟨.own, .lst (rs.map .int ++ [b ^ (1 + r), 0, 1, 2].map iv)⟩ := if_pos hs
      show ((addI (.lst (rs.map .int)) (.lst ([b ^ (1 + r), 0, 1, 2].map iv))).or ((addT (.lst (rs.map .int)) (.lst ([b ^ (1 + r), 0, 1, 2].map iv))).or ((addL (.lst (rs.map .int)) (.lst ([b ^ (1 + r), 0, 1, 2].map iv))).or _))) = _
      rw [q, List.map_append, hrs, List.map_map, List.map_map]
      simp only [List.map_map]
      rfl
    rw [r5i_eq]
    generalize addM = g at e3
    simp only [fSeq, walkable, oEv, oGet, e2, a1, b1, e3]
    rfl
  · rcases List.mem_append.mp hp with hp | hp
    · obtain ⟨z, hz, rfl⟩ := List.mem_map.mp hp
      have h1 := a2 z hz
      have h54 : (10 : Int) ^ 54 + 1 ≤ ((10 ^ 60 : Nat) : Int) := by decide +kernel
      generalize (10 : Int) ^ 54 = t at h1 h54
      generalize (10 : Nat) ^ 60 = u at h54
      omega
    · have h1 : b ^ (1 + r) ≤ 5 ^ 40 := Nat.le_trans (Nat.pow_le_pow_left h5 _) (Nat.pow_le_pow_right (by decide) (by omega))
      have h3 : (5 : Nat) ^ 40 + 1 ≤ 10 ^ 60 := by decide +kernel
      have h6 : 3 ≤ (10 : Nat) ^ 60 := by decide +kernel
      generalize (5 : Nat) ^ 40 = t at h1 h3
      generalize (10 : Nat) ^ 60 = u at h3 h6 ⊢
      generalize b ^ (1 + r) = v at h1 hp
      simp only [List.mem_cons, List.not_mem_nil, or_false] at hp
      omega
end
end Pf

set_option Elab.async false
set_option linter.all false
set_option maxRecDepth 100000
set_option maxHeartbeats 1000000
namespace Pf
open PySem PySem.Spec PyProof.Rows L2 My Mi
theorem places_ok {b : Nat} {d : MV} {x y : Option Cell} (h2 : 2 ≤ b) (h5 : b ≤ 5) (hx : ∃ m, x = some ⟨.val, m⟩) : ∀ (ps : List Nat) (u v : Option Cell), (∃ m, u = some ⟨.val, m⟩ ∨ u = none) → (∃ m, v = some ⟨.val, m⟩ ∨ v = none) → (∀ p ∈ ps, p + 1 ≤ 10 ^ 60) → ∃ u' v', Mi.forM (.nm 5) l_law_right_6 (ps.map iv) (g0 d b x y u v (wlv b)) = .nx (g0 d b x y u' v' (wlv b))
  | [], u, v, _, _, _ => ⟨u, v, rfl⟩
  | p :: ps, u, v, hu, hv, h => by
    have h1 := pair_ok (d := d) (y := y) h2 h5 (h p List.mem_cons_self) hx hv
    obtain ⟨u', v', h3⟩ := places_ok (d := d) (y := y) h2 h5 hx ps (some ⟨.val, iv p⟩) (some ⟨.val, iv (p + 1)⟩) ⟨_, .inl rfl⟩ ⟨_, .inl rfl⟩ fun q hq => h q (List.mem_cons_of_mem _ hq)
    have h4 : asgM (.nm 5) (iv p) (g0 d b x y u v (wlv b)) = some (g0 d b x y (some ⟨.val, iv p⟩) v (wlv b)) := by
      obtain ⟨m, rfl | rfl⟩ := hu <;> rfl
    refine ⟨u', v', ?_⟩
    simp only [List.map_cons, Mi.forM, h4, h1, h3]
theorem right_ok {N : Nat} {d : MV} (hd : Dice N d) (hN : N + 300 < 2 ^ 64) : ∃ d', m_law_right [d] = .rt (vB true) (some d') ∧ Dice (N + 100) d' := by
  obtain ⟨r, d1, a1, r0, rl, hd1⟩ := roll_ok hd (n := 4) (by omega) (by omega) (by decide +kernel)
  obtain ⟨b, hb, h2, h5⟩ : ∃ b : Nat, (2 : Int) + r = (b : Int) ∧ 2 ≤ b ∧ b ≤ 5 := ⟨(2 + r).toNat, by omega, by omega, by omega⟩
  obtain ⟨ps, d2, b1, b2, hd2⟩ := r5i_ok (x := some ⟨.val, lastw b⟩) (y := some ⟨.val, pl b (erow b) [0, 1]⟩) hd1 (by omega) h2 h5
  obtain ⟨u, v, b3⟩ := places_ok (d := d2) (y := some ⟨.val, pl b (erow b) [0, 1]⟩) h2 h5 (x := some ⟨.val, lastw b⟩) ⟨_, rfl⟩ ps none none ⟨.non, .inr rfl⟩ ⟨.non, .inr rfl⟩ b2
  refine ⟨d2, ?_, hd2.mono (by omega)⟩
  have s1 : r1 [some ⟨.io, d⟩, none, none, none, none, none, none, none, none, none, none, none, none] = .nx (g0 d1 b none none none none none) := by
    have h4 := callIo2 (γ := [none, none, none, none, none, none, none, none, none, none, none, none]) a1
    have e3 : addM (.int 2) (.int r) = some (vV (iv b)) := by
      show some (vV (.int ((2 : Int) + r))) = _
      rw [hb]
    unfold Pf.r1
    generalize addM = g at e3
    simp only [sSet, e2, oEv, oGet, eC, h4, vI, e3]
    rfl
  have s5 : r5 (g0 d1 b (some ⟨.val, lastw b⟩) (some ⟨.val, pl b (erow b) [0, 1]⟩) none none (wlv b)) = .nx (g0 d2 b (some ⟨.val, lastw b⟩) (some ⟨.val, pl b (erow b) [0, 1]⟩) u v (wlv b)) := by
    rw [r5_eq]
    exact sFor_nx b1 b3
  have e : b_law_right (initG (some 0) 13 [d]) = sSeq r6 (sSeq r7 r8) (g0 d2 b (some ⟨.val, lastw b⟩) (some ⟨.val, pl b (erow b) [0, 1]⟩) u v (wlv b)) := by
    rw [right_body]
    exact (sSeq_go s1).trans ((sSeq_go (right_a d1 b h2 h5)).trans ((sSeq_go (right_b d1 b h2 h5)).trans ((sSeq_go (right_c d1 b h2 h5)).trans (sSeq_go s5))))
  unfold m_law_right runM
  rw [e]
  exact right_d d2 b h2 h5 u v
/-- law's slots -/
def lg (s : MV) (x : Option Cell) (y z : Option Cell) : Sg := [some ⟨.val, s⟩, x, y, z]
theorem turn_ok {N : Nat} {d s : MV} {x z : Option Cell} (hd : Dice N d) (hN : N + 300 < 2 ^ 64) : ∃ d', l_law_1 (lg s x (some ⟨.own, d⟩) z) = .nx (lg s x (some ⟨.own, d'⟩) z) ∧ Dice (N + 100) d' := by
  obtain ⟨d', h1, h2⟩ := right_ok hd hN
  refine ⟨d', ?_, h2⟩
  have h3 : eCallIo m_law_right 2 (hHole 2 hNil) (lg s x (some ⟨.own, d⟩) z) = .ok (vB true) (lg s x (some ⟨.own, d'⟩) z) := by
    simp only [eCallIo, hHole, hasC, hNil, lg, List.getElem?_cons_succ, List.getElem?_cons_zero, Kd.mine, if_true, List.map_cons, List.map_nil, Option.getD, h1, List.set_cons_zero, List.set_cons_succ]
  unfold l_law_1
  simp only [sIf, tNt, tQ, oEv, oGet, h3, truM, sNil]
  rfl
theorem spot_ok (ns : List Int) (k : Nat) (hl : ns.length ≤ 63) (hk : k ≤ 5) {y z : Option Cell} (hy : y = none ∨ ∃ d, y = some ⟨.own, d⟩) (hz : z = none ∨ ∃ m, z = some ⟨.val, m⟩) : ∃ d' m, l_law_2 (lg (.lst (ns.map .int)) (some ⟨.val, iv k⟩) y z) = .nx (lg (.lst (ns.map .int)) (some ⟨.val, iv k⟩) (some ⟨.own, d'⟩) (some ⟨.val, m⟩)) := by
  obtain ⟨d, h1, hd⟩ := dice_ok ns k hl hk
  obtain ⟨d1, h2, hd1⟩ := turn_ok (s := .lst (ns.map .int)) (x := some ⟨.val, iv k⟩) (z := some ⟨.val, .int 0⟩) hd (by decide)
  obtain ⟨d2, h3, hd2⟩ := turn_ok (s := .lst (ns.map .int)) (x := some ⟨.val, iv k⟩) (z := some ⟨.val, .int 1⟩) hd1 (by decide)
  refine ⟨d2, .int 1, ?_⟩
  have e1 : sSet 2 (eCall m_law_dice (aCons (eVar 0) (aCons (eVar 1) aNil))) (lg (.lst (ns.map .int)) (some ⟨.val, iv k⟩) y z) = .nx (lg (.lst (ns.map .int)) (some ⟨.val, iv k⟩) (some ⟨.own, d⟩) z) := by
    have a1 : aCons (eVar 0) (aCons (eVar 1) aNil) (lg (.lst (ns.map .int)) (some ⟨.val, iv k⟩) y z) = .ok [.lst (ns.map .int), .int k] (lg (.lst (ns.map .int)) (some ⟨.val, iv k⟩) y z) := rfl
    have a2 := eCall_rt (g := m_law_dice) a1 h1
    simp only [sSet, a2]
    rcases hy with rfl | ⟨d, rfl⟩ <;> rfl
  have e2 : fArgs rangeM1 (aCons (eC (.int 2)) aNil) (lg (.lst (ns.map .int)) (some ⟨.val, iv k⟩) (some ⟨.own, d⟩) z) = .ok [.int 0, .int 1] (lg (.lst (ns.map .int)) (some ⟨.val, iv k⟩) (some ⟨.own, d⟩) z) := rfl
  have e3 : asgM (.nm 3) (.int 0) (lg (.lst (ns.map .int)) (some ⟨.val, iv k⟩) (some ⟨.own, d⟩) z) = some (lg (.lst (ns.map .int)) (some ⟨.val, iv k⟩) (some ⟨.own, d⟩) (some ⟨.val, .int 0⟩)) := by
    rcases hz with rfl | ⟨d, rfl⟩ <;> rfl
  exact (sSeq_go e1).trans (sFor_nx e2 (two_go e3 h2 rfl h3))
theorem spots_ok (ns : List Int) (hl : ns.length ≤ 63) : ∀ (ks : List Nat) (x y z : Option Cell), (∀ k ∈ ks, k ≤ 5) → (x = none ∨ ∃ m, x = some ⟨.val, m⟩) → (y = none ∨ ∃ d, y = some ⟨.own, d⟩) → (z = none ∨ ∃ m, z = some ⟨.val, m⟩) → ∃ x' y' z', Mi.forM (.nm 1) l_law_2 (ks.map iv) (lg (.lst (ns.map .int)) x y z) = .nx (lg (.lst (ns.map .int)) x' y' z')
  | [], x, y, z, _, hx, hy, hz => ⟨x, y, z, rfl⟩
  | k :: ks, x, y, z, h, hx, hy, hz => by
    obtain ⟨d', m, h1⟩ := spot_ok ns k hl (h k List.mem_cons_self) hy hz
    obtain ⟨x', y', z', h2⟩ := spots_ok ns hl ks (some ⟨.val, iv k⟩) (some ⟨.own, d'⟩) (some ⟨.val, m⟩) (fun q hq => h q (List.mem_cons_of_mem _ hq)) (.inr ⟨_, rfl⟩) (.inr ⟨_, rfl⟩) (.inr ⟨_, rfl⟩)
    have h4 : asgM (.nm 1) (iv k) (lg (.lst (ns.map .int)) x y z) = some (lg (.lst (ns.map .int)) (some ⟨.val, iv k⟩) y z) := by
      rcases hx with rfl | ⟨d, rfl⟩ <;> rfl
    refine ⟨x', y', z', ?_⟩
    simp only [List.map_cons, Mi.forM, h4, h1, h2]
theorem law_fi (ns : List Int) (hl : ns.length ≤ 63) : fArgs rangeM1 (aCons (e2 maxII (.ex (eC (.int 1))) (.ex (e2 minII (.ex (eC (.int 6))) (.ex (Mi.e1 (fun v => (lenM v).or (lenO [("Word", m_Word_len)] v)) (.sl 0)))))) aNil) (lg (.lst (ns.map .int)) none none none) = .ok ((List.range (max 1 (min 6 ns.length))).map iv) (lg (.lst (ns.map .int)) none none none) :=
  spots_fi (m := 6) (n := ns.length) (s := .lst (ns.map .int)) (by decide) (by rw [← List.length_map (as := ns) MV.int]; rfl) rfl rfl
def lawR : FS := (sRet (e2 eqM (.ex (eLst (aCons (e1 (fun v => (lenM v).or (lenO [("Word", m_Word_len)] v)) (.ex (eCall m_parity_word aNil))) (aCons (e1 (fun v => (lenM v).or (lenO [("Word", m_Word_len)] v)) (.ex (eCall m_doubling_word aNil))) (aCons (e1 (fun v => (lenM v).or (lenO [("Word", m_Word_len)] v)) (.ex (eCall m_powers_word (aCons (eC (.int 5)) aNil)))) aNil))))) (.ex (eLst (aCons (eC (.int 2)) (aCons (eC (.int 2)) (aCons (eC (.int 3)) aNil)))))))
theorem lawR_ok (γ : Sg) : finM none (lawR γ) = .rt ⟨.val, .bl true⟩ none := by kernel_rfl
theorem law_true (ns : List Int) (hl : ns.length ≤ 63) : m_law [.lst (ns.map .int)] = .rt ⟨.val, .bl true⟩ none := by
  obtain ⟨x, y, z, h⟩ := spots_ok ns hl (List.range (max 1 (min 6 ns.length))) none none none (fun k hk => by
    have := List.mem_range.mp hk
    omega) (.inl rfl) (.inl rfl) (.inl rfl)
  have e3 := sSeq_go (g := lawR) (sFor_nx (law_fi ns hl) h)
  exact (congrArg (finM none) e3).trans (lawR_ok _)
end Pf

set_option Elab.async false
set_option linter.all false
set_option maxRecDepth 100000
set_option maxHeartbeats 0
namespace Pf
open PySem PySem.Spec PyProof.Rows L2 My Mi
def dd_law_dice : He5.DefA := ⟨fun K => He.ga K "_law_dice", "_law_dice", "_law_dice", defArgs s_law_dice, defBody s_law_dice, defScope s_law_dice, [], []⟩
def dd_Word_len : He5.DefA := ⟨fun K => He.ma K (He.ga K "Word") "__len__", "__len__", "Word.__len__", defArgs s_Word_len, defBody s_Word_len, defScope s_Word_len, [], []⟩
def dd_law_roll : He5.DefA := ⟨fun K => He.ga K "_law_roll", "_law_roll", "_law_roll", defArgs s_law_roll, defBody s_law_roll, defScope s_law_roll, [], []⟩
def dd_is_integer : He5.DefA := ⟨fun K => He.ga K "is_integer", "is_integer", "is_integer", defArgs s_is_integer, defBody s_is_integer, defScope s_is_integer, [], []⟩
def dd_is_within : He5.DefA := ⟨fun K => He.ga K "is_within", "is_within", "is_within", defArgs s_is_within, defBody s_is_within, defScope s_is_within, [], []⟩
def dd_require_within : He5.DefA := ⟨fun K => He.ga K "require_within", "require_within", "require_within", defArgs s_require_within, defBody s_require_within, defScope s_require_within, [], []⟩
def dd_require_base : He5.DefA := ⟨fun K => He.ga K "require_base", "require_base", "require_base", defArgs s_require_base, defBody s_require_base, defScope s_require_base, [], []⟩
def dd_are_rows : He5.DefA := ⟨fun K => He.ga K "are_rows", "are_rows", "are_rows", defArgs s_are_rows, defBody s_are_rows, defScope s_are_rows, [], []⟩
def dd_is_base : He5.DefA := ⟨fun K => He.ga K "is_base", "is_base", "is_base", defArgs s_is_base, defBody s_is_base, defScope s_is_base, [], []⟩
def dd_is_letter : He5.DefA := ⟨fun K => He.ga K "is_letter", "is_letter", "is_letter", defArgs s_is_letter, defBody s_is_letter, defScope s_is_letter, [], []⟩
def dd_are_letters : He5.DefA := ⟨fun K => He.ga K "are_letters", "are_letters", "are_letters", defArgs s_are_letters, defBody s_are_letters, defScope s_are_letters, [], []⟩
def dd_is_word : He5.DefA := ⟨fun K => He.ga K "is_word", "is_word", "is_word", defArgs s_is_word, defBody s_is_word, defScope s_is_word, [], []⟩
def dd_Word_init : He5.DefA := ⟨fun K => He.ma K (He.ga K "Word") "__init__", "__init__", "Word.__init__", defArgs s_Word_init, defBody s_Word_init, defScope s_Word_init, [.non], []⟩
def dd_parity_word : He5.DefA := ⟨fun K => He.ga K "parity_word", "parity_word", "parity_word", defArgs s_parity_word, defBody s_parity_word, defScope s_parity_word, [], []⟩
def dd_reached_from : He5.DefA := ⟨fun K => He.ga K "reached_from", "reached_from", "reached_from", defArgs s_reached_from, defBody s_reached_from, defScope s_reached_from, [], []⟩
def dd_set_of : He5.DefA := ⟨fun K => He.ga K "set_of", "set_of", "set_of", defArgs s_set_of, defBody s_set_of, defScope s_set_of, [], []⟩
def dd_classes_of : He5.DefA := ⟨fun K => He.ga K "classes_of", "classes_of", "classes_of", defArgs s_classes_of, defBody s_classes_of, defScope s_classes_of, [], []⟩
def dd_least_machine : He5.DefA := ⟨fun K => He.ga K "least_machine", "least_machine", "least_machine", defArgs s_least_machine, defBody s_least_machine, defScope s_least_machine, [], []⟩
def dd_KnownMachine_init : He5.DefA := ⟨fun K => He.ma K (He.ga K "KnownMachine") "__init__", "__init__", "KnownMachine.__init__", defArgs s_KnownMachine_init, defBody s_KnownMachine_init, defScope s_KnownMachine_init, [], []⟩
def dd_least_word : He5.DefA := ⟨fun K => He.ga K "least_word", "least_word", "least_word", defArgs s_least_word, defBody s_least_word, defScope s_least_word, [], []⟩
def dd_ends_word : He5.DefA := ⟨fun K => He.ga K "ends_word", "ends_word", "ends_word", defArgs s_ends_word, defBody s_ends_word, defScope s_ends_word, [], []⟩
def dd_doubling_word : He5.DefA := ⟨fun K => He.ga K "doubling_word", "doubling_word", "doubling_word", defArgs s_doubling_word, defBody s_doubling_word, defScope s_doubling_word, [], []⟩
def dd_fold_word : He5.DefA := ⟨fun K => He.ga K "fold_word", "fold_word", "fold_word", defArgs s_fold_word, defBody s_fold_word, defScope s_fold_word, [], []⟩
def dd_pairs_word : He5.DefA := ⟨fun K => He.ga K "pairs_word", "pairs_word", "pairs_word", defArgs s_pairs_word, defBody s_pairs_word, defScope s_pairs_word, [], []⟩
def dd_powers_word : He5.DefA := ⟨fun K => He.ga K "powers_word", "powers_word", "powers_word", defArgs s_powers_word, defBody s_powers_word, defScope s_powers_word, [], []⟩
def dd_law_digits : He5.DefA := ⟨fun K => He.ga K "_law_digits", "_law_digits", "_law_digits", defArgs s_law_digits, defBody s_law_digits, defScope s_law_digits, [], []⟩
def dd_law_noughts : He5.DefA := ⟨fun K => He.ga K "_law_noughts", "_law_noughts", "_law_noughts", defArgs s_law_noughts, defBody s_law_noughts, defScope s_law_noughts, [], []⟩
def dd_law_odd : He5.DefA := ⟨fun K => He.ga K "_law_odd", "_law_odd", "_law_odd", defArgs s_law_odd, defBody s_law_odd, defScope s_law_odd, [], []⟩
def dd_law_due : He5.DefA := ⟨fun K => He.ga K "_law_due", "_law_due", "_law_due", defArgs s_law_due, defBody s_law_due, defScope s_law_due, [], []⟩
def dd_Word_base : He5.DefA := ⟨fun K => pgA K (He.ga K "Word") "base", "base", "Word.base", defArgs s_Word_base, defBody s_Word_base, defScope s_Word_base, [], []⟩
def dd_Word_rows : He5.DefA := ⟨fun K => pgA K (He.ga K "Word") "rows", "rows", "Word.rows", defArgs s_Word_rows, defBody s_Word_rows, defScope s_Word_rows, [], []⟩
def dd_Word_letters : He5.DefA := ⟨fun K => pgA K (He.ga K "Word") "letters", "letters", "Word.letters", defArgs s_Word_letters, defBody s_Word_letters, defScope s_Word_letters, [], []⟩
def dd_law_wd_reached : He5.DefA := ⟨fun K => He.ga K "_law_wd_reached", "_law_wd_reached", "_law_wd_reached", defArgs s_law_wd_reached, defBody s_law_wd_reached, defScope s_law_wd_reached, [], []⟩
def dd_law_wd_classes : He5.DefA := ⟨fun K => He.ga K "_law_wd_classes", "_law_wd_classes", "_law_wd_classes", defArgs s_law_wd_classes, defBody s_law_wd_classes, defScope s_law_wd_classes, [], []⟩
def dd_law_wd_least : He5.DefA := ⟨fun K => He.ga K "_law_wd_least", "_law_wd_least", "_law_wd_least", defArgs s_law_wd_least, defBody s_law_wd_least, defScope s_law_wd_least, [], []⟩
def dd_law_great : He5.DefA := ⟨fun K => He.ga K "_law_great", "_law_great", "_law_great", defArgs s_law_great, defBody s_law_great, defScope s_law_great, [], []⟩
def dd_law_power : He5.DefA := ⟨fun K => He.ga K "_law_power", "_law_power", "_law_power", defArgs s_law_power, defBody s_law_power, defScope s_law_power, [], []⟩
def dd_require_place : He5.DefA := ⟨fun K => He.ga K "require_place", "require_place", "require_place", defArgs s_require_place, defBody s_require_place, defScope s_require_place, [], []⟩
def dd_digits_in : He5.DefA := ⟨fun K => He.ga K "digits_in", "digits_in", "digits_in", defArgs s_digits_in, defBody s_digits_in, defScope s_digits_in, [], []⟩
def dd_state_in : He5.DefA := ⟨fun K => He.ga K "state_in", "state_in", "state_in", defArgs s_state_in, defBody s_state_in, defScope s_state_in, [], []⟩
def dd_letter_in : He5.DefA := ⟨fun K => He.ga K "letter_in", "letter_in", "letter_in", defArgs s_letter_in, defBody s_letter_in, defScope s_letter_in, [], []⟩
def dd_part_in : He5.DefA := ⟨fun K => He.ga K "part_in", "part_in", "part_in", defArgs s_part_in, defBody s_part_in, defScope s_part_in, [], []⟩
def dd_Word_part : He5.DefA := ⟨fun K => He.ma K (He.ga K "Word") "part", "part", "Word.part", defArgs s_Word_part, defBody s_Word_part, defScope s_Word_part, [], []⟩
def dd_Word_letter : He5.DefA := ⟨fun K => He.ma K (He.ga K "Word") "letter", "letter", "Word.letter", defArgs s_Word_letter, defBody s_Word_letter, defScope s_Word_letter, [], []⟩
def dd_law_right : He5.DefA := ⟨fun K => He.ga K "_law_right", "_law_right", "_law_right", defArgs s_law_right, defBody s_law_right, defScope s_law_right, [], []⟩
def dd_law : He5.DefA := ⟨fun K => He.ga K "law", "law", "law", defArgs s_law, defBody s_law, defScope s_law, [], []⟩
def fn : List He5.DefA := [dd_law_dice, dd_Word_len, dd_law_roll, dd_is_integer, dd_is_within, dd_require_within, dd_require_base, dd_are_rows, dd_is_base, dd_is_letter, dd_are_letters, dd_is_word, dd_Word_init, dd_parity_word, dd_reached_from, dd_set_of, dd_classes_of, dd_least_machine, dd_KnownMachine_init, dd_least_word, dd_ends_word, dd_doubling_word, dd_fold_word, dd_pairs_word, dd_powers_word, dd_law_digits, dd_law_noughts, dd_law_odd, dd_law_due, dd_Word_base, dd_Word_rows, dd_Word_letters, dd_law_wd_reached, dd_law_wd_classes, dd_law_wd_least, dd_law_great, dd_law_power, dd_require_place, dd_digits_in, dd_state_in, dd_letter_in, dd_part_in, dd_Word_part, dd_Word_letter, dd_law_right, dd_law]
def xt : List FTs := [fun K => He.Fa.ok K (.free "len"),
  fun K => He.Fa.ok K (.free "int"),
  fun K => He.Fa.ok K (.free "abs"),
  fun K => He.Fa.ok K (.free "max"),
  fun K => He.Fa.ok K (.free "min"),
  fun K => He.Fa.ok K (.free "bool"),
  fun K => He.Fa.ok K (.free "tuple"),
  fun K => He.Fa.ok K (.free "list"),
  fun K => He.Fa.ok K (.free "str"),
  fun K => He.Fa.ok K (.free "dict"),
  fun K => He.Fa.ok K (.free "set"),
  fun K => He.Fa.ok K (.free "isinstance"),
  fun K => He.Fa.ok K (.free "all"),
  fun K => He.Fa.ok K (.free "any"),
  fun K => He.Fa.ok K (.free "sum"),
  fun K => He.Fa.ok K (.free "sorted"),
  fun K => He.Fa.ok K (.free "zip"),
  fun K => He.Fa.ok K (.free "enumerate"),
  fun K => He.Fa.ok K (.free "range"),
  fun K => He.Fa.ok K (.free "repr"),
  fun K => He.Fa.ok K (.int "MAX_BASE" 5),
  fun K => He.Fa.ok K (.int "MAX_PLACE" 1000000000000000000000000000000000000000000000000000000000000),
  fun K => He.Fa.ok K (.int "MAX_LETTER" 9),
  fun K => He.Fa.ok K (.int "MAX_STATES" 60),
  fun K => He.Fa.ok K (.int "MAX_PART" 5000),
  clsT "KnownMachine",
  clsT "Word",
  slT "KnownMachine" "own_letters" 0,
  slT "KnownMachine" "own_rows" 1,
  slT "Word" "own_base" 0,
  slT "Word" "own_letters" 1,
  slT "Word" "own_rows" 2,
  fun K => He.Fa.ok K (.glo "_law_dice"),
  fun K => He.Fa.ok K (.meth "Word" "__len__"),
  fun K => He.Fa.ok K (.glo "_law_roll"),
  fun K => He.Fa.ok K (.glo "is_integer"),
  fun K => He.Fa.ok K (.glo "is_within"),
  fun K => He.Fa.ok K (.glo "require_within"),
  fun K => He.Fa.ok K (.glo "require_base"),
  fun K => He.Fa.ok K (.glo "are_rows"),
  fun K => He.Fa.ok K (.glo "is_base"),
  fun K => He.Fa.ok K (.glo "is_letter"),
  fun K => He.Fa.ok K (.glo "are_letters"),
  fun K => He.Fa.ok K (.glo "is_word"),
  fun K => He.Fa.ok K (.mkr "Word"),
  fun K => He.Fa.ok K (.glo "parity_word"),
  fun K => He.Fa.ok K (.glo "reached_from"),
  fun K => He.Fa.ok K (.glo "set_of"),
  fun K => He.Fa.ok K (.glo "classes_of"),
  fun K => He.Fa.ok K (.glo "least_machine"),
  fun K => He.Fa.ok K (.mkr "KnownMachine"),
  fun K => He.Fa.ok K (.glo "least_word"),
  fun K => He.Fa.ok K (.glo "ends_word"),
  fun K => He.Fa.ok K (.glo "doubling_word"),
  fun K => He.Fa.ok K (.glo "fold_word"),
  fun K => He.Fa.ok K (.glo "pairs_word"),
  fun K => He.Fa.ok K (.glo "powers_word"),
  fun K => He.Fa.ok K (.glo "_law_digits"),
  fun K => He.Fa.ok K (.glo "_law_noughts"),
  fun K => He.Fa.ok K (.glo "_law_odd"),
  fun K => He.Fa.ok K (.glo "_law_due"),
  prT "Word" "base",
  prT "Word" "rows",
  prT "Word" "letters",
  fun K => He.Fa.ok K (.glo "_law_wd_reached"),
  fun K => He.Fa.ok K (.glo "_law_wd_classes"),
  fun K => He.Fa.ok K (.glo "_law_wd_least"),
  fun K => He.Fa.ok K (.glo "_law_great"),
  fun K => He.Fa.ok K (.glo "_law_power"),
  fun K => He.Fa.ok K (.glo "require_place"),
  fun K => He.Fa.ok K (.glo "digits_in"),
  fun K => He.Fa.ok K (.glo "state_in"),
  fun K => He.Fa.ok K (.glo "letter_in"),
  fun K => He.Fa.ok K (.glo "part_in"),
  fun K => He.Fa.ok K (.meth "Word" "part"),
  fun K => He.Fa.ok K (.meth "Word" "letter"),
  fun K => He.Fa.ok K (.glo "_law_right"),
  fun K => He.Fa.ok K (.glo "law")]
abbrev R : PySem.W.OpenRow := PySem.W.OpenLaw.row PySem.Challenge.rw_digitwords_k14_whole_known_words
abbrev hk : PySem.W.Hook := hookM 5 fn xt
def ob (s : PySem.W.SharedT) : He.AlD := obsMG 5 fn xt (HandSHeadRun.getT s)
theorem ob_eq (s : PySem.W.SharedT) : ob s = hk.obs s.abs := obsMG_eq (HandSHeadRun.getT_eq s)
def names0 : List Str := ["_wall", "DigitError", "InvalidWord", "InvalidCount", "MAX_BASE", "MAX_PLACE", "MAX_LETTER", "is_integer", "is_within", "require_within", "is_letter", "is_base", "require_base", "require_place", "digits_in", "classes_of", "set_of", "reached_from", "least_machine", "pairs_reached", "MAX_STATES", "MAX_PART", "KnownMachine", "are_rows", "are_letters", "is_word", "Word", "least_word", "state_in", "letter_in"]
def names1 : List Str := ["part_in", "are_words_alike", "parity_word", "ends_word", "doubling_word", "fold_word", "pairs_word", "powers_word", "_law_dice", "_law_roll", "_law_digits", "_law_power", "_law_great", "_law_wd_reached", "_law_wd_classes", "_law_wd_least", "_law_noughts", "_law_odd", "_law_due", "_law_right"]
def loose : List Str := names0 ++ names1
def lawAt : Nat := 55
theorem run (w : World) : HandSHeadRun.RunEq R (PySem.W.view R.prog [lawAt]) hk ob 8000 loose w := by
  intro os
  kernel_rfl
theorem facts {P : Program} {w : World} {K : PySem.W.Frag} {h : Heap} {mg : Str → Option Value} {f : Addr} (X : K.In h) (G : h.Ns mainGlobals mg) (hfa : mg ("law" : Str) = some (.ref f)) (c : SaysM fn xt K) :
    ∃ fd : FuncData, (∀ (s : Shared) (v : Value), BindsTo s fd ⟨[v], []⟩ [("script", v)]) ∧ ∀ base : Heap, K.In base → base.Ns mainGlobals mg → FnG P w K mg base 12 f fd ["script"] (spM P w K 1 none m_law) := by
  have T : Fre mg := ⟨He.free_ok X G (c.test 0 (t := fun K => He.Fa.ok K (.free "len")) rfl), He.free_ok X G (c.test 1 (t := fun K => He.Fa.ok K (.free "int")) rfl), He.free_ok X G (c.test 2 (t := fun K => He.Fa.ok K (.free "abs")) rfl), He.free_ok X G (c.test 3 (t := fun K => He.Fa.ok K (.free "max")) rfl), He.free_ok X G (c.test 4 (t := fun K => He.Fa.ok K (.free "min")) rfl), He.free_ok X G (c.test 5 (t := fun K => He.Fa.ok K (.free "bool")) rfl), He.free_ok X G (c.test 6 (t := fun K => He.Fa.ok K (.free "tuple")) rfl), He.free_ok X G (c.test 7 (t := fun K => He.Fa.ok K (.free "list")) rfl), He.free_ok X G (c.test 8 (t := fun K => He.Fa.ok K (.free "str")) rfl), He.free_ok X G (c.test 9 (t := fun K => He.Fa.ok K (.free "dict")) rfl), He.free_ok X G (c.test 10 (t := fun K => He.Fa.ok K (.free "set")) rfl), He.free_ok X G (c.test 11 (t := fun K => He.Fa.ok K (.free "isinstance")) rfl), He.free_ok X G (c.test 12 (t := fun K => He.Fa.ok K (.free "all")) rfl), He.free_ok X G (c.test 13 (t := fun K => He.Fa.ok K (.free "any")) rfl), He.free_ok X G (c.test 14 (t := fun K => He.Fa.ok K (.free "sum")) rfl), He.free_ok X G (c.test 15 (t := fun K => He.Fa.ok K (.free "sorted")) rfl), He.free_ok X G (c.test 16 (t := fun K => He.Fa.ok K (.free "zip")) rfl), He.free_ok X G (c.test 17 (t := fun K => He.Fa.ok K (.free "enumerate")) rfl), He.free_ok X G (c.test 18 (t := fun K => He.Fa.ok K (.free "range")) rfl), He.free_ok X G (c.test 19 (t := fun K => He.Fa.ok K (.free "repr")) rfl), He.int_ok X G (c.test 20 (t := fun K => He.Fa.ok K (.int "MAX_BASE" 5)) rfl), He.int_ok X G (c.test 21 (t := fun K => He.Fa.ok K (.int "MAX_PLACE" 1000000000000000000000000000000000000000000000000000000000000)) rfl), He.int_ok X G (c.test 22 (t := fun K => He.Fa.ok K (.int "MAX_LETTER" 9)) rfl), He.int_ok X G (c.test 23 (t := fun K => He.Fa.ok K (.int "MAX_STATES" 60)) rfl), He.int_ok X G (c.test 24 (t := fun K => He.Fa.ok K (.int "MAX_PART" 5000)) rfl)⟩
  have F_KnownMachine : CF K mg "KnownMachine" := cf_of X G (by decide) (c.test 25 (t := clsT "KnownMachine") rfl)
  have F_Word : CF K mg "Word" := cf_of X G (by decide) (c.test 26 (t := clsT "Word") rfl)
  have A_KnownMachine_own_letters : AtF K "own_letters" ("KnownMachine", 0) := at_of (by decide) (c.test 27 (t := slT "KnownMachine" "own_letters" 0) rfl)
  have A_KnownMachine_own_rows : AtF K "own_rows" ("KnownMachine", 1) := at_of (by decide) (c.test 28 (t := slT "KnownMachine" "own_rows" 1) rfl)
  have A_Word_own_base : AtF K "own_base" ("Word", 0) := at_of (by decide) (c.test 29 (t := slT "Word" "own_base" 0) rfl)
  have A_Word_own_letters : AtF K "own_letters" ("Word", 1) := at_of (by decide) (c.test 30 (t := slT "Word" "own_letters" 1) rfl)
  have A_Word_own_rows : AtF K "own_rows" ("Word", 2) := at_of (by decide) (c.test 31 (t := slT "Word" "own_rows" 2) rfl)
  have H_law_dice {base : Heap} := ok_law_dice (P := P) (w := w) (base := base) ⟨c.def_ 0 (d := dd_law_dice) rfl, He.glo_ok X G (c.test 32 (t := fun K => He.Fa.ok K (.glo "_law_dice")) rfl)⟩ T   
  have H_Word_len {base : Heap} := ok_Word_len (P := P) (w := w) (base := base) ⟨c.def_ 1 (d := dd_Word_len) rfl, He.meth_ok (c.test 33 (t := fun K => He.Fa.ok K (.meth "Word" "__len__")) rfl)⟩ T F_Word  A_KnownMachine_own_rows A_Word_own_rows 
  have H_law_roll {base : Heap} := ok_law_roll (P := P) (w := w) (base := base) ⟨c.def_ 2 (d := dd_law_roll) rfl, He.glo_ok X G (c.test 34 (t := fun K => He.Fa.ok K (.glo "_law_roll")) rfl)⟩ T   
  have H_is_integer {base : Heap} := ok_is_integer (P := P) (w := w) (base := base) ⟨c.def_ 3 (d := dd_is_integer) rfl, He.glo_ok X G (c.test 35 (t := fun K => He.Fa.ok K (.glo "is_integer")) rfl)⟩ T   
  have H_is_within {base : Heap} := ok_is_within (P := P) (w := w) (base := base) ⟨c.def_ 4 (d := dd_is_within) rfl, He.glo_ok X G (c.test 36 (t := fun K => He.Fa.ok K (.glo "is_within")) rfl)⟩ T   H_is_integer
  have H_require_within {base : Heap} := ok_require_within (P := P) (w := w) (base := base) ⟨c.def_ 5 (d := dd_require_within) rfl, He.glo_ok X G (c.test 37 (t := fun K => He.Fa.ok K (.glo "require_within")) rfl)⟩ T   H_is_within
  have H_require_base {base : Heap} := ok_require_base (P := P) (w := w) (base := base) ⟨c.def_ 6 (d := dd_require_base) rfl, He.glo_ok X G (c.test 38 (t := fun K => He.Fa.ok K (.glo "require_base")) rfl)⟩ T   H_require_within
  have H_are_rows {base : Heap} := ok_are_rows (P := P) (w := w) (base := base) ⟨c.def_ 7 (d := dd_are_rows) rfl, He.glo_ok X G (c.test 39 (t := fun K => He.Fa.ok K (.glo "are_rows")) rfl)⟩ T   H_is_within
  have H_is_base {base : Heap} := ok_is_base (P := P) (w := w) (base := base) ⟨c.def_ 8 (d := dd_is_base) rfl, He.glo_ok X G (c.test 40 (t := fun K => He.Fa.ok K (.glo "is_base")) rfl)⟩ T   H_is_within
  have H_is_letter {base : Heap} := ok_is_letter (P := P) (w := w) (base := base) ⟨c.def_ 9 (d := dd_is_letter) rfl, He.glo_ok X G (c.test 41 (t := fun K => He.Fa.ok K (.glo "is_letter")) rfl)⟩ T   H_is_within
  have H_are_letters {base : Heap} := ok_are_letters (P := P) (w := w) (base := base) ⟨c.def_ 10 (d := dd_are_letters) rfl, He.glo_ok X G (c.test 42 (t := fun K => He.Fa.ok K (.glo "are_letters")) rfl)⟩ T   H_is_letter
  have H_is_word {base : Heap} := ok_is_word (P := P) (w := w) (base := base) ⟨c.def_ 11 (d := dd_is_word) rfl, He.glo_ok X G (c.test 43 (t := fun K => He.Fa.ok K (.glo "is_word")) rfl)⟩ T   H_are_rows H_is_base H_are_letters
  have H_Word_init3 {base : Heap} := ok_Word_init3 (P := P) (w := w) (base := base) ⟨c.def_ 12 (d := dd_Word_init) rfl, He.mkr_ok (c.test 44 (t := fun K => He.Fa.ok K (.mkr "Word")) rfl), F_Word.gl⟩ T F_Word F_KnownMachine A_KnownMachine_own_letters A_KnownMachine_own_rows A_Word_own_base A_Word_own_letters A_Word_own_rows H_require_base H_is_word
  have H_Word_init2 {base : Heap} := ok_Word_init2 (P := P) (w := w) (base := base) ⟨c.def_ 12 (d := dd_Word_init) rfl, He.mkr_ok (c.test 44 (t := fun K => He.Fa.ok K (.mkr "Word")) rfl), F_Word.gl⟩ T F_Word F_KnownMachine A_KnownMachine_own_letters A_KnownMachine_own_rows A_Word_own_base A_Word_own_letters A_Word_own_rows H_require_base H_is_word
  have H_parity_word {base : Heap} := ok_parity_word (P := P) (w := w) (base := base) ⟨c.def_ 13 (d := dd_parity_word) rfl, He.glo_ok X G (c.test 45 (t := fun K => He.Fa.ok K (.glo "parity_word")) rfl)⟩ T   H_Word_init3 H_Word_init2
  have H_reached_from {base : Heap} := ok_reached_from (P := P) (w := w) (base := base) ⟨c.def_ 14 (d := dd_reached_from) rfl, He.glo_ok X G (c.test 46 (t := fun K => He.Fa.ok K (.glo "reached_from")) rfl)⟩ T   
  have H_set_of {base : Heap} := ok_set_of (P := P) (w := w) (base := base) ⟨c.def_ 15 (d := dd_set_of) rfl, He.glo_ok X G (c.test 47 (t := fun K => He.Fa.ok K (.glo "set_of")) rfl)⟩ T   
  have H_classes_of {base : Heap} := ok_classes_of (P := P) (w := w) (base := base) ⟨c.def_ 16 (d := dd_classes_of) rfl, He.glo_ok X G (c.test 48 (t := fun K => He.Fa.ok K (.glo "classes_of")) rfl)⟩ T   H_set_of
  have H_least_machine {base : Heap} := ok_least_machine (P := P) (w := w) (base := base) ⟨c.def_ 17 (d := dd_least_machine) rfl, He.glo_ok X G (c.test 49 (t := fun K => He.Fa.ok K (.glo "least_machine")) rfl)⟩ T   H_reached_from H_classes_of
  have H_KnownMachine_init2 {base : Heap} := ok_KnownMachine_init2 (P := P) (w := w) (base := base) ⟨c.def_ 18 (d := dd_KnownMachine_init) rfl, He.mkr_ok (c.test 50 (t := fun K => He.Fa.ok K (.mkr "KnownMachine")) rfl), F_KnownMachine.gl⟩ T F_KnownMachine  A_KnownMachine_own_letters A_KnownMachine_own_rows 
  have H_least_word {base : Heap} := ok_least_word (P := P) (w := w) (base := base) ⟨c.def_ 19 (d := dd_least_word) rfl, He.glo_ok X G (c.test 51 (t := fun K => He.Fa.ok K (.glo "least_word")) rfl)⟩ T   H_least_machine H_Word_init3 H_Word_init2 H_KnownMachine_init2
  have H_ends_word {base : Heap} := ok_ends_word (P := P) (w := w) (base := base) ⟨c.def_ 20 (d := dd_ends_word) rfl, He.glo_ok X G (c.test 52 (t := fun K => He.Fa.ok K (.glo "ends_word")) rfl)⟩ T   H_require_base H_least_word
  have H_doubling_word {base : Heap} := ok_doubling_word (P := P) (w := w) (base := base) ⟨c.def_ 21 (d := dd_doubling_word) rfl, He.glo_ok X G (c.test 53 (t := fun K => He.Fa.ok K (.glo "doubling_word")) rfl)⟩ T   H_ends_word
  have H_fold_word {base : Heap} := ok_fold_word (P := P) (w := w) (base := base) ⟨c.def_ 22 (d := dd_fold_word) rfl, He.glo_ok X G (c.test 54 (t := fun K => He.Fa.ok K (.glo "fold_word")) rfl)⟩ T   H_least_word
  have H_pairs_word {base : Heap} := ok_pairs_word (P := P) (w := w) (base := base) ⟨c.def_ 23 (d := dd_pairs_word) rfl, He.glo_ok X G (c.test 55 (t := fun K => He.Fa.ok K (.glo "pairs_word")) rfl)⟩ T   H_least_word
  have H_powers_word {base : Heap} := ok_powers_word (P := P) (w := w) (base := base) ⟨c.def_ 24 (d := dd_powers_word) rfl, He.glo_ok X G (c.test 56 (t := fun K => He.Fa.ok K (.glo "powers_word")) rfl)⟩ T   H_require_base H_least_word
  have H_law_digits {base : Heap} := ok_law_digits (P := P) (w := w) (base := base) ⟨c.def_ 25 (d := dd_law_digits) rfl, He.glo_ok X G (c.test 57 (t := fun K => He.Fa.ok K (.glo "_law_digits")) rfl)⟩ T   
  have H_law_noughts {base : Heap} := ok_law_noughts (P := P) (w := w) (base := base) ⟨c.def_ 26 (d := dd_law_noughts) rfl, He.glo_ok X G (c.test 58 (t := fun K => He.Fa.ok K (.glo "_law_noughts")) rfl)⟩ T   
  have H_law_odd {base : Heap} := ok_law_odd (P := P) (w := w) (base := base) ⟨c.def_ 27 (d := dd_law_odd) rfl, He.glo_ok X G (c.test 59 (t := fun K => He.Fa.ok K (.glo "_law_odd")) rfl)⟩ T   
  have H_law_due {base : Heap} := ok_law_due (P := P) (w := w) (base := base) ⟨c.def_ 28 (d := dd_law_due) rfl, He.glo_ok X G (c.test 60 (t := fun K => He.Fa.ok K (.glo "_law_due")) rfl)⟩ T   H_law_digits H_law_noughts H_law_odd
  have H_Word_base {base : Heap} := ok_Word_base (P := P) (w := w) (base := base) ⟨c.def_ 29 (d := dd_Word_base) rfl, prop_ok (c.test 61 (t := prT "Word" "base") rfl)⟩ T F_Word  A_Word_own_base 
  have H_Word_rows {base : Heap} := ok_Word_rows (P := P) (w := w) (base := base) ⟨c.def_ 30 (d := dd_Word_rows) rfl, prop_ok (c.test 62 (t := prT "Word" "rows") rfl)⟩ T F_Word  A_KnownMachine_own_rows A_Word_own_rows 
  have H_Word_letters {base : Heap} := ok_Word_letters (P := P) (w := w) (base := base) ⟨c.def_ 31 (d := dd_Word_letters) rfl, prop_ok (c.test 63 (t := prT "Word" "letters") rfl)⟩ T F_Word  A_KnownMachine_own_letters A_Word_own_letters 
  have H_law_wd_reached {base : Heap} := ok_law_wd_reached (P := P) (w := w) (base := base) ⟨c.def_ 32 (d := dd_law_wd_reached) rfl, He.glo_ok X G (c.test 64 (t := fun K => He.Fa.ok K (.glo "_law_wd_reached")) rfl)⟩ T   
  have H_law_wd_classes {base : Heap} := ok_law_wd_classes (P := P) (w := w) (base := base) ⟨c.def_ 33 (d := dd_law_wd_classes) rfl, He.glo_ok X G (c.test 65 (t := fun K => He.Fa.ok K (.glo "_law_wd_classes")) rfl)⟩ T   
  have H_law_wd_least {base : Heap} := ok_law_wd_least (P := P) (w := w) (base := base) ⟨c.def_ 34 (d := dd_law_wd_least) rfl, He.glo_ok X G (c.test 66 (t := fun K => He.Fa.ok K (.glo "_law_wd_least")) rfl)⟩ T   H_law_wd_reached H_law_wd_classes
  have H_law_great {base : Heap} := ok_law_great (P := P) (w := w) (base := base) ⟨c.def_ 35 (d := dd_law_great) rfl, He.glo_ok X G (c.test 67 (t := fun K => He.Fa.ok K (.glo "_law_great")) rfl)⟩ T   H_law_roll
  have H_law_power {base : Heap} := ok_law_power (P := P) (w := w) (base := base) ⟨c.def_ 36 (d := dd_law_power) rfl, He.glo_ok X G (c.test 68 (t := fun K => He.Fa.ok K (.glo "_law_power")) rfl)⟩ T   
  have H_require_place {base : Heap} := ok_require_place (P := P) (w := w) (base := base) ⟨c.def_ 37 (d := dd_require_place) rfl, He.glo_ok X G (c.test 69 (t := fun K => He.Fa.ok K (.glo "require_place")) rfl)⟩ T   H_require_within
  have H_digits_in {base : Heap} := ok_digits_in (P := P) (w := w) (base := base) ⟨c.def_ 38 (d := dd_digits_in) rfl, He.glo_ok X G (c.test 70 (t := fun K => He.Fa.ok K (.glo "digits_in")) rfl)⟩ T   
  have H_state_in {base : Heap} := ok_state_in (P := P) (w := w) (base := base) ⟨c.def_ 39 (d := dd_state_in) rfl, He.glo_ok X G (c.test 71 (t := fun K => He.Fa.ok K (.glo "state_in")) rfl)⟩ T  A_KnownMachine_own_rows A_Word_own_base A_Word_own_rows H_digits_in
  have H_letter_in {base : Heap} := ok_letter_in (P := P) (w := w) (base := base) ⟨c.def_ 40 (d := dd_letter_in) rfl, He.glo_ok X G (c.test 72 (t := fun K => He.Fa.ok K (.glo "letter_in")) rfl)⟩ T  A_KnownMachine_own_letters A_Word_own_letters H_state_in
  have H_part_in {base : Heap} := ok_part_in (P := P) (w := w) (base := base) ⟨c.def_ 41 (d := dd_part_in) rfl, He.glo_ok X G (c.test 73 (t := fun K => He.Fa.ok K (.glo "part_in")) rfl)⟩ T   H_letter_in
  have H_Word_part {base : Heap} := ok_Word_part (P := P) (w := w) (base := base) ⟨c.def_ 42 (d := dd_Word_part) rfl, He.meth_ok (c.test 74 (t := fun K => He.Fa.ok K (.meth "Word" "part")) rfl)⟩ T F_Word   H_require_place H_require_within H_part_in
  have H_Word_letter {base : Heap} := ok_Word_letter (P := P) (w := w) (base := base) ⟨c.def_ 43 (d := dd_Word_letter) rfl, He.meth_ok (c.test 75 (t := fun K => He.Fa.ok K (.meth "Word" "letter")) rfl)⟩ T F_Word   H_require_place H_letter_in
  have H_law_right {base : Heap} := ok_law_right (P := P) (w := w) (base := base) ⟨c.def_ 44 (d := dd_law_right) rfl, He.glo_ok X G (c.test 76 (t := fun K => He.Fa.ok K (.glo "_law_right")) rfl)⟩ T   H_law_roll H_parity_word H_doubling_word H_fold_word H_pairs_word H_powers_word H_ends_word H_law_due H_Word_base H_Word_rows H_Word_letters H_law_wd_least H_law_great H_law_power H_Word_part H_Word_letter
  obtain ⟨fd, F⟩ := c.def_ 45 (d := dd_law) rfl
  have e := hfa.symm.trans (He.glo_ok X G (c.test 77 (t := fun K => He.Fa.ok K (.glo "law")) rfl))
  cases e
  have b := FunD.bindsA (ps := ["script"]) F fun _ _ _ _ _ _ us hl => match us, hl with | [_], _ => rfl
  exact ⟨fd, fun s v => b s [v] rfl, fun base _ _ => ok_law F T   H_law_dice H_Word_len H_law_right H_parity_word H_doubling_word H_powers_word⟩
end Pf
open PySem PySem.W PySem.Calls PyProof.Rows
set_option maxRecDepth 100000 in
set_option maxHeartbeats 8000000 in
theorem PySem.Challenge.cw_digitwords_k14_whole_known_words_holds : PySem.Challenge.rw_digitwords_k14_whole_known_words.Holds := by
  w_on; o_law
  refine HandSHeadRun.head_any (r := Pf.R) (q := view Pf.R.prog [55]) (H := Pf.hk) (ob := Pf.ob) (M := 8000) (loose := Pf.loose) (d := HandSHeadRun.topDef Pf.R.prog 55) (kwd := []) Pf.ob_eq
    (by kernel_rfl) (fun s => by kernel_rfl) Pf.run (by kernel_rfl) (by kernel_rfl) (by kernel_rfl) (by rfl) (by first | assumption | decide +kernel) (by decide +kernel) ⟨rfl, rfl, rfl, rfl, rfl, by decide +kernel⟩ ?hw ?hc
  case hw => w_witness2
  case hc =>
    refine Mi.walk_mi (l := PySem.Challenge.rw_digitwords_k14_whole_known_words) (n := 63) (k := 12) (x := "script") (m := Pf.m_law) rfl (by decide) (by kernel_rfl) ⟨rfl, by decide, by decide⟩ ?F Pf.law_true
    intro w mg fa h Y G hmg0
    obtain ⟨K, KX, c⟩ := Y
    have hmg : mg ("law" : PySem.Str) = some (.ref fa) := by
      have e : (HandSHeadRun.topDef Pf.R.prog 55).name = ("law" : PySem.Str) := by kernel_rfl
      rw [← e]
      exact hmg0
    obtain ⟨fd, hb, hF⟩ := Pf.facts (P := (PySem.Challenge.rw_digitwords_k14_whole_known_words).prog) (w := w) KX G hmg c
    exact ⟨K, fd, KX, hb, hF⟩
