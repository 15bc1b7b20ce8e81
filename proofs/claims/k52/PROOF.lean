import PyProof.Rows.All
import Wide.All
import OpenK.AllK
import Wide.FinOn
import KE.KStateDown
import HandS.Walk
import HandS.Zip
import KE.GoesMore
import KE.GoesEnum
import HandS.ForMost
import HandS.TupAny
import HandS.Conv
import HandS.Wide
import HandS.IsInst
import HandS.SortInts
import HandS.WordsExc
import HandS.Defaults
import HandS.Exc
import HandS.ExcOwn
import HandS.TupMul
import HandS.Style
import HandS.HeadEnd
import PySem.Challenge.RW_dayholds_k52_whole_patterns_told_by_form
import HandS.Head0
import HandS.Head1
import HandS.Head2
import HandS.HeadHook1
import HandS.HeadHook2
set_option Elab.async false
set_option linter.all false
set_option maxRecDepth 100000
set_option maxHeartbeats 0
/-! enumerate of a tuple: the library's draws, lifted -/
namespace L3
open PySem PySem.Spec L2
theorem meets_enum_tup {v : Value} {o : Obj} {H : Heap → Prop} (B : Begins v o H) :
    Meets (Builtin.«enumerate.__new__» ⟨[.type "enumerate", v], []⟩) (fun _ R s => H s.heap ∧
      R (.ok (.ret (.ref (s.heap.push o).objs.size))) { s with heap := (s.heap.push o).push { cls := .type "enumerate", data := .fields #[.none, .bool false, .ref s.heap.objs.size, rawInt 0, .none, .none] } }) :=
  .of_wp fun prog w A R s h => by
    obtain ⟨hp, g, d, tk, os⟩ := s; obtain ⟨h1, h⟩ := h
    have hsub := sub_enumerate
    have q1 : ∀ {A' : Around} {E : Value → Shared → Prop} {Q : Value → Shared → Prop}, Q (.ref hp.objs.size) ⟨hp.push o, g, d, tk, os⟩ → wpAny (model prog w) A' (pyIter v) Q E ⟨hp, g, d, tk, os⟩ :=
      fun q => B.iter prog w _ _ ⟨hp, g, d, tk, os⟩ _ h1 q
    wp_walk using q1
    refine wpAny_stack_any fun st => wpAny_pure ?_
    split
    · rename_i c _ _ _ _ _
      cases (c == Value.type "enumerate")
      · wp_walk using q1
        exact ⟨_, rfl, h⟩
      · wp_walk using q1
        exact ⟨_, rfl, h⟩
    · wp_walk using q1
      exact ⟨_, rfl, h⟩
theorem call_enum_any {prog : Program} {w : World} {A : Around} {E : Value → Shared → Prop} {s : Shared} {v : Value} {o : Obj} {H : Heap → Prop} {Q : Value → Shared → Prop} (B : Begins v o H) (h1 : H s.heap)
    (h : ∀ h', IsEnum h' (s.heap.objs.size + 1) s.heap.objs.size 0 .none → h'.get? s.heap.objs.size = some o → h'.objs.size = s.heap.objs.size + 2 →
      (∀ b o, s.heap.get? b = some o → h'.get? b = some o) → Q (.ref (s.heap.objs.size + 1)) { s with heap := h' }) :
    wpAny (model prog w) A (call (.type "enumerate") [v]) Q E s := by
  refine callType_new F.called_enumerate (by decide) (F.typeCall_enumerate_1 _) (F.newCall_enumerate_1 _) (fun obj => F.args_object_init_2 obj _) F.entry_enumerate_new
    (meets_enum_tup B) ⟨h1, ?_⟩
  have hz : (s.heap.push o).objs.size = s.heap.objs.size + 1 := Heap.size_push ..
  show _ ∧ _
  rw [hz]
  have he : IsEnum ((s.heap.push o).push { cls := .type "enumerate", data := .fields #[.none, .bool false, .ref s.heap.objs.size, rawInt 0, .none, .none] }) (s.heap.objs.size + 1) s.heap.objs.size 0 .none := by
    have := Heap.get?_push_size (s.heap.push o) (o := { cls := .type "enumerate", data := .fields #[.none, .bool false, .ref s.heap.objs.size, rawInt 0, .none, .none] }) rfl
    rw [hz] at this; exact this
  refine ⟨⟨_, he, rfl⟩, h _ he (Heap.get?_push_of_some _ (Heap.get?_push_size _ B.free)) (by rw [Heap.size_push, hz]) fun b o x => Heap.get?_push_of_some _ (Heap.get?_push_of_some _ x)⟩
/-- the tuple at a, its items in new pairs with their places -/
def IteT (K : PySem.W.Frag) (a : Addr) : It :=
  ⟨fun i H => ∃ (xs : List V) (x : V), SqT K H a xs ∧ xs[i]? = some x, fun i H v H' => ∃ T x, v = .ref T ∧ H T = none ∧ H' = upd H T (.tup [.int (i : Nat), x]) ∧ ∀ xs, SqT K H a xs → xs[i]? = some x, fun i H => ∃ xs : List V, SqT K H a xs ∧ xs.length = i⟩
theorem turn_enumT {P : Program} {w : World} {K : PySem.W.Frag} {elts : List Expr} {kk : Nat} {tpos : Pos} (a e it : Addr) :
    Turn P w K (.Tuple elts kk tpos) (IteT K a) [e, it] e (fun i h => (∃ old, IsEnum h e it ((i : Nat) : Int) old) ∧ h.IsTupleIter it a i ∧ e ≠ it ∧ a ≠ it ∧ e ≠ a) where
  mem := by simp
  obj := fun i h st b hb => by
    obtain ⟨⟨old, he⟩, ⟨o, ho, hc, hd⟩, _⟩ := st
    have e' : b = e ∨ b = it := by simpa using hb
    rcases e' with z | z
    · rw [z]; exact ⟨_, he, fun v q => nomatch q⟩
    · rw [z]; exact ⟨o, ho, fun v q => by rw [hd] at q; cases q⟩
  keep := fun i h h' st k => let ⟨⟨old, he⟩, hi, hne⟩ := st; ⟨⟨old, k e (by simp) _ he⟩, hi.at fun o q => k it (by simp) o q, hne⟩
  item := by
    intro X hP hw hK hc i pins s σ H E I hf st hg
    subst hP hw hK
    obtain ⟨⟨old, he⟩, hit, hne, hai, hea⟩ := st
    obtain ⟨xs, x, hq, hx⟩ := hg
    obtain ⟨its, rv, p, hz⟩ := I.tuple hq
    obtain ⟨u, hu, ru⟩ := rv.get hx
    have hel : e < s.heap.objs.size := Heap.lt_size he
    have hil : it < s.heap.objs.size := by obtain ⟨_, q, _⟩ := hit; exact Heap.lt_size q
    have hh : X.A.in1.handled = none := I.ok.hd hc
    have hlt : i < its.toArray.size := by
      have := (List.getElem?_eq_some_iff.mp hu).1
      simpa using this
    refine wpAny_pyNext_enum_itemC (Draws.tuple (prog := X.prog) (w := X.w) hh it a hai its.toArray) he ⟨hit, show s.heap.IsTuple a its.toArray from p⟩ hlt hne (by simp [hne, hea]) fun y h' tk hy ho hst hT hsz hk => ?_
    have ey : y = u := by
      have h1 : its[i]? = some y := by simpa using hy
      rw [hu] at h1
      exact (Option.some.inj h1).symm
    subst ey
    refine ⟨_, rfl, wpAny_letOwnedTupleGo_enum (s := { s with heap := h', toks := tk + 1 }) ho fun h'' he' sb => ?_⟩
    have hT2 : h''.get? s.heap.objs.size = some { cls := .type "tuple", data := .seq #[.int i tk, y] } := (sb.2 _ (Nat.ne_of_gt hel)).trans hT
    have new : ObjOk X.prog X.w (upd H s.heap.objs.size (.tup [.int (i : Nat), x])) h'' s.heap.objs.size (.tup [.int (i : Nat), x]) :=
      ⟨by show 2 ≤ sizeLine; decide, [.int i tk, y], .cons ⟨_, rfl⟩ (.cons ru .nil), ⟨_, hT2, rfl, _, rfl⟩⟩
    have I1 : Inv X pins σ (upd H s.heap.objs.size (.tup [.int (i : Nat), x])) { s with heap := h'', toks := tk + 1 } :=
      I.turnedNew (ch := [e, it]) (fun b ob hb q => (sb.2 b (fun z => hb (by simp [z]))).trans (hk b ob (fun z => hb (by simp [z])) (fun z => hb (by simp [z])) q)) hf (Nat.le_refl _) new
    refine ⟨.ref s.heap.objs.size, _, I1, rfl, ⟨_, x, rfl, I.hok.fresh (Nat.le_refl _), rfl, fun ys hy => by rw [I.tuple_inj hy hq]; exact hx⟩, ⟨⟨y, ?_⟩, hst.1.at fun o q => (sb.2 it (Ne.symm hne)).trans q, hne, hai, hea⟩, fun b hb => ?_⟩
    · have e1 : ((i + 1 : Nat) : Int) = (i : Int) + 1 := by omega
      rw [e1]; exact he'
    · have hb' : b < s.heap.objs.size := by
        have e' : b = e ∨ b = it := by simpa using hb
        rcases e' with z | z
        · rw [z]; exact hel
        · rw [z]; exact hil
      rw [upd_ne (Nat.ne_of_lt hb')]
      exact (hf b hb).1
  done := by
    intro X hP hw hK hc i pins s σ H E I hf st hg
    subst hP hw hK
    obtain ⟨⟨old, he⟩, hit, hne, hai, hea⟩ := st
    obtain ⟨xs, hq, hx⟩ := hg
    obtain ⟨its, rv, p, hz⟩ := I.tuple hq
    obtain ⟨f0, f1, f2, f3, f4, f5⟩ := hf it (by simp)
    have hl := rv.length
    have hh : X.A.in1.handled = none := I.ok.hd hc
    have hn : its.toArray.size = i := by simp only [List.size_toArray]; omega
    exact wpAny_pyNext_enum_endD (Draws.tuple (prog := X.prog) (w := X.w) hh it a hai its.toArray) he ⟨by rw [hn]; exact hit, show s.heap.IsTuple a its.toArray from p⟩ fun h' eb => ⟨rfl, I.turned (t' := s.toks) (fun b o hb q => eb b o hb q) f0 f1 f3 f4 f5⟩
  self := fun A i s Q E st h => let ⟨⟨_, he⟩, _⟩ := st; wpAny_pyIter_enum he h
def iEnumA (K : PySem.W.Frag) (ta : TA) : TI := fun σ H R => ta σ H fun vs H1 => ∃ a xs, vs = [.ref a] ∧ ((SqL K H1 a xs ∧ R (Ite K a) H1) ∨ (SqT K H1 a xs ∧ R (IteT K a) H1))
theorem pi_enumA {X : Cx} {e : Expr} {ta : TA} {p pos tpos : Pos} {elts : List Expr} {kk : Nat} (hg : Gl X "enumerate") (hm : X.mg "enumerate" = none) (ha : PA X [e] ta) (hs : starEach [e] X.env = [(false, eval e X.env)] := by rfl) :
    PI X (.Tuple elts kk tpos) (.Call (.Name "enumerate" p) [e] [] pos) (iEnumA X.K ta) := by
  refine ⟨fun pins s σ H R I h => ?_⟩
  refine PyProof.Rows.Call_ (ld_blt I hg hm PyProof.Rows.boot_enumerate (PyProof.Rows.callWith_type1 (thn (ha.run pos pins s σ H _ I h) fun us s1 ⟨vs, H1, I1, r1, q1⟩ => ?_) hs rfl))
  obtain ⟨a, xs, ex, q1⟩ := q1
  subst ex
  cases r1 with
  | cons r rr =>
    cases rr
    cases r
    have fin : ∀ b, b ∈ [s1.heap.objs.size + 1, s1.heap.objs.size] → FpOk X pins H1 b := fun b hb => by
      have e' : b = s1.heap.objs.size + 1 ∨ b = s1.heap.objs.size := by simpa using hb
      have hle : s1.heap.objs.size ≤ b := by
        rcases e' with z | z
        · rw [z]; exact Nat.le_add_right _ _
        · rw [z]; exact Nat.le_refl _
      exact I1.fpOk hle (I1.hok.fresh hle)
    rcases q1 with ⟨hq, q⟩ | ⟨hq, q⟩
    · obtain ⟨its, rv, p', hz⟩ := I1.list hq
      refine call_enumerate_list p'.isList fun h' he hit hsz hk => wpAny_pyIter_enum he ?_
      have I2 : Inv X pins σ H1 { s1 with heap := h' } := I1.kept (t' := s1.toks) hk
      exact ⟨s1.heap.objs.size + 1, [s1.heap.objs.size + 1, s1.heap.objs.size], _, _, H1, rfl, I2, turn_enum a (s1.heap.objs.size + 1) s1.heap.objs.size, ⟨⟨.none, he⟩, hit, Nat.succ_ne_self _⟩, fin, q⟩
    · obtain ⟨its, rv, p', hz⟩ := I1.tuple hq
      have hlt : a < s1.heap.objs.size := by obtain ⟨o, ho, _⟩ := p'; exact Heap.lt_size ho
      refine call_enum_any (begins_tuple a its.toArray) (show s1.heap.IsTuple a its.toArray from p') fun h' he hit hsz hk => wpAny_pyIter_enum he ?_
      have I2 : Inv X pins σ H1 { s1 with heap := h' } := I1.kept (t' := s1.toks) hk
      exact ⟨s1.heap.objs.size + 1, [s1.heap.objs.size + 1, s1.heap.objs.size], _, _, H1, rfl, I2, turn_enumT a (s1.heap.objs.size + 1) s1.heap.objs.size, ⟨⟨.none, he⟩, ⟨_, hit, rfl, rfl⟩, Nat.succ_ne_self _, Nat.ne_of_lt hlt, Nat.ne_of_gt (Nat.lt_succ_of_lt hlt)⟩, fin, q⟩
theorem walk_enumT {K : PySem.W.Frag} {a : Addr} {xs : List V} : Walk (IteT K a) xs.length (fun H => SqT K H a xs) (YPair (fun i => some (.int (i : Nat))) (fun i => xs[i]?)) := by
  refine ⟨fun i _ hi q => ⟨xs, xs[i], q, by simp [hi]⟩, fun _ q => ⟨xs, q, rfl⟩, fun i H v H' _ q y => ?_⟩
  obtain ⟨T, x, h1, h2, h3, h4⟩ := y
  exact ⟨T, .int (i : Nat), x, h1, h2, h3, rfl, h4 xs q⟩
theorem walk_zipT {K : PySem.W.Frag} {a b : Addr} {xs ys : List V} {n : Nat} (hn : n = min xs.length ys.length) : Walk (RZ.ItzT K a b) n (fun H => SqT K H a xs ∧ SqT K H b ys) (YPair (fun i => xs[i]?) (fun i => ys[i]?)) := by
  subst hn
  refine ⟨fun i _ hi q => ?_, fun _ q => ⟨xs, ys, q.1, q.2, by omega⟩, fun i H v H' _ q y => ?_⟩
  · have h1 : i < xs.length := by omega
    have h2 : i < ys.length := by omega
    exact ⟨xs, ys, xs[i], ys[i], q.1, q.2, by simp [h1], by simp [h2]⟩
  · obtain ⟨T, x, z, h1, h2, h3, h4, h5⟩ := y
    exact ⟨T, x, z, h1, h2, h3, h4 xs q.1, h5 ys q.2⟩
end L3
namespace L3
open PySem PySem.Spec L2

/-! ### plain data -/
inductive D where
  | non | bl (b : Bool) | int (i : Int) | str (x : Str) | tup (xs : List D) | lst (xs : List D) | obj

mutual
def Rep (o : Addr) (M : Addr → Prop) (H : Hp) : D → V → Prop
  | .non, v => v = .non
  | .bl b, v => v = .bl b
  | .int i, v => v = .int i
  | .str x, v => v = .str x
  | .tup ds, v => ∃ a vs, v = .ref a ∧ ¬ M a ∧ H a = some (.tup vs) ∧ ds.length ≤ sizeLine ∧ Reps o M H ds vs
  | .lst ds, v => ∃ a vs, v = .ref a ∧ ¬ M a ∧ H a = some (.lst vs) ∧ ds.length ≤ sizeLine ∧ Reps o M H ds vs
  | .obj, v => v = .ref o
def Reps (o : Addr) (M : Addr → Prop) (H : Hp) : List D → List V → Prop
  | [], vs => vs = []
  | d :: ds, vs => ∃ v r, vs = v :: r ∧ Rep o M H d v ∧ Reps o M H ds r
end

/-- frozen objects stay, what becomes mutable is new -/
structure Step (M : Addr → Prop) (H : Hp) (M' : Addr → Prop) (H' : Hp) : Prop where
  kp : ∀ a u, H a = some u → ¬ M a → H' a = some u
  gr : ∀ a, M' a → M a ∨ H a = none
theorem Step.refl {M H} : Step M H M H := ⟨fun _ _ e _ => e, fun _ h => .inl h⟩
theorem Step.trans {M H M' H' M'' H''} (a : Step M H M' H') (b : Step M' H' M'' H'') : Step M H M'' H'' where
  kp := fun x u e n => by
    refine b.kp x u (a.kp x u e n) fun z => ?_
    rcases a.gr x z with z | z
    · exact n z
    · rw [e] at z; cases z
  gr := fun x z => by
    rcases b.gr x z with z | z
    · exact a.gr x z
    · cases e : H x with
      | none => exact .inr rfl
      | some u =>
        by_cases m : M x
        · exact .inl m
        · rw [a.kp x u e m] at z; cases z
/-- all but the state's own objects stays -/
def Keep (mt : Addr → Prop) (H H' : Hp) : Prop := ∀ a u, H a = some u → ¬ mt a → H' a = some u
theorem Keep.refl {mt : Addr → Prop} {H : Hp} : Keep mt H H := fun _ _ e _ => e
theorem Keep.trans {mt : Addr → Prop} {H H' H'' : Hp} (a : Keep mt H H') (b : Keep mt H' H'') : Keep mt H H'' := fun x u e n => b x u (a x u e n) n
theorem Keep.upd {mt : Addr → Prop} {H : Hp} {p : Addr} {u : HO} (h : H p = none) : Keep mt H (upd H p u) := fun b x e _ => by rw [upd_ne (ne_of_none e h)]; exact e
theorem Keep.step {mt M : Addr → Prop} {H H' : Hp} (k : Keep mt H H') (hm : ∀ a, mt a → M a) : Step M H M H' := ⟨fun a u e n => k a u e fun z => n (hm a z), fun _ h => .inl h⟩

section
variable {o : Addr} {M M' : Addr → Prop} {H H' : Hp}
mutual
theorem Rep.step (st : Step M H M' H') : ∀ {d : D} {v : V}, Rep o M H d v → Rep o M' H' d v
  | .non, _, h => h
  | .bl _, _, h => h
  | .int _, _, h => h
  | .str _, _, h => h
  | .obj, _, h => h
  | .tup ds, v, h => by
    obtain ⟨a, vs, e, n, ha, l, r⟩ := h
    exact ⟨a, vs, e, fun z => (st.gr a z).elim n (fun q => by rw [ha] at q; cases q), st.kp a _ ha n, l, Reps.step st r⟩
  | .lst ds, v, h => by
    obtain ⟨a, vs, e, n, ha, l, r⟩ := h
    exact ⟨a, vs, e, fun z => (st.gr a z).elim n (fun q => by rw [ha] at q; cases q), st.kp a _ ha n, l, Reps.step st r⟩
theorem Reps.step (st : Step M H M' H') : ∀ {ds : List D} {vs : List V}, Reps o M H ds vs → Reps o M' H' ds vs
  | [], _, h => h
  | d :: ds, vs, h => by
    obtain ⟨v, r, e, h1, h2⟩ := h
    exact ⟨v, r, e, Rep.step st h1, Reps.step st h2⟩
end
theorem Reps.length : ∀ {ds : List D} {vs : List V}, Reps o M H ds vs → vs.length = ds.length
  | [], vs, h => by rw [show vs = [] from h]; rfl
  | d :: ds, vs, h => by
    obtain ⟨v, r, rfl, _, h2⟩ := h
    rw [List.length_cons, List.length_cons, Reps.length h2]
theorem Reps.get : ∀ {ds : List D} {vs : List V} {i : Nat} {v : V}, Reps o M H ds vs → vs[i]? = some v → ∃ d, ds[i]? = some d ∧ Rep o M H d v
  | [], vs, i, v, h, e => by rw [show vs = [] from h] at e; simp at e
  | d :: ds, vs, i, v, h, e => by
    obtain ⟨w, r, rfl, h1, h2⟩ := h
    cases i with
    | zero => simp at e; subst e; exact ⟨d, rfl, h1⟩
    | succ i => exact Reps.get (i := i) h2 (by simpa using e)
theorem Reps.getD : ∀ {ds : List D} {vs : List V} {i : Nat} {d : D}, Reps o M H ds vs → ds[i]? = some d → ∃ v, vs[i]? = some v ∧ Rep o M H d v
  | [], vs, i, d, h, e => by simp at e
  | x :: ds, vs, i, d, h, e => by
    obtain ⟨w, r, rfl, h1, h2⟩ := h
    cases i with
    | zero => simp at e; subst e; exact ⟨w, rfl, h1⟩
    | succ i => exact Reps.getD (i := i) h2 (by simpa using e)
theorem Reps.append : ∀ {ds es : List D} {vs us : List V}, Reps o M H ds vs → Reps o M H es us → Reps o M H (ds ++ es) (vs ++ us)
  | [], es, vs, us, h, q => by rw [show vs = [] from h]; exact q
  | d :: ds, es, vs, us, h, q => by
    obtain ⟨v, r, rfl, h1, h2⟩ := h
    exact ⟨v, r ++ us, rfl, h1, Reps.append h2 q⟩
theorem Reps.one {d : D} {v : V} (h : Rep o M H d v) : Reps o M H [d] [v] := ⟨v, [], rfl, h, rfl⟩
theorem Reps.take : ∀ {ds : List D} {vs : List V} (n : Nat), Reps o M H ds vs → Reps o M H (ds.take n) (vs.take n)
  | ds, vs, 0, _ => by simp [Reps]
  | [], vs, n + 1, h => by rw [show vs = [] from h]; simp [Reps]
  | d :: ds, vs, n + 1, h => by
    obtain ⟨v, r, rfl, h1, h2⟩ := h
    exact ⟨v, r.take n, rfl, h1, Reps.take n h2⟩
theorem Reps.drop : ∀ {ds : List D} {vs : List V} (n : Nat), Reps o M H ds vs → Reps o M H (ds.drop n) (vs.drop n)
  | ds, vs, 0, h => by simpa using h
  | [], vs, n + 1, h => by rw [show vs = [] from h]; simp [Reps]
  | d :: ds, vs, n + 1, h => by
    obtain ⟨v, r, rfl, h1, h2⟩ := h
    simpa using Reps.drop n h2
theorem Reps.set {d : D} {v : V} (q : Rep o M H d v) : ∀ {ds : List D} {vs : List V} (i : Nat), Reps o M H ds vs → Reps o M H (ds.set i d) (vs.set i v)
  | [], vs, i, h => by rw [show vs = [] from h]; simp [Reps]
  | x :: ds, vs, 0, h => by
    obtain ⟨w, r, rfl, h1, h2⟩ := h
    exact ⟨v, r, rfl, q, h2⟩
  | x :: ds, vs, i + 1, h => by
    obtain ⟨w, r, rfl, h1, h2⟩ := h
    exact ⟨w, r.set i v, rfl, h1, Reps.set q i h2⟩
theorem Reps.reverse : ∀ {ds : List D} {vs : List V}, Reps o M H ds vs → Reps o M H ds.reverse vs.reverse
  | [], vs, h => by rw [show vs = [] from h]; simp [Reps]
  | d :: ds, vs, h => by
    obtain ⟨v, r, rfl, h1, h2⟩ := h
    rw [List.reverse_cons, List.reverse_cons]
    exact (Reps.reverse h2).append (Reps.one h1)
theorem Reps.ints : ∀ (ns : List Int), Reps o M H (ns.map D.int) (ns.map V.int)
  | [] => by simp [Reps]
  | n :: ns => ⟨.int n, ns.map V.int, rfl, rfl, Reps.ints ns⟩
theorem Reps.ints_inv : ∀ {ns : List Int} {vs : List V}, Reps o M H (ns.map D.int) vs → vs = ns.map V.int
  | [], vs, h => by simpa [Reps] using h
  | n :: ns, vs, h => by
    obtain ⟨v, r, rfl, h1, h2⟩ := h
    rw [show v = .int n from h1, Reps.ints_inv h2]; rfl
theorem Reps.replicate {d : D} {v : V} (h : Rep o M H d v) : ∀ n, Reps o M H (List.replicate n d) (List.replicate n v)
  | 0 => by simp [Reps]
  | n + 1 => ⟨v, List.replicate n v, rfl, h, Reps.replicate h n⟩
theorem Reps.repeat_ {ds : List D} {vs : List V} (h : Reps o M H ds vs) : ∀ n, Reps o M H (List.replicate n ds).flatten (List.replicate n vs).flatten
  | 0 => by simp [Reps]
  | n + 1 => by
    rw [List.replicate_succ, List.replicate_succ, List.flatten_cons, List.flatten_cons]
    exact h.append (Reps.repeat_ h n)
end

/-! ### environments and states -/
inductive Ent where
  | no | v (d : D) | o (xs : List D)

structure Cfg (S : Type) where
  at_ : Addr
  mt : Addr → Prop
  /-- what the state leans on -/
  ft : Addr → Prop
  rel : S → (Addr → Prop) → Hp → Prop
  sub : ∀ a, mt a → ft a
  trk : ∀ {s M H a}, rel s M H → ft a → H a ≠ none
  keep : ∀ {s M H M' H'}, rel s M H → (∀ b u, ft b → H b = some u → H' b = some u) → (∀ b, ft b → M' b → M b) → rel s M' H'

structure Fx (S : Type) where
  C : Cfg S
  H0 : Hp
  M0 : Addr → Prop

structure OwnAt (o : Addr) (H0 : Hp) (M : Addr → Prop) (H : Hp) (a : Addr) (xs : List D) (vs : List V) : Prop where
  mem : M a
  new : H0 a = none
  at_ : H a = some (.lst vs)
  len : xs.length ≤ sizeLine
  reps : Reps o M H xs vs

structure RelS {S : Type} (F : Fx S) (M : Addr → Prop) (env : List Ent) (s : S) (σ : L2.St) (H : Hp) : Prop where
  val : ∀ (i : Nat) (d : D), env[i]? = some (.v d) → ∃ v, σ[i]? = some (some v) ∧ Rep F.C.at_ M H d v
  own : ∀ (i : Nat) (xs : List D), env[i]? = some (.o xs) → ∃ a vs, σ[i]? = some (some (.ref a)) ∧ OwnAt F.C.at_ F.H0 M H a xs vs
  inj : ∀ (i j : Nat) (xs ys : List D) (a : Addr), env[i]? = some (.o xs) → env[j]? = some (.o ys) → σ[i]? = some (some (.ref a)) → σ[j]? = some (some (.ref a)) → i = j
  trk : ∀ a, M a → H a ≠ none
  base : ∀ a, F.M0 a → M a
  mt : ∀ a, F.C.mt a → F.M0 a
  trk0 : ∀ a, F.M0 a → F.H0 a ≠ none
  ft0 : ∀ a, F.C.ft a → F.H0 a ≠ none
  keep : Keep F.C.mt F.H0 H
  st : F.C.rel s M H
  len : σ.length = env.length

inductive Res (α S : Type) where
  | ok (a : α) (s : S) | exc (c : Str) (s : S) | bad
def Res.bind {α β S : Type} (r : Res α S) (f : α → S → Res β S) : Res β S := match r with
  | .ok a s => f a s
  | .exc c s => .exc c s
  | .bad => .bad
@[simp] theorem Res.bind_ok {α β S : Type} (a : α) (s : S) (f : α → S → Res β S) : (Res.ok a s).bind f = f a s := rfl
@[simp] theorem Res.bind_exc {α β S : Type} (c : Str) (s : S) (f : α → S → Res β S) : (Res.exc c s : Res α S).bind f = .exc c s := rfl
@[simp] theorem Res.bind_bad {α β S : Type} (f : α → S → Res β S) : (Res.bad : Res α S).bind f = .bad := rfl

/-- an expression's meaning -/
abbrev XM (S α : Type) := List Ent → S → Res α S
abbrev Wish (S : Type) := Str → S → Hp → Prop

section
variable {S α β γ δ : Type} {F : Fx S} {M M' : Addr → Prop} {env : List Ent} {s s' : S} {σ : L2.St} {H H' : Hp}

theorem RelS.mutM (R : RelS F M env s σ H) : ∀ a, F.C.mt a → M a := fun a h => R.base a (R.mt a h)
theorem RelS.tracked (R : RelS F M env s σ H) {a : Addr} (h : M a) (e : H a = none) : False := R.trk a h e
/-- behind an expression: all but the state's own is kept -/
theorem RelS.stay (R : RelS F M env s σ H) (k : Keep F.C.mt H H') (st : F.C.rel s' M H') : RelS F M env s' σ H' where
  val := fun i d e => let ⟨v, h1, h2⟩ := R.val i d e; ⟨v, h1, h2.step (k.step R.mutM)⟩
  own := fun i xs e => by
    obtain ⟨a, vs, h1, h2⟩ := R.own i xs e
    refine ⟨a, vs, h1, h2.mem, h2.new, k a _ h2.at_ fun z => ?_, h2.len, h2.reps.step (k.step R.mutM)⟩
    exact R.trk0 a (R.mt a z) h2.new
  inj := R.inj
  trk := fun a h z => by
    by_cases hm : F.C.mt a
    · exact F.C.trk st (F.C.sub a hm) z
    · cases e : H a with
      | none => exact R.trk a h e
      | some u => rw [k a u e hm] at z; cases z
  base := R.base
  mt := R.mt
  trk0 := R.trk0
  ft0 := R.ft0
  keep := R.keep.trans k
  st := st
  len := R.len

/-- .. where what is mutable has changed too, by a new M -/
theorem RelS.val_step (R : RelS F M env s σ H) (st : Step M H M' H') {i : Nat} {d : D} (e : env[i]? = some (.v d)) : ∃ v, σ[i]? = some (some v) ∧ Rep F.C.at_ M' H' d v :=
  let ⟨v, h1, h2⟩ := R.val i d e; ⟨v, h1, h2.step st⟩


/-! ### what is wanted behind a meaning -/
/-- how a result is borne: the mutable, the heap ahead, the heap behind -/
abbrev Brs (α β : Type) := (Addr → Prop) → Hp → Hp → α → β → Prop
class PMono (mt : Addr → Prop) {α β : Type} (P : Brs α β) : Prop where
  mono : ∀ {M H H1 H2 d v}, Keep mt H H1 → P M H1 H2 d v → P M H H2 d v
def Sat (F : Fx S) (M : Addr → Prop) (env : List Ent) (σ : L2.St) (H : Hp) (P : Brs α β) (r : Res α S) (Q : β → Hp → Prop) (W : Wish S) : Prop :=
  match r with
  | .ok d s' => ∀ v H', RelS F M env s' σ H' → Keep F.C.mt H H' → P M H H' d v → Q v H'
  | .exc c s' => ∀ H', RelS F M env s' σ H' → W c s' H'
  | .bad => False
variable {P : Brs α β} {P' : Brs γ δ} {Q : β → Hp → Prop} {Q' : δ → Hp → Prop} {W : Wish S}
theorem Sat.later {r : Res α S} (h : Sat F M env σ H P r Q W) (k : Keep F.C.mt H H') [m : PMono F.C.mt P] : Sat F M env σ H' P r Q W := by
  cases r with
  | ok d s' => exact fun v H2 R k2 p => h v H2 R (k.trans k2) (m.mono k p)
  | exc c s' => exact h
  | bad => exact h
theorem Sat.bind {r : Res α S} {f : α → S → Res γ S} [PMono F.C.mt P'] (h : Sat F M env σ H P' (r.bind f) Q' W)
    (k : ∀ d s' v H', RelS F M env s' σ H' → Keep F.C.mt H H' → P M H H' d v → Sat F M env σ H' P' (f d s') Q' W → Q v H') : Sat F M env σ H P r Q W := by
  cases r with
  | ok d s' => exact fun v H' R kp p => k d s' v H' R kp p (Sat.later h kp)
  | exc c s' => exact h
  | bad => exact h
theorem Sat.mono {r : Res α S} {P2 : Brs α δ} (h : Sat F M env σ H P2 r Q' W)
    (k : ∀ d s' v H', RelS F M env s' σ H' → Keep F.C.mt H H' → P M H H' d v → (∀ v2 H2, RelS F M env s' σ H2 → Keep F.C.mt H H2 → P2 M H H2 d v2 → Q' v2 H2) → Q v H') : Sat F M env σ H P r Q W := by
  cases r with
  | ok d s' => exact fun v H' R kp p => k d s' v H' R kp p h
  | exc c s' => exact h
  | bad => exact h
/-- .. where the start matters -/
theorem Sat.bind0 {r : Res α S} {f : α → S → Res γ S} (h : Sat F M env σ H P' (r.bind f) Q' W)
    (k : ∀ d s' v H', r = .ok d s' → RelS F M env s' σ H' → Keep F.C.mt H H' → P M H H' d v → Sat F M env σ H P' (f d s') Q' W → Q v H') : Sat F M env σ H P r Q W := by
  cases r with
  | ok d s' => exact fun v H' R kp p => k d s' v H' rfl R kp p h
  | exc c s' => exact h
  | bad => exact h

/-! ### judgements -/
/-- the reading of a meaning -/
def tOf (F : Fx S) (W : Wish S) (P : Brs α β) (m : XM S α) : L2.St → Hp → (β → Hp → Prop) → Prop := fun σ H Q =>
  ∃ M env s, RelS F M env s σ H ∧ Sat F M env σ H P (m env s) Q W

def insM (M : Addr → Prop) (p : Addr) : Addr → Prop := fun b => b = p ∨ M b
/-- a value that goes on -/
def PE_ (F : Fx S) : Brs D V := fun M _ H d v => Rep F.C.at_ M H d v
/-- a value that is looked at: an own list too -/
def RepV (F : Fx S) (M : Addr → Prop) (H : Hp) (d : D) (v : V) : Prop := match d with
  | .lst ds => ∃ a vs, v = .ref a ∧ ¬ F.C.mt a ∧ H a = some (.lst vs) ∧ ds.length ≤ sizeLine ∧ Reps F.C.at_ M H ds vs
  | d => Rep F.C.at_ M H d v
def PV_ (F : Fx S) : Brs D V := fun M _ H d v => RepV F M H d v
/-- a new list, of nobody else -/
def PF_ (F : Fx S) : Brs (List D) V := fun M H H' ds v => ∃ a vs, v = .ref a ∧ H a = none ∧ ¬ F.C.mt a ∧ H' a = some (.lst vs) ∧ ds.length ≤ sizeLine ∧ Reps F.C.at_ (insM M a) H' ds vs
def PB_ : Brs Bool Bool := fun _ _ _ a b => a = b
def PL_ (F : Fx S) : Brs (List D) (List V) := fun M _ H ds vs => Reps F.C.at_ M H ds vs
def Each {α β : Type} (p : α → β → Prop) : List α → List β → Prop
  | [], vs => vs = []
  | d :: ds, vs => ∃ v r, vs = v :: r ∧ p d v ∧ Each p ds r
def PW_ (F : Fx S) : Brs (List D) (List V) := fun M _ H ds vs => Each (RepV F M H) ds vs
instance {mt : Addr → Prop} : PMono mt (PE_ F) := ⟨fun _ h => h⟩
instance {mt : Addr → Prop} : PMono mt (PV_ F) := ⟨fun _ h => h⟩
instance {mt : Addr → Prop} : PMono mt PB_ := ⟨fun _ h => h⟩
instance {mt : Addr → Prop} : PMono mt (PL_ F) := ⟨fun _ h => h⟩
instance {mt : Addr → Prop} : PMono mt (PW_ F) := ⟨fun _ h => h⟩
instance : PMono F.C.mt (PF_ F) := ⟨fun {M H H1 H2 d v} k h => by
  obtain ⟨a, vs, e, n, nm, r⟩ := h
  refine ⟨a, vs, e, ?_, nm, r⟩
  cases q : H a with
  | none => rfl
  | some u => rw [k a u q nm] at n; cases n⟩

theorem insM_step {p : Addr} (h : H p = none) (k : ∀ a u, H a = some u → ¬ M a → H' a = some u) : Step M H (insM M p) H' := ⟨k, fun a z => z.elim (fun e => .inr (by rw [e]; exact h)) .inl⟩
theorem Rep.drop {o p : Addr} : ∀ {d : D} {v : V}, Rep o (insM M p) H d v → Rep o M H d v := fun h => h.step ⟨fun _ _ e _ => e, fun _ z => .inl (.inr z)⟩
theorem Reps.dropM {o p : Addr} : ∀ {d : List D} {v : List V}, Reps o (insM M p) H d v → Reps o M H d v := fun h => h.step ⟨fun _ _ e _ => e, fun _ z => .inl (.inr z)⟩
theorem RepV.of {d : D} {v : V} (hm : ∀ a, F.C.mt a → M a) (h : Rep F.C.at_ M H d v) : RepV F M H d v := by
  cases d with
  | lst ds =>
    obtain ⟨a, vs, e, n, ha, l, r⟩ := h
    exact ⟨a, vs, e, fun z => n (hm a z), ha, l, r⟩
  | _ => exact h
theorem RepV.stay {d : D} {v : V} (hm : ∀ a, F.C.mt a → M a) (h : RepV F M H d v) (k : Keep F.C.mt H H') : RepV F M H' d v := by
  cases d with
  | lst ds =>
    obtain ⟨a, vs, e, n, ha, l, r⟩ := h
    exact ⟨a, vs, e, n, k a _ ha n, l, r.step (k.step hm)⟩
  | _ => exact Rep.step (k.step hm) h

/-! the judgements: an expression as a value, a look, a new list, a test; arguments -/
abbrev DE (X : Cx) (F : Fx S) (W : Wish S) (e : Expr) (m : XM S D) : Prop := PE X e (tOf F W (PE_ F) m)
abbrev DV (X : Cx) (F : Fx S) (W : Wish S) (e : Expr) (m : XM S D) : Prop := PE X e (tOf F W (PV_ F) m)
abbrev DF (X : Cx) (F : Fx S) (W : Wish S) (e : Expr) (m : XM S (List D)) : Prop := PE X e (tOf F W (PF_ F) m)
abbrev DT (X : Cx) (F : Fx S) (W : Wish S) (e : Expr) (m : XM S Bool) : Prop := PT X e (tOf F W PB_ m)
abbrev DA (X : Cx) (F : Fx S) (W : Wish S) (es : List Expr) (m : XM S (List D)) : Prop := PA X es (tOf F W (PL_ F) m)
abbrev DW (X : Cx) (F : Fx S) (W : Wish S) (es : List Expr) (m : XM S (List D)) : Prop := PA X es (tOf F W (PW_ F) m)
end

section
variable {X : Cx}
theorem peImp {e : Expr} {t u : TE} (h : PE X e t) (k : ∀ σ H Q, u σ H Q → t σ H Q) : PE X e u := ⟨fun pins s σ H Q I q => h.run pins s σ H Q I (k σ H Q q)⟩
theorem ptImp {e : Expr} {t u : TT} (h : PT X e t) (k : ∀ σ H Q, u σ H Q → t σ H Q) : PT X e u := ⟨fun pins s σ H Q I q => h.run pins s σ H Q I (k σ H Q q)⟩
theorem paImp {es : List Expr} {t u : TA} (h : PA X es t) (k : ∀ σ H Q, u σ H Q → t σ H Q) : PA X es u := ⟨fun pos pins s σ H Q I q => h.run pos pins s σ H Q I (k σ H Q q)⟩
theorem psImp {st : Stmt} {t u : TS} (h : PS X st t) (k : ∀ D σ H, u D σ H → t D σ H) : PS X st u := ⟨fun pins s σ H D I q => h.run pins s σ H D I (k D σ H q)⟩
theorem pssImp {st : List Stmt} {t u : TS} (h : PSs X st t) (k : ∀ D σ H, u D σ H → t D σ H) : PSs X st u := ⟨fun pins s σ H D I q => h.run pins s σ H D I (k D σ H q)⟩
end
end L3
namespace L3
open PySem PySem.Spec L2
section
variable {S α β γ δ : Type} {F : Fx S} {M M' : Addr → Prop} {env : List Ent} {s s' : S} {σ : L2.St} {H H' : Hp} {W : Wish S} {X : Cx}

theorem Same.toKeep {mt : Addr → Prop} (h : Same H H') : Keep mt H H' := fun a u e _ => h a u e
theorem same_upd {p : Addr} {u : HO} (h : H p = none) : Same H (upd H p u) := fun b x e => by rw [upd_ne (ne_of_none e h)]; exact e
/-- behind what keeps all -/
theorem RelS.same (R : RelS F M env s σ H) (k : Same H H') : RelS F M env s σ H' :=
  R.stay (Same.toKeep k) (F.C.keep R.st (fun b u _ e => k b u e) fun _ _ z => z)
theorem RelS.fresh (R : RelS F M env s σ H) {p : Addr} (h : H p = none) : ¬ M p := fun z => R.trk p z h

def ret? (o : Option α) (s : S) : Res α S := match o with
  | some z => .ok z s
  | none => .bad
@[simp] theorem ret?_some (z : α) (s : S) : ret? (some z) s = .ok z s := rfl
@[simp] theorem ret?_none (s : S) : ret? (none : Option α) s = .bad := rfl

/-- a new tuple bears its items -/
theorem Rep.newTup {o p : Addr} {ds : List D} {vs : List V} (r : Reps o M H ds vs) (h : H p = none) (n : ¬ M p) (l : ds.length ≤ sizeLine) : Rep o M (upd H p (.tup vs)) (.tup ds) (.ref p) :=
  ⟨p, vs, rfl, n, upd_same, l, r.step ⟨fun a u e _ => by rw [upd_ne (ne_of_none e h)]; exact e, fun _ z => .inl z⟩⟩
theorem Rep.newLst {o p : Addr} {ds : List D} {vs : List V} (r : Reps o M H ds vs) (h : H p = none) (n : ¬ M p) (l : ds.length ≤ sizeLine) : Rep o M (upd H p (.lst vs)) (.lst ds) (.ref p) :=
  ⟨p, vs, rfl, n, upd_same, l, r.step ⟨fun a u e _ => by rw [upd_ne (ne_of_none e h)]; exact e, fun _ z => .inl z⟩⟩
theorem PF.new {p : Addr} {H0 : Hp} {ds : List D} {vs : List V} (R : RelS F M env s σ H) (r : Reps F.C.at_ M H ds vs) (h0 : Keep F.C.mt H0 H) (h : H p = none) (l : ds.length ≤ sizeLine) : PF_ F M H0 (upd H p (.lst vs)) ds (.ref p) := by
  have nm : ¬ F.C.mt p := fun z => R.fresh h (R.mutM p z)
  refine ⟨p, vs, rfl, ?_, nm, upd_same, l, r.step ⟨fun a u e _ => by rw [upd_ne (ne_of_none e h)]; exact e, fun b z => z.elim (fun e => .inr (by rw [e]; exact h)) .inl⟩⟩
  cases q : H0 p with
  | none => rfl
  | some u => rw [h0 p u q nm] at h; cases h

/-! ### from one judgement to another -/
theorem dv_of {e : Expr} {m : XM S D} (h : DE X F W e m) : DV X F W e m := peImp h fun σ H Q ⟨M, env, s, R, q⟩ =>
  ⟨M, env, s, R, Sat.mono q fun d s' v H' R' k p j => j v H' R' k (RepV.of R'.mutM p)⟩
theorem PF.rep {H0 : Hp} {ds : List D} {v : V} (R : RelS F M env s σ H0) (k : Keep F.C.mt H0 H) (p : PF_ F M H0 H ds v) : Rep F.C.at_ M H (.lst ds) v := by
  obtain ⟨a, vs, e, n, nm, ha, l, r⟩ := p
  exact ⟨a, vs, e, R.fresh n, ha, l, r.dropM⟩
def mLst (m : XM S (List D)) : XM S D := fun env s => (m env s).bind fun ds s1 => .ok (.lst ds) s1
theorem de_of_df {e : Expr} {m : XM S (List D)} (h : DF X F W e m) : DE X F W e (mLst m) := peImp h fun σ H Q ⟨M, env, s, R, q⟩ =>
  ⟨M, env, s, R, Sat.bind0 q fun d s' v H' _ R' k p j => j v H' R' k (PF.rep R k p)⟩

/-! ### names and constants -/
def mName (i : Nat) : XM S D := fun env s => match env[i]? with
  | some (.v d) => .ok d s
  | _ => .bad
def mLook (i : Nat) : XM S D := fun env s => match env[i]? with
  | some (.v d) => .ok d s
  | some (.o xs) => .ok (.lst xs) s
  | _ => .bad
theorem de_name (i : Nat) {x : Str} {pos : Pos} (hN : X.N[i]? = some x := by rfl) (hv : Vis X.env.scope x := by first | exact Or.inl rfl | exact Or.inr (Or.inl rfl) | exact Or.inr (Or.inr rfl)) (hd : (x == ("__debug__" : Str)) = false := by decide)
    (hcd : (x == ("__classdict__" : Str)) = false := by decide) : DE X F W (.Name x pos) (mName i) := peImp (pe_var hN hv hd hcd) fun σ H Q ⟨M, env, s, R, q⟩ => by
  unfold mName at q
  cases e : env[i]? with
  | none => rw [e] at q; exact q.elim
  | some x =>
    rw [e] at q
    cases x with
    | v d =>
      obtain ⟨v, h1, h2⟩ := R.val i d e
      exact ⟨v, h1, q v H R Keep.refl h2⟩
    | _ => exact q.elim
theorem dv_name (i : Nat) {x : Str} {pos : Pos} (hN : X.N[i]? = some x := by rfl) (hv : Vis X.env.scope x := by first | exact Or.inl rfl | exact Or.inr (Or.inl rfl) | exact Or.inr (Or.inr rfl)) (hd : (x == ("__debug__" : Str)) = false := by decide)
    (hcd : (x == ("__classdict__" : Str)) = false := by decide) : DV X F W (.Name x pos) (mLook i) := peImp (pe_var hN hv hd hcd) fun σ H Q ⟨M, env, s, R, q⟩ => by
  unfold mLook at q
  cases e : env[i]? with
  | none => rw [e] at q; exact q.elim
  | some x =>
    rw [e] at q
    cases x with
    | v d =>
      obtain ⟨v, h1, h2⟩ := R.val i d e
      exact ⟨v, h1, q v H R Keep.refl (RepV.of R.mutM h2)⟩
    | o xs =>
      obtain ⟨a, vs, h1, h2⟩ := R.own i xs e
      exact ⟨.ref a, h1, q _ H R Keep.refl ⟨a, vs, rfl, fun z => R.trk0 a (R.mt a z) h2.new, h2.at_, h2.len, h2.reps⟩⟩
    | no => exact q.elim
def mC (d : D) : XM S D := fun _ s => .ok d s
theorem de_int {i j pos} : DE X F W (.Constant (.int i) j pos) (mC (.int i)) := peImp pe_int fun σ H Q ⟨M, env, s, R, q⟩ => q _ H R Keep.refl rfl
theorem de_bl {b j pos} : DE X F W (.Constant (.bool b) j pos) (mC (.bl b)) := peImp pe_bl fun σ H Q ⟨M, env, s, R, q⟩ => q _ H R Keep.refl rfl
theorem de_non {j pos} : DE X F W (.Constant .none j pos) (mC .non) := peImp pe_non fun σ H Q ⟨M, env, s, R, q⟩ => q _ H R Keep.refl rfl
theorem de_str {x j pos} : DE X F W (.Constant (.str x) j pos) (mC (.str x)) := peImp pe_str fun σ H Q ⟨M, env, s, R, q⟩ => q _ H R Keep.refl rfl
theorem de_gInt {x : Str} {i : Int} {pos : Pos} (hm : ∃ t, X.mg x = some (.int i t)) (hg : Gl X x := by rfl) (hd : (x == ("__debug__" : Str)) = false := by decide) : DE X F W (.Name x pos) (mC (.int i)) := by
  obtain ⟨t, h⟩ := hm
  exact peImp (pe_glob hg h (show RelV (.int i) _ from ⟨t, rfl⟩) hd) fun σ H Q ⟨M, env, s, R, q⟩ => q _ H R Keep.refl rfl
theorem de_gStr {x : Str} {i : Str} {pos : Pos} (hm : ∃ t, X.mg x = some (.str i t)) (hg : Gl X x := by rfl) (hd : (x == ("__debug__" : Str)) = false := by decide) : DE X F W (.Name x pos) (mC (.str i)) := by
  obtain ⟨t, h⟩ := hm
  exact peImp (pe_glob hg h (show RelV (.str i) _ from ⟨t, rfl⟩) hd) fun σ H Q ⟨M, env, s, R, q⟩ => q _ H R Keep.refl rfl

/-! ### operators by their rules -/
def mBin (f : D → D → Option D) (ma mb : XM S D) : XM S D := fun env s => (ma env s).bind fun x s1 => (mb env s1).bind fun y s2 => ret? (f x y) s2
def mUn (f : D → Option D) (ma : XM S D) : XM S D := fun env s => (ma env s).bind fun x s1 => ret? (f x) s1
/-- a rule on values bears an operation on data; Rd: how the result is borne -/
def Bears2 (F : Fx S) (r : R2) (f : D → D → Option D) : Prop := ∀ M env s σ H d e x y z (Q : VK), RelS F M env s σ H → RepV F M H d x → RepV F M H e y → f d e = some z →
  (∀ v H', Same H H' → Rep F.C.at_ M H' z v → Q v H') → r x y H Q
def Bears2F (F : Fx S) (r : R2) (f : D → D → Option (List D)) : Prop := ∀ M env s σ H d e x y z (Q : VK), RelS F M env s σ H → RepV F M H d x → RepV F M H e y → f d e = some z →
  (∀ v H', Same H H' → PF_ F M H H' z v → Q v H') → r x y H Q
theorem opB {e : Expr} {a b : Expr} {r : R2} {f : D → D → Option D} {ma mb : XM S D} (hr : Bears2 F r f) (h : PE X e (tOp r (tOf F W (PV_ F) ma) (tOf F W (PV_ F) mb))) : DE X F W e (mBin f ma mb) := peImp h fun σ H Q ⟨M, env, s, R, h⟩ => by
  refine ⟨M, env, s, R, Sat.bind h fun d s1 v H1 R1 k1 p1 h1 => ?_⟩
  refine ⟨M, env, s1, R1, Sat.bind h1 fun d2 s2 v2 H2 R2 k2 p2 h2 => ?_⟩
  have p1' : RepV F M H2 d v := RepV.stay R1.mutM p1 k2
  cases e : f d d2 with
  | none => rw [e] at h2; exact h2.elim
  | some z =>
    rw [e] at h2
    exact hr M env s2 σ H2 d d2 v v2 z Q R2 p1' p2 e fun v H' sm p => h2 v H' (R2.same sm) (Same.toKeep sm) p
def mBinF (f : D → D → Option (List D)) (ma mb : XM S D) : XM S (List D) := fun env s => (ma env s).bind fun x s1 => (mb env s1).bind fun y s2 => ret? (f x y) s2
theorem opBF {e : Expr} {a b : Expr} {r : R2} {f : D → D → Option (List D)} {ma mb : XM S D} (hr : Bears2F F r f) (h : PE X e (tOp r (tOf F W (PV_ F) ma) (tOf F W (PV_ F) mb))) : DF X F W e (mBinF f ma mb) := peImp h fun σ H Q ⟨M, env, s, R, h⟩ => by
  refine ⟨M, env, s, R, Sat.bind h fun d s1 v H1 R1 k1 p1 h1 => ?_⟩
  refine ⟨M, env, s1, R1, Sat.bind h1 fun d2 s2 v2 H2 R2 k2 p2 h2 => ?_⟩
  have p1' : RepV F M H2 d v := RepV.stay R1.mutM p1 k2
  cases e : f d d2 with
  | none => rw [e] at h2; exact h2.elim
  | some z =>
    rw [e] at h2
    exact hr M env s2 σ H2 d d2 v v2 z Q R2 p1' p2 e fun v H' sm p => h2 v H' (R2.same sm) (Same.toKeep sm) p

/-! + -/
@[simp] def dAdd : D → D → Option D
  | .int i, .int j => some (.int (i + j))
  | .tup xs, .tup ys => if xs.length + ys.length ≤ 16777216 then some (.tup (xs ++ ys)) else none
  | .lst xs, .lst ys => if xs.length + ys.length ≤ 16777216 then some (.lst (xs ++ ys)) else none
  | .str x, .str y => if x.length + y.length ≤ 16777216 then some (.str (x ++ y)) else none
  | _, _ => none
@[simp] def dCatL : D → D → Option (List D)
  | .lst xs, .lst ys => if xs.length + ys.length ≤ 16777216 then some (xs ++ ys) else none
  | _, _ => none
theorem line_eq : sizeLine = 16777216 := sizeLine_eq
theorem RepV.tup {ds : List D} {v : V} (h : RepV F M H (.tup ds) v) : ∃ a vs, v = .ref a ∧ ¬ M a ∧ H a = some (.tup vs) ∧ ds.length ≤ sizeLine ∧ Reps F.C.at_ M H ds vs := h
theorem RepV.lst {ds : List D} {v : V} (h : RepV F M H (.lst ds) v) : ∃ a vs, v = .ref a ∧ ¬ F.C.mt a ∧ H a = some (.lst vs) ∧ ds.length ≤ sizeLine ∧ Reps F.C.at_ M H ds vs := h
theorem nil_iff {o : Addr} {ds : List D} {vs : List V} (r : Reps o M H ds vs) : vs = [] ↔ ds = [] := by
  rw [← List.length_eq_zero_iff, ← List.length_eq_zero_iff, r.length]
theorem if_some {c : Prop} [Decidable c] {x z : α} (h : (if c then some x else none) = some z) : c ∧ x = z := by
  by_cases hc : c
  · rw [if_pos hc] at h; exact ⟨hc, Option.some.inj h⟩
  · rw [if_neg hc] at h; cases h
abbrev rStrAdd : R2 := fun x y H Q => ∃ i j, x = .str i ∧ y = .str j ∧ i.length + j.length ≤ sizeLine ∧ Q (.str (i ++ j)) H
theorem bears_add {K : PySem.W.Frag} : Bears2 F (fun x y H Q => rI0 (fun i j => .int (i + j)) x y H Q ∨ (rCatA K x y H Q ∨ (rCat x y H Q ∨ rStrAdd x y H Q))) dAdd := by
  intro M env s σ H d e x y z Q R hx hy hz q
  cases d with
  | int i =>
    cases e with
    | int j =>
      cases hz
      exact .inl ⟨i, j, hx, hy, q _ H (Same.refl H) rfl⟩
    | _ => cases hz
  | tup xs =>
    cases e with
    | tup ys =>
      obtain ⟨hl, rfl⟩ := if_some (show (if xs.length + ys.length ≤ 16777216 then some (D.tup (xs ++ ys)) else none) = some z from hz)
      obtain ⟨a, vs, rfl, na, ha, la, ra⟩ := hx.tup
      obtain ⟨b, us, rfl, nb, hb, lb, rb⟩ := hy.tup
      refine .inr (.inl ⟨a, b, vs, us, rfl, rfl, SqT.of ha, SqT.of hb, by rw [ra.length, rb.length, line_eq]; exact hl, fun e => ?_, fun _ e => ?_, fun _ _ p hp => ?_⟩)
      · have e1 := (nil_iff ra).mp e
        subst e1
        exact q _ H (Same.refl H) ⟨b, us, rfl, nb, hb, lb, rb⟩
      · have e1 := (nil_iff rb).mp e
        subst e1
        refine q _ H (Same.refl H) ?_
        rw [List.append_nil]
        exact ⟨a, vs, rfl, na, ha, la, ra⟩
      · exact q _ _ (same_upd hp) (Rep.newTup (ra.append rb) hp (R.fresh hp) (by rw [List.length_append, line_eq]; exact hl))
    | _ => cases hz
  | lst xs =>
    cases e with
    | lst ys =>
      obtain ⟨hl, rfl⟩ := if_some (show (if xs.length + ys.length ≤ 16777216 then some (D.lst (xs ++ ys)) else none) = some z from hz)
      obtain ⟨a, vs, rfl, na, ha, la, ra⟩ := hx.lst
      obtain ⟨b, us, rfl, nb, hb, lb, rb⟩ := hy.lst
      refine .inr (.inr (.inl ⟨a, b, vs, us, rfl, rfl, ha, hb, by rw [ra.length, rb.length, line_eq]; exact hl, fun p hp => ?_⟩))
      exact q _ _ (same_upd hp) (Rep.newLst (ra.append rb) hp (R.fresh hp) (by rw [List.length_append, line_eq]; exact hl))
    | _ => cases hz
  | str i =>
    cases e with
    | str j =>
      obtain ⟨hl, rfl⟩ := if_some (show (if i.length + j.length ≤ 16777216 then some (D.str (i ++ j)) else none) = some z from hz)
      exact .inr (.inr (.inr ⟨i, j, hx, hy, by rw [line_eq]; exact hl, q _ H (Same.refl H) rfl⟩))
    | _ => cases hz
  | _ => cases e <;> cases hz
theorem de_add {a b : Expr} {ma mb : XM S D} {pos : Pos} (ha : DV X F W a ma) (hb : DV X F W b mb) : DE X F W (.BinOp a .Add b pos) (mBin dAdd ma mb) :=
  opB (a := a) (b := b) bears_add (pe_op (OpR.or op_add (OpR.or op_catA (OpR.or op_cat op_add_str))) ha hb)
theorem df_cat {a b : Expr} {ma mb : XM S D} {pos : Pos} (ha : DV X F W a ma) (hb : DV X F W b mb) : DF X F W (.BinOp a .Add b pos) (mBinF dCatL ma mb) :=
  opBF (a := a) (b := b) (r := rCat) (fun M env s σ H d e x y z Q R hx hy hz q => by
    cases d with
    | lst xs =>
      cases e with
      | lst ys =>
        obtain ⟨hl, rfl⟩ := if_some (show (if xs.length + ys.length ≤ 16777216 then some (xs ++ ys) else none) = some z from hz)
        obtain ⟨a, vs, rfl, na, ha, la, ra⟩ := hx.lst
        obtain ⟨b, us, rfl, nb, hb, lb, rb⟩ := hy.lst
        refine ⟨a, b, vs, us, rfl, rfl, ha, hb, by rw [ra.length, rb.length, line_eq]; exact hl, fun p hp => ?_⟩
        exact q _ _ (same_upd hp) (PF.new R (ra.append rb) Keep.refl hp (by rw [List.length_append, line_eq]; exact hl))
      | _ => cases hz
    | _ => cases hz) (pe_op op_cat ha hb)
/-! - * // % ** -/
@[simp] def dSub : D → D → Option D
  | .int i, .int j => some (.int (i - j))
  | _, _ => none
/-- a number that is not too great for a product -/
def tame (i : Int) : Bool := decide (i.natAbs.log2 < 400000)
def small (i : Int) : Bool := decide (-(2 ^ 64) < i) && decide (i < 2 ^ 64)
def mulOk (i j : Int) : Bool := (small i || small j) || (tame i && tame j)
@[simp] def dMul : D → D → Option D
  | .int i, .int j => if mulOk i j then some (.int (i * j)) else none
  | .lst xs, .int j => if decide (-(2 ^ 63) ≤ j) && decide (j < 2 ^ 63) && decide (xs.length * j.toNat ≤ 16777216) then some (.lst (List.replicate j.toNat xs).flatten) else none
  | .tup xs, .int j => if !xs.isEmpty && decide (2 ≤ j) && decide (j ≤ 1000) && decide (xs.length ≤ 1000) then some (.tup (List.replicate j.toNat xs).flatten) else none
  | _, _ => none
@[simp] def dRepL : D → D → Option (List D)
  | .lst xs, .int j => if decide (-(2 ^ 63) ≤ j) && decide (j < 2 ^ 63) && decide (xs.length * j.toNat ≤ 16777216) then some (List.replicate j.toNat xs).flatten else none
  | _, _ => none
@[simp] def dDiv : D → D → Option D
  | .int i, .int j => if decide (0 < j) && decide (j.natAbs.log2 < 9000) then some (.int (i / j)) else none
  | _, _ => none
@[simp] def dMod : D → D → Option D
  | .int i, .int j => if 0 < j then some (.int (i % j)) else none
  | _, _ => none
@[simp] def dPow : D → D → Option D
  | .int i, .int j => if decide (0 ≤ j) && decide (j ≤ 1000000) && decide (i.natAbs < 2 ^ 64) then some (.int (i ^ j.toNat)) else none
  | _, _ => none
theorem bears_sub : Bears2 F (rI0 fun i j => .int (i - j)) dSub := by
  intro M env s σ H d e x y z Q R hx hy hz q
  cases d with
  | int i =>
    cases e with
    | int j => cases hz; exact ⟨i, j, hx, hy, q _ H (Same.refl H) rfl⟩
    | _ => cases hz
  | _ => cases e <;> cases hz
theorem de_sub {a b : Expr} {ma mb : XM S D} {pos : Pos} (ha : DV X F W a ma) (hb : DV X F W b mb) : DE X F W (.BinOp a .Sub b pos) (mBin dSub ma mb) := opB (a := a) (b := b) bears_sub (pe_op op_sub ha hb)
theorem flat_len {n : Nat} {xs : List α} : (List.replicate n xs).flatten.length = xs.length * n := by
  induction n with
  | zero => simp
  | succ n ih => rw [List.replicate_succ, List.flatten_cons, List.length_append, ih, Nat.mul_succ, Nat.add_comm]
theorem bears_mul {K : PySem.W.Frag} : Bears2 F (fun x y H Q => rI (fun i j => CMul i j ∨ CMulW i j) (fun i j => .int (i * j)) x y H Q ∨ (rRep x y H Q ∨ rRepT K x y H Q)) dMul := by
  intro M env s σ H d e x y z Q R hx hy hz q
  cases d with
  | int i =>
    cases e with
    | int j =>
      obtain ⟨hl, rfl⟩ := if_some (show (if mulOk i j = true then some (D.int (i * j)) else none) = some z from hz)
      refine .inl ⟨i, j, hx, hy, ?_, q _ H (Same.refl H) rfl⟩
      unfold mulOk small tame at hl
      simp only [Bool.or_eq_true, Bool.and_eq_true, decide_eq_true_eq] at hl
      rcases hl with (h | h) | ⟨h1, h2⟩
      · exact .inl (.inl h)
      · exact .inl (.inr h)
      · exact .inr (by unfold CMulW; omega)
    | _ => cases hz
  | lst xs =>
    cases e with
    | int j =>
      obtain ⟨hl, rfl⟩ := if_some (show (if (decide (-(2 ^ 63) ≤ j) && decide (j < 2 ^ 63) && decide (xs.length * j.toNat ≤ 16777216)) = true then some (D.lst (List.replicate j.toNat xs).flatten) else none) = some z from hz)
      obtain ⟨h12, h3⟩ := Bool.and_eq_true_iff.mp hl
      obtain ⟨h1, h2⟩ := Bool.and_eq_true_iff.mp h12
      obtain ⟨a, vs, rfl, na, ha, la, ra⟩ := hx.lst
      refine .inr (.inl ⟨a, j, vs, rfl, hy, ha, of_decide_eq_true h1, of_decide_eq_true h2, by rw [ra.length, line_eq]; exact of_decide_eq_true h3, fun p hp => ?_⟩)
      exact q _ _ (same_upd hp) (Rep.newLst (ra.repeat_ _) hp (R.fresh hp) (by rw [flat_len, line_eq]; exact of_decide_eq_true h3))
    | _ => cases hz
  | tup xs =>
    cases e with
    | int j =>
      obtain ⟨hl, rfl⟩ := if_some (show (if (!xs.isEmpty && decide (2 ≤ j) && decide (j ≤ 1000) && decide (xs.length ≤ 1000)) = true then some (D.tup (List.replicate j.toNat xs).flatten) else none) = some z from hz)
      obtain ⟨h123, h4⟩ := Bool.and_eq_true_iff.mp hl
      obtain ⟨h12, h3⟩ := Bool.and_eq_true_iff.mp h123
      obtain ⟨h1, h2⟩ := Bool.and_eq_true_iff.mp h12
      have h2' := of_decide_eq_true h2
      have h3' := of_decide_eq_true h3
      have h4' := of_decide_eq_true h4
      obtain ⟨a, vs, rfl, na, ha, la, ra⟩ := hx.tup
      refine .inr (.inr ⟨a, j, vs, rfl, hy, SqT.of ha, fun z => ?_, h2', h3', by rw [ra.length]; exact h4', fun p hp => ?_⟩)
      · rw [(nil_iff ra).mp z] at h1
        cases h1
      · refine q _ _ (same_upd hp) (Rep.newTup (ra.repeat_ _) hp (R.fresh hp) ?_)
        rw [flat_len, line_eq]
        have : xs.length * j.toNat ≤ 1000 * 1000 := Nat.mul_le_mul h4' (by omega)
        omega
    | _ => cases hz
  | _ => cases e <;> cases hz
theorem op_mulA : OpR X (binaryOp .Mult) (rI (fun i j => CMul i j ∨ CMulW i j) fun i j => .int (i * j)) := opI fun _ _ _ _ _ _ _ hc q => PyProof.Rows.mul_int q (hc.elim CMul.ok CMulW.ok)
theorem de_mul {a b : Expr} {ma mb : XM S D} {pos : Pos} (ha : DV X F W a ma) (hb : DV X F W b mb) : DE X F W (.BinOp a .Mult b pos) (mBin dMul ma mb) := opB (a := a) (b := b) bears_mul (pe_op (OpR.or op_mulA (OpR.or op_rep op_repT)) ha hb)
theorem df_rep {a b : Expr} {ma mb : XM S D} {pos : Pos} (ha : DV X F W a ma) (hb : DV X F W b mb) : DF X F W (.BinOp a .Mult b pos) (mBinF dRepL ma mb) :=
  opBF (a := a) (b := b) (r := rRep) (fun M env s σ H d e x y z Q R hx hy hz q => by
    cases d with
    | lst xs =>
      cases e with
      | int j =>
        obtain ⟨hl, rfl⟩ := if_some (show (if (decide (-(2 ^ 63) ≤ j) && decide (j < 2 ^ 63) && decide (xs.length * j.toNat ≤ 16777216)) = true then some (List.replicate j.toNat xs).flatten else none) = some z from hz)
        obtain ⟨h12, h3⟩ := Bool.and_eq_true_iff.mp hl
        obtain ⟨h1, h2⟩ := Bool.and_eq_true_iff.mp h12
        obtain ⟨a, vs, rfl, na, ha, la, ra⟩ := hx.lst
        refine ⟨a, j, vs, rfl, hy, ha, of_decide_eq_true h1, of_decide_eq_true h2, by rw [ra.length, line_eq]; exact of_decide_eq_true h3, fun p hp => ?_⟩
        exact q _ _ (same_upd hp) (PF.new R (ra.repeat_ _) Keep.refl hp (by rw [flat_len, line_eq]; exact of_decide_eq_true h3))
      | _ => cases hz
    | _ => cases hz) (pe_op op_rep ha hb)
theorem de_div {a b : Expr} {ma mb : XM S D} {pos : Pos} (ha : DV X F W a ma) (hb : DV X F W b mb) : DE X F W (.BinOp a .FloorDiv b pos) (mBin dDiv ma mb) :=
  opB (a := a) (b := b) (fun M env s σ H d e x y z Q R hx hy hz q => by
    cases d with
    | int i =>
      cases e with
      | int j =>
        obtain ⟨hl, rfl⟩ := if_some (show (if (decide (0 < j) && decide (j.natAbs.log2 < 9000)) = true then some (D.int (i / j)) else none) = some z from hz)
        obtain ⟨h1, h2⟩ := Bool.and_eq_true_iff.mp hl
        exact ⟨i, j, hx, hy, ⟨of_decide_eq_true h1, of_decide_eq_true h2⟩, q _ H (Same.refl H) rfl⟩
      | _ => cases hz
    | _ => cases e <;> cases hz) (pe_op op_fdivW ha hb)
theorem de_mod {a b : Expr} {ma mb : XM S D} {pos : Pos} (ha : DV X F W a ma) (hb : DV X F W b mb) : DE X F W (.BinOp a .Mod b pos) (mBin dMod ma mb) :=
  opB (a := a) (b := b) (fun M env s σ H d e x y z Q R hx hy hz q => by
    cases d with
    | int i =>
      cases e with
      | int j =>
        obtain ⟨hl, rfl⟩ := if_some (show (if 0 < j then some (D.int (i % j)) else none) = some z from hz)
        exact ⟨i, j, hx, hy, hl, q _ H (Same.refl H) rfl⟩
      | _ => cases hz
    | _ => cases e <;> cases hz) (pe_op op_mod ha hb)
theorem de_pow {a b : Expr} {ma mb : XM S D} {pos : Pos} (ha : DV X F W a ma) (hb : DV X F W b mb) : DE X F W (.BinOp a .Pow b pos) (mBin dPow ma mb) :=
  opB (a := a) (b := b) (fun M env s σ H d e x y z Q R hx hy hz q => by
    cases d with
    | int i =>
      cases e with
      | int j =>
        obtain ⟨hl, rfl⟩ := if_some (show (if (decide (0 ≤ j) && decide (j ≤ 1000000) && decide (i.natAbs < 2 ^ 64)) = true then some (D.int (i ^ j.toNat)) else none) = some z from hz)
        obtain ⟨h12, h3⟩ := Bool.and_eq_true_iff.mp hl
        obtain ⟨h1, h2⟩ := Bool.and_eq_true_iff.mp h12
        exact ⟨i, j, hx, hy, ⟨of_decide_eq_true h1, of_decide_eq_true h2, of_decide_eq_true h3⟩, q _ H (Same.refl H) rfl⟩
      | _ => cases hz
    | _ => cases e <;> cases hz) (pe_op op_pow ha hb)
@[simp] def dNeg : D → Option D
  | .int i => some (.int (-i))
  | _ => none
theorem de_neg {a : Expr} {ma : XM S D} {pos : Pos} (ha : DV X F W a ma) : DE X F W (.UnaryOp .USub a pos) (mUn dNeg ma) := peImp (pe_un un_neg ha) fun σ H Q ⟨M, env, s, R, h⟩ => by
  refine ⟨M, env, s, R, Sat.bind h fun d s1 v H1 R1 k1 p1 h1 => ?_⟩
  cases d with
  | int i => exact ⟨i, p1, h1 _ H1 R1 Keep.refl rfl⟩
  | _ => exact h1.elim
end
end L3
namespace L3
open PySem PySem.Spec L2
/-! ### data as PyData -/
mutual
def pd : D → PyData
  | .non => .none
  | .bl b => .bool b
  | .int i => .int i
  | .str x => .str x
  | .tup xs => .tuple (pds xs)
  | .lst xs => .list (pds xs)
  | .obj => .none
def pds : List D → List PyData
  | [] => []
  | d :: ds => pd d :: pds ds
end
mutual
def noObj : D → Bool
  | .non => true
  | .bl _ => true
  | .int _ => true
  | .str _ => true
  | .tup xs => noObjs xs
  | .lst xs => noObjs xs
  | .obj => false
def noObjs : List D → Bool
  | [] => true
  | d :: ds => noObj d && noObjs ds
end
section
variable {S α β γ δ : Type} {F : Fx S} {M M' : Addr → Prop} {env : List Ent} {s s' : S} {σ : L2.St} {H H' : Hp} {W : Wish S} {X : Cx}
mutual
theorem Rep.dp {K : PySem.W.Frag} {o : Addr} : ∀ {d : D} {v : V}, noObj d = true → Rep o M H d v → Dp K H v (pd d)
  | .non, v, _, h => by rw [show v = .non from h]; exact .non
  | .bl b, v, _, h => by rw [show v = .bl b from h]; exact .bl b
  | .int i, v, _, h => by rw [show v = .int i from h]; exact .int i
  | .str x, v, _, h => by rw [show v = .str x from h]; exact .str x
  | .obj, v, n, h => by cases n
  | .tup ds, v, n, h => by
    obtain ⟨a, vs, rfl, _, ha, _, r⟩ := h
    exact .tup (SqT.of ha) (Reps.dp n r)
  | .lst ds, v, n, h => by
    obtain ⟨a, vs, rfl, _, ha, _, r⟩ := h
    exact .lst (SqL.of ha) (Reps.dp n r)
theorem Reps.dp {K : PySem.W.Frag} {o : Addr} : ∀ {ds : List D} {vs : List V}, noObjs ds = true → Reps o M H ds vs → DpAll K H vs (pds ds)
  | [], vs, _, h => by rw [show vs = [] from h]; exact .nil
  | d :: ds, vs, n, h => by
    obtain ⟨v, r, rfl, h1, h2⟩ := h
    obtain ⟨n1, n2⟩ := Bool.and_eq_true_iff.mp (show (noObj d && noObjs ds) = true from n)
    exact .cons (Rep.dp n1 h1) (Reps.dp n2 h2)
end
theorem RepV.dp {K : PySem.W.Frag} {d : D} {v : V} (n : noObj d = true) (h : RepV F M H d v) : Dp K H v (pd d) := by
  cases d with
  | lst ds =>
    obtain ⟨a, vs, rfl, _, ha, _, r⟩ := h
    exact .lst (SqL.of ha) (Reps.dp n r)
  | _ => exact Rep.dp (o := F.C.at_) (M := M) n h
def okD (d : D) : Bool := noObj d && SeqAt.shaped (pd d)
def dEq (a b : D) : Option D := if okD a && okD b then some (.bl (PyData.eqv (pd a) (pd b))) else none
def dNe (a b : D) : Option D := if okD a && okD b then some (.bl (!PyData.eqv (pd a) (pd b))) else none
theorem bears_eq {K : PySem.W.Frag} : Bears2 F (rEqD K) dEq := by
  intro M env s σ H d e x y z Q R hx hy hz q
  obtain ⟨hl, rfl⟩ := if_some (show (if (okD d && okD e) = true then some (D.bl (PyData.eqv (pd d) (pd e))) else none) = some z from hz)
  obtain ⟨h1, h2⟩ := Bool.and_eq_true_iff.mp hl
  obtain ⟨n1, s1⟩ := Bool.and_eq_true_iff.mp (show (noObj d && SeqAt.shaped (pd d)) = true from h1)
  obtain ⟨n2, s2⟩ := Bool.and_eq_true_iff.mp (show (noObj e && SeqAt.shaped (pd e)) = true from h2)
  exact ⟨_, _, hx.dp n1, hy.dp n2, s1, s2, q _ H (Same.refl H) rfl⟩
theorem bears_ne {K : PySem.W.Frag} : Bears2 F (rNeD K) dNe := by
  intro M env s σ H d e x y z Q R hx hy hz q
  obtain ⟨hl, rfl⟩ := if_some (show (if (okD d && okD e) = true then some (D.bl (!PyData.eqv (pd d) (pd e))) else none) = some z from hz)
  obtain ⟨h1, h2⟩ := Bool.and_eq_true_iff.mp hl
  obtain ⟨n1, s1⟩ := Bool.and_eq_true_iff.mp (show (noObj d && SeqAt.shaped (pd d)) = true from h1)
  obtain ⟨n2, s2⟩ := Bool.and_eq_true_iff.mp (show (noObj e && SeqAt.shaped (pd e)) = true from h2)
  exact ⟨_, _, hx.dp n1, hy.dp n2, s1, s2, q _ H (Same.refl H) rfl⟩
@[simp] def dCmp (p : Int → Int → Bool) : D → D → Option D
  | .int i, .int j => some (.bl (p i j))
  | _, _ => none
theorem bears_cmp {p : Int → Int → Bool} : Bears2 F (rI0 fun i j => .bl (p i j)) (dCmp p) := by
  intro M env s σ H d e x y z Q R hx hy hz q
  cases d with
  | int i =>
    cases e with
    | int j => cases hz; exact ⟨i, j, hx, hy, q _ H (Same.refl H) rfl⟩
    | _ => cases hz
  | _ => cases e <;> cases hz
abbrev dLt := dCmp fun i j => decide (i < j)
abbrev dLe := dCmp fun i j => decide (i ≤ j)
abbrev dGt := dCmp fun i j => decide (j < i)
abbrev dGe := dCmp fun i j => decide (j ≤ i)
@[simp] def isNon : D → Bool
  | .non => true
  | _ => false
@[simp] def dIs : D → D → Option D
  | x, .non => some (.bl (isNon x))
  | _, _ => none
@[simp] def dIsNot : D → D → Option D
  | x, .non => some (.bl (!isNon x))
  | _, _ => none
theorem RepV.isNon {d : D} {v : V} (h : RepV F M H d v) : decide (v = .non) = isNon d := by
  cases d with
  | non => rw [show v = .non from h]; rfl
  | bl b => rw [show v = .bl b from h]; rfl
  | int b => rw [show v = .int b from h]; rfl
  | str b => rw [show v = .str b from h]; rfl
  | obj => rw [show v = .ref _ from h]; rfl
  | tup ds => obtain ⟨a, vs, rfl, _⟩ := h; rfl
  | lst ds => obtain ⟨a, vs, rfl, _⟩ := h; rfl
theorem bears_is : Bears2 F (fun x y H Q => y = .non ∧ Q (.bl (decide (x = .non))) H) dIs := by
  intro M env s σ H d e x y z Q R hx hy hz q
  cases e with
  | non =>
    cases hz
    exact ⟨hy, q _ H (Same.refl H) (by rw [hx.isNon]; rfl)⟩
  | _ => cases hz
theorem bears_isnot : Bears2 F (fun x y H Q => y = .non ∧ Q (.bl (!decide (x = .non))) H) dIsNot := by
  intro M env s σ H d e x y z Q R hx hy hz q
  cases e with
  | non =>
    cases hz
    exact ⟨hy, q _ H (Same.refl H) (by rw [hx.isNon]; rfl)⟩
  | _ => cases hz
/-! in, not in: flat things -/
def flatD : D → Bool
  | .non => true
  | .bl _ => true
  | .int _ => true
  | .str _ => true
  | _ => false
def eqF : D → D → Bool
  | .non, .non => true
  | .bl a, .bl b => a == b
  | .bl a, .int b => (if a then 1 else 0) == b
  | .int a, .bl b => a == (if b then 1 else 0)
  | .int a, .int b => a == b
  | .str a, .str b => a == b
  | _, _ => false
def toV : D → V
  | .non => .non
  | .bl b => .bl b
  | .int i => .int i
  | .str x => .str x
  | _ => .non
theorem Rep.flat {o : Addr} {d : D} {v : V} (f : flatD d = true) (h : Rep o M H d v) : v = toV d ∧ flatV v = true := by
  cases d with
  | non => rw [show v = .non from h]; exact ⟨rfl, rfl⟩
  | bl b => rw [show v = .bl b from h]; exact ⟨rfl, rfl⟩
  | int b => rw [show v = .int b from h]; exact ⟨rfl, rfl⟩
  | str b => rw [show v = .str b from h]; exact ⟨rfl, rfl⟩
  | _ => cases f
theorem RepV.rep {d : D} {v : V} (f : flatD d = true) (h : RepV F M H d v) : Rep F.C.at_ M H d v := by
  cases d with
  | lst _ => cases f
  | _ => exact h
theorem eqV_toV {x y : D} (hx : flatD x = true) (hy : flatD y = true) : eqV (toV x) (toV y) = eqF x y := by
  cases x <;> cases y <;> first | rfl | exact absurd hx Bool.false_ne_true | exact absurd hy Bool.false_ne_true
theorem Reps.flat {o : Addr} : ∀ {ds : List D} {vs : List V}, ds.all flatD = true → Reps o M H ds vs → vs = ds.map toV ∧ vs.all flatV = true
  | [], vs, _, h => by rw [show vs = [] from h]; exact ⟨rfl, rfl⟩
  | d :: ds, vs, f, h => by
    obtain ⟨v, r, rfl, h1, h2⟩ := h
    rw [List.all_cons, Bool.and_eq_true] at f
    obtain ⟨e1, f1⟩ := Rep.flat f.1 h1
    obtain ⟨e2, f2⟩ := Reps.flat f.2 h2
    rw [List.all_cons, f1, f2]
    exact ⟨by rw [List.map_cons, ← e1, ← e2], rfl⟩
def inF (x : D) (xs : List D) : Bool := xs.any fun y => eqF y x
theorem inV_toV {x : D} (hx : flatD x = true) : ∀ {ds : List D}, ds.all flatD = true → inV (toV x) (ds.map toV) = inF x ds
  | [], _ => rfl
  | d :: ds, f => by
    rw [List.all_cons, Bool.and_eq_true] at f
    have ih := inV_toV hx f.2
    unfold inV inF at ih ⊢
    rw [List.map_cons, List.any_cons, List.any_cons, ih, eqV_toV f.1 hx]
def dInB (neg : Bool) (x y : D) : Option D := match y with
  | .tup xs => if flatD x && xs.all flatD then some (.bl (if neg then !inF x xs else inF x xs)) else none
  | .lst xs => if flatD x && xs.all flatD then some (.bl (if neg then !inF x xs else inF x xs)) else none
  | _ => none
abbrev dIn := dInB false
abbrev dNotIn := dInB true
theorem bears_in {K : PySem.W.Frag} {neg : Bool} : Bears2 F (rIn K neg) (dInB neg) := by
  intro M env s σ H d e x y z Q R hx hy hz q
  have key : ∀ xs : List D, ∀ vs : List V, Reps F.C.at_ M H xs vs → (flatD d && xs.all flatD) = true → (if neg then !inV x vs else inV x vs) = (if neg then !inF d xs else inF d xs) ∧ flatV x = true ∧ vs.all flatV = true := fun xs vs r f => by
    obtain ⟨f1, f2⟩ := Bool.and_eq_true_iff.mp f
    obtain ⟨e1, g1⟩ := Rep.flat f1 (RepV.rep f1 hx)
    obtain ⟨e2, g2⟩ := Reps.flat f2 r
    refine ⟨?_, g1, g2⟩
    rw [e1, e2, inV_toV f1 f2]
  cases e with
  | tup xs =>
    obtain ⟨hl, rfl⟩ := if_some (show (if (flatD d && xs.all flatD) = true then some (D.bl (if neg then !inF d xs else inF d xs)) else none) = some z from hz)
    obtain ⟨a, vs, rfl, na, ha, la, ra⟩ := hy.tup
    obtain ⟨k1, k2, k3⟩ := key xs vs ra hl
    exact ⟨a, vs, rfl, .inr (SqT.of ha), k2, k3, by rw [k1]; exact q _ H (Same.refl H) rfl⟩
  | lst xs =>
    obtain ⟨hl, rfl⟩ := if_some (show (if (flatD d && xs.all flatD) = true then some (D.bl (if neg then !inF d xs else inF d xs)) else none) = some z from hz)
    obtain ⟨a, vs, rfl, na, ha, la, ra⟩ := hy.lst
    obtain ⟨k1, k2, k3⟩ := key xs vs ra hl
    exact ⟨a, vs, rfl, .inl (SqL.of ha), k2, k3, by rw [k1]; exact q _ H (Same.refl H) rfl⟩
  | _ => cases hz

/-! ### comparisons as values and as tests -/
@[simp] def asBool : D → Option Bool
  | .bl b => some b
  | _ => none
def asB (d : D) (s : S) : Res Bool S := match asBool d with
  | some b => .ok b s
  | none => .bad
def mTest (m : XM S D) : XM S Bool := fun env s => (m env s).bind asB
theorem opBT {e : Expr} {r : R2} {f : D → D → Option D} {ma mb : XM S D} (hr : Bears2 F r f) (h : PT X e (tTest (tOp r (tOf F W (PV_ F) ma) (tOf F W (PV_ F) mb)))) : DT X F W e (mTest (mBin f ma mb)) := ptImp h fun σ H Q ⟨M, env, s, R, h⟩ => by
  have h' : Sat F M env σ H PB_ ((ma env s).bind fun x s1 => (mb env s1).bind fun y s2 => (ret? (f x y) s2).bind asB) Q W := by
    have e : mTest (mBin f ma mb) env s = ((ma env s).bind fun x s1 => (mb env s1).bind fun y s2 => (ret? (f x y) s2).bind asB) := by
      unfold mTest mBin
      cases ma env s with
      | ok a s1 => simp only [Res.bind_ok]; cases mb env s1 <;> rfl
      | _ => rfl
    rw [← e]; exact h
  refine ⟨M, env, s, R, Sat.bind h' fun d s1 v H1 R1 k1 p1 h1 => ?_⟩
  refine ⟨M, env, s1, R1, Sat.bind h1 fun d2 s2 v2 H2 R2 k2 p2 h2 => ?_⟩
  have p1' : RepV F M H2 d v := RepV.stay R1.mutM p1 k2
  cases e : f d d2 with
  | none => rw [e] at h2; exact h2.elim
  | some z =>
    rw [e] at h2
    refine hr M env s2 σ H2 d d2 v v2 z _ R2 p1' p2 e fun v H' sm p => ?_
    cases z with
    | bl b =>
      rw [show v = .bl b from p]
      exact ⟨b, rfl, h2 b H' (R2.same sm) (Same.toKeep sm) rfl⟩
    | _ => exact h2.elim
section
variable {a b : Expr} {ma mb : XM S D} {pos : Pos} {k : Nat}
theorem de_eq (hr : Room k X.A) (ha : DV X F W a ma) (hb : DV X F W b mb) : DE X F W (.Compare a [.Eq] [b] pos) (mBin dEq ma mb) := opB (a := a) (b := b) bears_eq (pe_cmpR (op_eqD hr.units) ha hb (nomark _))
theorem dt_eq (hr : Room k X.A) (ha : DV X F W a ma) (hb : DV X F W b mb) : DT X F W (.Compare a [.Eq] [b] pos) (mTest (mBin dEq ma mb)) := opBT bears_eq (pt_cmpR (op_eqD hr.units) ha hb (nomark _))
theorem de_ne (hr : Room k X.A) (ha : DV X F W a ma) (hb : DV X F W b mb) : DE X F W (.Compare a [.NotEq] [b] pos) (mBin dNe ma mb) := opB (a := a) (b := b) bears_ne (pe_cmpR (op_neD hr.units) ha hb (nomark _))
theorem dt_ne (hr : Room k X.A) (ha : DV X F W a ma) (hb : DV X F W b mb) : DT X F W (.Compare a [.NotEq] [b] pos) (mTest (mBin dNe ma mb)) := opBT bears_ne (pt_cmpR (op_neD hr.units) ha hb (nomark _))
theorem de_lt (ha : DV X F W a ma) (hb : DV X F W b mb) : DE X F W (.Compare a [.Lt] [b] pos) (mBin dLt ma mb) := opB (a := a) (b := b) bears_cmp (pe_cmpR op_lt ha hb (nomark _))
theorem dt_lt (ha : DV X F W a ma) (hb : DV X F W b mb) : DT X F W (.Compare a [.Lt] [b] pos) (mTest (mBin dLt ma mb)) := opBT bears_cmp (pt_cmpR op_lt ha hb (nomark _))
theorem de_le (ha : DV X F W a ma) (hb : DV X F W b mb) : DE X F W (.Compare a [.LtE] [b] pos) (mBin dLe ma mb) := opB (a := a) (b := b) bears_cmp (pe_cmpR op_le ha hb (nomark _))
theorem dt_le (ha : DV X F W a ma) (hb : DV X F W b mb) : DT X F W (.Compare a [.LtE] [b] pos) (mTest (mBin dLe ma mb)) := opBT bears_cmp (pt_cmpR op_le ha hb (nomark _))
theorem de_gt (ha : DV X F W a ma) (hb : DV X F W b mb) : DE X F W (.Compare a [.Gt] [b] pos) (mBin dGt ma mb) := opB (a := a) (b := b) bears_cmp (pe_cmpR op_gt ha hb (nomark _))
theorem dt_gt (ha : DV X F W a ma) (hb : DV X F W b mb) : DT X F W (.Compare a [.Gt] [b] pos) (mTest (mBin dGt ma mb)) := opBT bears_cmp (pt_cmpR op_gt ha hb (nomark _))
theorem de_ge (ha : DV X F W a ma) (hb : DV X F W b mb) : DE X F W (.Compare a [.GtE] [b] pos) (mBin dGe ma mb) := opB (a := a) (b := b) bears_cmp (pe_cmpR op_ge ha hb (nomark _))
theorem dt_ge (ha : DV X F W a ma) (hb : DV X F W b mb) : DT X F W (.Compare a [.GtE] [b] pos) (mTest (mBin dGe ma mb)) := opBT bears_cmp (pt_cmpR op_ge ha hb (nomark _))
theorem de_is (ha : DV X F W a ma) (hb : DV X F W b mb) : DE X F W (.Compare a [.Is] [b] pos) (mBin dIs ma mb) := opB (a := a) (b := b) bears_is (pe_cmpR op_isN ha hb (nomark _))
theorem dt_is (ha : DV X F W a ma) (hb : DV X F W b mb) : DT X F W (.Compare a [.Is] [b] pos) (mTest (mBin dIs ma mb)) := opBT bears_is (pt_cmpR op_isN ha hb (nomark _))
theorem de_isnot (ha : DV X F W a ma) (hb : DV X F W b mb) : DE X F W (.Compare a [.IsNot] [b] pos) (mBin dIsNot ma mb) := opB (a := a) (b := b) bears_isnot (pe_cmpR op_notN ha hb (nomark _))
theorem dt_isnot (ha : DV X F W a ma) (hb : DV X F W b mb) : DT X F W (.Compare a [.IsNot] [b] pos) (mTest (mBin dIsNot ma mb)) := opBT bears_isnot (pt_cmpR op_notN ha hb (nomark _))
theorem de_in (ha : DV X F W a ma) (hb : DV X F W b mb) (hm : behindInMarks .In b = false := by rfl) : DE X F W (.Compare a [.In] [b] pos) (mBin dIn ma mb) := opB (a := a) (b := b) bears_in (pe_cmpR op_in_seq ha hb hm)
theorem dt_in (ha : DV X F W a ma) (hb : DV X F W b mb) (hm : behindInMarks .In b = false := by rfl) : DT X F W (.Compare a [.In] [b] pos) (mTest (mBin dIn ma mb)) := opBT bears_in (pt_cmpR op_in_seq ha hb hm)
theorem de_notin (ha : DV X F W a ma) (hb : DV X F W b mb) (hm : behindInMarks .NotIn b = false := by rfl) : DE X F W (.Compare a [.NotIn] [b] pos) (mBin dNotIn ma mb) := opB (a := a) (b := b) bears_in (pe_cmpR op_notIn_seq ha hb hm)
theorem dt_notin (ha : DV X F W a ma) (hb : DV X F W b mb) (hm : behindInMarks .NotIn b = false := by rfl) : DT X F W (.Compare a [.NotIn] [b] pos) (mTest (mBin dNotIn ma mb)) := opBT bears_in (pt_cmpR op_notIn_seq ha hb hm)
end
/-! chains a op b op' c of ints -/
def mChain (p p' : Int → Int → Bool) (ma mb mc : XM S D) : XM S D := fun env s => (ma env s).bind fun x s1 => (mb env s1).bind fun y s2 => match x, y with
  | .int i, .int j => if p i j then (mc env s2).bind fun z s3 => (match z with
    | .int l => .ok (.bl (p' j l)) s3
    | _ => .bad) else .ok (.bl false) s2
  | _, _ => .bad
theorem chain_of {e : Expr} {p p' : Int → Int → Bool} {ma mb mc : XM S D} (h : PE X e (tChain (rI0 fun i j => .bl (p i j)) (rI0 fun i j => .bl (p' i j)) (tOf F W (PV_ F) ma) (tOf F W (PV_ F) mb) (tOf F W (PV_ F) mc))) : DE X F W e (mChain p p' ma mb mc) := peImp h fun σ H Q ⟨M, env, s, R, h⟩ => by
  refine ⟨M, env, s, R, Sat.bind h fun d s1 v H1 R1 k1 p1 h1 => ?_⟩
  refine ⟨M, env, s1, R1, Sat.bind h1 fun d2 s2 v2 H2 R2 k2 p2 h2 => ?_⟩
  have p1' : RepV F M H2 d v := RepV.stay R1.mutM p1 k2
  cases d with
  | int i =>
    cases d2 with
    | int j =>
      refine ⟨i, j, p1', p2, p i j, rfl, ?_⟩
      cases hp : p i j with
      | false =>
        have h2' : Sat F M env σ H2 (PE_ F) (.ok (.bl false) s2) Q W := by simpa [hp] using h2
        exact iteF (h2' _ H2 R2 Keep.refl rfl)
      | true =>
        refine iteT ⟨M, env, s2, R2, Sat.bind (P' := PE_ F) (f := fun z s3 => (match z with
          | .int l => .ok (.bl (p' j l)) s3
          | _ => .bad)) (by simpa [hp] using h2) fun d3 s3 v3 H3 R3 k3 p3 h3 => ?_⟩
        cases d3 with
        | int l => exact ⟨j, l, p2, p3, h3 _ H3 R3 Keep.refl rfl⟩
        | _ => exact h3.elim
    | _ => exact h2.elim
  | _ => exact h2.elim
theorem chain_ofT {e : Expr} {p p' : Int → Int → Bool} {ma mb mc : XM S D} (h : PT X e (tTest (tChain (rI0 fun i j => .bl (p i j)) (rI0 fun i j => .bl (p' i j)) (tOf F W (PV_ F) ma) (tOf F W (PV_ F) mb) (tOf F W (PV_ F) mc)))) : DT X F W e (mTest (mChain p p' ma mb mc)) := ptImp h fun σ H Q ⟨M, env, s, R, h⟩ => by
  have h' : Sat F M env σ H PB_ ((ma env s).bind fun x s1 => (mb env s1).bind fun y s2 => (match x, y with
      | .int i, .int j => if p i j then (mc env s2).bind fun z s3 => (match z with
        | .int l => .ok (p' j l) s3
        | _ => .bad) else .ok false s2
      | _, _ => .bad)) Q W := by
    have e : mTest (mChain p p' ma mb mc) env s = ((ma env s).bind fun x s1 => (mb env s1).bind fun y s2 => (match x, y with
      | .int i, .int j => if p i j then (mc env s2).bind fun z s3 => (match z with
        | .int l => .ok (p' j l) s3
        | _ => .bad) else .ok false s2
      | _, _ => .bad)) := by
      unfold mTest mChain
      cases ma env s with
      | ok a s1 =>
        simp only [Res.bind_ok]
        cases mb env s1 with
        | ok b s2 =>
          simp only [Res.bind_ok]
          cases a <;> cases b <;> try rfl
          dsimp only
          split
          · cases mc env s2 with
            | ok c s3 => cases c <;> rfl
            | _ => rfl
          · rfl
        | _ => rfl
      | _ => rfl
    rw [← e]; exact h
  refine ⟨M, env, s, R, Sat.bind h' fun d s1 v H1 R1 k1 p1 h1 => ?_⟩
  refine ⟨M, env, s1, R1, Sat.bind h1 fun d2 s2 v2 H2 R2 k2 p2 h2 => ?_⟩
  have p1' : RepV F M H2 d v := RepV.stay R1.mutM p1 k2
  cases d with
  | int i =>
    cases d2 with
    | int j =>
      refine ⟨i, j, p1', p2, p i j, rfl, ?_⟩
      cases hp : p i j with
      | false =>
        have h2' : Sat F M env σ H2 PB_ (.ok false s2) Q W := by simpa [hp] using h2
        exact iteF ⟨false, rfl, h2' _ H2 R2 Keep.refl rfl⟩
      | true =>
        refine iteT ⟨M, env, s2, R2, Sat.bind (P' := PB_) (f := fun z s3 => (match z with
          | .int l => .ok (p' j l) s3
          | _ => .bad)) (by simpa [hp] using h2) fun d3 s3 v3 H3 R3 k3 p3 h3 => ?_⟩
        cases d3 with
        | int l => exact ⟨j, l, p2, p3, _, rfl, h3 _ H3 R3 Keep.refl rfl⟩
        | _ => exact h3.elim
    | _ => exact h2.elim
  | _ => exact h2.elim
/-- the four orders of ints -/
structure CmpI (X : Cx) (op : CmpOp) (p : Int → Int → Bool) : Prop where
  ok : OpR X (compareOp op) (rI0 fun i j => .bl (p i j))
abbrev pLt : Int → Int → Bool := fun i j => decide (i < j)
abbrev pLe : Int → Int → Bool := fun i j => decide (i ≤ j)
abbrev pGt : Int → Int → Bool := fun i j => decide (j < i)
abbrev pGe : Int → Int → Bool := fun i j => decide (j ≤ i)
theorem ci_lt : CmpI X .Lt pLt := ⟨op_lt⟩
theorem ci_le : CmpI X .LtE pLe := ⟨op_le⟩
theorem ci_gt : CmpI X .Gt pGt := ⟨op_gt⟩
theorem ci_ge : CmpI X .GtE pGe := ⟨op_ge⟩
section
variable {a b c : Expr} {ma mb mc : XM S D} {pos : Pos} {op op' : CmpOp} {p p' : Int → Int → Bool}
theorem de_chain (h : CmpI X op p) (h' : CmpI X op' p') (ha : DV X F W a ma) (hb : DV X F W b mb) (hc : DV X F W c mc) (hm : lastMarks [op, op'] [b, c] = false := by with_unfolding_all rfl) : DE X F W (.Compare a [op, op'] [b, c] pos) (mChain p p' ma mb mc) := chain_of (pe_chain h.ok h'.ok ha hb hc hm)
theorem dt_chain (h : CmpI X op p) (h' : CmpI X op' p') (ha : DV X F W a ma) (hb : DV X F W b mb) (hc : DV X F W c mc) (hm : lastMarks [op, op'] [b, c] = false := by with_unfolding_all rfl) : DT X F W (.Compare a [op, op'] [b, c] pos) (mTest (mChain p p' ma mb mc)) := chain_ofT (pt_chain h.ok h'.ok ha hb hc hm)
end

/-! ### and, or, not, if-else -/
def mAnd (ma mb : XM S Bool) : XM S Bool := fun env s => (ma env s).bind fun c s1 => if c = true then mb env s1 else .ok false s1
def mOr (ma mb : XM S Bool) : XM S Bool := fun env s => (ma env s).bind fun c s1 => if c = true then .ok true s1 else mb env s1
def mNot (ma : XM S Bool) : XM S Bool := fun env s => (ma env s).bind fun c s1 => .ok (!c) s1
abbrev DTw (X : Cx) (F : Fx S) (W : Wish S) (e : Expr) (m : XM S Bool) : Prop := PW X e (tOf F W PB_ m)
theorem pwImp {e : Expr} {t u : TT} (h : PW X e t) (k : ∀ σ H Q, u σ H Q → t σ H Q) : PW X e u := ⟨fun whole pins s σ H Q I q => h.run whole pins s σ H Q I (k σ H Q q)⟩
section
variable {a b : Expr} {rest : List Expr} {pos : Pos} {ma mb : XM S Bool}
theorem dw_and1 (ha : DT X F W a ma) : DTw X F W (.BoolOp .And [a] pos) ma := pw_and1 ha
theorem dw_or1 (ha : DT X F W a ma) : DTw X F W (.BoolOp .Or [a] pos) ma := pw_or1 ha
theorem dw_and (ha : DT X F W a ma) (hb : DTw X F W (.BoolOp .And (b :: rest) pos) mb) : DTw X F W (.BoolOp .And (a :: b :: rest) pos) (mAnd ma mb) := pwImp (pw_and ha hb) fun σ H Q ⟨M, env, s, R, h⟩ => by
  refine ⟨M, env, s, R, Sat.bind h fun c s1 c' H1 R1 k1 p1 h1 => ?_⟩
  cases (show c = c' from p1)
  cases c with
  | true => exact iteT ⟨M, env, s1, R1, h1⟩
  | false => exact iteF (h1 _ H1 R1 Keep.refl rfl)
theorem dw_or (ha : DT X F W a ma) (hb : DTw X F W (.BoolOp .Or (b :: rest) pos) mb) : DTw X F W (.BoolOp .Or (a :: b :: rest) pos) (mOr ma mb) := pwImp (pw_or ha hb) fun σ H Q ⟨M, env, s, R, h⟩ => by
  refine ⟨M, env, s, R, Sat.bind h fun c s1 c' H1 R1 k1 p1 h1 => ?_⟩
  cases (show c = c' from p1)
  cases c with
  | true => exact iteT (h1 _ H1 R1 Keep.refl rfl)
  | false => exact iteF ⟨M, env, s1, R1, h1⟩
theorem dt_w {e : Expr} {m : XM S Bool} (h : DTw X F W e m) : DT X F W e m := PW.pt h
theorem dt_not (ha : DT X F W a ma) : DT X F W (.UnaryOp .Not a pos) (mNot ma) := ptImp (pt_not ha) fun σ H Q ⟨M, env, s, R, h⟩ => by
  refine ⟨M, env, s, R, Sat.bind h fun c s1 c' H1 R1 k1 p1 h1 => ?_⟩
  cases (show c = c' from p1)
  exact h1 _ H1 R1 Keep.refl rfl
theorem dt_val {e : Expr} {m : XM S D} (h : DE X F W e m) (he : ∀ whole, isTrue e X.env whole = (do let v ← whole; standAt e.pos; holding [v] (truthy v)) := by intro _; rfl) : DT X F W e (mTest m) := ptImp (pt_val h he) fun σ H Q ⟨M, env, s, R, h⟩ => by
  refine ⟨M, env, s, R, Sat.bind h fun d s1 v H1 R1 k1 p1 h1 => ?_⟩
  cases d with
  | bl b => exact ⟨b, p1, h1 _ H1 R1 Keep.refl rfl⟩
  | _ => exact h1.elim
end
/-! as values; all but the last a bool -/
def mAndV (ma mb : XM S D) : XM S D := fun env s => (ma env s).bind fun d s1 => match asBool d with
  | some c => if c = true then mb env s1 else .ok (.bl false) s1
  | none => .bad
def mOrV (ma mb : XM S D) : XM S D := fun env s => (ma env s).bind fun d s1 => match asBool d with
  | some c => if c = true then .ok (.bl true) s1 else mb env s1
  | none => .bad
@[simp] def dNot : D → Option D
  | .bl b => some (.bl (!b))
  | _ => none
section
variable {a b : Expr} {rest : List Expr} {pos : Pos} {ma mb : XM S D}
theorem de_one {op} (ha : DE X F W a ma) : DE X F W (.BoolOp op [a] pos) ma := pe_one ha
theorem de_and (ha : DE X F W a ma) (hb : DE X F W (.BoolOp .And (b :: rest) pos) mb) : DE X F W (.BoolOp .And (a :: b :: rest) pos) (mAndV ma mb) := peImp (pe_and ha hb) fun σ H Q ⟨M, env, s, R, h⟩ => by
  refine ⟨M, env, s, R, Sat.bind h fun d s1 v H1 R1 k1 p1 h1 => ?_⟩
  cases d with
  | bl c =>
    cases c with
    | true => exact ⟨true, p1, iteT ⟨M, env, s1, R1, by simpa [asBool] using h1⟩⟩
    | false => exact ⟨false, p1, iteF ((show Sat F M env σ H1 (PE_ F) (.ok (.bl false) s1) Q W by simpa [asBool] using h1) _ H1 R1 Keep.refl rfl)⟩
  | _ => exact h1.elim
theorem de_or (ha : DE X F W a ma) (hb : DE X F W (.BoolOp .Or (b :: rest) pos) mb) : DE X F W (.BoolOp .Or (a :: b :: rest) pos) (mOrV ma mb) := peImp (pe_or ha hb) fun σ H Q ⟨M, env, s, R, h⟩ => by
  refine ⟨M, env, s, R, Sat.bind h fun d s1 v H1 R1 k1 p1 h1 => ?_⟩
  cases d with
  | bl c =>
    cases c with
    | true => exact ⟨true, p1, iteT ((show Sat F M env σ H1 (PE_ F) (.ok (.bl true) s1) Q W by simpa [asBool] using h1) _ H1 R1 Keep.refl rfl)⟩
    | false => exact ⟨false, p1, iteF ⟨M, env, s1, R1, by simpa [asBool] using h1⟩⟩
  | _ => exact h1.elim
theorem de_not (ha : DE X F W a ma) : DE X F W (.UnaryOp .Not a pos) (mUn dNot ma) := peImp (pe_not ha) fun σ H Q ⟨M, env, s, R, h⟩ => by
  refine ⟨M, env, s, R, Sat.bind h fun d s1 v H1 R1 k1 p1 h1 => ?_⟩
  cases d with
  | bl c => exact ⟨c, p1, h1 _ H1 R1 Keep.refl rfl⟩
  | _ => exact h1.elim
theorem df_if {c a b : Expr} {pos : Pos} {mc : XM S Bool} {ma mb : XM S (List D)} (hc : DT X F W c mc) (ha : DF X F W a ma) (hb : DF X F W b mb) : DF X F W (.IfExp c a b pos) (fun env s => (mc env s).bind fun c s1 => if c = true then ma env s1 else mb env s1) := peImp (pe_ifExp hc ha hb) fun σ H Q ⟨M, env, s, R, h⟩ => by
  refine ⟨M, env, s, R, Sat.bind h fun c s1 c' H1 R1 k1 p1 h1 => ?_⟩
  cases (show c = c' from p1)
  cases c with
  | true => exact iteT ⟨M, env, s1, R1, h1⟩
  | false => exact iteF ⟨M, env, s1, R1, h1⟩
def mIf (mc : XM S Bool) (ma mb : XM S α) : XM S α := fun env s => (mc env s).bind fun c s1 => if c = true then ma env s1 else mb env s1
theorem de_if {c : Expr} {mc : XM S Bool} (hc : DT X F W c mc) (ha : DE X F W a ma) (hb : DE X F W b mb) : DE X F W (.IfExp c a b pos) (mIf mc ma mb) := peImp (pe_ifExp hc ha hb) fun σ H Q ⟨M, env, s, R, h⟩ => by
  refine ⟨M, env, s, R, Sat.bind h fun c s1 c' H1 R1 k1 p1 h1 => ?_⟩
  cases (show c = c' from p1)
  cases c with
  | true => exact iteT ⟨M, env, s1, R1, h1⟩
  | false => exact iteF ⟨M, env, s1, R1, h1⟩
end

/-! ### items, slices -/
@[simp] def dIx : D → D → Option D
  | .tup xs, .int i => atI xs i
  | .lst xs, .int i => atI xs i
  | .str z, .int i => if z.length ≤ 16777216 then (atI z.cps.toList i).map fun c => .str ⟨#[c]⟩ else none
  | _, _ => none
theorem Reps.atI {o : Addr} {ds : List D} {vs : List V} {i : Int} {d : D} (r : Reps o M H ds vs) (h : L2.atI ds i = some d) : ∃ v, L2.atI vs i = some v ∧ Rep o M H d v := by
  unfold L2.atI at h ⊢
  rw [r.length]
  cases e : ixN ds.length i with
  | none => rw [e] at h; cases h
  | some j =>
    rw [e] at h
    exact r.getD h
theorem bears_ix {K : PySem.W.Frag} : Bears2 F (rIx K) dIx := by
  intro M env s σ H d e x y z Q R hx hy hz q
  cases d with
  | tup xs =>
    cases e with
    | int i =>
      obtain ⟨a, vs, rfl, na, ha, la, ra⟩ := hx.tup
      obtain ⟨v, h1, h2⟩ := Reps.atI ra (show L2.atI xs i = some z from hz)
      exact .inr (.inl ⟨a, vs, i, v, rfl, hy, SqT.of ha, h1, q v H (Same.refl H) h2⟩)
    | _ => cases hz
  | lst xs =>
    cases e with
    | int i =>
      obtain ⟨a, vs, rfl, na, ha, la, ra⟩ := hx.lst
      obtain ⟨v, h1, h2⟩ := Reps.atI ra (show L2.atI xs i = some z from hz)
      exact .inl ⟨a, vs, i, v, rfl, hy, SqL.of ha, h1, q v H (Same.refl H) h2⟩
    | _ => cases hz
  | str t =>
    cases e with
    | int i =>
      have hz' : (if t.length ≤ 16777216 then (L2.atI t.cps.toList i).map fun c => D.str ⟨#[c]⟩ else none) = some z := hz
      by_cases hl : t.length ≤ 16777216
      · rw [if_pos hl] at hz'
        cases e2 : L2.atI t.cps.toList i with
        | none => rw [e2] at hz'; cases hz'
        | some c =>
          rw [e2] at hz'
          cases hz'
          exact .inr (.inr ⟨t, i, c, hx, hy, by rw [line_eq]; exact hl, e2, q _ H (Same.refl H) rfl⟩)
      · rw [if_neg hl] at hz'; cases hz'
    | _ => cases hz
  | _ => cases e <;> cases hz
theorem de_ix {a b : Expr} {ma mb : XM S D} {pos : Pos} (ha : DV X F W a ma) (hb : DV X F W b mb) (hs : PlainIx b := by exact fun _ _ => rfl) : DE X F W (.Subscript a b pos) (mBin dIx ma mb) := opB (a := a) (b := b) bears_ix (pe_ix ix_seq ha hb hs)

def cutD {α : Type} (xs : List α) (lo hi : Option Int) : List α := (xs.drop (HT.sIx xs.length 0 lo)).take (HT.sIx xs.length xs.length hi - HT.sIx xs.length 0 lo)
@[simp] def dCut (d : D) (lo hi : Option Int) : Option D := match d with
  | .tup xs => some (.tup (cutD xs lo hi))
  | .lst xs => some (.lst (cutD xs lo hi))
  | _ => none
@[simp] def dCutL (d : D) (lo hi : Option Int) : Option (List D) := match d with
  | .lst xs => some (cutD xs lo hi)
  | _ => none
theorem Reps.cut {o : Addr} {ds : List D} {vs : List V} (r : Reps o M H ds vs) (lo hi : Option Int) : Reps o M H (cutD ds lo hi) (cutV vs lo hi) := by
  unfold cutD cutV
  rw [r.length]
  exact (r.drop _).take _
theorem cutD_len {α : Type} (xs : List α) (lo hi : Option Int) : (cutD xs lo hi).length ≤ xs.length := by
  unfold cutD
  rw [List.length_take, List.length_drop]
  omega
theorem cutD_all {α : Type} {xs : List α} {lo hi : Option Int} (h : HT.sIx xs.length 0 lo = 0 ∧ HT.sIx xs.length xs.length hi = xs.length) : cutD xs lo hi = xs := by
  unfold cutD
  rw [h.1, h.2, List.drop_zero, Nat.sub_zero, List.take_length]
/-- a slice's part -/
def PO_ : Brs (Option Int) (Option Int) := fun _ _ _ a b => a = b
instance {mt : Addr → Prop} : PMono mt PO_ := ⟨fun _ h => h⟩
abbrev DO (X : Cx) (F : Fx S) (W : Wish S) (e : Option Expr) (m : XM S (Option Int)) : Prop := PO X e (tOf F W PO_ m)
def mNoPart : XM S (Option Int) := fun _ s => .ok none s
def mPart (m : XM S D) : XM S (Option Int) := fun env s => (m env s).bind fun d s1 => match d with
  | .int i => .ok (some i) s1
  | _ => .bad
theorem poImp {e : Option Expr} {t u : TO} (h : PO X e t) (k : ∀ σ H Q, u σ H Q → t σ H Q) : PO X e u := ⟨fun pins s σ H Q I q => h.run pins s σ H Q I (k σ H Q q)⟩
theorem do_none : DO X F W none mNoPart := poImp po_none fun σ H Q ⟨M, env, s, R, h⟩ => h _ H R Keep.refl rfl
theorem do_some {e : Expr} {m : XM S D} (h : DV X F W e m) : DO X F W (some e) (mPart m) := poImp (po_some h) fun σ H Q ⟨M, env, s, R, h⟩ => by
  refine ⟨M, env, s, R, Sat.bind h fun d s1 v H1 R1 k1 p1 h1 => ?_⟩
  cases d with
  | int i => exact ⟨i, p1, h1 _ H1 R1 Keep.refl rfl⟩
  | _ => exact h1.elim
def mCut (m : XM S D) (ml mh : XM S (Option Int)) : XM S D := fun env s => (m env s).bind fun d s1 => (ml env s1).bind fun lo s2 => (mh env s2).bind fun hi s3 => ret? (dCut d lo hi) s3
theorem de_cut {e : Expr} {lo hi : Option Expr} {m : XM S D} {ml mh : XM S (Option Int)} {p2 pos : Pos} (he : DV X F W e m) (hl : DO X F W lo ml) (hh : DO X F W hi mh) : DE X F W (.Subscript e (.Slice lo hi none p2) pos) (mCut m ml mh) :=
  peImp (pe_slice (SlR.or sl_list sl_tupA) he hl hh) fun σ H Q ⟨M, env, s, R, h⟩ => by
    refine ⟨M, env, s, R, Sat.bind h fun d s1 v H1 R1 k1 p1 h1 => ?_⟩
    refine ⟨M, env, s1, R1, Sat.bind h1 fun lo s2 lo' H2 R2 k2 p2 h2 => ?_⟩
    refine ⟨M, env, s2, R2, Sat.bind h2 fun hi s3 hi' H3 R3 k3 p3 h3 => ?_⟩
    cases (show lo = lo' from p2)
    cases (show hi = hi' from p3)
    have p1' : RepV F M H3 d v := RepV.stay R1.mutM p1 (k2.trans k3)
    cases d with
    | tup xs =>
      obtain ⟨a, vs, rfl, na, ha, la, ra⟩ := p1'.tup
      refine .inr ⟨a, vs, rfl, SqT.of ha, fun z => ?_, fun z p hp => ?_⟩
      · refine h3 _ H3 R3 Keep.refl ?_
        rw [ra.length] at z
        show Rep _ _ _ (.tup (cutD xs lo hi)) _
        rw [cutD_all z]
        exact ⟨a, vs, rfl, na, ha, la, ra⟩
      · exact h3 _ _ (R3.same (same_upd hp)) (Same.toKeep (same_upd hp)) (Rep.newTup (ra.cut lo hi) hp (R3.fresh hp) (Nat.le_trans (cutD_len _ _ _) la))
    | lst xs =>
      obtain ⟨a, vs, rfl, na, ha, la, ra⟩ := p1'.lst
      refine .inl ⟨a, vs, rfl, SqL.of ha, fun p hp => ?_⟩
      exact h3 _ _ (R3.same (same_upd hp)) (Same.toKeep (same_upd hp)) (Rep.newLst (ra.cut lo hi) hp (R3.fresh hp) (Nat.le_trans (cutD_len _ _ _) la))
    | _ => exact h3.elim
/-- xs[::-1] of a list -/
@[simp] def dRev : D → Option D
  | .lst xs => some (.lst xs.reverse)
  | _ => none
theorem de_rev {e : Expr} {m : XM S D} {k : Nat} {p1 p2 p3 pos : Pos} (he : DV X F W e m) : DE X F W (.Subscript e (.Slice none none (some (.UnaryOp .USub (.Constant (.int 1) k p1) p2)) p3) pos) (mUn dRev m) :=
  peImp (pe_revL he) fun σ H Q ⟨M, env, s, R, h⟩ => by
    refine ⟨M, env, s, R, Sat.bind h fun d s1 v H1 R1 k1 p1 h1 => ?_⟩
    cases d with
    | lst xs =>
      obtain ⟨a, vs, rfl, na, ha, la, ra⟩ := p1.lst
      refine ⟨a, vs, rfl, SqL.of ha, fun p hp => ?_⟩
      exact h1 _ _ (R1.same (same_upd hp)) (Same.toKeep (same_upd hp)) (Rep.newLst ra.reverse hp (R1.fresh hp) (by rw [List.length_reverse]; exact la))
    | _ => exact h1.elim
end
end L3
namespace L3
open PySem PySem.Spec L2
section
variable {S α β γ δ : Type} {F : Fx S} {M M' : Addr → Prop} {env : List Ent} {s s' : S} {σ : L2.St} {H H' : Hp} {W : Wish S} {X : Cx}

/-! ### arguments, displays -/
def mNil : XM S (List D) := fun _ s => .ok [] s
def mCons (m : XM S D) (ms : XM S (List D)) : XM S (List D) := fun env s => (m env s).bind fun d s1 => (ms env s1).bind fun ds s2 => .ok (d :: ds) s2
theorem da_nil : DA X F W [] mNil := paImp pa_nil fun σ H Q ⟨M, env, s, R, h⟩ => h _ H R Keep.refl rfl
theorem da_cons {e : Expr} {es : List Expr} {m : XM S D} {ms : XM S (List D)} (ha : DE X F W e m) (hb : DA X F W es ms) (hs : starEach (e :: es) X.env = (false, eval e X.env) :: starEach es X.env := by rfl) : DA X F W (e :: es) (mCons m ms) :=
  paImp (pa_cons ha hb hs) fun σ H Q ⟨M, env, s, R, h⟩ => by
    refine ⟨M, env, s, R, Sat.bind h fun d s1 v H1 R1 k1 p1 h1 => ?_⟩
    refine ⟨M, env, s1, R1, Sat.bind h1 fun ds s2 vs H2 R2 k2 p2 h2 => ?_⟩
    exact h2 _ H2 R2 Keep.refl ⟨v, vs, rfl, Rep.step (k2.step R1.mutM) p1, p2⟩
theorem dw_nil : DW X F W [] mNil := paImp pa_nil fun σ H Q ⟨M, env, s, R, h⟩ => h _ H R Keep.refl rfl
theorem dw_cons {e : Expr} {es : List Expr} {m : XM S D} {ms : XM S (List D)} (ha : DV X F W e m) (hb : DW X F W es ms) (hs : starEach (e :: es) X.env = (false, eval e X.env) :: starEach es X.env := by rfl) : DW X F W (e :: es) (mCons m ms) :=
  paImp (pa_cons ha hb hs) fun σ H Q ⟨M, env, s, R, h⟩ => by
    refine ⟨M, env, s, R, Sat.bind h fun d s1 v H1 R1 k1 p1 h1 => ?_⟩
    refine ⟨M, env, s1, R1, Sat.bind h1 fun ds s2 vs H2 R2 k2 p2 h2 => ?_⟩
    exact h2 _ H2 R2 Keep.refl ⟨v, vs, rfl, RepV.stay R1.mutM p1 k2, p2⟩
def mTup (m : XM S (List D)) : XM S D := fun env s => (m env s).bind fun ds s1 => if ds.length ≤ 16777216 then .ok (.tup ds) s1 else .bad
def mDisp (m : XM S (List D)) : XM S (List D) := fun env s => (m env s).bind fun ds s1 => if ds.length ≤ 16777216 then .ok ds s1 else .bad
theorem de_tup {es : List Expr} {m : XM S (List D)} {k : Nat} {pos : Pos} (h : DA X F W es m) : DE X F W (.Tuple es k pos) (mTup m) := peImp (pe_tup h) fun σ H Q ⟨M, env, s, R, h⟩ => by
  refine ⟨M, env, s, R, Sat.bind h fun ds s1 vs H1 R1 k1 p1 h1 => ?_⟩
  by_cases hl : ds.length ≤ 16777216
  · rw [if_pos hl] at h1
    refine ⟨by rw [Reps.length p1, line_eq]; exact hl, fun p hp => ?_⟩
    exact h1 _ _ (R1.same (same_upd hp)) (Same.toKeep (same_upd hp)) (Rep.newTup p1 hp (R1.fresh hp) (by rw [line_eq]; exact hl))
  · rw [if_neg hl] at h1; exact h1.elim
theorem df_lst {es : List Expr} {m : XM S (List D)} {pos : Pos} (h : DA X F W es m) : DF X F W (.List es pos) (mDisp m) := peImp (pe_lst h) fun σ H Q ⟨M, env, s, R, h⟩ => by
  refine ⟨M, env, s, R, Sat.bind h fun ds s1 vs H1 R1 k1 p1 h1 => ?_⟩
  by_cases hl : ds.length ≤ 16777216
  · rw [if_pos hl] at h1
    refine ⟨by rw [Reps.length p1, line_eq]; exact hl, fun p hp => ?_⟩
    exact h1 _ _ (R1.same (same_upd hp)) (Same.toKeep (same_upd hp)) (PF.new R1 p1 Keep.refl hp (by rw [line_eq]; exact hl))
  · rw [if_neg hl] at h1; exact h1.elim

/-! ### built-ins of one and two arguments -/
def Bears1 (F : Fx S) (X : Cx) (r : List V → Hp → VK → Prop) (f : D → Option D) : Prop := ∀ M env s σ H d x z (Q : VK), RelS F M env s σ H → RepV F M H d x → f d = some z →
  (∀ v H', Same H H' → Rep F.C.at_ M H' z v → Q v H') → r [x] H Q
theorem callB1 {e : Expr} {r : List V → Hp → VK → Prop} {f : D → Option D} {ma : XM S D} (hr : Bears1 F X r f) (h : PE X e (tCB r (tCons (tOf F W (PV_ F) ma) tNil))) : DE X F W e (mUn f ma) := peImp h fun σ H Q ⟨M, env, s, R, h⟩ => by
  refine ⟨M, env, s, R, Sat.bind h fun d s1 v H1 R1 k1 p1 h1 => ?_⟩
  cases e : f d with
  | none => rw [e] at h1; exact h1.elim
  | some z =>
    rw [e] at h1
    exact hr M env s1 σ H1 d v z Q R1 p1 e fun v H' sm p => h1 v H' (R1.same sm) (Same.toKeep sm) p
def Bears2A (F : Fx S) (X : Cx) (r : List V → Hp → VK → Prop) (f : D → D → Option D) : Prop := ∀ M env s σ H d d2 x y z (Q : VK), RelS F M env s σ H → RepV F M H d x → RepV F M H d2 y → f d d2 = some z →
  (∀ v H', Same H H' → Rep F.C.at_ M H' z v → Q v H') → r [x, y] H Q
theorem callB2 {e : Expr} {r : List V → Hp → VK → Prop} {f : D → D → Option D} {ma mb : XM S D} (hr : Bears2A F X r f) (h : PE X e (tCB r (tCons (tOf F W (PV_ F) ma) (tCons (tOf F W (PV_ F) mb) tNil)))) : DE X F W e (mBin f ma mb) := peImp h fun σ H Q ⟨M, env, s, R, h⟩ => by
  refine ⟨M, env, s, R, Sat.bind h fun d s1 v H1 R1 k1 p1 h1 => ?_⟩
  refine ⟨M, env, s1, R1, Sat.bind h1 fun d2 s2 v2 H2 R2 k2 p2 h2 => ?_⟩
  have p1' : RepV F M H2 d v := RepV.stay R1.mutM p1 k2
  cases e : f d d2 with
  | none => rw [e] at h2; exact h2.elim
  | some z =>
    rw [e] at h2
    exact hr M env s2 σ H2 d d2 v v2 z Q R2 p1' p2 e fun v H' sm p => h2 v H' (R2.same sm) (Same.toKeep sm) p
@[simp] def dLen : D → Option D
  | .tup xs => some (.int xs.length)
  | .lst xs => some (.int xs.length)
  | .str z => if z.length ≤ 16777216 then some (.int z.length) else none
  | _ => none
section
variable {a b : Expr} {ma mb : XM S D} {p pos : Pos}
theorem de_len (hm : X.mg "len" = none) (ha : DV X F W a ma) (hg : Gl X "len" := by rfl) (hs : starEach [a] X.env = (false, eval a X.env) :: starEach [] X.env := by rfl) (hpl : (backTo pos (starEach [] X.env)).any (·.1) = false := by rfl) : DE X F W (.Call (.Name "len" p) [a] [] pos) (mUn dLen ma) :=
  callB1 (fun M env s σ H d x z Q R hx hz q => by
    cases d with
    | tup xs =>
      cases hz
      obtain ⟨a, vs, rfl, na, ha, la, ra⟩ := hx.tup
      exact ⟨_, vs.length, rfl, .inr ⟨vs, SqT.of ha, rfl⟩, q _ H (Same.refl H) (by rw [ra.length]; rfl)⟩
    | lst xs =>
      cases hz
      obtain ⟨a, vs, rfl, na, ha, la, ra⟩ := hx.lst
      exact ⟨_, vs.length, rfl, .inl ⟨vs, SqL.of ha, rfl⟩, q _ H (Same.refl H) (by rw [ra.length]; rfl)⟩
    | str t =>
      obtain ⟨hl, rfl⟩ := if_some (show (if t.length ≤ 16777216 then some (D.int t.length) else none) = some z from hz)
      rw [show x = .str t from hx]
      exact ⟨_, t.length, rfl, ⟨by rw [line_eq]; exact hl, rfl⟩, q _ H (Same.refl H) rfl⟩
    | _ => cases hz) (pe_callB call_len hg hm boot_len (pa_cons ha pa_nil hs) (he := hs) (hpl := hpl))
@[simp] def dInt : D → Option D
  | .int i => some (.int i)
  | .bl b => some (.int (if b then 1 else 0))
  | _ => none
theorem de_int1 (hm : X.mg "int" = none) (ha : DV X F W a ma) (hg : Gl X "int" := by rfl) (hs : starEach [a] X.env = (false, eval a X.env) :: starEach [] X.env := by rfl) (hpl : (backTo pos (starEach [] X.env)).any (·.1) = false := by rfl) : DE X F W (.Call (.Name "int" p) [a] [] pos) (mUn dInt ma) :=
  callB1 (fun M env s σ H d x z Q R hx hz q => by
    cases d with
    | int i => cases hz; exact .inl ⟨i, by rw [show x = .int i from hx], q _ H (Same.refl H) rfl⟩
    | bl i => cases hz; exact .inr ⟨i, by rw [show x = .bl i from hx], q _ H (Same.refl H) rfl⟩
    | _ => cases hz) (pe_callTy call_int1 hg hm (by decide +kernel) (pa_cons ha pa_nil hs) (he := hs) (hpl := hpl))
@[simp] def dAbs : D → Option D
  | .int i => some (.int (if i < 0 then -i else i))
  | _ => none
theorem de_abs (hm : X.mg "abs" = none) (ha : DV X F W a ma) (hg : Gl X "abs" := by rfl) (hs : starEach [a] X.env = (false, eval a X.env) :: starEach [] X.env := by rfl) (hpl : (backTo pos (starEach [] X.env)).any (·.1) = false := by rfl) : DE X F W (.Call (.Name "abs" p) [a] [] pos) (mUn dAbs ma) :=
  callB1 (fun M env s σ H d x z Q R hx hz q => by
    cases d with
    | int i => cases hz; exact ⟨i, by rw [show x = .int i from hx], q _ H (Same.refl H) rfl⟩
    | _ => cases hz) (pe_callB call_abs hg hm (by decide +kernel) (pa_cons ha pa_nil hs) (he := hs) (hpl := hpl))
@[simp] def dMax2 : D → D → Option D
  | .int i, .int j => some (.int (if j > i then j else i))
  | _, _ => none
@[simp] def dMin2 : D → D → Option D
  | .int i, .int j => some (.int (if j < i then j else i))
  | _, _ => none
theorem de_max2 (hm : X.mg "max" = none) (ha : DV X F W a ma) (hb : DV X F W b mb) (hc : X.calm = true := by rfl) (hg : Gl X "max" := by rfl) (hs : starEach [a, b] X.env = (false, eval a X.env) :: starEach [b] X.env := by rfl) (hs2 : starEach [b] X.env = (false, eval b X.env) :: starEach [] X.env := by rfl) (hpl : (backTo pos (starEach [b] X.env)).any (·.1) = false := by rfl) :
    DE X F W (.Call (.Name "max" p) [a, b] [] pos) (mBin dMax2 ma mb) :=
  callB2 (fun M env s σ H d d2 x y z Q R hx hy hz q => by
    cases d with
    | int i =>
      cases d2 with
      | int j => cases hz; exact ⟨i, j, by rw [show x = .int i from hx, show y = .int j from hy], q _ H (Same.refl H) rfl⟩
      | _ => cases hz
    | _ => cases d2 <;> cases hz) (pe_callB (call_max2 hc) hg hm (by decide +kernel) (pa_cons ha (pa_cons hb pa_nil hs2) hs) (he := hs) (hpl := hpl))
theorem de_min2 (hm : X.mg "min" = none) (ha : DV X F W a ma) (hb : DV X F W b mb) (hc : X.calm = true := by rfl) (hg : Gl X "min" := by rfl) (hs : starEach [a, b] X.env = (false, eval a X.env) :: starEach [b] X.env := by rfl) (hs2 : starEach [b] X.env = (false, eval b X.env) :: starEach [] X.env := by rfl) (hpl : (backTo pos (starEach [b] X.env)).any (·.1) = false := by rfl) :
    DE X F W (.Call (.Name "min" p) [a, b] [] pos) (mBin dMin2 ma mb) :=
  callB2 (fun M env s σ H d d2 x y z Q R hx hy hz q => by
    cases d with
    | int i =>
      cases d2 with
      | int j => cases hz; exact ⟨i, j, by rw [show x = .int i from hx, show y = .int j from hy], q _ H (Same.refl H) rfl⟩
      | _ => cases hz
    | _ => cases d2 <;> cases hz) (pe_callB (call_min2 hc) hg hm (by decide +kernel) (pa_cons ha (pa_cons hb pa_nil hs2) hs) (he := hs) (hpl := hpl))
@[simp] def dItems : D → Option (List D)
  | .tup xs => some xs
  | .lst xs => some xs
  | _ => none
@[simp] def dTuple : D → Option D
  | .tup xs => some (.tup xs)
  | .lst xs => some (.tup xs)
  | _ => none
theorem de_tuple (hm : X.mg "tuple" = none) (ha : DV X F W a ma) (hg : Gl X "tuple" := by rfl) (hs : starEach [a] X.env = (false, eval a X.env) :: starEach [] X.env := by rfl) (hpl : (backTo pos (starEach [] X.env)).any (·.1) = false := by rfl) : DE X F W (.Call (.Name "tuple" p) [a] [] pos) (mUn dTuple ma) :=
  callB1 (fun M env s σ H d x z Q R hx hz q => by
    cases d with
    | tup xs =>
      cases hz
      obtain ⟨a, vs, rfl, na, ha, la, ra⟩ := hx.tup
      exact ⟨a, vs, rfl, .inr ⟨SqT.of ha, q _ H (Same.refl H) ⟨a, vs, rfl, na, ha, la, ra⟩⟩⟩
    | lst xs =>
      cases hz
      obtain ⟨a, vs, rfl, na, ha, la, ra⟩ := hx.lst
      exact ⟨a, vs, rfl, .inl ⟨SqL.of ha, fun l hl => q _ _ (same_upd hl) (Rep.newTup ra hl (R.fresh hl) la)⟩⟩
    | _ => cases hz) (pe_callTy call_tuple_of hg hm (by decide +kernel) (pa_cons ha pa_nil hs) (he := hs) (hpl := hpl))
def mUnF (f : D → Option (List D)) (ma : XM S D) : XM S (List D) := fun env s => (ma env s).bind fun x s1 => ret? (f x) s1
theorem df_list (hm : X.mg "list" = none) (ha : DV X F W a ma) (hg : Gl X "list" := by rfl) (hs : starEach [a] X.env = (false, eval a X.env) :: starEach [] X.env := by rfl) (hpl : (backTo pos (starEach [] X.env)).any (·.1) = false := by rfl) : DF X F W (.Call (.Name "list" p) [a] [] pos) (mUnF dItems ma) :=
  peImp (pe_callTy call_list_of hg hm (by decide +kernel) (pa_cons ha pa_nil hs) (he := hs) (hpl := hpl)) fun σ H Q ⟨M, env, s, R, h⟩ => by
    refine ⟨M, env, s, R, Sat.bind h fun d s1 v H1 R1 k1 p1 h1 => ?_⟩
    cases d with
    | tup xs =>
      obtain ⟨a, vs, rfl, na, ha, la, ra⟩ := p1.tup
      exact ⟨a, vs, rfl, .inr (SqT.of ha), fun l hl => h1 _ _ (R1.same (same_upd hl)) (Same.toKeep (same_upd hl)) (PF.new R1 ra Keep.refl hl la)⟩
    | lst xs =>
      obtain ⟨a, vs, rfl, na, ha, la, ra⟩ := p1.lst
      exact ⟨a, vs, rfl, .inl (SqL.of ha), fun l hl => h1 _ _ (R1.same (same_upd hl)) (Same.toKeep (same_upd hl)) (PF.new R1 ra Keep.refl hl la)⟩
    | _ => exact h1.elim
/-- the ints of a list, a tuple -/
def intsOf : List D → Option (List Int)
  | [] => some []
  | .int i :: r => (intsOf r).map fun is => i :: is
  | _ :: _ => none
theorem intsOf_map : ∀ {ds : List D} {is : List Int}, intsOf ds = some is → ds = is.map D.int
  | [], is, h => by cases h; rfl
  | d :: r, is, h => by
    cases d with
    | int i =>
      have h' : (intsOf r).map (fun is => i :: is) = some is := h
      cases e : intsOf r with
      | none => rw [e] at h'; cases h'
      | some js => rw [e] at h'; cases h'; rw [intsOf_map e]; rfl
    | _ => cases h
theorem intsOf_ints : ∀ is : List Int, intsOf (is.map D.int) = some is
  | [] => rfl
  | i :: r => by rw [List.map_cons]; show (intsOf (r.map D.int)).map _ = _; rw [intsOf_ints r]; rfl
@[simp] def dSumL : D → Option D
  | .lst xs => (intsOf xs).map fun is => .int is.sum
  | _ => none
theorem de_sumL (hm : X.mg "sum" = none) (ha : DV X F W a ma) (hc : X.calm = true := by rfl) (hg : Gl X "sum" := by rfl) (hs : starEach [a] X.env = (false, eval a X.env) :: starEach [] X.env := by rfl) (hpl : (backTo pos (starEach [] X.env)).any (·.1) = false := by rfl) : DE X F W (.Call (.Name "sum" p) [a] [] pos) (mUn dSumL ma) :=
  callB1 (fun M env s σ H d x z Q R hx hz q => by
    cases d with
    | lst xs =>
      have hz' : (intsOf xs).map (fun is => D.int is.sum) = some z := hz
      cases e : intsOf xs with
      | none => rw [e] at hz'; cases hz'
      | some is =>
        rw [e] at hz'
        cases hz'
        obtain ⟨a, vs, rfl, na, ha, la, ra⟩ := hx.lst
        rw [intsOf_map e] at ra
        rw [ra.ints_inv] at ha
        exact ⟨a, is, rfl, SqL.of ha, q _ H (Same.refl H) rfl⟩
    | _ => cases hz) (pe_callB (cr_sum hc) hg hm (by decide +kernel) (pa_cons ha pa_nil hs) (he := hs) (hpl := hpl))
/-! isinstance of a built-in class -/
def dType : D → String
  | .non => "NoneType"
  | .bl _ => "bool"
  | .int _ => "int"
  | .str _ => "str"
  | .tup _ => "tuple"
  | .lst _ => "list"
  | .obj => "?"
def dIsi (T : String) : D → Option D
  | .obj => none
  | d => (kitB (dType d) T).map D.bl
theorem RepV.ty {K : PySem.W.Frag} {d : D} {v : V} (n : d ≠ .obj) (h : RepV F M H d v) : TyX K H v (.type (dType d)) := by
  cases d with
  | non => rw [show v = .non from h]; exact .base .non
  | bl b => rw [show v = .bl b from h]; exact .base (.bl b)
  | int b => rw [show v = .int b from h]; exact .base (.int b)
  | str b => rw [show v = .str b from h]; exact .base (.str b)
  | tup ds => obtain ⟨a, vs, rfl, _, ha, _⟩ := h.tup; exact .base (.tup ha)
  | lst ds => obtain ⟨a, vs, rfl, _, ha, _⟩ := h.lst; exact .base (.lst ha)
  | obj => exact absurd rfl n
theorem de_isi {T : String} {x : Str} {px : Pos} (hm : X.mg "isinstance" = none) (hmT : X.mg x = none) (hvT : bootBuiltins x = some (.type T)) (ha : DV X F W a ma) (hg : Gl X "isinstance" := by rfl) (hgT : Gl X x := by rfl) (hn : x ≠ "__name__" := by decide) (hd : (x == ("__debug__" : Str)) = false := by decide)
    (hs : starEach [a, .Name x px] X.env = (false, eval a X.env) :: starEach [.Name x px] X.env := by rfl) (hs2 : starEach [.Name x px] X.env = (false, eval (.Name x px) X.env) :: starEach [] X.env := by rfl) (hpl : (backTo pos (starEach [.Name x px] X.env)).any (·.1) = false := by rfl) :
    DE X F W (.Call (.Name "isinstance" p) [a, .Name x px] [] pos) (mUn (dIsi T) ma) :=
  peImp (pe_callB call_isi hg hm (by decide +kernel) (pa_cons ha (pa_cons (pe_bltn hgT hmT hvT (show RelV (.ty T) _ from rfl) hn hd) pa_nil hs2) hs) (he := hs) (hpl := hpl)) fun σ H Q ⟨M, env, s, R, h⟩ => by
    refine ⟨M, env, s, R, Sat.bind h fun d s1 v H1 R1 k1 p1 h1 => ?_⟩
    have key : ∀ (d : D), d ≠ .obj → RepV F M H1 d v → Sat F M env σ H1 (PE_ F) (ret? ((kitB (dType d) T).map D.bl) s1) Q W → ∃ (x c : V) (t u : Value) (b : Bool), [v, V.ty T] = [x, c] ∧ ClsV c u ∧ TyX X.K H1 x t ∧ PySem.W.kitOne X.K t u = some b ∧ Q (.bl b) H1 := fun d n p h => by
      cases e : kitB (dType d) T with
      | none => rw [e] at h; exact h.elim
      | some b =>
        rw [e] at h
        exact ⟨v, .ty T, _, _, b, rfl, .ty T, p.ty n, kit_ty e, h _ H1 R1 Keep.refl rfl⟩
    cases d with
    | obj => exact h1.elim
    | non => exact key .non (fun z => nomatch z) p1 h1
    | bl b => exact key (.bl b) (fun z => nomatch z) p1 h1
    | int b => exact key (.int b) (fun z => nomatch z) p1 h1
    | str b => exact key (.str b) (fun z => nomatch z) p1 h1
    | tup b => exact key (.tup b) (fun z => nomatch z) p1 h1
    | lst b => exact key (.lst b) (fun z => nomatch z) p1 h1
end
/-! list(range(..)), tuple(range(..)) -/
def rangeD (a b : Int) : List D := (List.range (b - a).toNat).map fun i => D.int (a + (i : Nat))
theorem rangeD_length (a b : Int) : (rangeD a b).length = (b - a).toNat := by unfold rangeD; rw [List.length_map, List.length_range]
theorem Reps.map_range {o : Addr} (f : Nat → Int) : ∀ l : List Nat, Reps o M H (l.map fun i => D.int (f i)) (l.map fun i => V.int (f i))
  | [] => by simp [Reps]
  | n :: l => ⟨_, _, rfl, rfl, Reps.map_range f l⟩
theorem Reps.range {o : Addr} (a b : Int) : Reps o M H (rangeD a b) (rgV a b) := Reps.map_range (fun i => a + (i : Nat)) _
def rgOk (a b : Int) : Bool := decide (-(2 ^ 62) ≤ a) && decide (a < 2 ^ 62) && decide (-(2 ^ 62) ≤ b) && decide (b < 2 ^ 62) && decide ((b - a).toNat ≤ 16777216)
theorem rgOk_ok {a b : Int} (h : rgOk a b = true) : RgOk a b := by
  unfold rgOk at h
  simp only [Bool.and_eq_true, decide_eq_true_eq] at h
  exact ⟨h.1.1.1.1, h.1.1.1.2, h.1.1.2, h.1.2, by have := h.2; omega⟩
/-- a range's two ends -/
def mEnds1 (m : XM S D) : XM S (Int × Int) := fun env s => (m env s).bind fun d s1 => match d with
  | .int n => .ok (0, n) s1
  | _ => .bad
def mEnds2 (m m2 : XM S D) : XM S (Int × Int) := fun env s => (m env s).bind fun d s1 => (m2 env s1).bind fun d2 s2 => match d, d2 with
  | .int a, .int b => .ok (a, b) s2
  | _, _ => .bad
@[simp] def dRange (ab : Int × Int) : Option (List D) := if rgOk ab.1 ab.2 then some (rangeD ab.1 ab.2) else none
def mRange (m : XM S (Int × Int)) : XM S (List D) := fun env s => (m env s).bind fun ab s1 => ret? (dRange ab) s1
abbrev DR (X : Cx) (F : Fx S) (W : Wish S) (e : Expr) (m : XM S (Int × Int)) : Prop :=
  PRg X e (fun σ H Q => ∃ M env s, RelS F M env s σ H ∧ Sat F M env σ H (fun _ _ _ (a b : Int × Int) => a = b) (m env s) (fun ab H' => Q ab.1 ab.2 H') W)
instance {mt : Addr → Prop} : PMono mt (fun _ _ _ (a b : Int × Int) => a = b) := ⟨fun _ h => h⟩
section
variable {a b : Expr} {ma mb : XM S D} {p pos p2 pos2 : Pos}
theorem dr_1 (hm : X.mg "range" = none) (ha : DV X F W a ma) (hg : Gl X "range" := by rfl) (na : starEach [a] X.env = (false, eval a X.env) :: starEach [] X.env := by rfl) : DR X F W (.Call (.Name "range" p) [a] [] pos) (mEnds1 ma) :=
  fun pins s σ H Q I ⟨M, env, s0, R, h⟩ => prg_1 hg hm ha na pins s σ H Q I (by
    refine ⟨M, env, s0, R, Sat.bind h fun d s1 v H1 R1 k1 p1 h1 => ?_⟩
    cases d with
    | int n => exact ⟨n, p1, h1 (0, n) H1 R1 Keep.refl rfl⟩
    | _ => exact h1.elim)
theorem dr_2 (hm : X.mg "range" = none) (ha : DV X F W a ma) (hb : DV X F W b mb) (hg : Gl X "range" := by rfl) (na : starEach [a, b] X.env = (false, eval a X.env) :: starEach [b] X.env := by rfl) (nb : starEach [b] X.env = (false, eval b X.env) :: starEach [] X.env := by rfl) (hp : (backTo pos (starEach [b] X.env)).any (·.1) = false := by rfl) :
    DR X F W (.Call (.Name "range" p) [a, b] [] pos) (mEnds2 ma mb) :=
  fun pins s σ H Q I ⟨M, env, s0, R, h⟩ => prg_2 hg hm ha hb na nb hp pins s σ H Q I (by
    refine ⟨M, env, s0, R, Sat.bind h fun d s1 v H1 R1 k1 p1 h1 => ?_⟩
    refine ⟨M, env, s1, R1, Sat.bind h1 fun d2 s2 v2 H2 R2 k2 p2 h2 => ?_⟩
    have p1' : RepV F M H2 d v := RepV.stay R1.mutM p1 k2
    cases d with
    | int i =>
      cases d2 with
      | int j => exact ⟨i, j, p1', p2, h2 (i, j) H2 R2 Keep.refl rfl⟩
      | _ => exact h2.elim
    | _ => exact h2.elim)
theorem df_listRg {e : Expr} {m : XM S (Int × Int)} (hm : X.mg "list" = none) (he : DR X F W e m) (hc : X.calm = true := by rfl) (hg : Gl X "list" := by rfl) (na : starEach [e] X.env = (false, eval e X.env) :: starEach [] X.env := by rfl) : DF X F W (.Call (.Name "list" p) [e] [] pos) (mRange m) :=
  peImp (pe_listRg hc hg hm he na) fun σ H Q ⟨M, env, s, R, h⟩ => by
    refine ⟨M, env, s, R, Sat.bind h fun ab s1 v H1 R1 k1 p1 h1 => ?_⟩
    cases (show ab = v from p1)
    obtain ⟨a, b⟩ := ab
    unfold dRange at h1
    by_cases hk : rgOk a b = true
    · rw [if_pos hk] at h1
      have ok := rgOk_ok hk
      exact ⟨ok, fun q hq => h1 _ _ (R1.same (same_upd hq)) (Same.toKeep (same_upd hq)) (PF.new R1 (Reps.range a b) Keep.refl hq (by rw [rangeD_length, line_eq]; exact ok.2.2.2.2))⟩
    · rw [if_neg hk] at h1; exact h1.elim
theorem de_tupRg {e : Expr} {m : XM S (Int × Int)} (hm : X.mg "tuple" = none) (he : DR X F W e m) (hc : X.calm = true := by rfl) (hg : Gl X "tuple" := by rfl) (na : starEach [e] X.env = (false, eval e X.env) :: starEach [] X.env := by rfl) : DE X F W (.Call (.Name "tuple" p) [e] [] pos) (fun env s => (mRange m env s).bind fun ds s1 => .ok (.tup ds) s1) :=
  peImp (pe_tupRg hc hg hm he na) fun σ H Q ⟨M, env, s, R, h⟩ => by
    have h' : Sat F M env σ H (PE_ F) ((m env s).bind fun ab s1 => (ret? (dRange ab) s1).bind fun ds s1 => .ok (.tup ds) s1) Q W := by
      have e : ((mRange m env s).bind fun ds s1 => Res.ok (D.tup ds) s1) = ((m env s).bind fun ab s1 => (ret? (dRange ab) s1).bind fun ds s1 => .ok (.tup ds) s1) := by
        unfold mRange
        cases m env s <;> rfl
      rw [← e]; exact h
    refine ⟨M, env, s, R, Sat.bind h' fun ab s1 v H1 R1 k1 p1 h1 => ?_⟩
    cases (show ab = v from p1)
    obtain ⟨a, b⟩ := ab
    unfold dRange at h1
    by_cases hk : rgOk a b = true
    · rw [if_pos hk] at h1
      have ok := rgOk_ok hk
      exact ⟨ok, fun q hq => h1 _ _ (R1.same (same_upd hq)) (Same.toKeep (same_upd hq)) (Rep.newTup (Reps.range a b) hq (R1.fresh hq) (by rw [rangeD_length, line_eq]; exact ok.2.2.2.2))⟩
    · rw [if_neg hk] at h1; exact h1.elim
end
end
end L3
namespace L3
open PySem PySem.Spec L2
section
variable {S α β γ δ : Type} {F : Fx S} {M M' : Addr → Prop} {env env' : List Ent} {s s' : S} {σ σ' : L2.St} {H H' : Hp} {W : Wish S} {X : Cx}

/-! ### slots -/
theorem RelS.setV (R : RelS F M env s σ H) {i : Nat} {d : D} {v : V} (r : Rep F.C.at_ M H d v) : RelS F M (env.set i (.v d)) s (σ.set i (some v)) H where
  val := fun j e h => by
    by_cases hj : i = j
    · subst hj
      by_cases hi : i < env.length
      · rw [List.getElem?_set_self hi] at h
        cases h
        exact ⟨v, by rw [List.getElem?_set_self (by rw [R.len]; exact hi)], r⟩
      · rw [List.getElem?_eq_none (by rw [List.length_set]; omega)] at h; cases h
    · rw [List.getElem?_set_ne hj] at h
      rw [List.getElem?_set_ne hj]
      exact R.val j e h
  own := fun j xs h => by
    by_cases hj : i = j
    · subst hj
      by_cases hi : i < env.length
      · rw [List.getElem?_set_self hi] at h; cases h
      · rw [List.getElem?_eq_none (by rw [List.length_set]; omega)] at h; cases h
    · rw [List.getElem?_set_ne hj] at h
      rw [List.getElem?_set_ne hj]
      exact R.own j xs h
  inj := fun j k xs ys a h1 h2 h3 h4 => by
    have ne : ∀ (l : Nat) (zs : List D), (env.set i (.v d))[l]? = some (.o zs) → i ≠ l := fun l zs h z => by
      subst z
      by_cases hi : i < env.length
      · rw [List.getElem?_set_self hi] at h; cases h
      · rw [List.getElem?_eq_none (by rw [List.length_set]; omega)] at h; cases h
    have n1 := ne j xs h1
    have n2 := ne k ys h2
    rw [List.getElem?_set_ne n1] at h1 h3
    rw [List.getElem?_set_ne n2] at h2 h4
    exact R.inj j k xs ys a h1 h2 h3 h4
  trk := R.trk
  base := R.base
  mt := R.mt
  trk0 := R.trk0
  ft0 := R.ft0
  keep := R.keep
  st := R.st
  len := by rw [List.length_set, List.length_set]; exact R.len
theorem RelS.setNo (R : RelS F M env s σ H) {i : Nat} {x : Option V} : RelS F M (env.set i .no) s (σ.set i x) H where
  val := fun j e h => by
    by_cases hj : i = j
    · subst hj
      by_cases hi : i < env.length
      · rw [List.getElem?_set_self hi] at h; cases h
      · rw [List.getElem?_eq_none (by rw [List.length_set]; omega)] at h; cases h
    · rw [List.getElem?_set_ne hj] at h
      rw [List.getElem?_set_ne hj]
      exact R.val j e h
  own := fun j xs h => by
    by_cases hj : i = j
    · subst hj
      by_cases hi : i < env.length
      · rw [List.getElem?_set_self hi] at h; cases h
      · rw [List.getElem?_eq_none (by rw [List.length_set]; omega)] at h; cases h
    · rw [List.getElem?_set_ne hj] at h
      rw [List.getElem?_set_ne hj]
      exact R.own j xs h
  inj := fun j k xs ys a h1 h2 h3 h4 => by
    have ne : ∀ (l : Nat) (zs : List D), (env.set i Ent.no)[l]? = some (.o zs) → i ≠ l := fun l zs h z => by
      subst z
      by_cases hi : i < env.length
      · rw [List.getElem?_set_self hi] at h; cases h
      · rw [List.getElem?_eq_none (by rw [List.length_set]; omega)] at h; cases h
    have n1 := ne j xs h1
    have n2 := ne k ys h2
    rw [List.getElem?_set_ne n1] at h1 h3
    rw [List.getElem?_set_ne n2] at h2 h4
    exact R.inj j k xs ys a h1 h2 h3 h4
  trk := R.trk
  base := R.base
  mt := R.mt
  trk0 := R.trk0
  ft0 := R.ft0
  keep := R.keep
  st := R.st
  len := by rw [List.length_set, List.length_set]; exact R.len
/-- a new list becomes a slot's own -/
theorem RelS.setO {Hs : Hp} (R0 : RelS F M env s σ Hs) (k : Keep F.C.mt Hs H) (st : F.C.rel s' M H) {i : Nat} {ds : List D} {v : V} (p : PF_ F M Hs H ds v) : ∃ M', Step M Hs M' H ∧ (∀ a, M a → M' a) ∧ RelS F M' (env.set i (.o ds)) s' (σ.set i (some v)) H := by
  obtain ⟨a, vs, rfl, hn, nm, ha, hl, hr⟩ := p
  have h0 : F.H0 a = none := by
    cases q : F.H0 a with
    | none => rfl
    | some u => rw [R0.keep a u q nm] at hn; cases hn
  have step : Step M Hs (insM M a) H := ⟨fun b u e n => k b u e fun z => n (R0.mutM b z), fun b z => z.elim (fun e => .inr (by rw [e]; exact hn)) .inl⟩
  have R := R0.stay k st
  refine ⟨insM M a, step, fun b z => .inr z, ?_⟩
  have neo : ∀ (j : Nat) (xs : List D) (b : Addr), env[j]? = some (.o xs) → σ[j]? = some (some (.ref b)) → b ≠ a := fun j xs b h1 h2 z => by
    obtain ⟨c, vs', e1, e2⟩ := R0.own j xs h1
    rw [h2] at e1
    cases e1
    subst z
    have q := e2.at_
    rw [hn] at q; cases q
  refine ⟨fun j e h => ?_, fun j xs h => ?_, fun j l xs ys b h1 h2 h3 h4 => ?_, fun b hb z => ?_, fun b hb => .inr (R.base b hb), R.mt, R.trk0, R.ft0, R.keep, F.C.keep st (fun b u _ e => e) (fun b f z => z.elim (fun e => absurd (by rw [e]; exact hn) (F.C.trk R0.st f)) id), by rw [List.length_set, List.length_set]; exact R.len⟩
  · by_cases hj : i = j
    · subst hj
      by_cases hi : i < env.length
      · rw [List.getElem?_set_self hi] at h; cases h
      · rw [List.getElem?_eq_none (by rw [List.length_set]; omega)] at h; cases h
    · rw [List.getElem?_set_ne hj] at h
      rw [List.getElem?_set_ne hj]
      obtain ⟨w, h1, h2⟩ := R0.val j e h
      exact ⟨w, h1, h2.step step⟩
  · by_cases hj : i = j
    · subst hj
      by_cases hi : i < env.length
      · rw [List.getElem?_set_self hi] at h
        cases h
        exact ⟨a, vs, by rw [List.getElem?_set_self (by rw [R.len]; exact hi)], .inl rfl, h0, ha, hl, hr⟩
      · rw [List.getElem?_eq_none (by rw [List.length_set]; omega)] at h; cases h
    · rw [List.getElem?_set_ne hj] at h
      rw [List.getElem?_set_ne hj]
      obtain ⟨b, us, h1, h2⟩ := R0.own j xs h
      exact ⟨b, us, h1, .inr h2.mem, h2.new, k b _ h2.at_ (fun z => R0.trk0 b (R0.mt b z) h2.new), h2.len, h2.reps.step step⟩
  · have hc : ∀ (l : Nat) (zs : List D) (c : Addr), (env.set i (.o ds))[l]? = some (.o zs) → (σ.set i (some (.ref a)))[l]? = some (some (.ref c)) → (i = l ∧ c = a) ∨ (i ≠ l ∧ env[l]? = some (.o zs) ∧ σ[l]? = some (some (.ref c))) := fun l zs c h1 h2 => by
      by_cases hj : i = l
      · subst hj
        by_cases hi : i < σ.length
        · rw [List.getElem?_set_self hi] at h2
          cases h2
          exact .inl ⟨rfl, rfl⟩
        · rw [List.getElem?_eq_none (by rw [List.length_set]; omega)] at h2; cases h2
      · rw [List.getElem?_set_ne hj] at h1 h2
        exact .inr ⟨hj, h1, h2⟩
    rcases hc j xs b h1 h3 with ⟨e1, e2⟩ | ⟨e1, e2, e3⟩
    · rcases hc l ys b h2 h4 with ⟨g1, g2⟩ | ⟨g1, g2, g3⟩
      · rw [← e1, g1]
      · exact absurd e2 (neo l ys b g2 g3)
    · rcases hc l ys b h2 h4 with ⟨g1, g2⟩ | ⟨g1, g2, g3⟩
      · exact absurd g2 (neo j xs b e2 e3)
      · exact R.inj j l xs ys b e2 g2 e3 g3
  · rcases hb with e | hb
    · rw [e, ha] at z; cases z
    · exact R.trk b hb z

/-- a mutable list that no slot has is changed (a comprehension's list) -/
theorem RelS.updM (R : RelS F M env s σ H) {p : Addr} {us : List V} (hp : M p) (nf : ¬ F.C.ft p) (h0 : F.H0 p = none) (no : ∀ (i : Nat) (xs : List D), env[i]? = some (.o xs) → σ[i]? ≠ some (some (.ref p))) : RelS F M env s σ (upd H p (.lst us)) := by
  have step : Step M H M (upd H p (.lst us)) := ⟨fun a u e n => by rw [upd_ne (fun z => n (by rw [z]; exact hp))]; exact e, fun _ z => .inl z⟩
  refine ⟨fun i d e => R.val_step step e, fun i xs e => ?_, R.inj, fun a ha z => ?_, R.base, R.mt, R.trk0, R.ft0, fun a u e n => ?_, F.C.keep R.st (fun b u f e => ?_) (fun b _ z => z), R.len⟩
  · obtain ⟨a, vs, h1, h2⟩ := R.own i xs e
    have hne : a ≠ p := fun z => no i xs e (by rw [← z]; exact h1)
    exact ⟨a, vs, h1, h2.mem, h2.new, by rw [upd_ne hne]; exact h2.at_, h2.len, h2.reps.step step⟩
  · by_cases q : a = p
    · rw [q, upd_same] at z; cases z
    · rw [upd_ne q] at z; exact R.trk a ha z
  · by_cases q : a = p
    · rw [q, h0] at e; cases e
    · rw [upd_ne q]; exact R.keep a u e n
  · rw [upd_ne (fun q => nf (by rw [← q]; exact f))]; exact e
/-- a fresh list enters the mutable -/
theorem RelS.enter (R : RelS F M env s σ H) {p : Addr} {us : List V} (hn : H p = none) : RelS F (insM M p) env s σ (upd H p (.lst us)) ∧ ¬ F.C.ft p ∧ F.H0 p = none ∧ ∀ (i : Nat) (xs : List D), env[i]? = some (.o xs) → σ[i]? ≠ some (some (.ref p)) := by
  have nf : ¬ F.C.ft p := fun z => F.C.trk R.st z hn
  have h0 : F.H0 p = none := by
    cases q : F.H0 p with
    | none => rfl
    | some u => rw [R.keep p u q fun z => nf (F.C.sub p z)] at hn; cases hn
  have step : Step M H (insM M p) (upd H p (.lst us)) := ⟨fun a u e n => by rw [upd_ne (ne_of_none e hn)]; exact e, fun b z => z.elim (fun e => .inr (by rw [e]; exact hn)) .inl⟩
  have no : ∀ (i : Nat) (xs : List D), env[i]? = some (.o xs) → σ[i]? ≠ some (some (.ref p)) := fun i xs e z => by
    obtain ⟨a, vs, h1, h2⟩ := R.own i xs e
    rw [z] at h1
    cases h1
    have q := h2.at_
    rw [hn] at q; cases q
  refine ⟨⟨fun i d e => R.val_step step e, fun i xs e => ?_, R.inj, fun a ha z => ?_, fun a z => .inr (R.base a z), R.mt, R.trk0, R.ft0, fun a u e n => ?_, F.C.keep R.st (fun b u f e => ?_) (fun b f z => z.elim (fun e => absurd (by rw [← e]; exact f) nf) id), R.len⟩, nf, h0, no⟩
  · obtain ⟨a, vs, h1, h2⟩ := R.own i xs e
    exact ⟨a, vs, h1, .inr h2.mem, h2.new, by rw [upd_ne (ne_of_none h2.at_ hn)]; exact h2.at_, h2.len, h2.reps.step step⟩
  · by_cases q : a = p
    · rw [q, upd_same] at z; cases z
    · rw [upd_ne q] at z
      rcases ha with e | ha
      · exact q e
      · exact R.trk a ha z
  · rw [upd_ne (fun q => by rw [q, h0] at e; cases e)]; exact R.keep a u e n
  · rw [upd_ne (ne_of_none e hn)]; exact e
/-- an own list is changed -/
theorem RelS.updO (R : RelS F M env s σ H) {i : Nat} {xs ys : List D} {a : Addr} {us : List V} (hi : env[i]? = some (.o xs)) (hs : σ[i]? = some (some (.ref a))) (hl : ys.length ≤ sizeLine) (hr : Reps F.C.at_ M H ys us) :
    RelS F M (env.set i (.o ys)) s σ (upd H a (.lst us)) ∧ Step M H M (upd H a (.lst us)) := by
  obtain ⟨b, vs, h1, h2⟩ := R.own i xs hi
  rw [hs] at h1
  cases h1
  have step : Step M H M (upd H a (.lst us)) := ⟨fun b u e n => by rw [upd_ne (fun z => n (by rw [z]; exact h2.mem))]; exact e, fun _ z => .inl z⟩
  have nf : ¬ F.C.ft a := fun z => R.ft0 a z h2.new
  have hlt : i < env.length := (List.getElem?_eq_some_iff.mp hi).1
  refine ⟨⟨fun j d e => ?_, fun j zs e => ?_, fun j l zs ws c e1 e2 e3 e4 => ?_, fun b hb z => ?_, R.base, R.mt, R.trk0, R.ft0, fun b u e n => ?_, F.C.keep R.st (fun b u f e => ?_) (fun b _ z => z), by rw [List.length_set]; exact R.len⟩, step⟩
  · by_cases hj : i = j
    · subst hj
      rw [List.getElem?_set_self hlt] at e; cases e
    · rw [List.getElem?_set_ne hj] at e
      exact R.val_step step e
  · by_cases hj : i = j
    · subst hj
      rw [List.getElem?_set_self hlt] at e
      cases e
      exact ⟨a, us, hs, h2.mem, h2.new, upd_same, hl, hr.step step⟩
    · rw [List.getElem?_set_ne hj] at e
      obtain ⟨c, ws, g1, g2⟩ := R.own j zs e
      have hne : c ≠ a := fun z => hj (R.inj i j xs zs a hi e hs (by rw [← z]; exact g1))
      exact ⟨c, ws, g1, g2.mem, g2.new, by rw [upd_ne hne]; exact g2.at_, g2.len, g2.reps.step step⟩
  · have back : ∀ (j : Nat) (zs : List D), (env.set i (.o ys))[j]? = some (.o zs) → ∃ zs', env[j]? = some (.o zs') := fun j zs e => by
      by_cases hj : i = j
      · subst hj; exact ⟨xs, hi⟩
      · rw [List.getElem?_set_ne hj] at e; exact ⟨zs, e⟩
    obtain ⟨z1, q1⟩ := back j zs e1
    obtain ⟨z2, q2⟩ := back l ws e2
    exact R.inj j l z1 z2 c q1 q2 e3 e4
  · by_cases q : b = a
    · rw [q, upd_same] at z; cases z
    · rw [upd_ne q] at z; exact R.trk b hb z
  · rw [upd_ne (fun q => by rw [q, h2.new] at e; cases e)]; exact R.keep b u e n
  · rw [upd_ne (fun q => nf (by rw [← q]; exact f))]; exact e
/-- an own list is let go: a value from then on -/
@[simp] def frzE (i : Nat) (env : List Ent) : List Ent := match env[i]? with
  | some (.o xs) => env.set i (.v (.lst xs))
  | _ => env
theorem RelS.freeze (R : RelS F M env s σ H) (i : Nat) : ∃ M', Step M H M' H ∧ RelS F M' (frzE i env) s σ H := by
  unfold frzE
  cases hi : env[i]? with
  | none => exact ⟨M, Step.refl, R⟩
  | some e =>
    cases e with
    | no => exact ⟨M, Step.refl, R⟩
    | v d => exact ⟨M, Step.refl, R⟩
    | o xs =>
      obtain ⟨a, vs, h1, h2⟩ := R.own i xs hi
      have nf : ¬ F.C.ft a := fun z => R.ft0 a z h2.new
      have hlt : i < env.length := (List.getElem?_eq_some_iff.mp hi).1
      have step : Step M H (fun b => M b ∧ b ≠ a) H := ⟨fun _ _ e _ => e, fun b z => .inl z.1⟩
      refine ⟨fun b => M b ∧ b ≠ a, step, fun j d e => ?_, fun j zs e => ?_, fun j l zs ws c e1 e2 e3 e4 => ?_, fun b hb => R.trk b hb.1, fun b hb => ⟨R.base b hb, fun z => R.trk0 b hb (by rw [z]; exact h2.new)⟩, R.mt, R.trk0, R.ft0, R.keep, F.C.keep R.st (fun b u _ e => e) (fun b _ z => z.1), by rw [List.length_set]; exact R.len⟩
      · by_cases hj : i = j
        · subst hj
          rw [List.getElem?_set_self hlt] at e
          cases e
          exact ⟨.ref a, h1, a, vs, rfl, fun z => z.2 rfl, h2.at_, h2.len, h2.reps.step step⟩
        · rw [List.getElem?_set_ne hj] at e
          exact R.val_step step e
      · by_cases hj : i = j
        · subst hj
          rw [List.getElem?_set_self hlt] at e; cases e
        · rw [List.getElem?_set_ne hj] at e
          obtain ⟨c, ws, g1, g2⟩ := R.own j zs e
          have hne : c ≠ a := fun z => hj (R.inj i j xs zs a hi e h1 (by rw [← z]; exact g1))
          exact ⟨c, ws, g1, ⟨g2.mem, hne⟩, g2.new, g2.at_, g2.len, g2.reps.step step⟩
      · have back : ∀ (j : Nat) (zs : List D), (env.set i (.v (.lst xs)))[j]? = some (.o zs) → env[j]? = some (.o zs) := fun j zs e => by
          by_cases hj : i = j
          · subst hj; rw [List.getElem?_set_self hlt] at e; cases e
          · rw [List.getElem?_set_ne hj] at e; exact e
        exact R.inj j l zs ws c (back j zs e1) (back l ws e2) e3 e4

/-! ### targets -/
def OnlyAt (js : List Nat) (σ σ' : L2.St) : Prop := ∀ vs : List Nat, (∀ j ∈ js, j ∈ vs) → wipe σ' vs = wipe σ vs
theorem wipe_set {x : Option V} {i : Nat} {σ : L2.St} : ∀ {vs : List Nat}, i ∈ vs → wipe (σ.set i x) vs = wipe σ vs
  | [], h => by cases h
  | v :: vs, h => by
    show (wipe (σ.set i x) vs).set v none = (wipe σ vs).set v none
    by_cases hm : i ∈ vs
    · rw [wipe_set hm]
    · have e : i = v := by
        rcases List.mem_cons.mp h with e | h
        · exact e
        · exact absurd h hm
      subst e
      have aux : ∀ ws : List Nat, i ∉ ws → wipe (σ.set i x) ws = (wipe σ ws).set i x := fun ws => by
        induction ws with
        | nil => intro _; rfl
        | cons w ws ih =>
          intro hn
          show (wipe (σ.set i x) ws).set w none = ((wipe σ ws).set w none).set i x
          rw [ih fun z => hn (List.mem_cons_of_mem _ z), List.set_comm]
          exact fun z => hn (by rw [z]; exact List.mem_cons_self)
      rw [aux vs hm, List.set_set]
theorem wipe_wipe {σ : L2.St} : ∀ {ws vs : List Nat}, (∀ w ∈ ws, w ∈ vs) → wipe (wipe σ ws) vs = wipe σ vs
  | [], _, _ => rfl
  | w :: ws, vs, h => by
    show wipe ((wipe σ ws).set w none) vs = wipe σ vs
    rw [wipe_set (h w List.mem_cons_self), wipe_wipe fun x hx => h x (List.mem_cons_of_mem _ hx)]
abbrev Tg := D → List Ent → Option (List Ent)
abbrev Tgs := List D → List Ent → Option (List Ent)
def tgOf (F : Fx S) (js : List Nat) (g : Tg) : TG := fun v σ H Q => ∃ M env s d, RelS F M env s σ H ∧ Rep F.C.at_ M H d v ∧ ∃ env', g d env = some env' ∧ ∀ σ', RelS F M env' s σ' H → OnlyAt js σ σ' → Q σ' H
def tgsOf (F : Fx S) (js : List Nat) (g : Tgs) : TGs := fun vs σ H Q => ∃ M env s ds, RelS F M env s σ H ∧ Reps F.C.at_ M H ds vs ∧ ∃ env', g ds env = some env' ∧ ∀ σ', RelS F M env' s σ' H → OnlyAt js σ σ' → Q σ' H
abbrev DG (X : Cx) (F : Fx S) (js : List Nat) (tg : Expr) (g : Tg) : Prop := PG X tg (tgOf F js g)
abbrev DGs (X : Cx) (F : Fx S) (js : List Nat) (tgs : List Expr) (g : Tgs) : Prop := PGs X tgs (tgsOf F js g)
theorem pgImp {e : Expr} {t u : TG} (h : PG X e t) (k : ∀ v σ H Q, u v σ H Q → t v σ H Q) : PG X e u := ⟨fun pins s σ H v w Q I r q => h.run pins s σ H v w Q I r (k v σ H Q q)⟩
theorem pgsImp {e : List Expr} {t u : TGs} (h : PGs X e t) (k : ∀ v σ H Q, u v σ H Q → t v σ H Q) : PGs X e u := ⟨fun pins s σ H v w Q I r q => h.run pins s σ H v w Q I r (k v σ H Q q)⟩
@[simp] def gN (i : Nat) : Tg := fun d env => some (env.set i (.v d))
@[simp] def gNs0 : Tgs := fun ds env => match ds with
  | [] => some env
  | _ => none
@[simp] def gNs (g : Tg) (gs : Tgs) : Tgs := fun ds env => match ds with
  | d :: r => (g d env).bind fun e1 => gs r e1
  | _ => none
@[simp] def gT (gs : Tgs) : Tg := fun d env => match d with
  | .tup ds => gs ds env
  | _ => none
theorem dg_name (i : Nat) {x : Str} {pos : Pos} (hN : X.N.Nodup) (hi : X.N[i]? = some x := by rfl) (hx : Loc X.env.scope x := by first | exact Or.inl rfl | exact Or.inr rfl) (hf : X.fn x = true ∨ X.env.scope.names.lookup x = some .local := by first | exact .inl rfl | exact .inr rfl | assumption) : DG X F [i] (.Name x pos) (gN i) :=
  pgImp (pg_name hN hi hx hf) fun v σ H Q ⟨M, env, s, d, R, r, env', e, q⟩ => by
    cases e
    exact q _ (R.setV r) fun vs hv => wipe_set (hv i List.mem_cons_self)
theorem dgs_nil : DGs X F [] [] gNs0 := pgsImp pgs_nil fun vs σ H Q ⟨M, env, s, ds, R, r, env', e, q⟩ => by
  cases ds with
  | nil =>
    cases e
    exact ⟨r, q σ R fun _ _ => rfl⟩
  | cons _ _ => cases e
theorem dgs_cons {e : Expr} {es : List Expr} {g : Tg} {gs : Tgs} {js ks : List Nat} (h1 : DG X F js e g) (h2 : DGs X F ks es gs) (hs : (assignEach (e :: es) X.env).map (·.2) = assign e X.env :: (assignEach es X.env).map (·.2) := by rfl) : DGs X F (js ++ ks) (e :: es) (gNs g gs) :=
  pgsImp (pgs_cons h1 h2 hs) fun vs σ H Q ⟨M, env, s, ds, R, r, env', e, q⟩ => by
    cases ds with
    | nil => cases e
    | cons d ds =>
      obtain ⟨v, vr, rfl, r1, r2⟩ := r
      have e' : (g d env).bind (fun e1 => gs ds e1) = some env' := e
      cases eg : g d env with
      | none => rw [eg] at e'; cases e'
      | some e1 =>
        rw [eg] at e'
        refine ⟨v, vr, rfl, M, env, s, d, R, r1, e1, eg, fun σ1 R1 o1 => ⟨M, e1, s, ds, R1, r2, env', e', fun σ2 R2 o2 => q σ2 R2 fun ws hw => ?_⟩⟩
        rw [o2 ws fun j hj => hw j (List.mem_append_right _ hj), o1 ws fun j hj => hw j (List.mem_append_left _ hj)]
theorem gsLen {n : Nat} : ∀ {gs : Tgs} {ds : List D} {env env' : List Ent}, (∀ ds env env', gs ds env = some env' → ds.length = n) → gs ds env = some env' → ds.length = n := fun h e => h _ _ _ e
/-- how many a tuple's target takes -/
def Takes_ (n : Nat) (gs : Tgs) : Prop := ∀ ds env env', gs ds env = some env' → ds.length = n
theorem takes0_ : Takes_ 0 gNs0 := fun ds env env' e => by
  cases ds with
  | nil => rfl
  | cons _ _ => cases e
theorem takes1_ {n : Nat} {g : Tg} {gs : Tgs} (h : Takes_ n gs) : Takes_ (n + 1) (gNs g gs) := fun ds env env' e => by
  cases ds with
  | nil => cases e
  | cons d ds =>
    have e' : (g d env).bind (fun e1 => gs ds e1) = some env' := e
    cases eg : g d env with
    | none => rw [eg] at e'; cases e'
    | some e1 =>
      rw [eg] at e'
      rw [List.length_cons, h ds e1 env' e']
theorem dg_tup {es : List Expr} {k n : Nat} {gs : Tgs} {js : List Nat} {pos : Pos} (h : DGs X F js es gs) (ht : Takes_ n gs) (hc : X.calm = true := by rfl) (hn : (assignEach es X.env).length = n := by rfl) (hst : (assignEach es X.env).findIdx? (·.1) = none := by rfl) : DG X F js (.Tuple es k pos) (gT gs) :=
  pgImp (pg_tup hc h hn hst) fun v σ H Q ⟨M, env, s, d, R, r, env', e, q⟩ => by
    cases d with
    | tup ds =>
      obtain ⟨a, vs, rfl, na, ha, la, ra⟩ := r
      exact ⟨a, vs, rfl, SqT.of ha, by rw [ra.length]; exact ht ds env env' e, M, env, s, ds, R, ra, env', e, q⟩
    | _ => cases e

/-! ### what a for goes over -/
/-- J goes over ds, in every heap that is ok -/
structure IterOk (o : Addr) (ok : (Addr → Prop) → Hp → Prop) (ds : List D) (J : It) : Prop where
  ex : ∃ (G : Hp → Prop) (Y : Nat → Hp → V → Hp → Prop), Walk J ds.length G Y ∧ (∀ M2 H2, ok M2 H2 → G H2) ∧
    ∀ i M2 H2 x H3, i < ds.length → ok M2 H2 → (∀ a, M2 a → H2 a ≠ none) → Y i H2 x H3 → Same H2 H3 ∧ ∃ d, ds[i]? = some d ∧ Rep o M2 H3 d x
  len : ds.length ≤ sizeLine
theorem IterOk.mono {o : Addr} {ok ok' : (Addr → Prop) → Hp → Prop} {ds : List D} {J : It} (h : IterOk o ok ds J) (k : ∀ M H, ok' M H → ok M H) : IterOk o ok' ds J := by
  obtain ⟨⟨G, Y, w, g, y⟩, l⟩ := h
  exact ⟨⟨G, Y, w, fun M2 H2 z => g M2 H2 (k _ _ z), fun i M2 H2 x H3 hi z t q => y i M2 H2 x H3 hi (k _ _ z) t q⟩, l⟩
def okF (M : Addr → Prop) (H : Hp) : (Addr → Prop) → Hp → Prop := fun M2 H2 => Step M H M2 H2
def okC (F : Fx S) (M : Addr → Prop) (H : Hp) : (Addr → Prop) → Hp → Prop := fun M2 H2 => Step M H M2 H2 ∧ Keep F.C.mt H H2
/-- of a for; of a comprehension -/
def PI_ (F : Fx S) : Brs (List D) It := fun M _ H ds J => IterOk F.C.at_ (okF M H) ds J
def PJ_ (F : Fx S) : Brs (List D) It := fun M _ H ds J => IterOk F.C.at_ (okC F M H) ds J
instance {mt : Addr → Prop} : PMono mt (PI_ F) := ⟨fun _ h => h⟩
instance {mt : Addr → Prop} : PMono mt (PJ_ F) := ⟨fun _ h => h⟩
abbrev DI (X : Cx) (F : Fx S) (W : Wish S) (tg it : Expr) (m : XM S (List D)) : Prop := PI X tg it (tOf F W (PI_ F) m)
abbrev DJ (X : Cx) (F : Fx S) (W : Wish S) (tg it : Expr) (m : XM S (List D)) : Prop := PI X tg it (tOf F W (PJ_ F) m)
theorem piImp {tg e : Expr} {t u : TI} (h : PI X tg e t) (k : ∀ σ H Q, u σ H Q → t σ H Q) : PI X tg e u := ⟨fun pins s σ H Q I q => h.run pins s σ H Q I (k σ H Q q)⟩
theorem piOr {tg e : Expr} {t u : TI} (h : PI X tg e t) (h' : PI X tg e u) : PI X tg e (fun σ H Q => t σ H Q ∨ u σ H Q) := ⟨fun pins s σ H Q I q => q.elim (h.run pins s σ H Q I) (h'.run pins s σ H Q I)⟩
theorem dj_of {tg e : Expr} {m : XM S (List D)} (h : DI X F W tg e m) : DJ X F W tg e m := piImp h fun σ H Q ⟨M, env, s, R, q⟩ =>
  ⟨M, env, s, R, Sat.mono q fun d s' v H' R' k p j => j v H' R' k (p.mono fun _ _ z => z.1)⟩
theorem walk_seq_ok {o : Addr} {K : PySem.W.Frag} {a : Addr} {ds : List D} {vs : List V} {ok : (Addr → Prop) → Hp → Prop} (r : ∀ M2 H2, ok M2 H2 → Reps o M2 H2 ds vs) (hl : ds.length ≤ sizeLine) (hv : vs.length = ds.length) (h : ∀ M2 H2, ok M2 H2 → H2 a = some (.lst vs)) : IterOk o ok ds (Itl K a) :=
  ⟨⟨_, _, hv ▸ walk_list (K := K) (a := a) (xs := vs), fun M2 H2 z => SqL.of (h M2 H2 z), fun i M2 H2 x H3 hi z t q => by
    obtain ⟨rfl, e⟩ := q
    exact ⟨Same.refl _, (r M2 H3 z).get e⟩⟩, hl⟩
theorem walk_seq_okT {o : Addr} {K : PySem.W.Frag} {a : Addr} {ds : List D} {vs : List V} {ok : (Addr → Prop) → Hp → Prop} (r : ∀ M2 H2, ok M2 H2 → Reps o M2 H2 ds vs) (hl : ds.length ≤ sizeLine) (hv : vs.length = ds.length) (h : ∀ M2 H2, ok M2 H2 → H2 a = some (.tup vs)) : IterOk o ok ds (Itt K a) :=
  ⟨⟨_, _, hv ▸ walk_tup (K := K) (a := a) (xs := vs), fun M2 H2 z => SqT.of (h M2 H2 z), fun i M2 H2 x H3 hi z t q => by
    obtain ⟨rfl, e⟩ := q
    exact ⟨Same.refl _, (r M2 H3 z).get e⟩⟩, hl⟩
def mItems (m : XM S D) : XM S (List D) := fun env s => (m env s).bind fun d s1 => ret? (dItems d) s1
theorem di_seq {tg e : Expr} {m : XM S D} (h : DE X F W e m) : DI X F W tg e (mItems m) := piImp (piOr (pi_list h) (pi_tup h)) fun σ H Q ⟨M, env, s, R, q⟩ => by
  cases hm : m env s with
  | bad => unfold mItems at q; rw [hm] at q; exact q.elim
  | exc c s1 =>
    refine .inl ⟨M, env, s, R, ?_⟩
    unfold mItems at q; rw [hm] at q
    rw [hm]; exact q
  | ok d s1 =>
    unfold mItems at q; rw [hm] at q
    cases d with
    | tup ds =>
      refine .inr ⟨M, env, s, R, ?_⟩
      rw [hm]
      intro v H' R' k p
      obtain ⟨a, vs, rfl, na, ha, la, ra⟩ := p
      exact ⟨a, rfl, ⟨vs, SqT.of ha⟩, q _ H' R' k (walk_seq_okT (fun M2 H2 z => ra.step z) la ra.length fun M2 H2 z => z.kp a _ ha na)⟩
    | lst ds =>
      refine .inl ⟨M, env, s, R, ?_⟩
      rw [hm]
      intro v H' R' k p
      obtain ⟨a, vs, rfl, na, ha, la, ra⟩ := p
      exact ⟨a, rfl, ⟨vs, SqL.of ha⟩, q _ H' R' k (walk_seq_ok (fun M2 H2 z => ra.step z) la ra.length fun M2 H2 z => z.kp a _ ha na)⟩
    | _ => exact q.elim
theorem dj_seq {tg e : Expr} {m : XM S D} (h : DV X F W e m) : DJ X F W tg e (mItems m) := piImp (piOr (pi_list h) (pi_tup h)) fun σ H Q ⟨M, env, s, R, q⟩ => by
  cases hm : m env s with
  | bad => unfold mItems at q; rw [hm] at q; exact q.elim
  | exc c s1 =>
    refine .inl ⟨M, env, s, R, ?_⟩
    unfold mItems at q; rw [hm] at q
    rw [hm]; exact q
  | ok d s1 =>
    unfold mItems at q; rw [hm] at q
    cases d with
    | tup ds =>
      refine .inr ⟨M, env, s, R, ?_⟩
      rw [hm]
      intro v H' R' k p
      obtain ⟨a, vs, rfl, na, ha, la, ra⟩ := p
      exact ⟨a, rfl, ⟨vs, SqT.of ha⟩, q _ H' R' k (walk_seq_okT (fun M2 H2 z => ra.step z.1) la ra.length fun M2 H2 z => z.1.kp a _ ha na)⟩
    | lst ds =>
      refine .inl ⟨M, env, s, R, ?_⟩
      rw [hm]
      intro v H' R' k p
      obtain ⟨a, vs, rfl, na, ha, la, ra⟩ := p
      exact ⟨a, rfl, ⟨vs, SqL.of ha⟩, q _ H' R' k (walk_seq_ok (fun M2 H2 z => ra.step z.1) la ra.length fun M2 H2 z => z.2 a _ ha na)⟩
    | _ => exact q.elim
/-! range -/
theorem walk_rg_ok {o : Addr} {ok : (Addr → Prop) → Hp → Prop} {a b : Int} (h : rgOk a b = true) : IterOk o ok (rangeD a b) (Itr a (b - a).toNat) :=
  ⟨⟨fun _ => True, YFn fun i => .int (a + i), by rw [rangeD_length]; exact walk_range, fun _ _ _ => trivial, fun i M2 H2 x H3 hi z t q => by
    obtain ⟨rfl, e⟩ := q
    refine ⟨Same.refl _, .int (a + i), ?_, e⟩
    have hi' : i < (b - a).toNat := by rw [rangeD_length] at hi; exact hi
    unfold rangeD
    rw [List.getElem?_map, List.getElem?_range hi']
    rfl⟩, by rw [rangeD_length]; have := (rgOk_ok h).2.2.2.2; rw [line_eq]; omega⟩
section
variable {a b tg : Expr} {ma mb : XM S D} {p pos : Pos}
theorem di_range1 (hm : X.mg "range" = none) (ha : DV X F W a ma) (hg : Gl X "range" := by rfl) (hs : starEach [a] X.env = [(false, eval a X.env)] := by rfl) : DI X F W tg (.Call (.Name "range" p) [a] [] pos) (mRange (mEnds1 ma)) :=
  piImp (pi_range1 hg hm (pa_cons ha pa_nil hs) hs) fun σ H Q ⟨M, env, s, R, h⟩ => by
    have h' : Sat F M env σ H (PI_ F) ((ma env s).bind fun d s1 => match d with
      | .int n => ret? (dRange (0, n)) s1
      | _ => .bad) Q W := by
      have e : mRange (mEnds1 ma) env s = ((ma env s).bind fun d s1 => match d with
        | .int n => ret? (dRange (0, n)) s1
        | _ => .bad) := by
        unfold mRange mEnds1
        cases ma env s with
        | ok d s1 => cases d <;> rfl
        | _ => rfl
      rw [← e]; exact h
    refine ⟨M, env, s, R, Sat.bind h' fun d s1 v H1 R1 k1 p1 h1 => ?_⟩
    cases d with
    | int n =>
      rw [show v = .int n from p1]
      unfold dRange at h1
      by_cases hk : rgOk 0 n = true
      · have h1' : Sat F M env σ H1 (PI_ F) (.ok (rangeD 0 n) s1) Q W := by simpa [hk] using h1
        have ok := rgOk_ok hk
        refine ⟨n, rfl, ok.2.2.1, ok.2.2.2.1, ?_⟩
        have q := h1' _ H1 R1 Keep.refl (walk_rg_ok hk)
        simpa using q
      · have h1' : Sat F M env σ H1 (PI_ F) (.bad) Q W := by simpa [hk] using h1
        exact h1'.elim
    | _ => exact h1.elim
theorem di_range2 (hm : X.mg "range" = none) (ha : DV X F W a ma) (hb : DV X F W b mb) (hg : Gl X "range" := by rfl) (hs : starEach [a, b] X.env = [(false, eval a X.env), (false, eval b X.env)] := by rfl) (hs2 : starEach [b] X.env = [(false, eval b X.env)] := by rfl) : DI X F W tg (.Call (.Name "range" p) [a, b] [] pos) (mRange (mEnds2 ma mb)) :=
  piImp (pi_range2 hg hm (pa_cons ha (pa_cons hb pa_nil hs2) (by rw [hs, hs2])) hs hs2) fun σ H Q ⟨M, env, s, R, h⟩ => by
    have h' : Sat F M env σ H (PI_ F) ((ma env s).bind fun d s1 => (mb env s1).bind fun d2 s2 => match d, d2 with
      | .int a, .int b => ret? (dRange (a, b)) s2
      | _, _ => .bad) Q W := by
      have e : mRange (mEnds2 ma mb) env s = ((ma env s).bind fun d s1 => (mb env s1).bind fun d2 s2 => match d, d2 with
        | .int a, .int b => ret? (dRange (a, b)) s2
        | _, _ => .bad) := by
        unfold mRange mEnds2
        cases ma env s with
        | ok d s1 =>
          simp only [Res.bind_ok]
          cases mb env s1 with
          | ok d2 s2 => simp only [Res.bind_ok]; cases d <;> cases d2 <;> rfl
          | _ => rfl
        | _ => rfl
      rw [← e]; exact h
    refine ⟨M, env, s, R, Sat.bind h' fun d s1 v H1 R1 k1 p1 h1 => ?_⟩
    refine ⟨M, env, s1, R1, Sat.bind h1 fun d2 s2 v2 H2 R2 k2 p2 h2 => ?_⟩
    have p1' : RepV F M H2 d v := RepV.stay R1.mutM p1 k2
    cases d with
    | int i =>
      cases d2 with
      | int j =>
        rw [show v = .int i from p1', show v2 = .int j from p2]
        unfold dRange at h2
        by_cases hk : rgOk i j = true
        · have h1' : Sat F M env σ H2 (PI_ F) (.ok (rangeD i j) s2) Q W := by simpa [hk] using h2
          have ok := rgOk_ok hk
          exact ⟨i, j, rfl, ⟨ok.1, ok.2.1, ok.2.2.1, ok.2.2.2.1⟩, h1' _ H2 R2 Keep.refl (walk_rg_ok hk)⟩
        · have h1' : Sat F M env σ H2 (PI_ F) (.bad) Q W := by simpa [hk] using h2
          exact h1'.elim
      | _ => exact h2.elim
    | _ => exact h2.elim
end
end
end L3
namespace L3
open PySem PySem.Spec L2
section
variable {S α β γ δ : Type} {F : Fx S} {M M' : Addr → Prop} {env env' : List Ent} {s s' : S} {σ σ' : L2.St} {H H' : Hp} {W : Wish S} {X : Cx}
/-! ### list comprehensions -/
def noExc (r : Res α S) : Res α S := match r with
  | .ok a s => .ok a s
  | _ => .bad
@[simp] theorem noExc_ok (a : α) (s : S) : noExc (Res.ok a s) = .ok a s := rfl
@[simp] theorem noExc_bad : noExc (Res.bad : Res α S) = .bad := rfl
abbrev W0 : Wish S := fun _ _ _ => False
theorem Sat.bindN {P : Brs α β} {P' : Brs γ δ} {Q : β → Hp → Prop} {Q' : δ → Hp → Prop} {M2 : Addr → Prop} {env2 : List Ent} {σ2 : L2.St} {H2 : Hp} {r : Res α S} {f : α → S → Res γ S} (h : Sat F M env σ H P' ((noExc r).bind f) Q' W)
    (k : ∀ d s' v H', r = .ok d s' → RelS F M2 env2 s' σ2 H' → Keep F.C.mt H2 H' → P M2 H2 H' d v → Sat F M env σ H P' (f d s') Q' W → Q v H') : Sat F M2 env2 σ2 H2 P r Q W0 := by
  cases r with
  | ok d s' => exact fun v H' R kp p => k d s' v H' rfl R kp p h
  | exc c s' => exact h.elim
  | bad => exact h
def compL (g : Tg) (mt : XM S Bool) (me : XM S D) (env : List Ent) : List D → S → Res (List D) S
  | [], s => .ok [] s
  | d :: ds, s => match g d env with
    | none => .bad
    | some e1 => (noExc (mt e1 s)).bind fun b s1 => if b = true then (noExc (me e1 s1)).bind fun y s2 => (compL g mt me env ds s2).bind fun ys s3 => .ok (y :: ys) s3 else compL g mt me env ds s1
@[simp] def wipeE (env : List Ent) : List Nat → List Ent
  | [] => env
  | v :: vs => (wipeE env vs).set v .no
def mComp (vs : List Nat) (mi : XM S (List D)) (g : Tg) (mt : XM S Bool) (me : XM S D) : XM S (List D) := fun env s => (mi env s).bind fun ds s1 => compL g mt me (wipeE env vs) ds s1
theorem RelS.wipe (R : RelS F M env s σ H) : ∀ vs : List Nat, RelS F M (wipeE env vs) s (L2.wipe σ vs) H
  | [] => R
  | v :: vs => (RelS.wipe R vs).setNo
abbrev DTs (X : Cx) (F : Fx S) (W : Wish S) (ifs : List Expr) (m : XM S Bool) : Prop := PTs X ifs (tOf F W PB_ m)
def mYes : XM S Bool := fun _ s => .ok true s
theorem ptsImp {e : List Expr} {t u : TT} (h : PTs X e t) (k : ∀ σ H Q, u σ H Q → t σ H Q) : PTs X e u := ⟨fun pins s σ H Q I q => h.run pins s σ H Q I (k σ H Q q)⟩
theorem dts_nil : DTs X F W [] mYes := ptsImp pts_nil fun σ H Q ⟨M, env, s, R, h⟩ => h _ H R Keep.refl rfl
theorem dts_one {c : Expr} {m : XM S Bool} (h : DT X F W c m) : DTs X F W [c] m := pts_one h
theorem bind_assoc_ok {r : Res (List D) S} {acc : List D} {y : D} : ((r.bind fun ys s3 => Res.ok (y :: ys) s3).bind fun ys s3 => Res.ok (acc ++ ys) s3) = r.bind fun ys s3 => .ok ((acc ++ [y]) ++ ys) s3 := by
  cases r with
  | ok a s => simp
  | _ => rfl
/-- what a comprehension's turn keeps -/
structure CInv (F : Fx S) (M : Addr → Prop) (env : List Ent) (σ : L2.St) (H1 : Hp) (D_ : Addr) (vs : List Nat) (g : Tg) (mt : XM S Bool) (me : XM S D) (Q : V → Hp → Prop) (W : Wish S) (Hs : Hp) (ds : List D) (i : Nat) (H : Hp) : Prop where
  ex : ∃ (s : S) (acc : List D) (va : List V), RelS F (insM M D_) (wipeE env vs) s (L2.wipe σ vs) H ∧ H D_ = some (.lst va) ∧ Reps F.C.at_ (insM M D_) H acc va ∧ acc.length ≤ i ∧
    Keep F.C.mt H1 H ∧ Sat F M env σ Hs (PF_ F) ((compL g mt me (wipeE env vs) (ds.drop i) s).bind fun ys s3 => .ok (acc ++ ys) s3) Q W
theorem comp_key {mi : XM S (List D)} {g : Tg} {js : List Nat} {mt : XM S Bool} {me : XM S D} {vs : List Nat} (hj : ∀ j ∈ js, j ∈ vs) : ∀ σ Hs (Q : VK), tOf F W (PF_ F) (mComp vs mi g mt me) σ Hs Q → tLc (tOf F W (PJ_ F) mi) (tgOf F js g) (tOf F W0 PB_ mt) (tOf F W0 (PE_ F) me) vs σ Hs Q := fun σ Hs Q ⟨M, env, s, R, h⟩ => by
  refine ⟨M, env, s, R, Sat.bind0 h fun ds s1 J H1 _ R1 k1 p1 h1 => ?_⟩
  intro D_ hD
  obtain ⟨⟨G, Y, w, hG, hY⟩, hl⟩ := p1
  obtain ⟨R2, nf, h0, no⟩ := R1.enter (us := []) hD
  have nm : ¬ F.C.mt D_ := fun z => nf (F.C.sub _ z)
  have step1 : Step M H1 (insM M D_) (upd H1 D_ (.lst [])) := ⟨fun a u e n => by rw [upd_ne (ne_of_none e hD)]; exact e, fun b z => z.elim (fun e => .inr (by rw [e]; exact hD)) .inl⟩
  have now : ∀ (i : Nat) (xs : List D), (wipeE env vs)[i]? = some (.o xs) → (L2.wipe σ vs)[i]? ≠ some (some (.ref D_)) := fun i xs e z => by
    obtain ⟨a, us, e1, e2⟩ := (R1.wipe vs).own i xs e
    rw [z] at e1
    cases e1
    have q := e2.at_
    rw [hD] at q; cases q
  have okAt : ∀ H, Keep F.C.mt H1 H → okC F M H1 (insM M D_) H := fun H k => ⟨⟨fun a u e n => k a u e fun z => n (R1.mutM a z), step1.gr⟩, k⟩
  refine lc_it w (Pv := CInv F M env σ H1 D_ vs g mt me Q W Hs ds) ⟨s1, [], [], R2.wipe vs, upd_same, rfl, Nat.zero_le _, Keep.upd hD, ?_⟩ (fun i H hi ⟨s2, acc, va, _, _, _, _, kH, _⟩ => hG _ H (okAt H kH)) (fun i x H H' hi ⟨s2, acc, va, R3, hD3, ra, la, kH, hsat⟩ hy => ?_) (fun H ⟨s2, acc, va, R3, hD3, ra, la, kH, hsat⟩ => ?_)
  · show Sat F M env σ Hs (PF_ F) ((compL g mt me (wipeE env vs) ds s1).bind fun ys s3 => .ok ys s3) Q W
    cases e : compL g mt me (wipeE env vs) ds s1 with
    | _ => rw [e] at h1; exact h1
  · obtain ⟨sm, d, hd, rd⟩ := hY i (insM M D_) H x H' hi (okAt H kH) R3.trk hy
    have R4 := R3.same sm
    have hdrop : ds.drop i = d :: ds.drop (i + 1) := by
      have hlt : i < ds.length := hi
      rw [List.drop_eq_getElem_cons hlt]
      rw [List.getElem?_eq_getElem hlt] at hd
      cases hd
      rfl
    rw [hdrop] at hsat
    unfold compL at hsat
    cases hgd : g d (wipeE env vs) with
    | none => rw [hgd] at hsat; exact hsat.elim
    | some e1 =>
      rw [hgd] at hsat
      refine ⟨insM M D_, wipeE env vs, s2, d, R4, rd, e1, hgd, fun σ2 R5 o5 => ⟨?_, ?_⟩⟩
      · rw [o5 vs hj, wipe_wipe fun _ z => z]
      · have hsat2 : Sat F M env σ Hs (PF_ F) ((noExc (mt e1 s2)).bind fun b s1 => (if b = true then (noExc (me e1 s1)).bind fun y s2 => (compL g mt me (wipeE env vs) (ds.drop (i + 1)) s2).bind fun ys s3 => .ok (y :: ys) s3 else compL g mt me (wipeE env vs) (ds.drop (i + 1)) s1).bind fun ys s3 => .ok (acc ++ ys) s3) Q W := by
          have e : (Res.bind ((noExc (mt e1 s2)).bind fun b s1 => if b = true then (noExc (me e1 s1)).bind fun y s2 => (compL g mt me (wipeE env vs) (ds.drop (i + 1)) s2).bind fun ys s3 => .ok (y :: ys) s3 else compL g mt me (wipeE env vs) (ds.drop (i + 1)) s1) fun ys s3 => .ok (acc ++ ys) s3) = ((noExc (mt e1 s2)).bind fun b s1 => (if b = true then (noExc (me e1 s1)).bind fun y s2 => (compL g mt me (wipeE env vs) (ds.drop (i + 1)) s2).bind fun ys s3 => .ok (y :: ys) s3 else compL g mt me (wipeE env vs) (ds.drop (i + 1)) s1).bind fun ys s3 => .ok (acc ++ ys) s3) := by
            cases noExc (mt e1 s2) <;> rfl
          rw [← e]; exact hsat
        refine ⟨insM M D_, e1, s2, R5, Sat.bindN hsat2 fun b s3 b' H3 _ R6 k6 p6 hs3 => ?_⟩
        cases (show b = b' from p6)
        have kA : Keep F.C.mt H1 H3 := (kH.trans (Same.toKeep sm)).trans k6
        have hD6 : H3 D_ = some (.lst va) := k6 D_ _ (sm _ _ hD3) nm
        have stA : Step (insM M D_) H (insM M D_) H3 := ((Same.toKeep sm : Keep F.C.mt H H').trans k6).step R3.mutM
        cases b with
        | false =>
          refine iteF ⟨s3, acc, va, R3.stay ((Same.toKeep sm).trans k6) R6.st, hD6, ra.step stA, Nat.le_succ_of_le la, kA, ?_⟩
          simpa using hs3
        | true =>
          refine iteT ⟨insM M D_, e1, s3, R6, Sat.bindN (f := fun y s2 => ((compL g mt me (wipeE env vs) (ds.drop (i + 1)) s2).bind fun ys s3 => .ok (y :: ys) s3).bind fun ys s3 => .ok (acc ++ ys) s3) (P' := PF_ F) (Q' := Q) (W := W) (M := M) (env := env) (σ := σ) (H := Hs) ?_ fun y s4 vy H4 _ R7 k7 p7 hs4 => ?_⟩
          · have e : (((noExc (me e1 s3)).bind fun y s2 => (compL g mt me (wipeE env vs) (ds.drop (i + 1)) s2).bind fun ys s3 => Res.ok (y :: ys) s3).bind fun ys s3 => Res.ok (acc ++ ys) s3) = ((noExc (me e1 s3)).bind fun y s2 => ((compL g mt me (wipeE env vs) (ds.drop (i + 1)) s2).bind fun ys s3 => Res.ok (y :: ys) s3).bind fun ys s3 => .ok (acc ++ ys) s3) := by
              cases noExc (me e1 s3) <;> rfl
            rw [← e]
            simpa using hs3
          · have hD7 : H4 D_ = some (.lst va) := k7 D_ _ hD6 nm
            have stB : Step (insM M D_) H (insM M D_) H4 := (((Same.toKeep sm : Keep F.C.mt H H').trans k6).trans k7).step R3.mutM
            have kB : Keep F.C.mt H1 H4 := kA.trans k7
            have ra' := ra.step stB
            have hlt : acc.length < sizeLine := Nat.lt_of_le_of_lt la (Nat.lt_of_lt_of_le hi hl)
            have R8 : RelS F (insM M D_) (wipeE env vs) s4 (L2.wipe σ vs) H4 := R3.stay (((Same.toKeep sm).trans k6).trans k7) R7.st
            have R9 := R8.updM (us := va ++ [vy]) (.inl rfl) nf h0 now
            have stC : Step (insM M D_) H4 (insM M D_) (upd H4 D_ (.lst (va ++ [vy]))) := ⟨fun a u e n => by rw [upd_ne (fun z => n (.inl z))]; exact e, fun _ z => .inl z⟩
            refine ⟨va, hD7, by rw [ra'.length]; exact hlt, s4, acc ++ [y], va ++ [vy], R9, upd_same, (ra'.append (Reps.one p7)).step stC, ?_, fun a u e n => ?_, ?_⟩
            · rw [List.length_append, List.length_singleton]; omega
            · rw [upd_ne (ne_of_none e hD)]; exact kB a u e n
            · rw [← bind_assoc_ok]; exact hs4
  · have hd : ds.drop ds.length = [] := List.drop_length
    rw [hd] at hsat
    have hsat' : Sat F M env σ Hs (PF_ F) (.ok (acc ++ []) s2) Q W := hsat
    rw [List.append_nil] at hsat'
    have R' : RelS F M env s2 σ H := R1.stay kH (F.C.keep R3.st (fun b u _ e => e) fun b _ z => .inr z)
    refine hsat' _ H R' (k1.trans kH) ⟨D_, va, rfl, ?_, nm, hD3, Nat.le_trans la hl, ra⟩
    cases q : Hs D_ with
    | none => rfl
    | some u => rw [k1 D_ u q nm] at hD; cases hD
theorem df_comp {elt tg iter : Expr} {ifs : List Expr} {scope : Scope} {own : List (Str × Nat)} {pos : Pos} {mi : XM S (List D)} {g : Tg} {js : List Nat} {mt : XM S Bool} {me : XM S D} (hN : X.N.Nodup) (hi : DJ X F W tg iter mi) (ok : BlkOk X.N X.env.scope scope own)
    (hg : ∀ (s : Shared) (H : Hp) (C : Addr) (cl : List (Str × Addr)) (fp : List Addr), DG (X.blk s H scope (compEnvC scope cl C X.env) fp) F js tg g)
    (ht : ∀ (s : Shared) (H : Hp) (C : Addr) (cl : List (Str × Addr)) (fp : List Addr), DTs (X.blk s H scope (compEnvC scope cl C X.env) fp) F W0 ifs mt)
    (he : ∀ (s : Shared) (H : Hp) (C : Addr) (cl : List (Str × Addr)) (fp : List Addr), DE (X.blk s H scope (compEnvC scope cl C X.env) fp) F W0 elt me)
    (hj : ∀ j ∈ js, j ∈ own.map (·.2) := by decide) (hc : X.calm = true := by rfl) (hs : ∀ x, foldedSetIterable iter X.env x = pure x := by intro _; rfl) :
    DF X F W (.ListComp elt [⟨tg, iter, ifs, 0⟩] scope pos) (mComp (own.map (·.2)) mi g mt me) := peImp (pe_lc hc hN hi ok hg ht he hs) (comp_key hj)
end
end L3
namespace L3
open PySem PySem.Spec L2
inductive Fl where
  | nx | rt (d : D) | rf (ds : List D) | bk | ct
abbrev SM (S : Type) := List Ent → S → Res (Fl × List Ent) S
section
variable {S α β γ δ : Type} {F : Fx S} {M M' : Addr → Prop} {env env' : List Ent} {s s' : S} {σ σ' : L2.St} {H H' : Hp} {W : Wish S} {X : Cx}
/-- behind a statement -/
def SatS (F : Fx S) (M : Addr → Prop) (H : Hp) (r : Res (Fl × List Ent) S) (Dn : Ends) (W : Wish S) : Prop :=
  match r with
  | .ok (fl, env') s' => ∀ M' σ' H', RelS F M' env' s' σ' H' → Step M H M' H' → (match fl with
    | .nx => Dn.nx σ' H'
    | .bk => Dn.bk σ' H'
    | .ct => Dn.ct σ' H'
    | .rt d => ∀ v, Rep F.C.at_ M' H' d v → Dn.rt v H'
    | .rf ds => ∀ v, PF_ F M' F.H0 H' ds v → Dn.rt v H')
  | .exc c s' => ∀ M' env' σ' H', RelS F M' env' s' σ' H' → W c s' H'
  | .bad => False
def tsOf (F : Fx S) (W : Wish S) (m : SM S) : TS := fun Dn σ H => ∃ M env s, RelS F M env s σ H ∧ SatS F M H (m env s) Dn W
abbrev DS (X : Cx) (F : Fx S) (W : Wish S) (st : Stmt) (m : SM S) : Prop := PS X st (tsOf F W m)
abbrev DSs (X : Cx) (F : Fx S) (W : Wish S) (st : List Stmt) (m : SM S) : Prop := PSs X st (tsOf F W m)
theorem SatS.later {r : Res (Fl × List Ent) S} {Dn : Ends} (h : SatS F M H r Dn W) (st : Step M H M' H') : SatS F M' H' r Dn W := by
  cases r with
  | ok p s' => exact fun M2 σ2 H2 R2 st2 => h M2 σ2 H2 R2 (st.trans st2)
  | exc c s' => exact h
  | bad => exact h
/-- an expression first -/
theorem SatS.bind {P : Brs α β} {Dn : Ends} {Q : β → Hp → Prop} {r : Res α S} {f : α → S → Res (Fl × List Ent) S} (h : SatS F M H (r.bind f) Dn W) (hm : ∀ a, F.C.mt a → M a)
    (k : ∀ d s' v H', r = .ok d s' → RelS F M env s' σ H' → Keep F.C.mt H H' → P M H H' d v → SatS F M H' (f d s') Dn W → Q v H') : Sat F M env σ H P r Q W := by
  cases r with
  | ok d s' => exact fun v H' R kp p => k d s' v H' rfl R kp p (SatS.later h (kp.step hm))
  | exc c s' => exact fun H' R => h M env σ H' R
  | bad => exact h

def mSkip : SM S := fun env s => .ok (.nx, env) s
def mSeq (m1 m2 : SM S) : SM S := fun env s => (m1 env s).bind fun p s1 => match p.1 with
  | .nx => m2 p.2 s1
  | fl => .ok (fl, p.2) s1
theorem dss_nil : DSs X F W [] mSkip := pssImp pss_nil fun Dn σ H ⟨M, env, s, R, h⟩ => h M σ H R Step.refl
theorem SatS.seq {m1 m2 : SM S} {Dn : Ends} (h : SatS F M H (mSeq m1 m2 env s) Dn W) : SatS F M H (m1 env s) { Dn with nx := tsOf F W m2 Dn } W := by
  unfold mSeq at h
  cases e : m1 env s with
  | bad => rw [e] at h; exact h
  | exc c s1 => rw [e] at h; exact h
  | ok p s1 =>
    rw [e] at h
    obtain ⟨fl, e1⟩ := p
    intro M' σ' H' R' st
    cases fl with
    | nx => exact ⟨M', e1, s1, R', SatS.later h st⟩
    | bk => exact h M' σ' H' R' st
    | ct => exact h M' σ' H' R' st
    | rt d => exact h M' σ' H' R' st
    | rf d => exact h M' σ' H' R' st
theorem dss_cons {st : Stmt} {rest : List Stmt} {m1 m2 : SM S} (h1 : DS X F W st m1) (h2 : DSs X F W rest m2) : DSs X F W (st :: rest) (mSeq m1 m2) :=
  pssImp (pss_cons h1 h2) fun Dn σ H ⟨M, env, s, R, h⟩ => ⟨M, env, s, R, h.seq⟩
theorem dss_one {st : Stmt} {m : SM S} (h : DS X F W st m) : DSs X F W [st] m := pss_one h
def mFrz (i : Nat) (m : SM S) : SM S := fun env s => m (frzE i env) s
theorem dss_frz (i : Nat) {sts : List Stmt} {m : SM S} (h : DSs X F W sts m) : DSs X F W sts (mFrz i m) := pssImp h fun Dn σ H ⟨M, env, s, R, h⟩ => by
  obtain ⟨M', st, R'⟩ := R.freeze i
  exact ⟨M', frzE i env, s, R', SatS.later h st⟩
theorem ds_frz (i : Nat) {st : Stmt} {m : SM S} (h : DS X F W st m) : DS X F W st (mFrz i m) := psImp h fun Dn σ H ⟨M, env, s, R, h⟩ => by
  obtain ⟨M', st, R'⟩ := R.freeze i
  exact ⟨M', frzE i env, s, R', SatS.later h st⟩

def mSet (i : Nat) (m : XM S D) : SM S := fun env s => (m env s).bind fun d s1 => .ok (.nx, env.set i (.v d)) s1
theorem ds_set (i : Nat) {x : Str} {e : Expr} {m : XM S D} {pos pos' : Pos} (hN : X.N.Nodup) (he : DE X F W e m) (hi : X.N[i]? = some x := by rfl) (hx : Loc X.env.scope x := by first | exact Or.inl rfl | exact Or.inr rfl) (hs : swapsWith e (some (.Name x pos')) pos.line X.env = pure false := by rfl)
    (hf : X.fn x = true ∨ X.env.scope.names.lookup x = some .local := by first | exact .inl rfl | exact .inr rfl | assumption) : DS X F W (.Assign [.Name x pos'] e pos) (mSet i m) :=
  psImp (ps_set hN hi hx he hs hf) fun Dn σ H ⟨M, env, s, R, h⟩ => by
    refine ⟨M, env, s, R, SatS.bind h R.mutM fun d s1 v H1 _ R1 k1 p1 h1 => ?_⟩
    exact h1 M _ H1 (R1.setV p1) Step.refl
def mSetO (i : Nat) (m : XM S (List D)) : SM S := fun env s => (m env s).bind fun d s1 => .ok (.nx, env.set i (.o d)) s1
theorem ds_setO (i : Nat) {x : Str} {e : Expr} {m : XM S (List D)} {pos pos' : Pos} (hN : X.N.Nodup) (he : DF X F W e m) (hi : X.N[i]? = some x := by rfl) (hx : Loc X.env.scope x := by first | exact Or.inl rfl | exact Or.inr rfl) (hs : swapsWith e (some (.Name x pos')) pos.line X.env = pure false := by rfl)
    (hf : X.fn x = true ∨ X.env.scope.names.lookup x = some .local := by first | exact .inl rfl | exact .inr rfl | assumption) : DS X F W (.Assign [.Name x pos'] e pos) (mSetO i m) :=
  psImp (ps_set hN hi hx he hs hf) fun Dn σ H ⟨M, env, s, R, h⟩ => by
    refine ⟨M, env, s, R, ?_⟩
    unfold mSetO at h
    cases e : m env s with
    | bad => rw [e] at h; exact h
    | exc c s1 => rw [e] at h; exact fun H' R' => h M env σ H' R'
    | ok ds s1 =>
      rw [e] at h
      intro v H1 R1 k1 p1
      obtain ⟨M', st, _, R2⟩ := R.setO k1 R1.st (i := i) p1
      exact h M' _ H1 R2 st
/-- name = [..] where the comprehension stores into the name's own place (the name a plain local) -/
theorem ds_setLc (i : Nat) {y : Str} {py : Pos} {elt tg iter : Expr} {ifs : List Expr} {scope : Scope} {own : List (Str × Nat)} {pos spos : Pos} {mi : XM S (List D)} {g : Tg} {js : List Nat} {mt : XM S Bool} {me : XM S D} (hN : X.N.Nodup) (hi : DJ X F W tg iter mi) (ok : BlkOk X.N X.env.scope scope own)
    (hg : ∀ (s : Shared) (H : Hp) (C : Addr) (cl : List (Str × Addr)) (fp : List Addr), DG (X.blk s H scope (compEnvC scope cl C X.env) fp) F js tg g)
    (ht : ∀ (s : Shared) (H : Hp) (C : Addr) (cl : List (Str × Addr)) (fp : List Addr), DTs (X.blk s H scope (compEnvC scope cl C X.env) fp) F W0 ifs mt)
    (he : ∀ (s : Shared) (H : Hp) (C : Addr) (cl : List (Str × Addr)) (fp : List Addr), DE (X.blk s H scope (compEnvC scope cl C X.env) fp) F W0 elt me)
    (hj : ∀ j ∈ js, j ∈ own.map (·.2) := by decide) (hy : X.N[i]? = some y := by rfl) (hyl : X.env.scope.names.lookup y = some .local := by rfl) (hsw : swapsWith (.ListComp elt [⟨tg, iter, ifs, 0⟩] scope pos) (some (.Name y py)) spos.line X.env = pure true := by exact sw_true rfl rfl rfl (by decide +kernel)) (hc : X.calm = true := by rfl) (hs : ∀ x, foldedSetIterable iter X.env x = pure x := by intro _; rfl) :
    DS X F W (.Assign [.Name y py] (.ListComp elt [⟨tg, iter, ifs, 0⟩] scope pos) spos) (mSetO i (mComp (own.map (·.2)) mi g mt me)) := by
  have h := ps_setLc (i := i) (py := py) hc hN hy hyl hsw hi ok hg ht he hs
  refine psImp h fun Dn σ H ⟨M, env, s, R, h⟩ => ?_
  -- the reading of the comprehension itself is that of df_comp
  have key : ∀ Q : VK, tOf F W (PF_ F) (mComp (own.map (·.2)) mi g mt me) σ H Q → tLc (tOf F W (PJ_ F) mi) (tgOf F js g) (tOf F W0 PB_ mt) (tOf F W0 (PE_ F) me) (own.map (·.2)) σ H Q := fun Q => comp_key hj σ H Q
  refine key _ ⟨M, env, s, R, ?_⟩
  unfold mSetO at h
  cases e : mComp (own.map (·.2)) mi g mt me env s with
  | bad => rw [e] at h; exact h
  | exc c s1 => rw [e] at h; exact fun H' R' => h M env σ H' R'
  | ok ds s1 =>
    rw [e] at h
    intro v H1 R1 k1 p1
    obtain ⟨M', st, _, R2⟩ := R.setO k1 R1.st (i := i) p1
    exact h M' _ H1 R2 st
/-- .. kept as a value -/
theorem ds_setLcV (i : Nat) {y : Str} {py : Pos} {elt tg iter : Expr} {ifs : List Expr} {scope : Scope} {own : List (Str × Nat)} {pos spos : Pos} {mi : XM S (List D)} {g : Tg} {js : List Nat} {mt : XM S Bool} {me : XM S D} (hN : X.N.Nodup) (hi : DJ X F W tg iter mi) (ok : BlkOk X.N X.env.scope scope own)
    (hg : ∀ (s : Shared) (H : Hp) (C : Addr) (cl : List (Str × Addr)) (fp : List Addr), DG (X.blk s H scope (compEnvC scope cl C X.env) fp) F js tg g)
    (ht : ∀ (s : Shared) (H : Hp) (C : Addr) (cl : List (Str × Addr)) (fp : List Addr), DTs (X.blk s H scope (compEnvC scope cl C X.env) fp) F W0 ifs mt)
    (he : ∀ (s : Shared) (H : Hp) (C : Addr) (cl : List (Str × Addr)) (fp : List Addr), DE (X.blk s H scope (compEnvC scope cl C X.env) fp) F W0 elt me)
    (hj : ∀ j ∈ js, j ∈ own.map (·.2) := by decide) (hy : X.N[i]? = some y := by rfl) (hyl : X.env.scope.names.lookup y = some .local := by rfl) (hsw : swapsWith (.ListComp elt [⟨tg, iter, ifs, 0⟩] scope pos) (some (.Name y py)) spos.line X.env = pure true := by exact sw_true rfl rfl rfl (by decide +kernel)) (hc : X.calm = true := by rfl) (hs : ∀ x, foldedSetIterable iter X.env x = pure x := by intro _; rfl) :
    DS X F W (.Assign [.Name y py] (.ListComp elt [⟨tg, iter, ifs, 0⟩] scope pos) spos) (mSet i (mLst (mComp (own.map (·.2)) mi g mt me))) := by
  have h := ps_setLc (i := i) (py := py) hc hN hy hyl hsw hi ok hg ht he hs
  refine psImp h fun Dn σ H ⟨M, env, s, R, h⟩ => ?_
  have key : ∀ Q : VK, tOf F W (PF_ F) (mComp (own.map (·.2)) mi g mt me) σ H Q → tLc (tOf F W (PJ_ F) mi) (tgOf F js g) (tOf F W0 PB_ mt) (tOf F W0 (PE_ F) me) (own.map (·.2)) σ H Q := fun Q => comp_key hj σ H Q
  refine key _ ⟨M, env, s, R, ?_⟩
  unfold mSet mLst at h
  cases e : mComp (own.map (·.2)) mi g mt me env s with
  | bad => rw [e] at h; exact h
  | exc c s1 => rw [e] at h; exact fun H' R' => h M env σ H' R'
  | ok ds s1 =>
    rw [e] at h
    intro v H1 R1 k1 p1
    exact h M _ H1 (R1.setV (PF.rep R k1 p1)) (k1.step R.mutM)
def mAsg (m : XM S D) (g : Tg) : SM S := fun env s => (m env s).bind fun d s1 => match g d env with
  | some e1 => .ok (.nx, e1) s1
  | none => .bad
theorem ds_asg {tg e : Expr} {m : XM S D} {g : Tg} {js : List Nat} {pos : Pos} (he : DE X F W e m) (hg : DG X F js tg g) (hs : swapsWithSole [tg] e pos.line X.env = pure false := by rfl) (hw : swappedStores [tg] e X.env = pure none := by rfl)
    (h1 : (assignEach [tg] X.env).map (·.2) = [assign tg X.env] := by rfl) : DS X F W (.Assign [tg] e pos) (mAsg m g) :=
  psImp (ps_asg he hg hs hw h1) fun Dn σ H ⟨M, env, s, R, h⟩ => by
    refine ⟨M, env, s, R, SatS.bind h R.mutM fun d s1 v H1 _ R1 k1 p1 h1 => ?_⟩
    cases eg : g d env with
    | none => rw [eg] at h1; exact h1.elim
    | some e1 =>
      rw [eg] at h1
      exact ⟨M, env, s1, d, R1, p1, e1, eg, fun σ' R' _ => h1 M σ' H1 R' Step.refl⟩
/-- a, b = x, y -/
def mPar (i j : Nat) (m : XM S (List D)) : SM S := fun env s => (m env s).bind fun ds s1 => match ds with
  | [a, b] => .ok (.nx, (env.set i (.v a)).set j (.v b)) s1
  | _ => .bad
theorem ds_par (i j : Nat) {x y : Str} {a b : Expr} {m : XM S (List D)} {px py pt : Pos} {kt k2 pt2} {pos : Pos} (hN : X.N.Nodup) (ha : DA X F W [a, b] m) (hij : i ≠ j := by decide) (hi : X.N[i]? = some x := by rfl) (hj : X.N[j]? = some y := by rfl)
    (hx : X.env.scope.names.lookup x = some .local := by rfl) (hy : X.env.scope.names.lookup y = some .local := by rfl) (hc : X.calm = true := by rfl)
    (hw : swappedStores [.Tuple [.Name x px, .Name y py] kt pt] (.Tuple [a, b] k2 pt2) X.env = pure (some [x, y]) := by rfl)
    (hs : swapsWithSole [.Tuple [.Name x px, .Name y py] kt pt] (.Tuple [a, b] k2 pt2) pos.line X.env = pure false := by rfl) :
    DS X F W (.Assign [.Tuple [.Name x px, .Name y py] kt pt] (.Tuple [a, b] k2 pt2) pos) (mPar i j m) :=
  psImp (ps_par hc hN hi hj hij hx hy ha hw hs) fun Dn σ H ⟨M, env, s, R, h⟩ => by
    refine ⟨M, env, s, R, SatS.bind h R.mutM fun ds s1 vs H1 _ R1 k1 p1 h1 => ?_⟩
    match ds, p1, h1 with
    | [], _, h1 => exact h1.elim
    | [d], _, h1 => exact h1.elim
    | d :: d2 :: d3 :: r, _, h1 => exact h1.elim
    | [d, d2], p1, h1 =>
      obtain ⟨v, r, rfl, q1, v2, r2, rfl, q2, e⟩ := p1
      rw [show r2 = [] from e]
      exact ⟨v, v2, rfl, h1 M _ H1 ((R1.setV q1).setV q2) Step.refl⟩
def mDrop (m : XM S D) : SM S := fun env s => (m env s).bind fun _ s1 => .ok (.nx, env) s1
theorem ds_expr {e : Expr} {m : XM S D} {pos : Pos} (he : DE X F W e m) (hs : swapsWith e none pos.line X.env = pure false := by rfl) : DS X F W (.Expr e pos) (mDrop m) :=
  psImp (ps_expr he hs) fun Dn σ H ⟨M, env, s, R, h⟩ => by
    refine ⟨M, env, s, R, SatS.bind h R.mutM fun d s1 v H1 _ R1 k1 p1 h1 => ?_⟩
    exact h1 M _ H1 R1 Step.refl
def mApp (i : Nat) (m : XM S D) : SM S := fun env s => match env[i]? with
  | some (.o xs) => (m env s).bind fun d s1 => if xs.length < 16777216 then .ok (.nx, env.set i (.o (xs ++ [d]))) s1 else .bad
  | _ => .bad
theorem ds_append (i : Nat) {x : Str} {e : Expr} {m : XM S D} {px apos cpos pos : Pos} (he : DE X F W e m) (hN : X.N[i]? = some x := by rfl) (hv : Vis X.env.scope x := by first | exact Or.inl rfl | exact Or.inr (Or.inl rfl) | exact Or.inr (Or.inr rfl)) (hd : (x == ("__debug__" : Str)) = false := by decide)
    (hcd : (x == ("__classdict__" : Str)) = false := by decide) (hs : starEach [e] X.env = (false, eval e X.env) :: starEach [] X.env := by rfl)
    (hfew : ((backTo cpos (starEach [e] X.env)).all (fun x => !x.1) && (backToKw cpos (keywordEach [] X.env)).all (fun x => x.1.isSome)
      && decide ([e].length + ([] : List Keyword).length + (if ([] : List Keyword).isEmpty then 0 else 1) < 30)) = true := by rfl)
    (hline : (apos.endLine == cpos.line) = true := by rfl) (hplain : (backTo cpos (starEach [] X.env)).any (·.1) = false := by rfl) (hsw : swapsWith (.Call (.Attribute (.Name x px) "append" apos) [e] [] cpos) none pos.line X.env = pure false := by rfl) :
    DS X F W (.Expr (.Call (.Attribute (.Name x px) "append" apos) [e] [] cpos) pos) (mApp i m) :=
  psImp (ps_expr (pe_bm PySem.F.plainAttrs_list PySem.F.slot_list_append PySem.F.type_list_append mt_append (pe_var hN hv hd hcd) (pa_cons he pa_nil hs) rfl hfew hline hs hplain) hsw) fun Dn σ H ⟨M, env, s, R, h⟩ => by
    unfold mApp at h
    cases e : env[i]? with
    | none => rw [e] at h; exact h.elim
    | some en =>
      rw [e] at h
      cases en with
      | o xs =>
        obtain ⟨a, vs, h1, h2⟩ := R.own i xs e
        refine ⟨.ref a, h1, .inl ⟨rfl, vs, SqL.of h2.at_⟩, M, env, s, R, SatS.bind h R.mutM fun d s1 v H1 _ R1 k1 p1 h3 => ?_⟩
        have nm : ¬ F.C.mt a := fun z => R.ft0 a (F.C.sub a z) h2.new
        have ha := k1 a _ h2.at_ nm
        by_cases hl : xs.length < 16777216
        · have h3' : SatS F M H1 (.ok (.nx, env.set i (.o (xs ++ [d]))) s1) Dn W := by simpa [hl] using h3
          have hr := h2.reps.step (k1.step R.mutM)
          have hle : (xs ++ [d]).length ≤ sizeLine := by rw [List.length_append, List.length_singleton, line_eq]; omega
          obtain ⟨R2, st⟩ := R1.updO (ys := xs ++ [d]) (us := vs ++ [v]) e h1 hle (hr.append (Reps.one p1))
          exact ⟨a, vs, v, rfl, rfl, ha, by rw [h2.reps.length, line_eq]; exact hl, h3' M _ _ R2 st⟩
        · have h3' : SatS F M H1 (.bad) Dn W := by simpa [hl] using h3
          exact h3'.elim
      | no => exact h.elim
      | v d => exact h.elim
/-- xs.extend(a list) -/
def mExt (i : Nat) (m : XM S D) : SM S := fun env s => match env[i]? with
  | some (.o xs) => (m env s).bind fun d s1 => match d with
    | .lst ys => if xs.length + ys.length ≤ 16777216 then .ok (.nx, env.set i (.o (xs ++ ys))) s1 else .bad
    | _ => .bad
  | _ => .bad
theorem ds_extend (i : Nat) {x : Str} {e : Expr} {m : XM S D} {px apos cpos pos : Pos} (he : DV X F W e m) (hN : X.N[i]? = some x := by rfl) (hv : Vis X.env.scope x := by first | exact Or.inl rfl | exact Or.inr (Or.inl rfl) | exact Or.inr (Or.inr rfl)) (hd : (x == ("__debug__" : Str)) = false := by decide)
    (hcd : (x == ("__classdict__" : Str)) = false := by decide) (hs : starEach [e] X.env = (false, eval e X.env) :: starEach [] X.env := by rfl)
    (hfew : ((backTo cpos (starEach [e] X.env)).all (fun x => !x.1) && (backToKw cpos (keywordEach [] X.env)).all (fun x => x.1.isSome)
      && decide ([e].length + ([] : List Keyword).length + (if ([] : List Keyword).isEmpty then 0 else 1) < 30)) = true := by rfl)
    (hline : (apos.endLine == cpos.line) = true := by rfl) (hplain : (backTo cpos (starEach [] X.env)).any (·.1) = false := by rfl) (hsw : swapsWith (.Call (.Attribute (.Name x px) "extend" apos) [e] [] cpos) none pos.line X.env = pure false := by rfl) :
    DS X F W (.Expr (.Call (.Attribute (.Name x px) "extend" apos) [e] [] cpos) pos) (mExt i m) :=
  psImp (ps_expr (pe_bm PySem.F.plainAttrs_list PySem.F.slot_list_extend PySem.F.type_list_extend mt_extend (pe_var hN hv hd hcd) (pa_cons he pa_nil hs) rfl hfew hline hs hplain) hsw) fun Dn σ H ⟨M, env, s, R, h⟩ => by
    unfold mExt at h
    cases e : env[i]? with
    | none => rw [e] at h; exact h.elim
    | some en =>
      rw [e] at h
      cases en with
      | o xs =>
        obtain ⟨a, vs, h1, h2⟩ := R.own i xs e
        refine ⟨.ref a, h1, .inl ⟨rfl, vs, SqL.of h2.at_⟩, M, env, s, R, SatS.bind h R.mutM fun d s1 v H1 _ R1 k1 p1 h3 => ?_⟩
        have nm : ¬ F.C.mt a := fun z => R.ft0 a (F.C.sub a z) h2.new
        have ha := k1 a _ h2.at_ nm
        cases d with
        | lst ys =>
          obtain ⟨b, us, rfl, nb, hb, lb, rb⟩ := p1.lst
          by_cases hl : xs.length + ys.length ≤ 16777216
          · have h3' : SatS F M H1 (.ok (.nx, env.set i (.o (xs ++ ys))) s1) Dn W := by simpa [hl] using h3
            have hr := h2.reps.step (k1.step R.mutM)
            have hle : (xs ++ ys).length ≤ sizeLine := by rw [List.length_append, line_eq]; exact hl
            obtain ⟨R2, st⟩ := R1.updO (ys := xs ++ ys) (us := vs ++ us) e h1 hle (hr.append rb)
            exact ⟨a, b, vs, us, rfl, rfl, ha, hb, by rw [h2.reps.length, rb.length, line_eq]; exact hl, h3' M _ _ R2 st⟩
          · have h3' : SatS F M H1 (.bad) Dn W := by simpa [hl] using h3
            exact h3'.elim
        | _ => exact h3.elim
      | no => exact h.elim
      | v d => exact h.elim
/-- xs[k] = e -/
def mPut (i : Nat) (mk me : XM S D) : SM S := fun env s => match env[i]? with
  | some (.o xs) => (me env s).bind fun d s1 => (mk env s1).bind fun k s2 => match k with
    | .int k => (match ixN xs.length k with
      | some j => .ok (.nx, env.set i (.o (xs.set j d))) s2
      | none => .bad)
    | _ => .bad
  | _ => .bad
theorem ds_put (i : Nat) {x : Str} {e ek : Expr} {me mk : XM S D} {px spos pos : Pos} (he : DE X F W e me) (hk : DV X F W ek mk) (hN : X.N[i]? = some x := by rfl) (hv : Vis X.env.scope x := by first | exact Or.inl rfl | exact Or.inr (Or.inl rfl) | exact Or.inr (Or.inr rfl)) (hd : (x == ("__debug__" : Str)) = false := by decide)
    (hcd : (x == ("__classdict__" : Str)) = false := by decide) (ha : ∀ v, assign (.Subscript (.Name x px) ek spos) X.env v = (do
      let ov ← holding [v] (eval (.Name x px) X.env)
      let iv ← holding [v, ov] (eval ek X.env)
      standAt spos
      holding [v, ov, iv] (setItem ov iv v)
      release [v, ov, iv] []) := by intro _; rfl) (hs : swapsWithSole [.Subscript (.Name x px) ek spos] e pos.line X.env = pure false := by rfl) (hw : swappedStores [.Subscript (.Name x px) ek spos] e X.env = pure none := by rfl)
    (h1 : (assignEach [.Subscript (.Name x px) ek spos] X.env).map (·.2) = [assign (.Subscript (.Name x px) ek spos) X.env] := by rfl) :
    DS X F W (.Assign [.Subscript (.Name x px) ek spos] e pos) (mPut i mk me) :=
  psImp (ps_asg he (pg_sub (pe_var hN hv hd hcd) hk set_list ha) hs hw h1) fun Dn σ H ⟨M, env, s, R, h⟩ => by
    unfold mPut at h
    cases e : env[i]? with
    | none => rw [e] at h; exact h.elim
    | some en =>
      rw [e] at h
      cases en with
      | o xs =>
        obtain ⟨a, vs, h1, h2⟩ := R.own i xs e
        refine ⟨M, env, s, R, SatS.bind h R.mutM fun d s1 v H1 _ R1 k1 p1 h3 => ?_⟩
        refine ⟨.ref a, h1, M, env, s1, R1, SatS.bind h3 R1.mutM fun k s2 w H2 _ R2 k2 p2 h4 => ?_⟩
        have nm : ¬ F.C.mt a := fun z => R.ft0 a (F.C.sub a z) h2.new
        have ha := (k1.trans k2) a _ h2.at_ nm
        have hr := h2.reps.step ((k1.trans k2).step R.mutM)
        cases k with
        | int k =>
          cases q : ixN xs.length k with
          | none =>
            have h4' : SatS F M H2 (.bad) Dn W := by simpa [q] using h4
            exact h4'.elim
          | some j =>
            have h4' : SatS F M H2 (.ok (.nx, env.set i (.o (xs.set j d))) s2) Dn W := by simpa [q] using h4
            have p1' := Rep.step (k2.step R1.mutM) p1
            obtain ⟨R3, st⟩ := R2.updO (ys := xs.set j d) (us := vs.set j v) e h1 (by rw [List.length_set]; exact h2.len) (Reps.set p1' j hr)
            exact ⟨a, vs, k, j, rfl, p2, ha, by rw [h2.reps.length]; exact q, h4' M _ _ R3 st⟩
        | _ => exact h4.elim
      | no => exact h.elim
      | v d => exact h.elim
/-! return, if, loops -/
def mRet (m : XM S D) : SM S := fun env s => (m env s).bind fun d s1 => .ok (.rt d, env) s1
theorem ds_ret {e : Expr} {m : XM S D} {pos : Pos} (he : DE X F W e m) : DS X F W (.Return (some e) pos) (mRet m) := psImp (ps_ret he) fun Dn σ H ⟨M, env, s, R, h⟩ => by
  refine ⟨M, env, s, R, SatS.bind h R.mutM fun d s1 v H1 _ R1 k1 p1 h1 => ?_⟩
  exact h1 M _ H1 R1 Step.refl v p1
def mRetN : SM S := fun env s => .ok (.rt .non, env) s
theorem ds_retN {pos : Pos} : DS X F W (.Return none pos) mRetN := psImp ps_retN fun Dn σ H ⟨M, env, s, R, h⟩ => h M σ H R Step.refl _ rfl
/-- return of a new list -/
def mRetF (m : XM S (List D)) : SM S := fun env s => (m env s).bind fun d s1 => .ok (.rf d, env) s1
theorem PF.base {Hs : Hp} {ds : List D} {v : V} (R : RelS F M env s σ Hs) (p : PF_ F M Hs H ds v) : PF_ F M F.H0 H ds v := by
  obtain ⟨a, vs, e, hn, nm, ha, hl, hr⟩ := p
  refine ⟨a, vs, e, ?_, nm, ha, hl, hr⟩
  cases q : F.H0 a with
  | none => rfl
  | some u => rw [R.keep a u q nm] at hn; cases hn
theorem ds_retF {e : Expr} {m : XM S (List D)} {pos : Pos} (he : DF X F W e m) : DS X F W (.Return (some e) pos) (mRetF m) := psImp (ps_ret he) fun Dn σ H ⟨M, env, s, R, h⟩ => by
  refine ⟨M, env, s, R, ?_⟩
  unfold mRetF at h
  cases e : m env s with
  | bad => rw [e] at h; exact h
  | exc c s1 => rw [e] at h; exact fun H' R' => h M env σ H' R'
  | ok ds s1 =>
    rw [e] at h
    intro v H1 R1 k1 p1
    exact h M _ H1 R1 (k1.step R.mutM) v (PF.base R p1)
/-- return of an own list -/
def mRetO (i : Nat) : SM S := fun env s => match env[i]? with
  | some (.o xs) => .ok (.rf xs, env) s
  | _ => .bad
theorem ds_retO (i : Nat) {x : Str} {px pos : Pos} (hN : X.N[i]? = some x := by rfl) (hv : Vis X.env.scope x := by first | exact Or.inl rfl | exact Or.inr (Or.inl rfl) | exact Or.inr (Or.inr rfl)) (hd : (x == ("__debug__" : Str)) = false := by decide)
    (hcd : (x == ("__classdict__" : Str)) = false := by decide) : DS X F W (.Return (some (.Name x px)) pos) (mRetO i) := psImp (ps_ret (pe_var hN hv hd hcd)) fun Dn σ H ⟨M, env, s, R, h⟩ => by
  unfold mRetO at h
  cases e : env[i]? with
  | none => rw [e] at h; exact h.elim
  | some en =>
    rw [e] at h
    cases en with
    | o xs =>
      obtain ⟨a, vs, h1, h2⟩ := R.own i xs e
      have nf : ¬ F.C.mt a := fun z => R.ft0 a (F.C.sub a z) h2.new
      refine ⟨.ref a, h1, h M σ H R Step.refl _ ⟨a, vs, rfl, h2.new, nf, h2.at_, h2.len, h2.reps.step ⟨fun _ _ e _ => e, fun b z => z.elim (fun e => .inl (by rw [e]; exact h2.mem)) .inl⟩⟩⟩
    | no => exact h.elim
    | v d => exact h.elim
def mIfS (mc : XM S Bool) (m1 m2 : SM S) : SM S := fun env s => (mc env s).bind fun c s1 => if c = true then m1 env s1 else m2 env s1
theorem ds_if {c : Expr} {a b : List Stmt} {mc : XM S Bool} {m1 m2 : SM S} {pos : Pos} (hc : DT X F W c mc) (ha : DSs X F W a m1) (hb : DSs X F W b m2) : DS X F W (.If c a b pos) (mIfS mc m1 m2) := psImp (ps_if hc ha hb) fun Dn σ H ⟨M, env, s, R, h⟩ => by
  refine ⟨M, env, s, R, SatS.bind h R.mutM fun d s1 v H1 _ R1 k1 p1 h1 => ?_⟩
  cases (show d = v from p1)
  cases d with
  | true => exact iteT ⟨M, env, s1, R1, h1⟩
  | false => exact iteF ⟨M, env, s1, R1, h1⟩
def mBrk : SM S := fun env s => .ok (.bk, env) s
def mCnt : SM S := fun env s => .ok (.ct, env) s
theorem ds_break {pos : Pos} : DS X F W (.Break pos) mBrk := psImp ps_break fun Dn σ H ⟨M, env, s, R, h⟩ => h M σ H R Step.refl
theorem ds_continue {pos : Pos} : DS X F W (.Continue pos) mCnt := psImp ps_continue fun Dn σ H ⟨M, env, s, R, h⟩ => h M σ H R Step.refl
theorem ds_pass {pos : Pos} : DS X F W (.Pass pos) mSkip := psImp ps_pass fun Dn σ H ⟨M, env, s, R, h⟩ => h M σ H R Step.refl
def forL (g : Tg) (mb : SM S) : List D → List Ent → S → Res (Fl × List Ent) S
  | [], env, s => .ok (.nx, env) s
  | d :: ds, env, s => match g d env with
    | none => .bad
    | some e1 => (mb e1 s).bind fun p s1 => match p.1 with
      | .nx => forL g mb ds p.2 s1
      | .ct => forL g mb ds p.2 s1
      | .bk => .ok (.nx, p.2) s1
      | fl => .ok (fl, p.2) s1
def mFor (mi : XM S (List D)) (g : Tg) (mb : SM S) : SM S := fun env s => (mi env s).bind fun ds s1 => forL g mb ds env s1
structure FInv (F : Fx S) (W : Wish S) (M1 : Addr → Prop) (H1 : Hp) (Dn : Ends) (g : Tg) (mb : SM S) (ds : List D) (i : Nat) (σ : L2.St) (H : Hp) : Prop where
  ex : ∃ (M : Addr → Prop) (env : List Ent) (s : S), RelS F M env s σ H ∧ Step M1 H1 M H ∧ SatS F M H (forL g mb (ds.drop i) env s) Dn W
theorem ds_for {tg iter : Expr} {body : List Stmt} {mi : XM S (List D)} {g : Tg} {js : List Nat} {mb : SM S} {pos : Pos} (hp : PassesOwn (model X.prog X.w) X.A X.env X.xe) (hi : DI X F W tg iter mi) (hg : DG X F js tg g) (hb : DSs X F W body mb) (hc : X.calm = true := by rfl)
    (hs : ∀ x, foldedSetIterable iter X.env x = pure x := by intro _; rfl) : DS X F W (.For tg iter body [] pos) (mFor mi g mb) := psImp (ps_for hp hc hi hg hb hs) fun Dn σ H ⟨M, env, s, R, h⟩ => by
  refine ⟨M, env, s, R, SatS.bind h R.mutM fun ds s1 J H1 _ R1 k1 p1 h1 => ?_⟩
  obtain ⟨⟨G, Y, w, hG, hY⟩, hl⟩ := p1
  refine for_it w (Pv := FInv F W M H1 Dn g mb ds) ⟨M, env, s1, R1, Step.refl, h1⟩ (fun i σ H hi ⟨M2, e2, s2, R2, st2, _⟩ => hG M2 H st2) (fun i x σ H H' hi ⟨M2, e2, s2, R2, st2, h2⟩ hy => ?_) (fun σ H ⟨M2, e2, s2, R2, st2, h2⟩ => ?_)
  · obtain ⟨sm, d, hd, rd⟩ := hY i M2 H x H' hi st2 R2.trk hy
    have hlt : i < ds.length := hi
    have hdrop : ds.drop i = d :: ds.drop (i + 1) := by
      rw [List.drop_eq_getElem_cons hlt]
      rw [List.getElem?_eq_getElem hlt] at hd
      cases hd
      rfl
    rw [hdrop] at h2
    unfold forL at h2
    have R3 := R2.same sm
    have st3 : Step M2 H M2 H' := ⟨fun a u e _ => sm a u e, fun _ z => .inl z⟩
    cases eg : g d e2 with
    | none => rw [eg] at h2; exact h2.elim
    | some e3 =>
      rw [eg] at h2
      refine ⟨M2, e2, s2, d, R3, rd, e3, eg, fun σ' R4 _ => ⟨M2, e3, s2, R4, ?_⟩⟩
      have h3 : SatS F M2 H' ((mb e3 s2).bind fun p s1 => match p.1 with
        | .nx => forL g mb (ds.drop (i + 1)) p.2 s1
        | .ct => forL g mb (ds.drop (i + 1)) p.2 s1
        | .bk => .ok (.nx, p.2) s1
        | fl => .ok (fl, p.2) s1) Dn W := SatS.later h2 st3
      cases eb : mb e3 s2 with
      | bad => rw [eb] at h3; exact h3
      | exc c s3 => rw [eb] at h3; exact h3
      | ok p s3 =>
        rw [eb] at h3
        obtain ⟨fl, e4⟩ := p
        intro M4 σ4 H4 R5 st5
        cases fl with
        | nx => exact ⟨M4, e4, s3, R5, (st2.trans st3).trans st5, SatS.later h3 st5⟩
        | ct => exact ⟨M4, e4, s3, R5, (st2.trans st3).trans st5, SatS.later h3 st5⟩
        | bk => exact h3 M4 σ4 H4 R5 st5
        | rt d => exact h3 M4 σ4 H4 R5 st5
        | rf d => exact h3 M4 σ4 H4 R5 st5
  · rw [List.drop_length] at h2
    exact h2 M2 σ H R2 Step.refl
def whileL (mc : XM S Bool) (mb : SM S) : Nat → List Ent → S → Res (Fl × List Ent) S
  | 0, _, _ => .bad
  | n + 1, env, s => (mc env s).bind fun c s1 => if c = true then (mb env s1).bind fun p s2 => match p.1 with
      | .nx => whileL mc mb n p.2 s2
      | .ct => whileL mc mb n p.2 s2
      | .bk => .ok (.nx, p.2) s2
      | fl => .ok (fl, p.2) s2
    else .ok (.nx, env) s1
def mWhile (n : List Ent → S → Nat) (mc : XM S Bool) (mb : SM S) : SM S := fun env s => whileL mc mb (n env s) env s
structure WInv (F : Fx S) (W : Wish S) (Dn : Ends) (mc : XM S Bool) (mb : SM S) (n : Nat) (σ : L2.St) (H : Hp) : Prop where
  ex : ∃ (M : Addr → Prop) (env : List Ent) (s : S), RelS F M env s σ H ∧ SatS F M H (whileL mc mb n env s) Dn W
theorem ds_while (n : List Ent → S → Nat) {c : Expr} {body : List Stmt} {mc : XM S Bool} {mb : SM S} {pos : Pos} (hp : PassesOwn (model X.prog X.w) X.A X.env X.xe) (hc : DT X F W c mc) (hb : DSs X F W body mb) : DS X F W (.While c body [] pos) (mWhile n mc mb) := psImp (ps_while hp hc hb) fun Dn σ H ⟨M, env, s, R, h⟩ => by
  refine ⟨WInv F W Dn mc mb, ⟨n env s, M, env, s, R, h⟩, ?_⟩
  intro m σ1 H1 ⟨M1, e1, s1, R1, h1⟩
  cases m with
  | zero => exact h1.elim
  | succ m =>
    unfold whileL at h1
    refine ⟨M1, e1, s1, R1, SatS.bind h1 R1.mutM fun d s2 v H2 _ R2 k2 p2 h2 => ?_⟩
    cases (show d = v from p2)
    cases d with
    | false => exact iteF (h2 M1 _ H2 R2 Step.refl)
    | true =>
      refine iteT ⟨WInv F W Dn mc mb m, fun σ' H' z => ⟨m, Nat.lt_succ_self m, z⟩, M1, e1, s2, R2, ?_⟩
      have h3 : SatS F M1 H2 ((mb e1 s2).bind fun p s2 => match p.1 with
        | .nx => whileL mc mb m p.2 s2
        | .ct => whileL mc mb m p.2 s2
        | .bk => .ok (.nx, p.2) s2
        | fl => .ok (fl, p.2) s2) Dn W := h2
      cases eb : mb e1 s2 with
      | bad => rw [eb] at h3; exact h3
      | exc c s3 => rw [eb] at h3; exact h3
      | ok p s3 =>
        rw [eb] at h3
        obtain ⟨fl, e4⟩ := p
        intro M4 σ4 H4 R5 st5
        cases fl with
        | nx => exact ⟨M4, e4, s3, R5, SatS.later h3 st5⟩
        | ct => exact ⟨M4, e4, s3, R5, SatS.later h3 st5⟩
        | bk => exact h3 M4 σ4 H4 R5 st5
        | rt d => exact h3 M4 σ4 H4 R5 st5
        | rf d => exact h3 M4 σ4 H4 R5 st5
/-- x += e, ints -/
def mAug (i : Nat) (m : XM S D) : SM S := fun env s => match env[i]? with
  | some (.v (.int k)) => (m env s).bind fun d s1 => match d with
    | .int l => .ok (.nx, env.set i (.v (.int (k + l)))) s1
    | _ => .bad
  | _ => .bad
theorem ds_aug (i : Nat) {x : Str} {e : Expr} {m : XM S D} {pos pos' : Pos} (hN : X.N.Nodup) (he : DV X F W e m) (hi : X.N[i]? = some x := by rfl) (hx : Loc X.env.scope x := by first | exact Or.inl rfl | exact Or.inr rfl)
    (hf : X.fn x = true ∨ X.env.scope.names.lookup x = some .local := by first | exact .inl rfl | exact .inr rfl | assumption) : DS X F W (.AugAssign (.Name x pos') .Add e pos) (mAug i m) :=
  psImp (ps_aug hN hi hx he ip_add hf) fun Dn σ H ⟨M, env, s, R, h⟩ => by
    unfold mAug at h
    cases e : env[i]? with
    | none => rw [e] at h; exact h.elim
    | some en =>
      rw [e] at h
      cases en with
      | v d =>
        cases d with
        | int k =>
          obtain ⟨v, h1, h2⟩ := R.val i _ e
          refine ⟨v, h1, M, env, s, R, SatS.bind h R.mutM fun d s1 w H1 _ R1 k1 p1 h3 => ?_⟩
          cases d with
          | int l => exact ⟨k, l, h2, p1, h3 M _ H1 (R1.setV rfl) Step.refl⟩
          | _ => exact h3.elim
        | _ => exact h.elim
      | no => exact h.elim
      | o d => exact h.elim
end
end L3
namespace L3
open PySem PySem.Spec L2
section
variable {S α β γ δ : Type}
/-! ### what a def is worth -/
def runV (r : Res (Fl × List Ent) S) : Res D S := r.bind fun p s => match p.1 with
  | .rt d => .ok d s
  | .rf ds => .ok (.lst ds) s
  | .nx => .ok .non s
  | _ => .bad
def runF (r : Res (Fl × List Ent) S) : Res (List D) S := r.bind fun p s => match p.1 with
  | .rf ds => .ok ds s
  | _ => .bad
@[simp] def startE (n : Nat) (ds : List D) : List Ent := ds.map Ent.v ++ List.replicate (n - ds.length) Ent.no
/-- the promise of a def that lets nothing out: K tells which states it may be called in -/
def spV (K : Cfg S → Prop) (np : Nat) (f : List D → S → Res D S) : Sp := fun vs H Q _ => ∃ (C : Cfg S) (M0 : Addr → Prop) (ds : List D) (s : S), K C ∧ ds.length = np ∧ (∀ a, M0 a → H a ≠ none) ∧ (∀ a, C.mt a → M0 a) ∧ C.rel s M0 H ∧ Reps C.at_ M0 H ds vs ∧
  match f ds s with
  | .ok d s' => ∀ v H', Keep C.mt H H' → C.rel s' M0 H' → Rep C.at_ M0 H' d v → Q v H'
  | _ => False
/-- .. that hands back a new list -/
def spF (K : Cfg S → Prop) (np : Nat) (f : List D → S → Res (List D) S) : Sp := fun vs H Q _ => ∃ (C : Cfg S) (M0 : Addr → Prop) (ds : List D) (s : S), K C ∧ ds.length = np ∧ (∀ a, M0 a → H a ≠ none) ∧ (∀ a, C.mt a → M0 a) ∧ C.rel s M0 H ∧ Reps C.at_ M0 H ds vs ∧
  match f ds s with
  | .ok xs s' => ∀ v H', Keep C.mt H H' → C.rel s' M0 H' → (∃ a us, v = .ref a ∧ H a = none ∧ ¬ C.mt a ∧ H' a = some (.lst us) ∧ xs.length ≤ sizeLine ∧ Reps C.at_ (insM M0 a) H' xs us) → Q v H'
  | _ => False
/-- a def as its callers see it -/
structure Fn (P : Program) (w : World) (K : PySem.W.Frag) (mg : Str → Option Value) (base : Heap) (k : Nat) (x : Str) (ps : List Str) (sp : Sp) : Prop where
  ex : ∃ f fd, mg x = some (.ref f) ∧ PySem.W.keepIn K (.ref f) = true ∧ Binds K fd ps [] ∧ FnOk P w K mg base CX0 k f fd ps sp
theorem Fn.mono {P : Program} {w : World} {K : PySem.W.Frag} {mg : Str → Option Value} {base : Heap} {j k : Nat} {x : Str} {ps : List Str} {sp : Sp} (F : Fn P w K mg base j x ps sp) (h : j ≤ k) : Fn P w K mg base k x ps sp := by
  obtain ⟨f, fd, a, b, c, d⟩ := F.ex
  exact ⟨f, fd, a, b, c, d.mono h⟩
variable {o : Addr} {M : Addr → Prop} {H : Hp}
theorem start_get {N : List Str} {vs : List V} {ds : List D} (r : Reps o M H ds vs) {i : Nat} {d : D} (e : (startE N.length ds)[i]? = some (.v d)) : ∃ v, (L2.start N vs)[i]? = some (some v) ∧ Rep o M H d v := by
  unfold startE at e
  unfold L2.start
  by_cases hi : i < ds.length
  · rw [List.getElem?_append_left (by rw [List.length_map]; exact hi), List.getElem?_map] at e
    cases q : ds[i]? with
    | none => rw [q] at e; cases e
    | some d' =>
      rw [q] at e
      cases e
      obtain ⟨v, h1, h2⟩ := r.getD q
      refine ⟨v, ?_, h2⟩
      rw [List.getElem?_append_left (by rw [List.length_map, r.length]; exact hi), List.getElem?_map, h1]
      rfl
  · rw [List.getElem?_append_right (by rw [List.length_map]; omega), List.getElem?_replicate] at e
    split at e <;> cases e
theorem start_own {n : Nat} {ds : List D} {i : Nat} {xs : List D} (e : (startE n ds)[i]? = some (.o xs)) : False := by
  unfold startE at e
  by_cases hi : i < ds.length
  · rw [List.getElem?_append_left (by rw [List.length_map]; exact hi), List.getElem?_map] at e
    cases q : ds[i]? with
    | none => rw [q] at e; cases e
    | some d' => rw [q] at e; cases e
  · rw [List.getElem?_append_right (by rw [List.length_map]; omega), List.getElem?_replicate] at e
    split at e <;> cases e
theorem rel_start {C : Cfg S} {M0 : Addr → Prop} {N : List Str} {vs : List V} {ds : List D} {s : S} (trk : ∀ a, M0 a → H a ≠ none) (mt : ∀ a, C.mt a → M0 a) (rel : C.rel s M0 H) (r : Reps C.at_ M0 H ds vs) : RelS ⟨C, H, M0⟩ M0 (startE N.length ds) s (L2.start N vs) H where
  val := fun i d e => start_get r e
  own := fun i xs e => (start_own e).elim
  inj := fun i j xs ys a e => (start_own e).elim
  trk := trk
  base := fun _ h => h
  mt := mt
  trk0 := trk
  ft0 := fun a z => C.trk rel z
  keep := Keep.refl
  st := rel
  len := by
    unfold L2.start startE
    rw [List.length_append, List.length_append, List.length_map, List.length_map, List.length_replicate, List.length_replicate, r.length]
theorem RelS.out {F : Fx S} {M : Addr → Prop} {env : List Ent} {s : S} {σ : L2.St} {H : Hp} (R : RelS F M env s σ H) : F.C.rel s F.M0 H := F.C.keep R.st (fun _ _ _ e => e) fun b _ z => R.base b z
theorem Rep.out {F : Fx S} {M : Addr → Prop} {env : List Ent} {s : S} {σ : L2.St} {H : Hp} (R : RelS F M env s σ H) {d : D} {v : V} (h : Rep F.C.at_ M H d v) : Rep F.C.at_ F.M0 H d v := h.step ⟨fun _ _ e _ => e, fun b z => .inl (R.base b z)⟩

/-- the promise by the body's meaning -/
theorem sat_V {K : Cfg S → Prop} {C : Cfg S} {M0 : Addr → Prop} {m : SM S} {env : List Ent} {s : S} {Q : VK}
    (h : match runV (m env s) with
      | .ok d s' => ∀ v H', Keep C.mt H H' → C.rel s' M0 H' → Rep C.at_ M0 H' d v → Q v H'
      | _ => False) : SatS ⟨C, H, M0⟩ M0 H (m env s) { nx := fun _ H' => Q .non H', rt := Q } W0 := by
  unfold runV at h
  cases e : m env s with
  | bad => rw [e] at h; exact h
  | exc c s1 => rw [e] at h; exact h.elim
  | ok p s1 =>
    rw [e] at h
    obtain ⟨fl, e1⟩ := p
    intro M' σ' H' R st
    cases fl with
    | nx => exact h .non H' R.keep R.out rfl
    | rt d => exact fun v r => h v H' R.keep R.out (Rep.out R r)
    | rf ds =>
      intro v p
      obtain ⟨a, vs, rfl, hn, nm, ha, hl, hr⟩ := p
      refine h _ H' R.keep R.out ⟨a, vs, rfl, fun z => R.trk0 a z hn, ha, hl, ?_⟩
      exact hr.step ⟨fun _ _ e _ => e, fun b z => .inl (.inr (R.base b z))⟩
    | bk => exact h.elim
    | ct => exact h.elim
theorem sat_F {C : Cfg S} {M0 : Addr → Prop} {m : SM S} {env : List Ent} {s : S} {Q : VK}
    (h : match runF (m env s) with
      | .ok xs s' => ∀ v H', Keep C.mt H H' → C.rel s' M0 H' → (∃ a us, v = .ref a ∧ H a = none ∧ ¬ C.mt a ∧ H' a = some (.lst us) ∧ xs.length ≤ sizeLine ∧ Reps C.at_ (insM M0 a) H' xs us) → Q v H'
      | _ => False) : SatS ⟨C, H, M0⟩ M0 H (m env s) { nx := fun _ H' => Q .non H', rt := Q } W0 := by
  unfold runF at h
  cases e : m env s with
  | bad => rw [e] at h; exact h
  | exc c s1 => rw [e] at h; exact h.elim
  | ok p s1 =>
    rw [e] at h
    obtain ⟨fl, e1⟩ := p
    intro M' σ' H' R st
    cases fl with
    | nx => exact h.elim
    | rt d => exact h.elim
    | rf ds =>
      intro v p
      obtain ⟨a, vs, rfl, hn, nm, ha, hl, hr⟩ := p
      refine h _ H' R.keep R.out ⟨a, vs, rfl, hn, nm, ha, hl, ?_⟩
      exact hr.step ⟨fun _ _ e _ => e, fun b z => .inl (z.elim .inl fun z => .inr (R.base b z))⟩
    | bk => exact h.elim
    | ct => exact h.elim
section
variable {P : Program} {w : World} {K : PySem.W.Frag} {mg : Str → Option Value} {base : Heap} {x : Str} {params : Arguments} {body : List Stmt} {scope : Scope} {f : Addr} {fd : FuncData} {N ps : List Str} {k : Nat} {np : Nat}
/-- the context of such a def's body -/
abbrev BX (P : Program) (w : World) (K : PySem.W.Frag) (mg : Str → Option Value) (base : Heap) (N : List Str) (x : Str) (scope : Scope) (f : Addr) (cdv : Value) (A : Around) (outer : List Env) (s : Shared) (H : Hp) (E : XK) : Cx := (cxOf CX0 P w K mg base N x scope f cdv A outer s H E).nox
abbrev BinA (x : Str) (params : Arguments) (body : List Stmt) (scope : Scope) (ps : List Str) : Prop := ∀ (kV doc pm : Value) (an : Option Addr) (cdv ct : Value) (us : List Value), us.length = ps.length → bindArgs (PySem.W.fnOf x x params body scope .none kV doc pm an cdv ct) ⟨us, []⟩ = pure (ps.zip us)
theorem fnV {Kc : Cfg S → Prop} {m : SM S} (F : FunD K x x params body scope [] [] f fd) (hm : mg x = some (.ref f)) (Sc : FnScope N ps scope) (hb : BinA x params body scope ps) (hn : np = ps.length)
    (hbody : ∀ (cdv : Value) (A : Around) (outer : List Env) (s : Shared) (H : Hp) (E : XK), Room k (A.deeper (PyProof.Rows.envOfC x scope s.heap.objs.size f cdv)) → ∀ F' : Fx S, Kc F'.C → DSs (BX P w K mg base N x scope f cdv A outer s H E) F' W0 body m) :
    Fn P w K mg base (k + 1) x ps (spV Kc np fun ds s => runV (m (startE N.length ds) s)) := by
  refine ⟨f, fd, hm, F.kp, F.bindsN hb, F.ok Sc (fun vs H Q E h => ?_) fun cdv A outer s H vs Q E hr h => ?_⟩
  · obtain ⟨C, M0, ds, s, hK, hl, trk, mt, rel, r, _⟩ := h
    rw [r.length, hl, hn]
  · obtain ⟨C, M0, ds, s0, hK, hl, trk, mt, rel, r, hq⟩ := h
    have hd := hbody cdv A outer s H E hr ⟨C, H, M0⟩ hK
    refine ⟨_, PSs.nox hd, M0, startE N.length ds, s0, rel_start trk mt rel r, sat_V (K := Kc) hq⟩
theorem fnF {Kc : Cfg S → Prop} {m : SM S} (F : FunD K x x params body scope [] [] f fd) (hm : mg x = some (.ref f)) (Sc : FnScope N ps scope) (hb : BinA x params body scope ps) (hn : np = ps.length)
    (hbody : ∀ (cdv : Value) (A : Around) (outer : List Env) (s : Shared) (H : Hp) (E : XK), Room k (A.deeper (PyProof.Rows.envOfC x scope s.heap.objs.size f cdv)) → ∀ F' : Fx S, Kc F'.C → DSs (BX P w K mg base N x scope f cdv A outer s H E) F' W0 body m) :
    Fn P w K mg base (k + 1) x ps (spF Kc np fun ds s => runF (m (startE N.length ds) s)) := by
  refine ⟨f, fd, hm, F.kp, F.bindsN hb, F.ok Sc (fun vs H Q E h => ?_) fun cdv A outer s H vs Q E hr h => ?_⟩
  · obtain ⟨C, M0, ds, s, hK, hl, trk, mt, rel, r, _⟩ := h
    rw [r.length, hl, hn]
  · obtain ⟨C, M0, ds, s0, hK, hl, trk, mt, rel, r, hq⟩ := h
    have hd := hbody cdv A outer s H E hr ⟨C, H, M0⟩ hK
    refine ⟨_, PSs.nox hd, M0, startE N.length ds, s0, rel_start trk mt rel r, sat_F hq⟩
end
/-! ### states: none; a state's object with a counter (the law's deal) -/
def unitC (a : Addr) : Cfg Unit where
  at_ := a
  mt := fun _ => False
  ft := fun _ => False
  rel := fun _ _ _ => True
  sub := fun _ h => h
  trk := fun _ h => h.elim
  keep := fun _ _ _ => trivial
def KU : Cfg Unit → Prop := fun C => ∃ a, C = unitC a
/-! ### calls -/
section
variable {F : Fx S} {env : List Ent} {s s' : S} {σ : L2.St} {W : Wish S} {X : Cx} {x : Str} {p pos : Pos} {e : Expr} {es : List Expr} {k np : Nat} {ps : List Str}
def mCall (np : Nat) (g : List D → S → Res α S) (m : XM S (List D)) : XM S α := fun env s => (m env s).bind fun ds s1 => if ds.length = np then noExc (g ds s1) else .bad
def pureR (r : Res α Unit) (s : S) : Res α S := match r with
  | .ok d _ => .ok d s
  | _ => .bad
def mCallP (np : Nat) (g : List D → Unit → Res α Unit) (m : XM S (List D)) : XM S α := fun env s => (m env s).bind fun ds s1 => if ds.length = np then pureR (g ds ()) s1 else .bad
theorem de_call {Kc : Cfg S → Prop} {g : List D → S → Res D S} {m : XM S (List D)} (G : Fn X.prog X.w X.K X.mg X.base k x ps (spV Kc np g)) (hr : Room k X.A) (hK : Kc F.C) (ha : DA X F W (e :: es) m) (hg : Gl X x := by rfl)
    (hdb : (x == ("__debug__" : Str)) = false := by decide) (he : starEach (e :: es) X.env = (false, eval e X.env) :: starEach es X.env := by rfl) (hpl : (backTo pos (starEach es X.env)).any (·.1) = false := by rfl) : DE X F W (.Call (.Name x p) (e :: es) [] pos) (mCall np g m) := by
  obtain ⟨f, fd, hm, kp, b, ok⟩ := G.ex
  refine peImp (pe_call ok hr hg hm kp b .nil pass0 ha hdb he hpl) fun σ H Q ⟨M, env, s, R, h⟩ => ?_
  refine ⟨M, env, s, R, Sat.bind h fun ds s1 vs H1 R1 k1 p1 h1 => ?_⟩
  by_cases hl : ds.length = np
  · rw [if_pos hl] at h1
    refine ⟨F.C, M, ds, s1, hK, hl, R1.trk, R1.mutM, R1.st, by rw [List.append_nil]; exact p1, ?_⟩
    cases q : g ds s1 with
    | bad => rw [q] at h1; exact h1
    | exc c s2 => rw [q] at h1; exact h1
    | ok d s2 =>
      rw [q] at h1
      exact fun v H' kp rel r => h1 v H' (R1.stay kp rel) kp r
  · rw [if_neg hl] at h1; exact h1.elim
theorem de_callP {g : List D → Unit → Res D Unit} {m : XM S (List D)} (G : Fn X.prog X.w X.K X.mg X.base k x ps (spV KU np g)) (hr : Room k X.A) (ha : DA X F W (e :: es) m) (hg : Gl X x := by rfl)
    (hdb : (x == ("__debug__" : Str)) = false := by decide) (he : starEach (e :: es) X.env = (false, eval e X.env) :: starEach es X.env := by rfl) (hpl : (backTo pos (starEach es X.env)).any (·.1) = false := by rfl) : DE X F W (.Call (.Name x p) (e :: es) [] pos) (mCallP np g m) := by
  obtain ⟨f, fd, hm, kp, b, ok⟩ := G.ex
  refine peImp (pe_call ok hr hg hm kp b .nil pass0 ha hdb he hpl) fun σ H Q ⟨M, env, s, R, h⟩ => ?_
  refine ⟨M, env, s, R, Sat.bind h fun ds s1 vs H1 R1 k1 p1 h1 => ?_⟩
  by_cases hl : ds.length = np
  · rw [if_pos hl] at h1
    refine ⟨unitC F.C.at_, M, ds, (), ⟨_, rfl⟩, hl, R1.trk, fun _ z => z.elim, trivial, by rw [List.append_nil]; exact p1, ?_⟩
    cases q : g ds () with
    | bad => rw [q] at h1; exact h1
    | exc c s2 => rw [q] at h1; exact h1
    | ok d s2 =>
      rw [q] at h1
      intro v H' kp _ r
      have sm : Same H1 H' := fun b u e => kp b u e fun z => z
      exact h1 v H' (R1.same sm) (Same.toKeep sm) r
  · rw [if_neg hl] at h1; exact h1.elim
theorem df_callP {g : List D → Unit → Res (List D) Unit} {m : XM S (List D)} (G : Fn X.prog X.w X.K X.mg X.base k x ps (spF KU np g)) (hr : Room k X.A) (ha : DA X F W (e :: es) m) (hg : Gl X x := by rfl)
    (hdb : (x == ("__debug__" : Str)) = false := by decide) (he : starEach (e :: es) X.env = (false, eval e X.env) :: starEach es X.env := by rfl) (hpl : (backTo pos (starEach es X.env)).any (·.1) = false := by rfl) : DF X F W (.Call (.Name x p) (e :: es) [] pos) (mCallP np g m) := by
  obtain ⟨f, fd, hm, kp, b, ok⟩ := G.ex
  refine peImp (pe_call ok hr hg hm kp b .nil pass0 ha hdb he hpl) fun σ H Q ⟨M, env, s, R, h⟩ => ?_
  refine ⟨M, env, s, R, Sat.bind h fun ds s1 vs H1 R1 k1 p1 h1 => ?_⟩
  by_cases hl : ds.length = np
  · rw [if_pos hl] at h1
    refine ⟨unitC F.C.at_, M, ds, (), ⟨_, rfl⟩, hl, R1.trk, fun _ z => z.elim, trivial, by rw [List.append_nil]; exact p1, ?_⟩
    cases q : g ds () with
    | bad => rw [q] at h1; exact h1
    | exc c s2 => rw [q] at h1; exact h1
    | ok xs s2 =>
      rw [q] at h1
      intro v H' kp _ r
      have sm : Same H1 H' := fun b u e => kp b u e fun z => z
      obtain ⟨a, us, rfl, hn, _, ha, hl, hr⟩ := r
      exact h1 _ H' (R1.same sm) (Same.toKeep sm) ⟨a, us, rfl, hn, fun z => R1.fresh hn (R1.mutM a z), ha, hl, hr⟩
  · rw [if_neg hl] at h1; exact h1.elim
theorem df_call {Kc : Cfg S → Prop} {g : List D → S → Res (List D) S} {m : XM S (List D)} (G : Fn X.prog X.w X.K X.mg X.base k x ps (spF Kc np g)) (hr : Room k X.A) (hK : Kc F.C) (ha : DA X F W (e :: es) m) (hg : Gl X x := by rfl)
    (hdb : (x == ("__debug__" : Str)) = false := by decide) (he : starEach (e :: es) X.env = (false, eval e X.env) :: starEach es X.env := by rfl) (hpl : (backTo pos (starEach es X.env)).any (·.1) = false := by rfl) : DF X F W (.Call (.Name x p) (e :: es) [] pos) (mCall np g m) := by
  obtain ⟨f, fd, hm, kp, b, ok⟩ := G.ex
  refine peImp (pe_call ok hr hg hm kp b .nil pass0 ha hdb he hpl) fun σ H Q ⟨M, env, s, R, h⟩ => ?_
  refine ⟨M, env, s, R, Sat.bind h fun ds s1 vs H1 R1 k1 p1 h1 => ?_⟩
  by_cases hl : ds.length = np
  · rw [if_pos hl] at h1
    refine ⟨F.C, M, ds, s1, hK, hl, R1.trk, R1.mutM, R1.st, by rw [List.append_nil]; exact p1, ?_⟩
    cases q : g ds s1 with
    | bad => rw [q] at h1; exact h1
    | exc c s2 => rw [q] at h1; exact h1
    | ok d s2 =>
      rw [q] at h1
      intro v H' kp rel r
      obtain ⟨a, us, rfl, hn, nm, ha, hl, hr⟩ := r
      exact h1 _ H' (R1.stay kp rel) kp ⟨a, us, rfl, hn, nm, ha, hl, hr⟩
  · rw [if_neg hl] at h1; exact h1.elim
end
end
end L3
namespace L3
open PySem PySem.Spec L2
section
variable {S α β γ δ : Type} {F : Fx S} {M M' : Addr → Prop} {env : List Ent} {s s' : S} {σ : L2.St} {H H' : Hp} {W : Wish S} {X : Cx}
/-! ### enumerate, zip -/
def enumD (ds : List D) : List D := ds.zipIdx.map fun p => .tup [.int (p.2 : Nat), p.1]
def zipD (xs ys : List D) : List D := (xs.zip ys).map fun p => .tup [p.1, p.2]
theorem enumD_length (ds : List D) : (enumD ds).length = ds.length := by unfold enumD; rw [List.length_map, List.length_zipIdx]
theorem enumD_get {ds : List D} {i : Nat} {d : D} (h : ds[i]? = some d) : (enumD ds)[i]? = some (.tup [.int (i : Nat), d]) := by
  unfold enumD
  rw [List.getElem?_map, List.getElem?_zipIdx, h]
  simp
theorem zipD_length (xs ys : List D) : (zipD xs ys).length = min xs.length ys.length := by unfold zipD; rw [List.length_map, List.length_zip]
theorem zipD_get {xs ys : List D} {i : Nat} {a b : D} (h1 : xs[i]? = some a) (h2 : ys[i]? = some b) : (zipD xs ys)[i]? = some (.tup [a, b]) := by
  unfold zipD
  rw [List.getElem?_map]
  have : (xs.zip ys)[i]? = some (a, b) := by rw [List.getElem?_zip_eq_some]; exact ⟨h1, h2⟩
  rw [this]; rfl
/-- pairs, new at each turn -/
theorem walk_pair_ok {o : Addr} {ok : (Addr → Prop) → Hp → Prop} {J : It} {G : Hp → Prop} {f g : Nat → Option V} {ds : List D} (w : Walk J ds.length G (YPair f g)) (hG : ∀ M2 H2, ok M2 H2 → G H2) (hl : ds.length ≤ sizeLine)
    (hr : ∀ i M2 H2 x y, i < ds.length → ok M2 H2 → f i = some x → g i = some y → ∃ a b, ds[i]? = some (.tup [a, b]) ∧ Rep o M2 H2 a x ∧ Rep o M2 H2 b y) : IterOk o ok ds J :=
  ⟨⟨G, _, w, hG, fun i M2 H2 v H3 hi z t q => by
    obtain ⟨T, x, y, rfl, hT, rfl, e1, e2⟩ := q
    obtain ⟨a, b, h1, h2, h3⟩ := hr i M2 H2 x y hi z e1 e2
    refine ⟨same_upd hT, _, h1, ?_⟩
    exact Rep.newTup ⟨x, [y], rfl, h2, y, [], rfl, h3, rfl⟩ hT (fun m => t T m hT) (by rw [line_eq]; simp)⟩, hl⟩
def mEnum (m : XM S D) : XM S (List D) := fun env s => (m env s).bind fun d s1 => ret? ((dItems d).map enumD) s1
section
variable {e e2 : Expr} {m m2 : XM S D} {p pos tpos : Pos} {elts : List Expr} {kk : Nat}
theorem enum_ok {K : PySem.W.Frag} {o a : Addr} {ok : (Addr → Prop) → Hp → Prop} {ds : List D} {vs : List V} (r : ∀ M2 H2, ok M2 H2 → Reps o M2 H2 ds vs) (hl : ds.length ≤ sizeLine) (hv : vs.length = ds.length) (h : ∀ M2 H2, ok M2 H2 → H2 a = some (.lst vs)) : IterOk o ok (enumD ds) (Ite K a) :=
  walk_pair_ok (G := fun H => SqL K H a vs) (f := fun i => some (.int (i : Nat))) (g := fun i => vs[i]?) (by rw [enumD_length, ← hv]; exact walk_enum) (fun M2 H2 z => SqL.of (h M2 H2 z)) (by rw [enumD_length]; exact hl) fun i M2 H2 x y hi z e1 e2 => by
    cases e1
    obtain ⟨d, h1, h2⟩ := (r M2 H2 z).get e2
    exact ⟨_, d, enumD_get h1, rfl, h2⟩
theorem enum_okT {K : PySem.W.Frag} {o a : Addr} {ok : (Addr → Prop) → Hp → Prop} {ds : List D} {vs : List V} (r : ∀ M2 H2, ok M2 H2 → Reps o M2 H2 ds vs) (hl : ds.length ≤ sizeLine) (hv : vs.length = ds.length) (h : ∀ M2 H2, ok M2 H2 → H2 a = some (.tup vs)) : IterOk o ok (enumD ds) (IteT K a) :=
  walk_pair_ok (G := fun H => SqT K H a vs) (f := fun i => some (.int (i : Nat))) (g := fun i => vs[i]?) (by rw [enumD_length, ← hv]; exact walk_enumT) (fun M2 H2 z => SqT.of (h M2 H2 z)) (by rw [enumD_length]; exact hl) fun i M2 H2 x y hi z e1 e2 => by
    cases e1
    obtain ⟨d, h1, h2⟩ := (r M2 H2 z).get e2
    exact ⟨_, d, enumD_get h1, rfl, h2⟩
theorem di_enum (hm : X.mg "enumerate" = none) (h : DE X F W e m) (hg : Gl X "enumerate" := by rfl) (hs : starEach [e] X.env = [(false, eval e X.env)] := by rfl) : DI X F W (.Tuple elts kk tpos) (.Call (.Name "enumerate" p) [e] [] pos) (mEnum m) :=
  piImp (pi_enumA hg hm (pa_cons h pa_nil hs) hs) fun σ H Q ⟨M, env, s, R, h⟩ => by
    refine ⟨M, env, s, R, Sat.bind h fun d s1 v H1 R1 k1 p1 h1 => ?_⟩
    cases d with
    | tup ds =>
      obtain ⟨a, vs, rfl, na, ha, la, ra⟩ := p1
      exact ⟨a, vs, rfl, .inr ⟨SqT.of ha, h1 _ H1 R1 Keep.refl (enum_okT (fun M2 H2 z => ra.step z) la ra.length fun M2 H2 z => z.kp a _ ha na)⟩⟩
    | lst ds =>
      obtain ⟨a, vs, rfl, na, ha, la, ra⟩ := p1
      exact ⟨a, vs, rfl, .inl ⟨SqL.of ha, h1 _ H1 R1 Keep.refl (enum_ok (fun M2 H2 z => ra.step z) la ra.length fun M2 H2 z => z.kp a _ ha na)⟩⟩
    | _ => exact h1.elim
theorem dj_enum (hm : X.mg "enumerate" = none) (h : DV X F W e m) (hg : Gl X "enumerate" := by rfl) (hs : starEach [e] X.env = [(false, eval e X.env)] := by rfl) : DJ X F W (.Tuple elts kk tpos) (.Call (.Name "enumerate" p) [e] [] pos) (mEnum m) :=
  piImp (pi_enumA hg hm (pa_cons h pa_nil hs) hs) fun σ H Q ⟨M, env, s, R, h⟩ => by
    refine ⟨M, env, s, R, Sat.bind h fun d s1 v H1 R1 k1 p1 h1 => ?_⟩
    cases d with
    | tup ds =>
      obtain ⟨a, vs, rfl, na, ha, la, ra⟩ := p1.tup
      exact ⟨a, vs, rfl, .inr ⟨SqT.of ha, h1 _ H1 R1 Keep.refl (enum_okT (fun M2 H2 z => ra.step z.1) la ra.length fun M2 H2 z => z.1.kp a _ ha na)⟩⟩
    | lst ds =>
      obtain ⟨a, vs, rfl, na, ha, la, ra⟩ := p1.lst
      exact ⟨a, vs, rfl, .inl ⟨SqL.of ha, h1 _ H1 R1 Keep.refl (enum_ok (fun M2 H2 z => ra.step z.1) la ra.length fun M2 H2 z => z.2 a _ ha na)⟩⟩
    | _ => exact h1.elim
/-- both lists, or both tuples -/
@[simp] def dZip : D → D → Option (List D)
  | .tup xs, .tup ys => some (zipD xs ys)
  | .lst xs, .lst ys => some (zipD xs ys)
  | _, _ => none
def mZip (m m2 : XM S D) : XM S (List D) := fun env s => (m env s).bind fun d s1 => (m2 env s1).bind fun d2 s2 => ret? (dZip d d2) s2
theorem zip_ok {K : PySem.W.Frag} {o a b : Addr} {ok : (Addr → Prop) → Hp → Prop} {ds es : List D} {vs us : List V} (r : ∀ M2 H2, ok M2 H2 → Reps o M2 H2 ds vs) (r2 : ∀ M2 H2, ok M2 H2 → Reps o M2 H2 es us) (hl : ds.length ≤ sizeLine) (hv : vs.length = ds.length) (hu : us.length = es.length)
    (h : ∀ M2 H2, ok M2 H2 → H2 a = some (.lst vs)) (h2 : ∀ M2 H2, ok M2 H2 → H2 b = some (.lst us)) : IterOk o ok (zipD ds es) (Itz K a b) :=
  walk_pair_ok (G := fun H => SqL K H a vs ∧ SqL K H b us) (f := fun i => vs[i]?) (g := fun i => us[i]?) (by rw [zipD_length, ← hv, ← hu]; exact walk_zip rfl) (fun M2 H2 z => ⟨SqL.of (h M2 H2 z), SqL.of (h2 M2 H2 z)⟩) (by rw [zipD_length]; exact Nat.le_trans (Nat.min_le_left _ _) hl) fun i M2 H2 x y hi z e1 e2 => by
    obtain ⟨d, g1, g2⟩ := (r M2 H2 z).get e1
    obtain ⟨d2, g3, g4⟩ := (r2 M2 H2 z).get e2
    exact ⟨d, d2, zipD_get g1 g3, g2, g4⟩
theorem zip_okT {K : PySem.W.Frag} {o a b : Addr} {ok : (Addr → Prop) → Hp → Prop} {ds es : List D} {vs us : List V} (r : ∀ M2 H2, ok M2 H2 → Reps o M2 H2 ds vs) (r2 : ∀ M2 H2, ok M2 H2 → Reps o M2 H2 es us) (hl : ds.length ≤ sizeLine) (hv : vs.length = ds.length) (hu : us.length = es.length)
    (h : ∀ M2 H2, ok M2 H2 → H2 a = some (.tup vs)) (h2 : ∀ M2 H2, ok M2 H2 → H2 b = some (.tup us)) : IterOk o ok (zipD ds es) (RZ.ItzT K a b) :=
  walk_pair_ok (G := fun H => SqT K H a vs ∧ SqT K H b us) (f := fun i => vs[i]?) (g := fun i => us[i]?) (by rw [zipD_length, ← hv, ← hu]; exact walk_zipT rfl) (fun M2 H2 z => ⟨SqT.of (h M2 H2 z), SqT.of (h2 M2 H2 z)⟩) (by rw [zipD_length]; exact Nat.le_trans (Nat.min_le_left _ _) hl) fun i M2 H2 x y hi z e1 e2 => by
    obtain ⟨d, g1, g2⟩ := (r M2 H2 z).get e1
    obtain ⟨d2, g3, g4⟩ := (r2 M2 H2 z).get e2
    exact ⟨d, d2, zipD_get g1 g3, g2, g4⟩
theorem di_zip (hm : X.mg "zip" = none) (h : DE X F W e m) (h2 : DE X F W e2 m2) (hg : Gl X "zip" := by rfl) (hs : starEach [e, e2] X.env = (false, eval e X.env) :: starEach [e2] X.env := by rfl) (hs2 : starEach [e2] X.env = (false, eval e2 X.env) :: starEach [] X.env := by rfl) (hpl : (backTo pos (starEach [e2] X.env)).any (·.1) = false := by rfl) :
    DI X F W (.Tuple elts kk tpos) (.Call (.Name "zip" p) [e, e2] [] pos) (mZip m m2) :=
  piImp (RZ.pi_zipA hg hm (pa_cons h (pa_cons h2 pa_nil hs2) hs) hs hpl) fun σ H Q ⟨M, env, s, R, h⟩ => by
    refine ⟨M, env, s, R, Sat.bind h fun d s1 v H1 R1 k1 p1 h1 => ?_⟩
    refine ⟨M, env, s1, R1, Sat.bind h1 fun d2 s2 v2 H2 R2 k2 p2 h2 => ?_⟩
    have p1' := Rep.step (k2.step R1.mutM) p1
    cases d with
    | tup ds =>
      cases d2 with
      | tup es =>
        obtain ⟨a, vs, rfl, na, ha, la, ra⟩ := p1'
        obtain ⟨b, us, rfl, nb, hb, lb, rb⟩ := p2
        exact ⟨a, b, vs, us, rfl, .inr ⟨SqT.of ha, SqT.of hb, h2 _ H2 R2 Keep.refl (zip_okT (fun M2 H2 z => ra.step z) (fun M2 H2 z => rb.step z) la ra.length rb.length (fun M2 H2 z => z.kp a _ ha na) fun M2 H2 z => z.kp b _ hb nb)⟩⟩
      | _ => exact h2.elim
    | lst ds =>
      cases d2 with
      | lst es =>
        obtain ⟨a, vs, rfl, na, ha, la, ra⟩ := p1'
        obtain ⟨b, us, rfl, nb, hb, lb, rb⟩ := p2
        exact ⟨a, b, vs, us, rfl, .inl ⟨SqL.of ha, SqL.of hb, h2 _ H2 R2 Keep.refl (zip_ok (fun M2 H2 z => ra.step z) (fun M2 H2 z => rb.step z) la ra.length rb.length (fun M2 H2 z => z.kp a _ ha na) fun M2 H2 z => z.kp b _ hb nb)⟩⟩
      | _ => exact h2.elim
    | _ => cases d2 <;> exact h2.elim
theorem dj_zip (hm : X.mg "zip" = none) (h : DV X F W e m) (h2 : DV X F W e2 m2) (hg : Gl X "zip" := by rfl) (hs : starEach [e, e2] X.env = (false, eval e X.env) :: starEach [e2] X.env := by rfl) (hs2 : starEach [e2] X.env = (false, eval e2 X.env) :: starEach [] X.env := by rfl) (hpl : (backTo pos (starEach [e2] X.env)).any (·.1) = false := by rfl) :
    DJ X F W (.Tuple elts kk tpos) (.Call (.Name "zip" p) [e, e2] [] pos) (mZip m m2) :=
  piImp (RZ.pi_zipA hg hm (pa_cons h (pa_cons h2 pa_nil hs2) hs) hs hpl) fun σ H Q ⟨M, env, s, R, h⟩ => by
    refine ⟨M, env, s, R, Sat.bind h fun d s1 v H1 R1 k1 p1 h1 => ?_⟩
    refine ⟨M, env, s1, R1, Sat.bind h1 fun d2 s2 v2 H2 R2 k2 p2 h2 => ?_⟩
    have p1' : RepV F M H2 d v := RepV.stay R1.mutM p1 k2
    cases d with
    | tup ds =>
      cases d2 with
      | tup es =>
        obtain ⟨a, vs, rfl, na, ha, la, ra⟩ := p1'.tup
        obtain ⟨b, us, rfl, nb, hb, lb, rb⟩ := p2.tup
        exact ⟨a, b, vs, us, rfl, .inr ⟨SqT.of ha, SqT.of hb, h2 _ H2 R2 Keep.refl (zip_okT (fun M2 H2 z => ra.step z.1) (fun M2 H2 z => rb.step z.1) la ra.length rb.length (fun M2 H2 z => z.1.kp a _ ha na) fun M2 H2 z => z.1.kp b _ hb nb)⟩⟩
      | _ => exact h2.elim
    | lst ds =>
      cases d2 with
      | lst es =>
        obtain ⟨a, vs, rfl, na, ha, la, ra⟩ := p1'.lst
        obtain ⟨b, us, rfl, nb, hb, lb, rb⟩ := p2.lst
        exact ⟨a, b, vs, us, rfl, .inl ⟨SqL.of ha, SqL.of hb, h2 _ H2 R2 Keep.refl (zip_ok (fun M2 H2 z => ra.step z.1) (fun M2 H2 z => rb.step z.1) la ra.length rb.length (fun M2 H2 z => z.2 a _ ha na) fun M2 H2 z => z.2 b _ hb nb)⟩⟩
      | _ => exact h2.elim
    | _ => cases d2 <;> exact h2.elim
end
end
end L3
namespace L3
open PySem PySem.Spec L2
/-- a def stands in the text, under its name -/
def HasF (K : PySem.W.Frag) (mg : Str → Option Value) (x : Str) (st : Stmt) : Prop := ∃ f fd, FunD K x x (defArgs st) (defBody st) (defScope st) [] [] f fd ∧ mg x = some (.ref f)
section
variable {S : Type} {P : Program} {w : World} {K : PySem.W.Frag} {mg : Str → Option Value} {base : Heap} {x : Str} {params : Arguments} {body : List Stmt} {scope : Scope} {f : Addr} {fd : FuncData} {N ps : List Str} {k : Nat} {np : Nat}
theorem fnBad {Kc : Cfg S → Prop} (F : FunD K x x params body scope [] [] f fd) (hm : mg x = some (.ref f)) (hb : BinA x params body scope ps) : Fn P w K mg base k x ps (spV Kc np fun _ _ => .bad) :=
  ⟨f, fd, hm, F.kp, F.bindsN hb, ⟨fun vs H Q E h => by obtain ⟨_, _, _, _, _, _, _, _, _, _, z⟩ := h; exact z.elim, fun A outer s H args us vs Q E hr e0 hb r h => by obtain ⟨_, _, _, _, _, _, _, _, _, _, z⟩ := h; exact z.elim⟩⟩
end
/-! ### the law's deal: a row, a counter, a sum -/
/-- what the n-th take draws from -/
def drawn (row : List Int) (total : Int) (n : Nat) : Int := if n < row.length then row.getD n 0 else
  let c0 := ((n : Int) * 7919 + total * 31 + 17) % 2147483629
  let c1 := (c0 * c0 + 48271 * (n : Int) + 12345) % 2147483647
  let c2 := (c1 * c1 + 48271 * (n : Int) + 12345) % 2147483647
  let c3 := (c2 * c2 + 48271 * (n : Int) + 12345) % 2147483647
  c3 / 7
def dealRel (a r c : Addr) (row : List Int) (total : Int) (n : Nat) (M : Addr → Prop) (H : Hp) : Prop :=
  H a = some (.lst [.ref r, .ref c, .int total]) ∧ H r = some (.lst (row.map V.int)) ∧ H c = some (.lst [.int (n : Nat)]) ∧ a ≠ c ∧ r ≠ c ∧ a ≠ r
def dealC (a r c : Addr) (row : List Int) (total : Int) : Cfg Nat where
  at_ := a
  mt := fun b => b = c
  ft := fun b => b = a ∨ b = r ∨ b = c
  rel := dealRel a r c row total
  sub := fun _ h => .inr (.inr h)
  trk := fun {s M H b} h f z => by
    obtain ⟨h1, h2, h3, _⟩ := h
    rcases f with e | e | e
    · rw [e, h1] at z; cases z
    · rw [e, h2] at z; cases z
    · rw [e, h3] at z; cases z
  keep := fun {s M H M' H'} h k _ => ⟨k _ _ (.inl rfl) h.1, k _ _ (.inr (.inl rfl)) h.2.1, k _ _ (.inr (.inr rfl)) h.2.2.1, h.2.2.2⟩
def KD (b : Nat → Int) : Cfg Nat → Prop := fun C => ∃ a r c row total, C = dealC a r c row total ∧ b = drawn row total
/-- what a take gives -/
def f_law_take (b : Nat → Int) (ds : List D) (n : Nat) : Res D Nat := match ds with
  | [.obj, .int many] => if 0 < many then .ok (.int (b n % many)) (n + 1) else .bad
  | _ => .bad
end L3
namespace L3
open PySem PySem.Spec L2
/-! ### the law's deal: reading and turning it -/
section
variable {F : Fx Nat} {M : Addr → Prop} {env : List Ent} {s : Nat} {σ : L2.St} {H : Hp} {W : Wish Nat} {X : Cx} {a r c : Addr} {row : List Int} {total : Int}
theorem deal_st (hC : F.C = dealC a r c row total) (R : RelS F M env s σ H) : dealRel a r c row total s M H := by
  have := R.st
  rw [hC] at this
  exact this
theorem deal_at (hC : F.C = dealC a r c row total) (R : RelS F M env s σ H) {i : Nat} (e : env[i]? = some (.v .obj)) : σ[i]? = some (some (.ref a)) := by
  obtain ⟨v, h1, h2⟩ := R.val i _ e
  rw [h1, show v = .ref F.C.at_ from h2, hC]
  rfl
def isObj (i : Nat) (env : List Ent) : Bool := match env[i]? with
  | some (.v .obj) => true
  | _ => false
theorem isObj_eq {i : Nat} (h : isObj i env = true) : env[i]? = some (.v .obj) := by
  unfold isObj at h
  split at h
  · assumption
  · cases h
/-- a reading of the deal -/
def mDeal (i : Nat) (g : Nat → D) : XM Nat D := fun env s => if isObj i env = true then .ok (g s) s else .bad
variable {x : Str} {px p2 p3 : Pos} {j0 j1 k0 k1 : Nat} {q1 q2 q3 : Pos}
theorem de_dealAt (hC : F.C = dealC a r c row total) (i : Nat) (hN : X.N[i]? = some x := by rfl) (hv : Vis X.env.scope x := by first | exact Or.inl rfl | exact Or.inr (Or.inl rfl) | exact Or.inr (Or.inr rfl)) (hd : (x == ("__debug__" : Str)) = false := by decide) (hcd : (x == ("__classdict__" : Str)) = false := by decide) :
    DE X F W (.Subscript (.Subscript (.Name x px) (.Constant (.int 1) k0 q1) p2) (.Constant (.int 0) k1 q2) p3) (mDeal i fun n => .int n) :=
  peImp (pe_ix ix_list (pe_ix ix_list (pe_var hN hv hd hcd) pe_int fun _ _ => rfl) pe_int fun _ _ => rfl) fun σ H Q ⟨M, env, s, R, h⟩ => by
    unfold mDeal at h
    by_cases ho : isObj i env = true
    · rw [if_pos ho] at h
      obtain ⟨h1, h2, h3, _⟩ := deal_st hC R
      exact ⟨.ref a, deal_at hC R (isObj_eq ho), a, _, 1, .ref c, rfl, rfl, SqL.of h1, rfl, c, _, 0, .int s, rfl, rfl, SqL.of h3, rfl, h _ H R Keep.refl rfl⟩
    · rw [if_neg ho] at h; exact h.elim
theorem de_dealSum (hC : F.C = dealC a r c row total) (i : Nat) (hN : X.N[i]? = some x := by rfl) (hv : Vis X.env.scope x := by first | exact Or.inl rfl | exact Or.inr (Or.inl rfl) | exact Or.inr (Or.inr rfl)) (hd : (x == ("__debug__" : Str)) = false := by decide) (hcd : (x == ("__classdict__" : Str)) = false := by decide) :
    DE X F W (.Subscript (.Name x px) (.Constant (.int 2) k0 q1) p2) (mDeal i fun _ => .int total) :=
  peImp (pe_ix ix_list (pe_var hN hv hd hcd) pe_int fun _ _ => rfl) fun σ H Q ⟨M, env, s, R, h⟩ => by
    unfold mDeal at h
    by_cases ho : isObj i env = true
    · rw [if_pos ho] at h
      obtain ⟨h1, h2, h3, _⟩ := deal_st hC R
      exact ⟨.ref a, deal_at hC R (isObj_eq ho), a, _, 2, .int total, rfl, rfl, SqL.of h1, rfl, h _ H R Keep.refl rfl⟩
    · rw [if_neg ho] at h; exact h.elim
theorem de_dealLen (hC : F.C = dealC a r c row total) (i : Nat) (hm : X.mg "len" = none) (hN : X.N[i]? = some x := by rfl) (hv : Vis X.env.scope x := by first | exact Or.inl rfl | exact Or.inr (Or.inl rfl) | exact Or.inr (Or.inr rfl)) (hd : (x == ("__debug__" : Str)) = false := by decide) (hcd : (x == ("__classdict__" : Str)) = false := by decide) (hg : Gl X "len" := by rfl)
    (hs : starEach [.Subscript (.Name x px) (.Constant (.int 0) k0 q1) p2] X.env = (false, eval (.Subscript (.Name x px) (.Constant (.int 0) k0 q1) p2) X.env) :: starEach [] X.env := by rfl) (hpl : (backTo q3 (starEach [] X.env)).any (·.1) = false := by rfl) :
    DE X F W (.Call (.Name "len" p3) [.Subscript (.Name x px) (.Constant (.int 0) k0 q1) p2] [] q3) (mDeal i fun _ => .int row.length) :=
  peImp (pe_callB call_len hg hm boot_len (pa_cons (pe_ix ix_list (pe_var hN hv hd hcd) pe_int fun _ _ => rfl) pa_nil hs) (he := hs) (hpl := hpl)) fun σ H Q ⟨M, env, s, R, h⟩ => by
    unfold mDeal at h
    by_cases ho : isObj i env = true
    · rw [if_pos ho] at h
      obtain ⟨h1, h2, h3, _⟩ := deal_st hC R
      refine ⟨.ref a, deal_at hC R (isObj_eq ho), a, _, 0, .ref r, rfl, rfl, SqL.of h1, rfl, .ref r, _, rfl, .inl ⟨_, SqL.of h2, rfl⟩, h _ H R Keep.refl ?_⟩
      show V.int _ = _
      rw [List.length_map]
    · rw [if_neg ho] at h; exact h.elim
/-- deal[0][k], within the row -/
def mDealItem (i : Nat) (row : List Int) (m : XM Nat D) : XM Nat D := fun env s => if isObj i env = true then (m env s).bind fun d s1 => match d with
  | .int k => if 0 ≤ k ∧ k < row.length then .ok (.int (row.getD k.toNat 0)) s1 else .bad
  | _ => .bad else .bad
theorem de_dealItem {e : Expr} {m : XM Nat D} (hC : F.C = dealC a r c row total) (i : Nat) (he : DV X F W e m) (hN : X.N[i]? = some x := by rfl) (hv : Vis X.env.scope x := by first | exact Or.inl rfl | exact Or.inr (Or.inl rfl) | exact Or.inr (Or.inr rfl)) (hd : (x == ("__debug__" : Str)) = false := by decide) (hcd : (x == ("__classdict__" : Str)) = false := by decide) (hs : PlainIx e := by exact fun _ _ => rfl) :
    DE X F W (.Subscript (.Subscript (.Name x px) (.Constant (.int 0) k0 q1) p2) e p3) (mDealItem i row m) :=
  peImp (pe_ix ix_list (pe_ix ix_list (pe_var hN hv hd hcd) pe_int fun _ _ => rfl) he hs) fun σ H Q ⟨M, env, s, R, h⟩ => by
    unfold mDealItem at h
    by_cases ho : isObj i env = true
    · rw [if_pos ho] at h
      obtain ⟨h1, h2, h3, _⟩ := deal_st hC R
      refine ⟨.ref a, deal_at hC R (isObj_eq ho), a, _, 0, .ref r, rfl, rfl, SqL.of h1, rfl, M, env, s, R, Sat.bind h fun d s1 v H1 R1 k1 p1 g1 => ?_⟩
      obtain ⟨h1, h2, h3, _⟩ := deal_st hC R1
      cases d with
      | int k =>
        by_cases hk : 0 ≤ k ∧ k < row.length
        · have g1' : Sat F M env σ H1 (PE_ F) (.ok (.int (row.getD k.toNat 0)) s1) Q W := by simpa [hk] using g1
          have hlt : k.toNat < row.length := by omega
          have eat : atI (row.map V.int) k = some (.int (row.getD k.toNat 0)) := by
            have ek : k = ((k.toNat : Nat) : Int) := by omega
            rw [ek]
            refine atI_nat ?_
            rw [List.getElem?_map, List.getElem?_eq_getElem hlt, List.getD_eq_getElem?_getD, Int.toNat_natCast, List.getElem?_eq_getElem hlt]
            rfl
          exact ⟨r, _, k, _, rfl, p1, SqL.of h2, eat, g1' _ H1 R1 Keep.refl rfl⟩
        · have g1' : Sat F M env σ H1 (PE_ F) (.bad) Q W := by simpa [hk] using g1
          exact g1'.elim
      | _ => exact g1.elim
    · rw [if_neg ho] at h; exact h.elim
/-- deal[1][0] = e -/
def mDealPut (i : Nat) (m : XM Nat D) : SM Nat := fun env s => if isObj i env = true then (m env s).bind fun d s1 => match d with
  | .int k => if 0 ≤ k then .ok (.nx, env) k.toNat else .bad
  | _ => .bad else .bad
theorem ds_dealPut {e : Expr} {m : XM Nat D} {pos : Pos} (hC : F.C = dealC a r c row total) (i : Nat) (he : DE X F W e m) (hN : X.N[i]? = some x := by rfl) (hv : Vis X.env.scope x := by first | exact Or.inl rfl | exact Or.inr (Or.inl rfl) | exact Or.inr (Or.inr rfl)) (hd : (x == ("__debug__" : Str)) = false := by decide) (hcd : (x == ("__classdict__" : Str)) = false := by decide)
    (ha : ∀ v, assign (.Subscript (.Subscript (.Name x px) (.Constant (.int 1) k0 q1) p2) (.Constant (.int 0) k1 q2) p3) X.env v = (do
      let ov ← holding [v] (eval (.Subscript (.Name x px) (.Constant (.int 1) k0 q1) p2) X.env)
      let iv ← holding [v, ov] (eval (.Constant (.int 0) k1 q2) X.env)
      standAt p3
      holding [v, ov, iv] (setItem ov iv v)
      release [v, ov, iv] []) := by intro _; rfl) (hs : swapsWithSole [.Subscript (.Subscript (.Name x px) (.Constant (.int 1) k0 q1) p2) (.Constant (.int 0) k1 q2) p3] e pos.line X.env = pure false := by rfl) (hw : swappedStores [.Subscript (.Subscript (.Name x px) (.Constant (.int 1) k0 q1) p2) (.Constant (.int 0) k1 q2) p3] e X.env = pure none := by rfl)
    (h1 : (assignEach [.Subscript (.Subscript (.Name x px) (.Constant (.int 1) k0 q1) p2) (.Constant (.int 0) k1 q2) p3] X.env).map (·.2) = [assign (.Subscript (.Subscript (.Name x px) (.Constant (.int 1) k0 q1) p2) (.Constant (.int 0) k1 q2) p3) X.env] := by rfl) :
    DS X F W (.Assign [.Subscript (.Subscript (.Name x px) (.Constant (.int 1) k0 q1) p2) (.Constant (.int 0) k1 q2) p3] e pos) (mDealPut i m) :=
  psImp (ps_asg he (pg_sub (pe_ix ix_list (pe_var hN hv hd hcd) pe_int fun _ _ => rfl) pe_int set_list ha) hs hw h1) fun Dn σ H ⟨M, env, s, R, h⟩ => by
    unfold mDealPut at h
    by_cases ho : isObj i env = true
    · rw [if_pos ho] at h
      refine ⟨M, env, s, R, SatS.bind h R.mutM fun d s1 v H1 _ R1 k1 p1 g1 => ?_⟩
      obtain ⟨h1, h2, h3, n1, n2, n3⟩ := deal_st hC R1
      cases d with
      | int k =>
        by_cases hk : 0 ≤ k
        · have g1' : SatS F M H1 (.ok (.nx, env) k.toNat) Dn W := by simpa [hk] using g1
          rw [show v = .int k from p1]
          refine ⟨.ref a, deal_at hC R1 (isObj_eq ho), a, _, 1, .ref c, rfl, rfl, SqL.of h1, rfl, c, _, 0, 0, rfl, rfl, h3, rfl, ?_⟩
          have kp : Keep F.C.mt H1 (upd H1 c (.lst [.int k])) := fun b u e n => by
            rw [upd_ne (fun z => n (by rw [hC]; exact z))]; exact e
          have rel : F.C.rel k.toNat M (upd H1 c (.lst [.int k])) := by
            rw [hC]
            exact ⟨by rw [upd_ne n1]; exact h1, by rw [upd_ne n2]; exact h2, by rw [upd_same, Int.toNat_of_nonneg hk], n1, n2, n3⟩
          exact g1' M _ _ (R1.stay kp rel) (kp.step R1.mutM)
        · have g1' : SatS F M H1 (.bad) Dn W := by simpa [hk] using g1
          exact g1'.elim
      | _ => exact g1.elim
    · rw [if_neg ho] at h; exact h.elim
end
end L3
namespace L3
open PySem PySem.Spec L2
/-! ### the script as a state's object -/
def scrRel (K : PySem.W.Frag) (sa : Addr) (ns : List Int) (tr : Bool) (H : Hp) : Prop := match tr with
  | true => Rd H sa (.lst (ns.map V.int))
  | false => ∀ H', SqL K H' sa (ns.map V.int)
theorem scr_keep {K : PySem.W.Frag} {sa : Addr} {ns : List Int} {H H' : Hp} : ∀ {tr : Bool}, scrRel K sa ns tr H → (∀ b u, (tr = true ∧ b = sa) → H b = some u → H' b = some u) → scrRel K sa ns tr H'
  | true, h, k => by
    rcases h with h | ⟨o, h⟩
    · exact .inl (k _ _ ⟨rfl, rfl⟩ h)
    · exact .inr ⟨o, k _ _ ⟨rfl, rfl⟩ h⟩
  | false, h, _ => h
theorem scr_trk {K : PySem.W.Frag} {sa : Addr} {ns : List Int} {H : Hp} : ∀ {tr : Bool} {a : Addr}, scrRel K sa ns tr H → (tr = true ∧ a = sa) → H a ≠ none
  | true, _, h, ⟨_, e⟩, z => by
    rw [e] at z
    rcases h with h | ⟨o, h⟩ <;> (rw [h] at z; cases z)
  | false, _, _, ⟨e, _⟩, _ => by cases e
theorem scr_sq {K : PySem.W.Frag} {sa : Addr} {ns : List Int} {H : Hp} : ∀ {tr : Bool}, scrRel K sa ns tr H → SqL K H sa (ns.map V.int)
  | true, h => .inl h
  | false, h => h H
def scriptC (K : PySem.W.Frag) (sa : Addr) (ns : List Int) (tr : Bool) : Cfg Unit where
  at_ := sa
  mt := fun _ => False
  ft := fun b => tr = true ∧ b = sa
  rel := fun _ _ H => scrRel K sa ns tr H
  sub := fun _ h => h.elim
  trk := fun {s M H a} h f z => scr_trk h f z
  keep := fun {s M H M' H'} h k _ => scr_keep h k
theorem script_rel {K : PySem.W.Frag} {sa : Addr} {ns : List Int} {H : Hp} (h : SqL K H sa (ns.map V.int)) : ∃ tr, ∀ M, (scriptC K sa ns tr).rel () M H := by
  rcases h with h | h
  · exact ⟨true, fun _ => h⟩
  · exact ⟨false, fun _ _ => .inr h⟩
section
variable {F : Fx Unit} {W : Wish Unit} {X : Cx} {sa : Addr} {ns : List Int} {tr : Bool}
theorem script_sq {M : Addr → Prop} {env : List Ent} {s : Unit} {σ : L2.St} {H : Hp} (hC : F.C = scriptC X.K sa ns tr) (R : RelS F M env s σ H) : SqL X.K H sa (ns.map V.int) := by
  have h := R.st
  rw [hC] at h
  exact scr_sq (tr := tr) h
theorem script_at {M : Addr → Prop} {env : List Ent} {s : Unit} {σ : L2.St} {H : Hp} (hC : F.C = scriptC X.K sa ns tr) (R : RelS F M env s σ H) {i : Nat} (e : env[i]? = some (.v .obj)) : σ[i]? = some (some (.ref sa)) := by
  obtain ⟨v, h1, h2⟩ := R.val i _ e
  rw [h1, show v = .ref F.C.at_ from h2, hC]
  rfl
def mScr (i : Nat) (g : D) : XM Unit D := fun env s => if isObj i env = true then .ok g s else .bad
variable {x : Str} {px p2 p3 q3 : Pos}
theorem de_scrLen (hC : F.C = scriptC X.K sa ns tr) (i : Nat) (hm : X.mg "len" = none) (hN : X.N[i]? = some x := by rfl) (hv : Vis X.env.scope x := by first | exact Or.inl rfl | exact Or.inr (Or.inl rfl) | exact Or.inr (Or.inr rfl)) (hd : (x == ("__debug__" : Str)) = false := by decide) (hcd : (x == ("__classdict__" : Str)) = false := by decide) (hg : Gl X "len" := by rfl)
    (hs : starEach [.Name x px] X.env = (false, eval (.Name x px) X.env) :: starEach [] X.env := by rfl) (hpl : (backTo q3 (starEach [] X.env)).any (·.1) = false := by rfl) : DE X F W (.Call (.Name "len" p3) [.Name x px] [] q3) (mScr i (.int (ns.length : Nat))) :=
  peImp (pe_callB call_len hg hm boot_len (pa_cons (pe_var hN hv hd hcd) pa_nil hs) (he := hs) (hpl := hpl)) fun σ H Q ⟨M, env, s, R, h⟩ => by
    unfold mScr at h
    by_cases ho : isObj i env = true
    · rw [if_pos ho] at h
      refine ⟨.ref sa, script_at hC R (isObj_eq ho), .ref sa, _, rfl, .inl ⟨_, script_sq hC R, rfl⟩, h _ H R Keep.refl ?_⟩
      show V.int _ = _
      rw [List.length_map]
    · rw [if_neg ho] at h; exact h.elim
def mScrItem (i : Nat) (ns : List Int) (m : XM Unit D) : XM Unit D := fun env s => if isObj i env = true then (m env s).bind fun d s1 => match d with
  | .int k => if 0 ≤ k ∧ k < ns.length then .ok (.int (ns.getD k.toNat 0)) s1 else .bad
  | _ => .bad else .bad
theorem de_scrItem {e : Expr} {m : XM Unit D} (hC : F.C = scriptC X.K sa ns tr) (i : Nat) (he : DV X F W e m) (hN : X.N[i]? = some x := by rfl) (hv : Vis X.env.scope x := by first | exact Or.inl rfl | exact Or.inr (Or.inl rfl) | exact Or.inr (Or.inr rfl)) (hd : (x == ("__debug__" : Str)) = false := by decide) (hcd : (x == ("__classdict__" : Str)) = false := by decide) (hs : PlainIx e := by exact fun _ _ => rfl) :
    DE X F W (.Subscript (.Name x px) e p3) (mScrItem i ns m) :=
  peImp (pe_ix ix_list (pe_var hN hv hd hcd) he hs) fun σ H Q ⟨M, env, s, R, h⟩ => by
    unfold mScrItem at h
    by_cases ho : isObj i env = true
    · rw [if_pos ho] at h
      refine ⟨.ref sa, script_at hC R (isObj_eq ho), M, env, s, R, Sat.bind h fun d s1 v H1 R1 k1 p1 g1 => ?_⟩
      cases d with
      | int k =>
        by_cases hk : 0 ≤ k ∧ k < ns.length
        · have g1' : Sat F M env σ H1 (PE_ F) (.ok (.int (ns.getD k.toNat 0)) s1) Q W := by simpa [hk] using g1
          have hlt : k.toNat < ns.length := by omega
          have eat : atI (ns.map V.int) k = some (.int (ns.getD k.toNat 0)) := by
            have ek : k = ((k.toNat : Nat) : Int) := by omega
            rw [ek]
            refine atI_nat ?_
            rw [List.getElem?_map, List.getElem?_eq_getElem hlt, List.getD_eq_getElem?_getD, Int.toNat_natCast, List.getElem?_eq_getElem hlt]
            rfl
          exact ⟨sa, _, k, _, rfl, p1, script_sq hC R1, eat, g1' _ H1 R1 Keep.refl rfl⟩
        · have g1' : Sat F M env σ H1 (PE_ F) (.bad) Q W := by simpa [hk] using g1
          exact g1'.elim
      | _ => exact g1.elim
    · rw [if_neg ho] at h; exact h.elim
end
/-! ### _law_deal -/
def spDeal (K : PySem.W.Frag) : Sp := fun vs H Q _ => ∃ (sa : Addr) (ns : List Int), vs = [.ref sa] ∧ SqL K H sa (ns.map V.int) ∧ ns.length ≤ 63 ∧
  ∀ a r c row total H', Same H H' → H a = none → H r = none → H c = none → (∀ M, dealRel a r c row total 0 M H') → Q (.ref a) H'
def tDealRet (i j : Nat) : TS := tRet (tLst (tCons (tVar i) (tCons (tLst (tCons (tC (.int 0)) tNil)) (tCons (tVar j) tNil))))
theorem deal_ret {F : Fx Unit} {M : Addr → Prop} {env : List Ent} {σ : L2.St} {H : Hp} {i j : Nat} {row : List Int} {total : Int} {Q : VK} (nomt : ∀ a, ¬ F.C.mt a) (R : RelS F M env () σ H) (hi : env[i]? = some (.o (row.map D.int))) (hj : env[j]? = some (.v (.int total)))
    (q : ∀ a r c row total H', Same F.H0 H' → F.H0 a = none → F.H0 r = none → F.H0 c = none → (∀ M, dealRel a r c row total 0 M H') → Q (.ref a) H') : tDealRet i j { nx := fun _ H' => Q .non H', rt := Q } σ H := by
  obtain ⟨r, vs, h1, h2⟩ := R.own i _ hi
  obtain ⟨v, h3, h4⟩ := R.val j _ hj
  have sm : Same F.H0 H := fun b u e => R.keep b u e (nomt b)
  have hr : H r = some (.lst (row.map V.int)) := by rw [h2.at_, h2.reps.ints_inv]
  refine ⟨.ref r, h1, by rw [line_eq]; decide, fun c hc => ⟨v, h3, by rw [line_eq]; simp, fun a ha => ?_⟩⟩
  have hac : a ≠ c := fun z => by rw [z, upd_same] at ha; cases ha
  have hca : H a = none := by rw [upd_ne hac] at ha; exact ha
  have hrc : r ≠ c := ne_of_none hr hc
  have har : a ≠ r := fun z => by rw [z, hr] at hca; cases hca
  have s1 : Same H (upd H c (.lst [.int 0])) := same_upd hc
  have s2 : Same (upd H c (.lst [.int 0])) (upd (upd H c (.lst [.int 0])) a (.lst [.ref r, .ref c, v])) := same_upd ha
  refine q a r c row total _ (sm.trans (s1.trans s2)) (sm.free hca) h2.new (sm.free hc) fun M => ?_
  rw [show v = .int total from h4]
  exact ⟨upd_same, by rw [upd_ne har.symm, upd_ne hrc]; exact hr, by rw [upd_ne hac.symm, upd_same]; rfl, hac, hrc, har⟩
/-- several readings, one of them -/
theorem pssEx {X : Cx} {ι : Type} {st : List Stmt} {t : ι → TS} (h : ∀ i, PSs X st (t i)) : PSs X st (fun D σ H => ∃ i, t i D σ H) := ⟨fun pins s σ H D I ⟨i, q⟩ => (h i).run pins s σ H D I q⟩
/-! ### the law -/
def spLaw (K : PySem.W.Frag) : Sp := fun vs H Q _ => ∃ (a : Addr) (ns : List Int), vs = [.ref a] ∧ SqL K H a (ns.map V.int) ∧ ns.length ≤ 63 ∧ ∀ H', Q (.bl true) H'
/-- the states that may stand behind the deal -/
structure DealF where
  F : Fx Nat
  b : Nat → Int
  ok : KD b F.C
def tLawRest (m : (Nat → Int) → SM Nat) : TS := fun D σ H => ∃ i : DealF, tsOf i.F W0 (m i.b) D σ H
def lawE (n : Nat) : List Ent := [.no, .v .obj] ++ List.replicate n .no
theorem law_rest {m : (Nat → Int) → SM Nat} {a r c : Addr} {row : List Int} {total : Int} {sv : Option V} {n : Nat} {H : Hp} {Q : VK} (hr : ∀ M, dealRel a r c row total 0 M H) (hm : ∀ b : Nat → Int, ∃ s', runV (m b (lawE n) 0) = .ok (.bl true) s') (q : ∀ H', Q (.bl true) H') :
    tLawRest m { nx := fun _ H' => Q .non H', rt := Q } (sv :: some (.ref a) :: List.replicate n none) H := by
  have hd := hr (fun b => b = c)
  have hc : ∀ b, b = c → H b ≠ none := fun b z e => by rw [z, hd.2.2.1] at e; cases e
  refine ⟨⟨⟨dealC a r c row total, H, fun b => b = c⟩, drawn row total, (show KD _ _ from ⟨a, r, c, row, total, rfl, rfl⟩)⟩, fun b => b = c, lawE n, 0, ⟨fun i d e => ?_, fun i xs e => ?_, fun i j xs ys b e => ?_, hc, fun _ z => z, fun _ z => z, hc, fun b z => (dealC a r c row total).trk (M := fun _ => False) (hr (fun _ => False)) z, Keep.refl, hd, ?_⟩, ?_⟩
  · match i, e with
    | 0, e => cases e
    | 1, e => cases e; exact ⟨_, rfl, rfl⟩
    | i + 2, e =>
      have e' : (List.replicate n Ent.no)[i]? = some (.v d) := by simpa [lawE] using e
      rw [List.getElem?_replicate] at e'
      split at e' <;> cases e'
  · match i, e with
    | 0, e => cases e
    | 1, e => cases e
    | i + 2, e =>
      have e' : (List.replicate n Ent.no)[i]? = some (.o xs) := by simpa [lawE] using e
      rw [List.getElem?_replicate] at e'
      split at e' <;> cases e'
  · match i, e with
    | 0, e => cases e
    | 1, e => cases e
    | i + 2, e =>
      have e' : (List.replicate n Ent.no)[i]? = some (.o xs) := by simpa [lawE] using e
      rw [List.getElem?_replicate] at e'
      split at e' <;> cases e'
  · simp [lawE]
  · obtain ⟨s', e⟩ := hm (drawn row total)
    exact sat_V (K := KD (drawn row total)) (C := dealC a r c row total) (M0 := fun b => b = c) (by
      rw [e]
      intro v H' _ _ rv
      rw [show v = .bl true from rv]
      exact q H')
end L3
namespace L3
open PySem PySem.Spec L2
/-! ### evaluation by simp, from the front -/
section
variable {α β γ S : Type} {f : α → S → Res β S} {a : α} {s : S} {c : Prop} [Decidable c] {r r' : Res α S} {e : Str}
@[simp] theorem bind_ite : (if c then r else r').bind f = if c then r.bind f else r'.bind f := by split <;> rfl
end
section
variable {α β S : Type}
/-! the continuations, by name -/
def kRet (g : α → Option β) : α → S → Res β S := fun x s => ret? (g x) s
def kLst : List D → S → Res D S := fun ds s => .ok (.lst ds) s
def kBin (f : D → D → Option α) (mb : XM S D) (env : List Ent) : D → S → Res α S := fun x s => (mb env s).bind (kRet (f x))
def kChain3 (p' : Int → Int → Bool) (j : Int) : D → S → Res D S := fun z s => match z with
  | .int l => .ok (.bl (p' j l)) s
  | _ => .bad
def kChain2 (p p' : Int → Int → Bool) (mc : XM S D) (env : List Ent) (x : D) : D → S → Res D S := fun y s => match x, y with
  | .int i, .int j => if p i j then (mc env s).bind (kChain3 p' j) else .ok (.bl false) s
  | _, _ => .bad
def kChain (p p' : Int → Int → Bool) (mb mc : XM S D) (env : List Ent) : D → S → Res D S := fun x s => (mb env s).bind (kChain2 p p' mc env x)
def kIf (ma mb : XM S α) (env : List Ent) : Bool → S → Res α S := fun c s => if c = true then ma env s else mb env s
def kNot : Bool → S → Res Bool S := fun c s => .ok (!c) s
def kAnd (mb : XM S Bool) (env : List Ent) : Bool → S → Res Bool S := fun c s => if c = true then mb env s else .ok false s
def kOr (mb : XM S Bool) (env : List Ent) : Bool → S → Res Bool S := fun c s => if c = true then .ok true s else mb env s
def kAndV (mb : XM S D) (env : List Ent) : D → S → Res D S := fun d s => match asBool d with
  | some c => if c = true then mb env s else .ok (.bl false) s
  | none => .bad
def kOrV (mb : XM S D) (env : List Ent) : D → S → Res D S := fun d s => match asBool d with
  | some c => if c = true then .ok (.bl true) s else mb env s
  | none => .bad
def kPart : D → S → Res (Option Int) S := fun d s => match d with
  | .int i => .ok (some i) s
  | _ => .bad
def kCut3 (d : D) (lo : Option Int) : Option Int → S → Res D S := fun hi s => ret? (dCut d lo hi) s
def kCut2 (d : D) (mh : XM S (Option Int)) (env : List Ent) : Option Int → S → Res D S := fun lo s => (mh env s).bind (kCut3 d lo)
def kCut (ml mh : XM S (Option Int)) (env : List Ent) : D → S → Res D S := fun d s => (ml env s).bind (kCut2 d mh env)
def kCons2 (d : D) : List D → S → Res (List D) S := fun ds s => .ok (d :: ds) s
def kCons (ms : XM S (List D)) (env : List Ent) : D → S → Res (List D) S := fun d s => (ms env s).bind (kCons2 d)
def kTup : List D → S → Res D S := fun ds s => if ds.length ≤ 16777216 then .ok (.tup ds) s else .bad
def kDisp : List D → S → Res (List D) S := fun ds s => if ds.length ≤ 16777216 then .ok ds s else .bad
def kEnds1 : D → S → Res (Int × Int) S := fun d s => match d with
  | .int n => .ok (0, n) s
  | _ => .bad
def kEnds22 (d : D) : D → S → Res (Int × Int) S := fun d2 s => match d, d2 with
  | .int a, .int b => .ok (a, b) s
  | _, _ => .bad
def kEnds2 (m2 : XM S D) (env : List Ent) : D → S → Res (Int × Int) S := fun d s => (m2 env s).bind (kEnds22 d)
def kComp (vs : List Nat) (g : Tg) (mt : XM S Bool) (me : XM S D) (env : List Ent) : List D → S → Res (List D) S := fun ds s => compL g mt me (wipeE env vs) ds s
def kSeq (m2 : SM S) : Fl × List Ent → S → Res (Fl × List Ent) S := fun p s => match p.1 with
  | .nx => m2 p.2 s
  | fl => .ok (fl, p.2) s
def kSet (i : Nat) (env : List Ent) : D → S → Res (Fl × List Ent) S := fun d s => .ok (.nx, env.set i (.v d)) s
def kSetO (i : Nat) (env : List Ent) : List D → S → Res (Fl × List Ent) S := fun d s => .ok (.nx, env.set i (.o d)) s
def kAsg2 : Option (List Ent) → S → Res (Fl × List Ent) S := fun o s => match o with
  | some e1 => .ok (.nx, e1) s
  | none => .bad
def kAsg (g : Tg) (env : List Ent) : D → S → Res (Fl × List Ent) S := fun d s => kAsg2 (g d env) s
def kPar (i j : Nat) (env : List Ent) : List D → S → Res (Fl × List Ent) S := fun ds s => match ds with
  | [a, b] => .ok (.nx, (env.set i (.v a)).set j (.v b)) s
  | _ => .bad
def kDrop (env : List Ent) : D → S → Res (Fl × List Ent) S := fun _ s => .ok (.nx, env) s
def kApp2 (i : Nat) (xs : List D) (env : List Ent) : D → S → Res (Fl × List Ent) S := fun d s => if xs.length < 16777216 then .ok (.nx, env.set i (.o (xs ++ [d]))) s else .bad
def kApp (i : Nat) (m : XM S D) (env : List Ent) (s : S) (o : Option Ent) : Res (Fl × List Ent) S := match o with
  | some (.o xs) => (m env s).bind (kApp2 i xs env)
  | _ => .bad
def kExt2 (i : Nat) (xs : List D) (env : List Ent) : D → S → Res (Fl × List Ent) S := fun d s => match d with
  | .lst ys => if xs.length + ys.length ≤ 16777216 then .ok (.nx, env.set i (.o (xs ++ ys))) s else .bad
  | _ => .bad
def kExt (i : Nat) (m : XM S D) (env : List Ent) (s : S) (o : Option Ent) : Res (Fl × List Ent) S := match o with
  | some (.o xs) => (m env s).bind (kExt2 i xs env)
  | _ => .bad
def kPut4 (i : Nat) (xs : List D) (env : List Ent) (d : D) (s : S) (o : Option Nat) : Res (Fl × List Ent) S := match o with
  | some j => .ok (.nx, env.set i (.o (xs.set j d))) s
  | none => .bad
def kPut3 (i : Nat) (xs : List D) (env : List Ent) (d : D) : D → S → Res (Fl × List Ent) S := fun k s => match k with
  | .int k => kPut4 i xs env d s (ixN xs.length k)
  | _ => .bad
def kPut2 (i : Nat) (xs : List D) (mk : XM S D) (env : List Ent) : D → S → Res (Fl × List Ent) S := fun d s => (mk env s).bind (kPut3 i xs env d)
def kPut (i : Nat) (mk me : XM S D) (env : List Ent) (s : S) (o : Option Ent) : Res (Fl × List Ent) S := match o with
  | some (.o xs) => (me env s).bind (kPut2 i xs mk env)
  | _ => .bad
def kRetS (env : List Ent) : D → S → Res (Fl × List Ent) S := fun d s => .ok (.rt d, env) s
def kRetF (env : List Ent) : List D → S → Res (Fl × List Ent) S := fun d s => .ok (.rf d, env) s
def kIfS (m1 m2 : SM S) (env : List Ent) : Bool → S → Res (Fl × List Ent) S := fun c s => if c = true then m1 env s else m2 env s
def kFor (g : Tg) (mb : SM S) (env : List Ent) : List D → S → Res (Fl × List Ent) S := fun ds s => forL g mb ds env s
def kAug2 (i : Nat) (k : Int) (env : List Ent) : D → S → Res (Fl × List Ent) S := fun d s => match d with
  | .int l => .ok (.nx, env.set i (.v (.int (k + l)))) s
  | _ => .bad
def kAug (i : Nat) (m : XM S D) (env : List Ent) (s : S) (o : Option Ent) : Res (Fl × List Ent) S := match o with
  | some (.v (.int k)) => (m env s).bind (kAug2 i k env)
  | _ => .bad
def kRetO (env : List Ent) (s : S) (o : Option Ent) : Res (Fl × List Ent) S := match o with
  | some (.o xs) => .ok (.rf xs, env) s
  | _ => .bad
def kCall (np : Nat) (g : List D → S → Res α S) : List D → S → Res α S := fun ds s => if ds.length = np then noExc (g ds s) else .bad
def kCallP (np : Nat) (g : List D → Unit → Res α Unit) : List D → S → Res α S := fun ds s => if ds.length = np then pureR (g ds ()) s else .bad
def kItems : D → S → Res (List D) S := fun d s => ret? (dItems d) s
def kEnum : D → S → Res (List D) S := fun d s => ret? ((dItems d).map enumD) s
def kZip2 (d : D) : D → S → Res (List D) S := fun d2 s => ret? (dZip d d2) s
def kZip (m2 : XM S D) (env : List Ent) : D → S → Res (List D) S := fun d s => (m2 env s).bind (kZip2 d)
def kNm (s : S) (o : Option Ent) : Res D S := match o with
  | some (.v d) => .ok d s
  | _ => .bad
def kLk (s : S) (o : Option Ent) : Res D S := match o with
  | some (.v d) => .ok d s
  | some (.o xs) => .ok (.lst xs) s
  | _ => .bad
def kOb (m : Res D S) (o : Option Ent) : Res D S := match o with
  | some (.v .obj) => m
  | _ => .bad
end
section
variable {α β S : Type} {s : S} {env env1 : List Ent} {d x y : D} {ds xs ys : List D} {i j n : Nat} {k l : Int} {c : Bool} {m m1 m2 ma mb mc me mk : XM S D} {mA : XM S α} {b1 b2 b3 : XM S Bool} {l1 l2 : XM S (List D)} {p1 p2 : XM S (Option Int)} {t1 t2 : SM S} {o lo hi : Option Int} {g : Tg}
variable {F2 : D → D → Option D} {F2L : D → D → Option (List D)} {F1 : D → Option D} {F1L : D → Option (List D)} {pp pq : Int → Int → Bool} {mA2 : XM S α} {e1 : XM S (Int × Int)} {vs : List Nat} {gc : List D → S → Res α S} {gu : List D → Unit → Res α Unit} {G1 : α → Option β} {a : α} {G2 : D → D → Option α} {gC : List D → S → Res α S} {gU : List D → Unit → Res α Unit}
@[simp] theorem e_mLst : mLst l1 env s = (l1 env s).bind kLst := rfl
@[simp] theorem e_mName : mName i env s = kNm s env[i]? := rfl
@[simp] theorem e_mLook : mLook i env s = kLk s env[i]? := rfl
@[simp] theorem e_mC : (mC d env s) = .ok d s := rfl
@[simp] theorem e_mBin : mBin F2 ma mb env s = (ma env s).bind (kBin F2 mb env) := rfl
@[simp] theorem e_mBinF : mBinF F2L ma mb env s = (ma env s).bind (kBin F2L mb env) := rfl
@[simp] theorem e_mUn : mUn F1 ma env s = (ma env s).bind (kRet F1) := rfl
@[simp] theorem e_mUnF : mUnF F1L ma env s = (ma env s).bind (kRet F1L) := rfl
@[simp] theorem e_mTest : mTest m env s = (m env s).bind asB := rfl
@[simp] theorem e_mChain : mChain pp pq ma mb mc env s = (ma env s).bind (kChain pp pq mb mc env) := rfl
@[simp] theorem e_mIf : mIf b1 mA mA2 env s = (b1 env s).bind (kIf mA mA2 env) := rfl
@[simp] theorem e_mNot : mNot b1 env s = (b1 env s).bind kNot := rfl
@[simp] theorem e_mAnd : mAnd b1 b2 env s = (b1 env s).bind (kAnd b2 env) := rfl
@[simp] theorem e_mOr : mOr b1 b2 env s = (b1 env s).bind (kOr b2 env) := rfl
@[simp] theorem e_mAndV : mAndV ma mb env s = (ma env s).bind (kAndV mb env) := rfl
@[simp] theorem e_mOrV : mOrV ma mb env s = (ma env s).bind (kOrV mb env) := rfl
@[simp] theorem e_mNoPart : mNoPart env s = .ok none s := rfl
@[simp] theorem e_mPart : mPart m env s = (m env s).bind kPart := rfl
@[simp] theorem e_mCut : mCut m p1 p2 env s = (m env s).bind (kCut p1 p2 env) := rfl
@[simp] theorem e_mNil : mNil env s = .ok [] s := rfl
@[simp] theorem e_mCons : mCons m l1 env s = (m env s).bind (kCons l1 env) := rfl
@[simp] theorem e_mTup : mTup l1 env s = (l1 env s).bind kTup := rfl
@[simp] theorem e_mDisp : mDisp l1 env s = (l1 env s).bind kDisp := rfl
@[simp] theorem e_mEnds1 : mEnds1 m env s = (m env s).bind kEnds1 := rfl
@[simp] theorem e_mEnds2 : mEnds2 m m2 env s = (m env s).bind (kEnds2 m2 env) := rfl
@[simp] theorem e_mRange : mRange e1 env s = (e1 env s).bind (kRet dRange) := rfl
@[simp] theorem e_mItems : mItems m env s = (m env s).bind kItems := rfl
@[simp] theorem e_mComp : mComp vs l1 g b1 me env s = (l1 env s).bind (kComp vs g b1 me env) := rfl
@[simp] theorem e_mYes : mYes env s = .ok true s := rfl
@[simp] theorem e_mSkip : mSkip env s = .ok (.nx, env) s := rfl
@[simp] theorem e_mSeq : mSeq t1 t2 env s = (t1 env s).bind (kSeq t2) := rfl
@[simp] theorem e_mFrz : mFrz i t1 env s = t1 (frzE i env) s := rfl
@[simp] theorem e_mSet : mSet i m env s = (m env s).bind (kSet i env) := rfl
@[simp] theorem e_mSetO : mSetO i l1 env s = (l1 env s).bind (kSetO i env) := rfl
@[simp] theorem e_mAsg : mAsg m g env s = (m env s).bind (kAsg g env) := rfl
@[simp] theorem e_mPar : mPar i j l1 env s = (l1 env s).bind (kPar i j env) := rfl
@[simp] theorem e_mDrop : mDrop m env s = (m env s).bind (kDrop env) := rfl
@[simp] theorem e_mApp : mApp i m env s = kApp i m env s env[i]? := rfl
@[simp] theorem e_mExt : mExt i m env s = kExt i m env s env[i]? := rfl
@[simp] theorem e_mPut : mPut i mk me env s = kPut i mk me env s env[i]? := rfl
@[simp] theorem e_mRet : mRet m env s = (m env s).bind (kRetS env) := rfl
@[simp] theorem e_mRetN : mRetN env s = .ok (.rt .non, env) s := rfl
@[simp] theorem e_mRetF : mRetF l1 env s = (l1 env s).bind (kRetF env) := rfl
@[simp] theorem e_mRetO : mRetO i env s = kRetO env s env[i]? := rfl
@[simp] theorem e_mIfS : mIfS b1 t1 t2 env s = (b1 env s).bind (kIfS t1 t2 env) := rfl
@[simp] theorem e_mBrk : mBrk env s = .ok (.bk, env) s := rfl
@[simp] theorem e_mCnt : mCnt env s = .ok (.ct, env) s := rfl
@[simp] theorem e_mFor : mFor l1 g t1 env s = (l1 env s).bind (kFor g t1 env) := rfl
@[simp] theorem e_mAug : mAug i m env s = kAug i m env s env[i]? := rfl
@[simp] theorem e_mCall : mCall n gc l1 env s = (l1 env s).bind (kCall n gc) := rfl
@[simp] theorem e_mCallP : mCallP n gu l1 env s = (l1 env s).bind (kCallP n gu) := rfl
@[simp] theorem e_mEnum : mEnum m env s = (m env s).bind kEnum := rfl
@[simp] theorem e_mZip : mZip m m2 env s = (m env s).bind (kZip m2 env) := rfl
@[simp] theorem e_kRet : kRet G1 a s = ret? (G1 a) s := rfl
@[simp] theorem e_kLst : kLst ds s = .ok (.lst ds) s := rfl
@[simp] theorem e_kBin : kBin G2 mb env x s = (mb env s).bind (kRet (G2 x)) := rfl
@[simp] theorem e_kChain : kChain pp pq mb mc env x s = (mb env s).bind (kChain2 pp pq mc env x) := rfl
@[simp] theorem e_kChain2 : kChain2 pp pq mc env (.int k) (.int l) s = if pp k l = true then (mc env s).bind (kChain3 pq l) else .ok (.bl false) s := rfl
@[simp] theorem e_kChain3 : kChain3 pq k (.int l) s = .ok (.bl (pq k l)) s := rfl
@[simp] theorem e_kIf : kIf mA mA2 env c s = if c = true then mA env s else mA2 env s := rfl
@[simp] theorem e_kNot : kNot c s = .ok (!c) s := rfl
@[simp] theorem e_kAnd : kAnd b2 env c s = if c = true then b2 env s else .ok false s := rfl
@[simp] theorem e_kOr : kOr b2 env c s = if c = true then .ok true s else b2 env s := rfl
@[simp] theorem e_kAndV : kAndV mb env (.bl c) s = if c = true then mb env s else .ok (.bl false) s := rfl
@[simp] theorem e_kOrV : kOrV mb env (.bl c) s = if c = true then .ok (.bl true) s else mb env s := rfl
@[simp] theorem e_kPart : kPart (.int k) s = .ok (some k) s := rfl
@[simp] theorem e_kCut : kCut p1 p2 env d s = (p1 env s).bind (kCut2 d p2 env) := rfl
@[simp] theorem e_kCut2 : kCut2 d p2 env lo s = (p2 env s).bind (kCut3 d lo) := rfl
@[simp] theorem e_kCut3 : kCut3 d lo hi s = ret? (dCut d lo hi) s := rfl
@[simp] theorem e_kCons : kCons l1 env d s = (l1 env s).bind (kCons2 d) := rfl
@[simp] theorem e_kCons2 : kCons2 d ds s = .ok (d :: ds) s := rfl
@[simp] theorem e_kTup : kTup ds s = if ds.length ≤ 16777216 then .ok (.tup ds) s else .bad := rfl
@[simp] theorem e_kDisp : kDisp ds s = if ds.length ≤ 16777216 then .ok ds s else .bad := rfl
@[simp] theorem e_kEnds1 : kEnds1 (.int k) s = .ok (0, k) s := rfl
@[simp] theorem e_kEnds2 : kEnds2 m2 env d s = (m2 env s).bind (kEnds22 d) := rfl
@[simp] theorem e_kEnds22 : kEnds22 (.int k) (.int l) s = .ok (k, l) s := rfl
@[simp] theorem e_kComp : kComp vs g b1 me env ds s = compL g b1 me (wipeE env vs) ds s := rfl
@[simp] theorem e_kSeq_nx : kSeq t2 (.nx, env) s = t2 env s := rfl
@[simp] theorem e_kSeq_rt : kSeq t2 (.rt d, env) s = .ok (.rt d, env) s := rfl
@[simp] theorem e_kSeq_rf : kSeq t2 (.rf ds, env) s = .ok (.rf ds, env) s := rfl
@[simp] theorem e_kSeq_bk : kSeq t2 (.bk, env) s = .ok (.bk, env) s := rfl
@[simp] theorem e_kSeq_ct : kSeq t2 (.ct, env) s = .ok (.ct, env) s := rfl
@[simp] theorem e_kSet : kSet i env d s = .ok (.nx, env.set i (.v d)) s := rfl
@[simp] theorem e_kSetO : kSetO i env ds s = .ok (.nx, env.set i (.o ds)) s := rfl
@[simp] theorem e_kAsg : kAsg g env d s = kAsg2 (g d env) s := rfl
@[simp] theorem e_kAsg2 : kAsg2 (some env) s = .ok (.nx, env) s := rfl
@[simp] theorem e_kPar : kPar i j env [x, y] s = .ok (.nx, (env.set i (.v x)).set j (.v y)) s := rfl
@[simp] theorem e_kDrop : kDrop env d s = .ok (.nx, env) s := rfl
@[simp] theorem e_kApp : kApp i m env s (some (.o xs)) = (m env s).bind (kApp2 i xs env) := rfl
@[simp] theorem e_kApp2 : kApp2 i xs env d s = if xs.length < 16777216 then .ok (.nx, env.set i (.o (xs ++ [d]))) s else .bad := rfl
@[simp] theorem e_kExt : kExt i m env s (some (.o xs)) = (m env s).bind (kExt2 i xs env) := rfl
@[simp] theorem e_kExt2 : kExt2 i xs env (.lst ys) s = if xs.length + ys.length ≤ 16777216 then .ok (.nx, env.set i (.o (xs ++ ys))) s else .bad := rfl
@[simp] theorem e_kPut : kPut i mk me env s (some (.o xs)) = (me env s).bind (kPut2 i xs mk env) := rfl
@[simp] theorem e_kPut2 : kPut2 i xs mk env d s = (mk env s).bind (kPut3 i xs env d) := rfl
@[simp] theorem e_kPut3 : kPut3 i xs env d (.int k) s = kPut4 i xs env d s (ixN xs.length k) := rfl
@[simp] theorem e_kPut4 : kPut4 i xs env d s (some j) = .ok (.nx, env.set i (.o (xs.set j d))) s := rfl
@[simp] theorem e_kRetS : kRetS env d s = .ok (.rt d, env) s := rfl
@[simp] theorem e_kRetF : kRetF env ds s = .ok (.rf ds, env) s := rfl
@[simp] theorem e_kIfS : kIfS t1 t2 env c s = if c = true then t1 env s else t2 env s := rfl
@[simp] theorem e_kFor : kFor g t1 env ds s = forL g t1 ds env s := rfl
@[simp] theorem e_kAug : kAug i m env s (some (.v (.int k))) = (m env s).bind (kAug2 i k env) := rfl
@[simp] theorem e_kAug2 : kAug2 i k env (.int l) s = .ok (.nx, env.set i (.v (.int (k + l)))) s := rfl
@[simp] theorem e_kRetO : kRetO env s (some (.o xs)) = .ok (.rf xs, env) s := rfl
@[simp] theorem e_kCall : kCall n gC ds s = if ds.length = n then noExc (gC ds s) else .bad := rfl
@[simp] theorem e_kCallP : kCallP n gU ds s = if ds.length = n then pureR (gU ds ()) s else .bad := rfl
@[simp] theorem e_kItems : kItems d s = ret? (dItems d) s := rfl
@[simp] theorem e_kEnum : kEnum d s = ret? ((dItems d).map enumD) s := rfl
@[simp] theorem e_kZip : kZip m2 env d s = (m2 env s).bind (kZip2 d) := rfl
@[simp] theorem e_kZip2 : kZip2 d x s = ret? (dZip d x) s := rfl
@[simp] theorem e_kNm : kNm s (some (.v d)) = .ok d s := rfl
@[simp] theorem e_kLk_v : kLk s (some (.v d)) = .ok d s := rfl
@[simp] theorem e_kLk_o : kLk s (some (.o xs)) = .ok (.lst xs) s := rfl
end
section
variable {α β S : Type} {f : α → S → Res β S} {a : α} {s : S} {c : Prop} [Decidable c] {r r' : Res α S} {e : Str}
@[simp] theorem ret_some : ret? (some a) s = .ok a s := rfl
@[simp] theorem ret_none : ret? (none : Option α) s = .bad := rfl
@[simp] theorem ret_ite {o o' : Option α} : ret? (if c then o else o') s = if c then ret? o s else ret? o' s := by split <;> rfl
@[simp] theorem noExc_okS : noExc (.ok a s) = .ok a s := rfl
@[simp] theorem noExc_badS : noExc (.bad : Res α S) = .bad := rfl
@[simp] theorem noExc_ite : noExc (if c then r else r') = if c then noExc r else noExc r' := by split <;> rfl
@[simp] theorem asB_bl {b : Bool} : asB (.bl b) s = .ok b s := rfl
@[simp] theorem pureR_ok {s : S} : pureR (.ok a ()) s = .ok a s := rfl
@[simp] theorem pureR_ite {p p' : Res α Unit} {s : S} : pureR (if c then p else p') s = if c then pureR p s else pureR p' s := by split <;> rfl
@[simp] theorem pureR_bad {s : S} : pureR (.bad : Res α Unit) s = .bad := rfl
end
section
variable {S : Type} {s : S} {env : List Ent} {d : D} {ds : List D} {c : Prop} [Decidable c] {r r' : Res (Fl × List Ent) S}
@[simp] theorem runV_rt : runV (.ok (.rt d, env) s) = .ok d s := rfl
@[simp] theorem runV_rf : runV (.ok (.rf ds, env) s) = .ok (.lst ds) s := rfl
@[simp] theorem runV_nx : runV (.ok (.nx, env) s) = .ok .non s := rfl
@[simp] theorem runV_bad : runV (.bad : Res (Fl × List Ent) S) = .bad := rfl
@[simp] theorem runV_ite : runV (if c then r else r') = if c then runV r else runV r' := by split <;> rfl
@[simp] theorem runF_rf : runF (.ok (.rf ds, env) s) = .ok ds s := rfl
@[simp] theorem runF_bad : runF (.bad : Res (Fl × List Ent) S) = .bad := rfl
@[simp] theorem runF_ite : runF (if c then r else r') = if c then runF r else runF r' := by split <;> rfl
end
@[simp] theorem ok_ite {α S : Type} {c : Prop} [Decidable c] {a b : α} {s : S} : (if c then (.ok a s : Res α S) else .ok b s) = .ok (if c then a else b) s := by split <;> rfl
@[simp] theorem bl_ite {c : Prop} [Decidable c] {a b : Bool} : (if c then D.bl a else D.bl b) = D.bl (if c then a else b) := by split <;> rfl
theorem mulOk_r {i j : Int} (h1 : -18446744073709551616 < j) (h2 : j < 18446744073709551616) : mulOk i j = true := by
  unfold mulOk small
  simp
  left; right; omega
theorem mulOk_l {i j : Int} (h1 : -18446744073709551616 < i) (h2 : i < 18446744073709551616) : mulOk i j = true := by
  unfold mulOk small
  simp
  left; left; omega
theorem rgOk_of {a b : Int} (h1 : -4611686018427387904 ≤ a) (h2 : b < 4611686018427387904) (h3 : b - a ≤ 16777216) (h4 : -4611686018427387904 ≤ b) (h5 : a < 4611686018427387904) : rgOk a b = true := by
  unfold rgOk
  simp
  omega
theorem divOk_of {j : Int} (h0 : 0 < j) (h : j < 2 ^ 64) : j.natAbs.log2 < 9000 := by
  have h1 : j.natAbs < 2 ^ 64 := by omega
  have h2 : j.natAbs ≠ 0 := by omega
  have h3 := (Nat.log2_lt h2).mpr h1
  omega
/-! ### equality -/
@[simp] theorem dEq_int {a b : Int} : dEq (.int a) (.int b) = some (.bl (a == b)) := rfl
@[simp] theorem dNe_int {a b : Int} : dNe (.int a) (.int b) = some (.bl (!(a == b))) := rfl
@[simp] theorem dEq_bl {a b : Bool} : dEq (.bl a) (.bl b) = some (.bl (a == b)) := rfl
mutual
/-- plain enough: no object, no text out of range, not too deep or wide -/
def tidy : Nat → D → Bool
  | _, .non => true
  | _, .bl _ => true
  | _, .int _ => true
  | _, .str x => PyData.canLay0 (.str x)
  | 0, .tup _ => false
  | 0, .lst _ => false
  | n + 1, .tup xs => decide (xs.length ≤ 16777216) && tidys n xs
  | n + 1, .lst xs => decide (xs.length ≤ 16777216) && tidys n xs
  | _, .obj => false
def tidys : Nat → List D → Bool
  | _, [] => true
  | n, d :: ds => tidy n d && tidys n ds
end
theorem tidys_all {n : Nat} : ∀ {ds : List D}, tidys n ds = true ↔ ∀ d ∈ ds, tidy n d = true
  | [] => by simp [tidys]
  | d :: ds => by
    rw [tidys, Bool.and_eq_true, tidys_all (ds := ds)]
    simp
mutual
theorem tidy_ok : ∀ (n : Nat) (d : D), tidy n d = true → noObj d = true ∧ (pd d).canLay0 = true ∧ (pd d).depth ≤ n
  | _, .non, _ => ⟨rfl, rfl, Nat.zero_le _⟩
  | _, .bl _, _ => ⟨rfl, rfl, Nat.zero_le _⟩
  | _, .int _, _ => ⟨rfl, rfl, Nat.zero_le _⟩
  | n, .str x, h => ⟨rfl, by cases n <;> exact h, Nat.zero_le _⟩
  | 0, .tup _, h => by cases h
  | 0, .lst _, h => by cases h
  | n + 1, .tup xs, h => by
    rw [tidy, Bool.and_eq_true] at h
    obtain ⟨h1, h2, h3⟩ := tidys_ok n xs h.2
    exact ⟨h1, h2, by unfold pd; rw [PyData.depth]; omega⟩
  | n + 1, .lst xs, h => by
    rw [tidy, Bool.and_eq_true] at h
    obtain ⟨h1, h2, h3⟩ := tidys_ok n xs h.2
    exact ⟨h1, h2, by unfold pd; rw [PyData.depth]; omega⟩
  | n, .obj, h => by cases n <;> cases h
theorem tidys_ok : ∀ (n : Nat) (ds : List D), tidys n ds = true → noObjs ds = true ∧ PyData.canLayAll0 (pds ds) = true ∧ PyData.depthAll (pds ds) ≤ n
  | _, [], _ => ⟨rfl, rfl, Nat.zero_le _⟩
  | n, d :: ds, h => by
    rw [tidys, Bool.and_eq_true] at h
    obtain ⟨a1, a2, a3⟩ := tidy_ok n d h.1
    obtain ⟨b1, b2, b3⟩ := tidys_ok n ds h.2
    refine ⟨by rw [noObjs, a1, b1]; rfl, by rw [pds, PyData.canLayAll0, a2, b2]; rfl, ?_⟩
    rw [pds, PyData.depthAll]
    omega
end
theorem okD_of {n : Nat} {d : D} (h : tidy n d = true) (hn : n ≤ 64) : okD d = true := by
  obtain ⟨h1, h2, h3⟩ := tidy_ok n d h
  unfold okD
  rw [h1]
  unfold SeqAt.shaped
  rw [h2]
  simp
  omega
mutual
theorem eqv_refl : ∀ (n : Nat) (d : D), tidy n d = true → PyData.eqv (pd d) (pd d) = true
  | _, .non, _ => rfl
  | _, .bl b, _ => by show (b == b) = true; simp
  | _, .int b, _ => by show (b == b) = true; simp
  | n, .str x, h => by show (x == x) = true; simp
  | 0, .tup _, h => by cases h
  | 0, .lst _, h => by cases h
  | n + 1, .tup xs, h => by
    rw [tidy, Bool.and_eq_true] at h
    exact eqvs_refl n xs h.2
  | n + 1, .lst xs, h => by
    rw [tidy, Bool.and_eq_true] at h
    exact eqvs_refl n xs h.2
  | n, .obj, h => by cases n <;> cases h
theorem eqvs_refl : ∀ (n : Nat) (ds : List D), tidys n ds = true → PyData.eqvAll (pds ds) (pds ds) = true
  | _, [], _ => rfl
  | n, d :: ds, h => by
    rw [tidys, Bool.and_eq_true] at h
    rw [pds, PyData.eqvAll, eqv_refl n d h.1, eqvs_refl n ds h.2]
    rfl
end
theorem dEq_self {n : Nat} {d : D} (h : tidy n d = true) (hn : n ≤ 64) : dEq d d = some (.bl true) := by
  unfold dEq
  rw [okD_of h hn, eqv_refl n d h]
  rfl
theorem dEq_nilL {n : Nat} {ds : List D} (h : tidy n (.lst ds) = true) (hn : n ≤ 64) : dEq (.lst ds) (.lst []) = some (.bl ds.isEmpty) := by
  unfold dEq
  rw [okD_of h hn]
  show some (D.bl (PyData.eqv (pd (.lst ds)) (pd (.lst [])))) = _
  cases ds <;> rfl
/-! ### is it of that class -/
@[simp] theorem isi_tup_tup {xs : List D} : dIsi "tuple" (.tup xs) = some (.bl true) := by
  show (kitB "tuple" "tuple").map D.bl = _
  rw [show kitB "tuple" "tuple" = some true by decide +kernel]; rfl
@[simp] theorem isi_tup_lst {xs : List D} : dIsi "tuple" (.lst xs) = some (.bl false) := by
  show (kitB "list" "tuple").map D.bl = _
  rw [show kitB "list" "tuple" = some false by decide +kernel]; rfl
@[simp] theorem isi_tup_bl {x : Bool} : dIsi "tuple" (.bl x) = some (.bl false) := by
  show (kitB "bool" "tuple").map D.bl = _
  rw [show kitB "bool" "tuple" = some false by decide +kernel]; rfl
@[simp] theorem isi_tup_int {x : Int} : dIsi "tuple" (.int x) = some (.bl false) := by
  show (kitB "int" "tuple").map D.bl = _
  rw [show kitB "int" "tuple" = some false by decide +kernel]; rfl
@[simp] theorem isi_tup_str {x : Str} : dIsi "tuple" (.str x) = some (.bl false) := by
  show (kitB "str" "tuple").map D.bl = _
  rw [show kitB "str" "tuple" = some false by decide +kernel]; rfl
@[simp] theorem isi_tup_non  : dIsi "tuple" .non = some (.bl false) := by
  show (kitB "NoneType" "tuple").map D.bl = _
  rw [show kitB "NoneType" "tuple" = some false by decide +kernel]; rfl
@[simp] theorem isi_lst_tup {xs : List D} : dIsi "list" (.tup xs) = some (.bl false) := by
  show (kitB "tuple" "list").map D.bl = _
  rw [show kitB "tuple" "list" = some false by decide +kernel]; rfl
@[simp] theorem isi_lst_lst {xs : List D} : dIsi "list" (.lst xs) = some (.bl true) := by
  show (kitB "list" "list").map D.bl = _
  rw [show kitB "list" "list" = some true by decide +kernel]; rfl
@[simp] theorem isi_lst_bl {x : Bool} : dIsi "list" (.bl x) = some (.bl false) := by
  show (kitB "bool" "list").map D.bl = _
  rw [show kitB "bool" "list" = some false by decide +kernel]; rfl
@[simp] theorem isi_lst_int {x : Int} : dIsi "list" (.int x) = some (.bl false) := by
  show (kitB "int" "list").map D.bl = _
  rw [show kitB "int" "list" = some false by decide +kernel]; rfl
@[simp] theorem isi_lst_str {x : Str} : dIsi "list" (.str x) = some (.bl false) := by
  show (kitB "str" "list").map D.bl = _
  rw [show kitB "str" "list" = some false by decide +kernel]; rfl
@[simp] theorem isi_lst_non  : dIsi "list" .non = some (.bl false) := by
  show (kitB "NoneType" "list").map D.bl = _
  rw [show kitB "NoneType" "list" = some false by decide +kernel]; rfl
@[simp] theorem isi_bl_tup {xs : List D} : dIsi "bool" (.tup xs) = some (.bl false) := by
  show (kitB "tuple" "bool").map D.bl = _
  rw [show kitB "tuple" "bool" = some false by decide +kernel]; rfl
@[simp] theorem isi_bl_lst {xs : List D} : dIsi "bool" (.lst xs) = some (.bl false) := by
  show (kitB "list" "bool").map D.bl = _
  rw [show kitB "list" "bool" = some false by decide +kernel]; rfl
@[simp] theorem isi_bl_bl {x : Bool} : dIsi "bool" (.bl x) = some (.bl true) := by
  show (kitB "bool" "bool").map D.bl = _
  rw [show kitB "bool" "bool" = some true by decide +kernel]; rfl
@[simp] theorem isi_bl_int {x : Int} : dIsi "bool" (.int x) = some (.bl false) := by
  show (kitB "int" "bool").map D.bl = _
  rw [show kitB "int" "bool" = some false by decide +kernel]; rfl
@[simp] theorem isi_bl_str {x : Str} : dIsi "bool" (.str x) = some (.bl false) := by
  show (kitB "str" "bool").map D.bl = _
  rw [show kitB "str" "bool" = some false by decide +kernel]; rfl
@[simp] theorem isi_bl_non  : dIsi "bool" .non = some (.bl false) := by
  show (kitB "NoneType" "bool").map D.bl = _
  rw [show kitB "NoneType" "bool" = some false by decide +kernel]; rfl
@[simp] theorem isi_int_tup {xs : List D} : dIsi "int" (.tup xs) = some (.bl false) := by
  show (kitB "tuple" "int").map D.bl = _
  rw [show kitB "tuple" "int" = some false by decide +kernel]; rfl
@[simp] theorem isi_int_lst {xs : List D} : dIsi "int" (.lst xs) = some (.bl false) := by
  show (kitB "list" "int").map D.bl = _
  rw [show kitB "list" "int" = some false by decide +kernel]; rfl
@[simp] theorem isi_int_bl {x : Bool} : dIsi "int" (.bl x) = some (.bl true) := by
  show (kitB "bool" "int").map D.bl = _
  rw [show kitB "bool" "int" = some true by decide +kernel]; rfl
@[simp] theorem isi_int_int {x : Int} : dIsi "int" (.int x) = some (.bl true) := by
  show (kitB "int" "int").map D.bl = _
  rw [show kitB "int" "int" = some true by decide +kernel]; rfl
@[simp] theorem isi_int_str {x : Str} : dIsi "int" (.str x) = some (.bl false) := by
  show (kitB "str" "int").map D.bl = _
  rw [show kitB "str" "int" = some false by decide +kernel]; rfl
@[simp] theorem isi_int_non  : dIsi "int" .non = some (.bl false) := by
  show (kitB "NoneType" "int").map D.bl = _
  rw [show kitB "NoneType" "int" = some false by decide +kernel]; rfl
@[simp] theorem isi_str_tup {xs : List D} : dIsi "str" (.tup xs) = some (.bl false) := by
  show (kitB "tuple" "str").map D.bl = _
  rw [show kitB "tuple" "str" = some false by decide +kernel]; rfl
@[simp] theorem isi_str_lst {xs : List D} : dIsi "str" (.lst xs) = some (.bl false) := by
  show (kitB "list" "str").map D.bl = _
  rw [show kitB "list" "str" = some false by decide +kernel]; rfl
@[simp] theorem isi_str_bl {x : Bool} : dIsi "str" (.bl x) = some (.bl false) := by
  show (kitB "bool" "str").map D.bl = _
  rw [show kitB "bool" "str" = some false by decide +kernel]; rfl
@[simp] theorem isi_str_int {x : Int} : dIsi "str" (.int x) = some (.bl false) := by
  show (kitB "int" "str").map D.bl = _
  rw [show kitB "int" "str" = some false by decide +kernel]; rfl
@[simp] theorem isi_str_str {x : Str} : dIsi "str" (.str x) = some (.bl true) := by
  show (kitB "str" "str").map D.bl = _
  rw [show kitB "str" "str" = some true by decide +kernel]; rfl
@[simp] theorem isi_str_non  : dIsi "str" .non = some (.bl false) := by
  show (kitB "NoneType" "str").map D.bl = _
  rw [show kitB "NoneType" "str" = some false by decide +kernel]; rfl
/-! ### places -/
@[simp] theorem atI_map {α β : Type} {f : α → β} {xs : List α} {i : Int} : atI (xs.map f) i = (atI xs i).map f := by
  unfold atI
  rw [List.length_map]
  cases ixN xs.length i with
  | none => rfl
  | some j => simp
theorem atI_of {α : Type} {xs : List α} {i : Int} (h0 : 0 ≤ i) (h1 : i < xs.length) : atI xs i = xs[i.toNat]? := by
  have e : i = ((i.toNat : Nat) : Int) := by omega
  have hl : i.toNat < xs.length := by omega
  rw [e, atI_nat (List.getElem?_eq_getElem hl), Int.toNat_natCast, List.getElem?_eq_getElem hl]
theorem atI_k {α : Type} {xs : List α} {k : Nat} : atI xs (k : Int) = xs[k]? := by
  by_cases h : k < xs.length
  · rw [atI_nat (List.getElem?_eq_getElem h), List.getElem?_eq_getElem h]
  · unfold atI ixN
    rw [if_pos (by omega), if_neg (by omega), List.getElem?_eq_none (by omega)]
    rfl
@[simp] theorem atI_lit0 {α : Type} {xs : List α} : atI xs 0 = xs[0]? := atI_k (k := 0)
@[simp] theorem atI_lit1 {α : Type} {xs : List α} : atI xs 1 = xs[1]? := atI_k (k := 1)
@[simp] theorem atI_lit2 {α : Type} {xs : List α} : atI xs 2 = xs[2]? := atI_k (k := 2)
@[simp] theorem atI_lit3 {α : Type} {xs : List α} : atI xs 3 = xs[3]? := atI_k (k := 3)
@[simp] theorem atI_lit4 {α : Type} {xs : List α} : atI xs 4 = xs[4]? := atI_k (k := 4)
@[simp] theorem atI_lit5 {α : Type} {xs : List α} : atI xs 5 = xs[5]? := atI_k (k := 5)
/-! ### loops -/
theorem compL_map {S : Type} {g : Tg} {mt : XM S Bool} {me : XM S D} {env : List Ent} {s : S} (p : D → Bool) (f : D → D) : ∀ {ds : List D}, (∀ d ∈ ds, ∃ e1, g d env = some e1 ∧ mt e1 s = .ok (p d) s ∧ (p d = true → me e1 s = .ok (f d) s)) → compL g mt me env ds s = .ok ((ds.filter p).map f) s
  | [], _ => rfl
  | d :: ds, h => by
    obtain ⟨e1, h1, h2, h3⟩ := h d List.mem_cons_self
    have ih := compL_map p f (ds := ds) fun d hd => h d (List.mem_cons_of_mem _ hd)
    unfold compL
    rw [h1]
    simp only [h2]
    cases hp : p d with
    | true => simp [h3 hp, ih, hp, noExc]
    | false => simp [ih, hp, noExc]
theorem forL_inv {S : Type} {g : Tg} {mb : SM S} (I : Nat → List Ent → S → Prop) (ds : List D) {env : List Ent} {s : S} (h0 : I 0 env s) (h : ∀ i d e s, ds[i]? = some d → I i e s → ∃ e1 e2 s2, g d e = some e1 ∧ (mb e1 s = .ok (.nx, e2) s2 ∨ mb e1 s = .ok (.ct, e2) s2) ∧ I (i + 1) e2 s2) :
    ∃ e2 s2, forL g mb ds env s = .ok (.nx, e2) s2 ∧ I ds.length e2 s2 := by
  have key : ∀ (l : List D) (i : Nat) (env : List Ent) (s : S), (∀ j, l[j]? = ds[i + j]?) → i + l.length = ds.length → I i env s → ∃ e2 s2, forL g mb l env s = .ok (.nx, e2) s2 ∧ I ds.length e2 s2 := by
    intro l
    induction l with
    | nil => intro i env s hl hn hI; exact ⟨env, s, rfl, by rw [← hn]; exact hI⟩
    | cons d l ih =>
      intro i env s hl hn hI
      have hd : ds[i]? = some d := by rw [← Nat.add_zero i, ← hl 0]; rfl
      obtain ⟨e1, e2, s2, q1, q2, q3⟩ := h i d env s hd hI
      obtain ⟨e3, s3, q4, q5⟩ := ih (i + 1) e2 s2 (fun j => by have := hl (j + 1); rw [show i + 1 + j = i + (j + 1) by omega, ← this]; rfl) (by rw [← hn, List.length_cons]; omega) q3
      refine ⟨e3, s3, ?_, q5⟩
      unfold forL
      rw [q1]
      rcases q2 with q2 | q2 <;> (simp only [q2]; exact q4)
  exact key ds 0 env s (fun j => by rw [Nat.zero_add]) (by omega) h0
/-- a loop that may hand back: each round goes on, or hands back what is let -/
theorem forL_stop {S : Type} {g : Tg} {mb : SM S} (I : Nat → List Ent → S → Prop) (J : Fl × List Ent → S → Prop) (ds : List D) {env : List Ent} {s : S} (h0 : I 0 env s) (h : ∀ i d e s, ds[i]? = some d → I i e s → ∃ e1, g d e = some e1 ∧ ((∃ e2 s2, mb e1 s = .ok (.nx, e2) s2 ∧ I (i + 1) e2 s2) ∨ ∃ r e2 s2, mb e1 s = .ok (.rt r, e2) s2 ∧ J (.rt r, e2) s2)) :
    ∃ p s2, forL g mb ds env s = .ok p s2 ∧ ((∃ e2, p = (.nx, e2) ∧ I ds.length e2 s2) ∨ ((∃ r e2, p = (.rt r, e2)) ∧ J p s2)) := by
  have key : ∀ (l : List D) (i : Nat) (env : List Ent) (s : S), (∀ j, l[j]? = ds[i + j]?) → i + l.length = ds.length → I i env s → ∃ p s2, forL g mb l env s = .ok p s2 ∧ ((∃ e2, p = (.nx, e2) ∧ I ds.length e2 s2) ∨ ((∃ r e2, p = (.rt r, e2)) ∧ J p s2)) := by
    intro l
    induction l with
    | nil => intro i env s hl hn hI; exact ⟨_, s, rfl, .inl ⟨env, rfl, by rw [← hn]; exact hI⟩⟩
    | cons d l ih =>
      intro i env s hl hn hI
      have hd : ds[i]? = some d := by rw [← Nat.add_zero i, ← hl 0]; rfl
      obtain ⟨e1, q1, q2⟩ := h i d env s hd hI
      unfold forL
      rw [q1]
      rcases q2 with ⟨e2, s2, q2, q3⟩ | ⟨r, e2, s2, q2, q3⟩
      · simp only [q2]
        exact ih (i + 1) e2 s2 (fun j => by have := hl (j + 1); rw [show i + 1 + j = i + (j + 1) by omega, ← this]; rfl) (by rw [← hn, List.length_cons]; omega) q3
      · simp only [q2]
        exact ⟨_, s2, rfl, .inr ⟨⟨r, e2, rfl⟩, q3⟩⟩
  exact key ds 0 env s (fun j => by rw [Nat.zero_add]) (by omega) h0
end L3
namespace L3
open PySem PySem.Spec L2
section
variable {S : Type} {P : Program} {w : World} {K : PySem.W.Frag} {mg : Str → Option Value} {base : Heap} {x : Str} {params : Arguments} {body : List Stmt} {scope : Scope} {f : Addr} {fd : FuncData} {N ps : List Str} {k : Nat} {np : Nat}
/-- .. where the meaning depends on the state's object -/
theorem fnVx {Kc : Cfg S → Prop} {g : List D → S → Res D S} (F : FunD K x x params body scope [] [] f fd) (hm : mg x = some (.ref f)) (Sc : FnScope N ps scope) (hb : BinA x params body scope ps) (hn : np = ps.length)
    (hbody : ∀ (cdv : Value) (A : Around) (outer : List Env) (s : Shared) (H : Hp) (E : XK), Room k (A.deeper (PyProof.Rows.envOfC x scope s.heap.objs.size f cdv)) → ∀ F' : Fx S, Kc F'.C → ∃ m : SM S, DSs (BX P w K mg base N x scope f cdv A outer s H E) F' W0 body m ∧ ∀ ds s d s', g ds s = .ok d s' → runV (m (startE N.length ds) s) = .ok d s') :
    Fn P w K mg base (k + 1) x ps (spV Kc np g) := by
  refine ⟨f, fd, hm, F.kp, F.bindsN hb, F.ok Sc (fun vs H Q E h => ?_) fun cdv A outer s H vs Q E hr h => ?_⟩
  · obtain ⟨C, M0, ds, s, hK, hl, trk, mt, rel, r, _⟩ := h
    rw [r.length, hl, hn]
  · obtain ⟨C, M0, ds, s0, hK, hl, trk, mt, rel, r, hq⟩ := h
    obtain ⟨m, hd, hg⟩ := hbody cdv A outer s H E hr ⟨C, H, M0⟩ hK
    refine ⟨_, PSs.nox hd, M0, startE N.length ds, s0, rel_start trk mt rel r, sat_V (K := Kc) ?_⟩
    cases e : g ds s0 with
    | bad => rw [e] at hq; exact hq.elim
    | exc c s1 => rw [e] at hq; exact hq.elim
    | ok d s1 => rw [e] at hq; rw [hg _ _ _ _ e]; exact hq
/-- a def of the script alone that hands back the deal -/
theorem fnDeal (F : FunD K x x params body scope [] [] f fd) (hm : mg x = some (.ref f)) (Sc : FnScope N ps scope) (hb : BinA x params body scope ps) (hn : 1 = ps.length)
    (hbody : ∀ (cdv : Value) (A : Around) (outer : List Env) (s : Shared) (H : Hp) (E : XK), Room k (A.deeper (PyProof.Rows.envOfC x scope s.heap.objs.size f cdv)) → ∀ (sa : Addr) (ns : List Int) (tr : Bool), ns.length ≤ 63 → (∀ M, (scriptC K sa ns tr).rel () M H) →
      ∃ t, PSs (BX P w K mg base N x scope f cdv A outer s H E) body t ∧ ∀ Q : VK, (∀ a r c row total H', Same H H' → H a = none → H r = none → H c = none → (∀ M, dealRel a r c row total 0 M H') → Q (.ref a) H') → t { nx := fun _ H' => Q .non H', rt := Q } (L2.start N [.ref sa]) H) :
    Fn P w K mg base (k + 1) x ps (spDeal K) := by
  refine ⟨f, fd, hm, F.kp, F.bindsN hb, F.ok Sc (fun vs H Q E h => ?_) fun cdv A outer s H vs Q E hr h => ?_⟩
  · obtain ⟨sa, ns, rfl, _⟩ := h
    exact hn
  · obtain ⟨sa, ns, rfl, h1, h2, h3⟩ := h
    obtain ⟨tr, h4⟩ := script_rel h1
    obtain ⟨t, h5, h6⟩ := hbody cdv A outer s H E hr sa ns tr h2 h4
    exact ⟨t, PSs.nox h5, h6 Q h3⟩
end
/-! ### the deal's readings, by simp -/
def kObj (o : Option Ent) : Bool := match o with
  | some (.v .obj) => true
  | _ => false
@[simp] theorem e_isObj {i : Nat} {env : List Ent} : isObj i env = kObj env[i]? := rfl
@[simp] theorem e_kObj : kObj (some (.v .obj)) = true := rfl
def kDealItem (row : List Int) : D → Nat → Res D Nat := fun d s => match d with
  | .int k => if 0 ≤ k ∧ k < row.length then .ok (.int (row.getD k.toNat 0)) s else .bad
  | _ => .bad
def kDealPut (env : List Ent) : D → Nat → Res (Fl × List Ent) Nat := fun d s => match d with
  | .int k => if 0 ≤ k then .ok (.nx, env) k.toNat else .bad
  | _ => .bad
section
variable {i s : Nat} {env : List Ent} {row : List Int} {m : XM Nat D} {g : Nat → D} {k : Int}
@[simp] theorem e_mDeal : mDeal i g env s = if isObj i env = true then .ok (g s) s else .bad := rfl
@[simp] theorem e_mDealItem : mDealItem i row m env s = if isObj i env = true then (m env s).bind (kDealItem row) else .bad := rfl
@[simp] theorem e_mDealPut : mDealPut i m env s = if isObj i env = true then (m env s).bind (kDealPut env) else .bad := rfl
@[simp] theorem e_kDealItem : kDealItem row (.int k) s = if 0 ≤ k ∧ k < row.length then .ok (.int (row.getD k.toNat 0)) s else .bad := rfl
@[simp] theorem e_kDealPut : kDealPut env (.int k) s = if 0 ≤ k then .ok (.nx, env) k.toNat else .bad := rfl
end
/-! ### the take's meaning -/
def mTake1 (row : List Int) (total : Int) : SM Nat := mSeq (mSet 2 (mDeal 0 fun n => .int (n : Nat))) (mSeq (mDealPut 0 (mBin dAdd (mLook 2) (mC (.int 1)))) (mSeq (mIfS (mTest (mBin dLt (mLook 2) (mDeal 0 fun _ => .int (row.length : Nat)))) (mRet (mBin dMod (mUn dInt (mDealItem 0 row (mLook 2))) (mLook 1))) (mSkip)) (mSeq (mSet 3 (mBin dMod (mUn dInt (mBin dAdd (mBin dAdd (mBin dMul (mLook 2) (mC (.int 7919))) (mBin dMul (mDeal 0 fun _ => .int total) (mC (.int 31)))) (mC (.int 17)))) (mC (.int 2147483629)))) (mSeq (mFor (mRange (mEnds1 (mC (.int 3)))) (gN 4) (mSet 3 (mBin dMod (mUn dInt (mBin dAdd (mBin dAdd (mBin dMul (mLook 3) (mLook 3)) (mBin dMul (mC (.int 48271)) (mLook 2))) (mC (.int 12345)))) (mC (.int 2147483647))))) (mRet (mBin dMod (mBin dDiv (mLook 3) (mC (.int 7))) (mLook 1)))))))
theorem take1_eq (row : List Int) (total : Int) (ds : List D) (n : Nat) (d : D) (s' : Nat) (h : f_law_take (drawn row total) ds n = .ok d s') : runV (mTake1 row total (startE 5 ds) n) = .ok d s' := by
  unfold f_law_take at h
  split at h
  · rename_i many
    split at h
    · rename_i hm
      cases h
      have h3 : rgOk 0 3 = true := by decide
      have e3 : rangeD 0 3 = [.int 0, .int 1, .int 2] := rfl
      have hl : (7 : Nat).log2 < 9000 := by decide
      have ht : ∀ x : Int, mulOk (x % 2147483647) (x % 2147483647) = true := fun x => mulOk_r (by omega) (by omega)
      have hu : ∀ x : Int, mulOk (x % 2147483629) (x % 2147483629) = true := fun x => mulOk_r (by omega) (by omega)
      have hn : (0 : Int) ≤ (n : Int) + 1 := by omega
      have hk : ((n : Int) + 1).toNat = n + 1 := by omega
      by_cases hr : n < row.length
      · simp -implicitDefEqProofs [mTake1, dLt, mulOk_r, mulOk_l, hm, hr, hn, hk, drawn]
      · simp -implicitDefEqProofs [mTake1, dLt, mulOk_r, mulOk_l, hm, hr, hn, hk, h3, e3, forL, hl, ht, hu, drawn]
    · cases h
  · cases h
def mTake2 (row : List Int) (total : Int) : SM Nat := mSeq (mSet 2 (mDeal 0 fun n => .int (n : Nat))) (mSeq (mDealPut 0 (mBin dAdd (mLook 2) (mC (.int 1)))) (mSeq (mIfS (mTest (mBin dLt (mLook 2) (mDeal 0 fun _ => .int (row.length : Nat)))) (mRet (mBin dMod (mUn dInt (mDealItem 0 row (mLook 2))) (mLook 1))) (mSkip)) (mSeq (mSet 3 (mBin dMod (mUn dInt (mBin dAdd (mBin dAdd (mBin dMul (mLook 2) (mC (.int 7919))) (mBin dMul (mDeal 0 fun _ => .int total) (mC (.int 31)))) (mC (.int 17)))) (mC (.int 2147483629)))) (mSeq (mFor (mRange (mEnds1 (mC (.int 3)))) (gN 4) (mSet 3 (mBin dMod (mUn dInt (mBin dAdd (mBin dAdd (mBin dMul (mLook 3) (mLook 3)) (mBin dMul (mC (.int 48271)) (mLook 2))) (mC (.int 12345)))) (mC (.int 2147483647))))) (mRet (mBin dMod (mUn dInt (mBin dDiv (mLook 3) (mC (.int 7)))) (mLook 1)))))))
theorem take2_eq (row : List Int) (total : Int) (ds : List D) (n : Nat) (d : D) (s' : Nat) (h : f_law_take (drawn row total) ds n = .ok d s') : runV (mTake2 row total (startE 5 ds) n) = .ok d s' := by
  unfold f_law_take at h
  split at h
  · rename_i many
    split at h
    · rename_i hm
      cases h
      have h3 : rgOk 0 3 = true := by decide
      have e3 : rangeD 0 3 = [.int 0, .int 1, .int 2] := rfl
      have hl : (7 : Nat).log2 < 9000 := by decide
      have ht : ∀ x : Int, mulOk (x % 2147483647) (x % 2147483647) = true := fun x => mulOk_r (by omega) (by omega)
      have hu : ∀ x : Int, mulOk (x % 2147483629) (x % 2147483629) = true := fun x => mulOk_r (by omega) (by omega)
      have hn : (0 : Int) ≤ (n : Int) + 1 := by omega
      have hk : ((n : Int) + 1).toNat = n + 1 := by omega
      by_cases hr : n < row.length
      · simp -implicitDefEqProofs [mTake2, dLt, mulOk_r, mulOk_l, hm, hr, hn, hk, drawn]
      · simp -implicitDefEqProofs [mTake2, dLt, mulOk_r, mulOk_l, hm, hr, hn, hk, h3, e3, forL, hl, ht, hu, drawn]
    · cases h
  · cases h
def mTake3 (row : List Int) (total : Int) : SM Nat := mSeq (mSet 2 (mDeal 0 fun n => .int (n : Nat))) (mSeq (mDealPut 0 (mBin dAdd (mLook 2) (mC (.int 1)))) (mSeq (mIfS (mTest (mBin dLt (mLook 2) (mDeal 0 fun _ => .int (row.length : Nat)))) (mRet (mBin dMod (mDealItem 0 row (mLook 2)) (mLook 1))) (mSkip)) (mSeq (mSet 3 (mBin dMod (mBin dAdd (mBin dAdd (mBin dMul (mLook 2) (mC (.int 7919))) (mBin dMul (mDeal 0 fun _ => .int total) (mC (.int 31)))) (mC (.int 17))) (mC (.int 2147483629)))) (mSeq (mFor (mRange (mEnds1 (mC (.int 3)))) (gN 4) (mSet 3 (mBin dMod (mBin dAdd (mBin dAdd (mBin dMul (mLook 3) (mLook 3)) (mBin dMul (mC (.int 48271)) (mLook 2))) (mC (.int 12345))) (mC (.int 2147483647))))) (mRet (mBin dMod (mBin dDiv (mLook 3) (mC (.int 7))) (mLook 1)))))))
theorem take3_eq (row : List Int) (total : Int) (ds : List D) (n : Nat) (d : D) (s' : Nat) (h : f_law_take (drawn row total) ds n = .ok d s') : runV (mTake3 row total (startE 5 ds) n) = .ok d s' := by
  unfold f_law_take at h
  split at h
  · rename_i many
    split at h
    · rename_i hm
      cases h
      have h3 : rgOk 0 3 = true := by decide
      have e3 : rangeD 0 3 = [.int 0, .int 1, .int 2] := rfl
      have hl : (7 : Nat).log2 < 9000 := by decide
      have ht : ∀ x : Int, mulOk (x % 2147483647) (x % 2147483647) = true := fun x => mulOk_r (by omega) (by omega)
      have hu : ∀ x : Int, mulOk (x % 2147483629) (x % 2147483629) = true := fun x => mulOk_r (by omega) (by omega)
      have hn : (0 : Int) ≤ (n : Int) + 1 := by omega
      have hk : ((n : Int) + 1).toNat = n + 1 := by omega
      by_cases hr : n < row.length
      · simp -implicitDefEqProofs [mTake3, dLt, mulOk_r, mulOk_l, hm, hr, hn, hk, drawn]
      · simp -implicitDefEqProofs [mTake3, dLt, mulOk_r, mulOk_l, hm, hr, hn, hk, h3, e3, forL, hl, ht, hu, drawn]
    · cases h
  · cases h
end L3
namespace L3
open PySem PySem.Spec L2
theorem rangeD_get {a b : Int} {i : Nat} {d : D} (h : (rangeD a b)[i]? = some d) : d = .int (a + i) ∧ i < (b - a).toNat := by
  unfold rangeD at h
  rw [List.getElem?_map] at h
  by_cases hi : i < (b - a).toNat
  · rw [List.getElem?_range hi] at h
    cases h
    exact ⟨rfl, hi⟩
  · rw [List.getElem?_eq_none (by rw [List.length_range]; omega)] at h
    cases h
@[simp] theorem intsOf_of : ∀ {ns : List Int}, intsOf (ns.map D.int) = some ns
  | [] => rfl
  | n :: ns => by
    rw [List.map_cons]
    unfold intsOf
    rw [intsOf_of (ns := ns)]
    rfl
def kScrItem (ns : List Int) : D → Unit → Res D Unit := fun d s => match d with
  | .int k => if 0 ≤ k ∧ k < ns.length then .ok (.int (ns.getD k.toNat 0)) s else .bad
  | _ => .bad
section
variable {i : Nat} {env : List Ent} {ns : List Int} {m : XM Unit D} {g : D} {k : Int} {s : Unit}
@[simp] theorem e_mScr : mScr i g env s = if isObj i env = true then .ok g s else .bad := rfl
@[simp] theorem e_mScrItem : mScrItem i ns m env s = if isObj i env = true then (m env s).bind (kScrItem ns) else .bad := rfl
@[simp] theorem e_kScrItem : kScrItem ns (.int k) s = if 0 ≤ k ∧ k < ns.length then .ok (.int (ns.getD k.toNat 0)) s else .bad := rfl
end
def mDealA1 : SM Unit := mSetO 1 (mDisp (mNil))
def mDealB1 (ns : List Int) : SM Unit := mFor (mRange (mEnds1 (mBin dMin2 (mScr 0 (.int (ns.length : Nat))) (mC (.int 63))))) (gN 2) (mSeq (mSet 3 (mUn dAbs (mUn dInt (mScrItem 0 ns (mLook 2))))) (mIfS (mTest (mBin dGe (mLook 3) (mBin dPow (mC (.int 10)) (mC (.int 18))))) (mFor (mRange (mEnds1 (mC (.int 40)))) (gN 4) (mIfS (mTest (mBin dGt (mLook 3) (mC (.int 0)))) (mSeq (mApp 1 (mBin dMod (mUn dInt (mLook 3)) (mC (.int 1009)))) (mSet 3 (mBin dDiv (mLook 3) (mC (.int 1009))))) (mSkip))) (mSeq (mSet 3 (mBin dAdd (mBin dAdd (mBin dMul (mBin dMod (mUn dInt (mLook 3)) (mC (.int 2147483629))) (mC (.int 48271))) (mBin dMul (mLook 2) (mC (.int 69621)))) (mC (.int 11)))) (mFor (mRange (mEnds1 (mC (.int 5)))) (gN 4) (mSeq (mSet 3 (mBin dMod (mUn dInt (mBin dAdd (mBin dAdd (mBin dMul (mLook 3) (mC (.int 16807))) (mC (.int 12345))) (mLook 4))) (mC (.int 2147483647)))) (mApp 1 (mBin dMod (mBin dDiv (mLook 3) (mC (.int 7))) (mC (.int 1009)))))))))
def mDealC1 (ns : List Int) : SM Unit := mSet 5 (mBin dAdd (mUn dSumL (mLook 1)) (mScr 0 (.int (ns.length : Nat))))
theorem deal1_run (ns : List Int) (hl : ns.length ≤ 63) : ∃ (row : List Int) (total : Int) (e1 e2 e3 : List Ent), mDealA1 (startE 6 [.obj]) () = .ok (.nx, e1) () ∧ mDealB1 ns e1 () = .ok (.nx, e2) () ∧ mDealC1 ns e2 () = .ok (.nx, e3) () ∧ e3[1]? = some (.o (row.map D.int)) ∧ e3[5]? = some (.v (.int total)) := by
  have hr : rgOk 0 (ns.length : Nat) = true := rgOk_of (by omega) (by omega) (by omega) (by omega) (by omega)
  have hr5 : rgOk 0 5 = true := rgOk_of (by omega) (by omega) (by omega) (by omega) (by omega)
  have hr40 : rgOk 0 40 = true := rgOk_of (by omega) (by omega) (by omega) (by omega) (by omega)
  have hmin : (if (63 : Int) < (ns.length : Nat) then (63 : Int) else (ns.length : Nat)) = (ns.length : Nat) := if_neg (by omega)
  have hl7 : (7 : Nat).log2 < 9000 := by decide
  have hl9 : (1009 : Nat).log2 < 9000 := by decide
  obtain ⟨e2, s2, h2, c2, c3, c4, row, he, hrl⟩ := forL_inv (S := Unit) (g := gN 2) (mb := (mSeq (mSet 3 (mUn dAbs (mUn dInt (mScrItem 0 ns (mLook 2))))) (mIfS (mTest (mBin dGe (mLook 3) (mBin dPow (mC (.int 10)) (mC (.int 18))))) (mFor (mRange (mEnds1 (mC (.int 40)))) (gN 4) (mIfS (mTest (mBin dGt (mLook 3) (mC (.int 0)))) (mSeq (mApp 1 (mBin dMod (mUn dInt (mLook 3)) (mC (.int 1009)))) (mSet 3 (mBin dDiv (mLook 3) (mC (.int 1009))))) (mSkip))) (mSeq (mSet 3 (mBin dAdd (mBin dAdd (mBin dMul (mBin dMod (mUn dInt (mLook 3)) (mC (.int 2147483629))) (mC (.int 48271))) (mBin dMul (mLook 2) (mC (.int 69621)))) (mC (.int 11)))) (mFor (mRange (mEnds1 (mC (.int 5)))) (gN 4) (mSeq (mSet 3 (mBin dMod (mUn dInt (mBin dAdd (mBin dAdd (mBin dMul (mLook 3) (mC (.int 16807))) (mC (.int 12345))) (mLook 4))) (mC (.int 2147483647)))) (mApp 1 (mBin dMod (mBin dDiv (mLook 3) (mC (.int 7))) (mC (.int 1009)))))))))) (fun i env s => ∃ (c2 c3 c4 : Ent) (row : List Int), env = [.v .obj, .o (row.map D.int), c2, c3, c4, .no] ∧ row.length ≤ 40 * i) (rangeD 0 (ns.length : Nat)) (env := [.v .obj, .o [], .no, .no, .no, .no]) (s := ()) ⟨_, _, _, [], rfl, by simp⟩ (fun i d e s hd => by
    rintro ⟨c2, c3, c4, row, rfl, hrl⟩
    obtain ⟨rfl, hi⟩ := rangeD_get hd
    have hi2 : i < ns.length := by omega
    have e0 : (0 : Int) + (i : Nat) = (i : Nat) := by omega
    have ei : (if (ns.getD i 0) < 0 then -(ns.getD i 0) else (ns.getD i 0)) = (if (ns.getD i 0) < 0 then -(ns.getD i 0) else (ns.getD i 0)) := rfl
    generalize hcell : (if (ns.getD i 0) < 0 then -(ns.getD i 0) else (ns.getD i 0)) = cell at ei
    have hcell' : (if (ns[i]'hi2) < 0 then -(ns[i]'hi2) else (ns[i]'hi2)) = cell := by rw [← hcell, List.getD_eq_getElem?_getD, List.getElem?_eq_getElem hi2]; rfl
    by_cases hc : (1000000000000000000 : Int) ≤ cell
    · obtain ⟨e2, s2, h2, row2, cell2, c42, he, hrl2⟩ := forL_inv (S := Unit) (g := gN 4) (mb := (mIfS (mTest (mBin dGt (mLook 3) (mC (.int 0)))) (mSeq (mApp 1 (mBin dMod (mUn dInt (mLook 3)) (mC (.int 1009)))) (mSet 3 (mBin dDiv (mLook 3) (mC (.int 1009))))) (mSkip))) (fun t env s => ∃ (row2 : List Int) (cell2 : Int) (c4 : Ent), env = [.v .obj, .o (row2.map D.int), .v (.int i), .v (.int cell2), c4, .no] ∧ row2.length ≤ row.length + t) (rangeD 0 40) (env := [.v .obj, .o (row.map D.int), .v (.int i), .v (.int cell), c4, .no]) (s := ()) ⟨row, cell, c4, rfl, by omega⟩ (fun t d e s hd => by
        rintro ⟨row2, cell2, c42, rfl, hrl2⟩
        obtain ⟨rfl, ht⟩ := rangeD_get hd
        have hlen : row2.length < 16777216 := by omega
        by_cases hp : 0 < cell2
        · refine ⟨_, _, (), rfl, .inl ?_, row2 ++ [cell2 % 1009], cell2 / 1009, .v (.int (0 + (t : Nat))), rfl, by rw [List.length_append, List.length_singleton]; omega⟩
          simp -implicitDefEqProofs [hp, hlen, hl9, dGt, dCmp]
        · refine ⟨_, _, (), rfl, .inl ?_, row2, cell2, .v (.int (0 + (t : Nat))), rfl, by omega⟩
          simp -implicitDefEqProofs [hp, dGt, dCmp])
      refine ⟨_, e2, (), rfl, .inl ?_, .v (.int i), .v (.int cell2), c42, row2, he, ?_⟩
      · simp -implicitDefEqProofs only [e0, gN] at h2 ⊢
        simp -implicitDefEqProofs [hi2, hcell', hc, hr40, dGe, dCmp, h2]
      · have : (rangeD 0 40).length = 40 := rfl
        omega
    · obtain ⟨e2, s2, h2, row2, cell2, c42, he, hrl2⟩ := forL_inv (S := Unit) (g := gN 4) (mb := (mSeq (mSet 3 (mBin dMod (mUn dInt (mBin dAdd (mBin dAdd (mBin dMul (mLook 3) (mC (.int 16807))) (mC (.int 12345))) (mLook 4))) (mC (.int 2147483647)))) (mApp 1 (mBin dMod (mBin dDiv (mLook 3) (mC (.int 7))) (mC (.int 1009)))))) (fun t env s => ∃ (row2 : List Int) (cell2 : Int) (c4 : Ent), env = [.v .obj, .o (row2.map D.int), .v (.int i), .v (.int cell2), c4, .no] ∧ row2.length ≤ row.length + t) (rangeD 0 5) (env := [.v .obj, .o (row.map D.int), .v (.int i), .v (.int (cell % 2147483629 * 48271 + (i : Nat) * 69621 + 11)), c4, .no]) (s := ()) ⟨row, _, c4, rfl, by omega⟩ (fun t d e s hd => by
        rintro ⟨row2, cell2, c42, rfl, hrl2⟩
        obtain ⟨rfl, ht⟩ := rangeD_get hd
        have hlen : row2.length < 16777216 := by omega
        refine ⟨_, _, (), rfl, .inl ?_, row2 ++ [(cell2 * 16807 + 12345 + (0 + (t : Nat))) % 2147483647 / 7 % 1009], (cell2 * 16807 + 12345 + (0 + (t : Nat))) % 2147483647, .v (.int (0 + (t : Nat))), rfl, by rw [List.length_append, List.length_singleton]; omega⟩
        simp -implicitDefEqProofs [hlen, hl7, mulOk_r])
      refine ⟨_, e2, (), rfl, .inl ?_, .v (.int i), .v (.int cell2), c42, row2, he, ?_⟩
      · simp -implicitDefEqProofs only [e0, gN] at h2 ⊢
        simp -implicitDefEqProofs [hi2, hcell', hc, hr5, dGe, dCmp, mulOk_r, h2]
      · have : (rangeD 0 5).length = 5 := rfl
        omega)
  refine ⟨row, row.sum + (ns.length : Nat), [.v .obj, .o [], .no, .no, .no, .no], e2, e2.set 5 (.v (.int (row.sum + (ns.length : Nat)))), ?_, ?_, ?_, ?_, ?_⟩
  · simp -implicitDefEqProofs [mDealA1]
  · simp -implicitDefEqProofs [mDealB1, hmin, hr]
    exact h2
  · subst he
    simp -implicitDefEqProofs [mDealC1]
  · subst he
    rfl
  · subst he
    rfl
def mDealA2 : SM Unit := mSetO 1 (mDisp (mNil))
def mDealB2 (ns : List Int) : SM Unit := mFor (mRange (mEnds1 (mBin dMin2 (mScr 0 (.int (ns.length : Nat))) (mC (.int 63))))) (gN 2) (mSeq (mSet 3 (mUn dAbs (mUn dInt (mScrItem 0 ns (mLook 2))))) (mIfS (mTest (mBin dGe (mLook 3) (mBin dPow (mC (.int 10)) (mC (.int 18))))) (mFor (mRange (mEnds1 (mC (.int 40)))) (gN 4) (mIfS (mTest (mBin dGt (mLook 3) (mC (.int 0)))) (mSeq (mApp 1 (mBin dMod (mUn dInt (mLook 3)) (mC (.int 1009)))) (mSet 3 (mBin dDiv (mLook 3) (mC (.int 1009))))) (mSkip))) (mSeq (mSet 3 (mBin dAdd (mBin dAdd (mBin dMul (mBin dMod (mUn dInt (mLook 3)) (mC (.int 2147483629))) (mC (.int 48271))) (mBin dMul (mLook 2) (mC (.int 69621)))) (mC (.int 11)))) (mFor (mRange (mEnds1 (mC (.int 5)))) (gN 4) (mSeq (mSet 3 (mBin dMod (mUn dInt (mBin dAdd (mBin dAdd (mBin dMul (mLook 3) (mC (.int 16807))) (mC (.int 12345))) (mLook 4))) (mC (.int 2147483647)))) (mApp 1 (mBin dMod (mUn dInt (mBin dDiv (mLook 3) (mC (.int 7)))) (mC (.int 1009)))))))))
def mDealC2 (ns : List Int) : SM Unit := mSet 5 (mBin dAdd (mUn dSumL (mLook 1)) (mScr 0 (.int (ns.length : Nat))))
theorem deal2_run (ns : List Int) (hl : ns.length ≤ 63) : ∃ (row : List Int) (total : Int) (e1 e2 e3 : List Ent), mDealA2 (startE 6 [.obj]) () = .ok (.nx, e1) () ∧ mDealB2 ns e1 () = .ok (.nx, e2) () ∧ mDealC2 ns e2 () = .ok (.nx, e3) () ∧ e3[1]? = some (.o (row.map D.int)) ∧ e3[5]? = some (.v (.int total)) := by
  have hr : rgOk 0 (ns.length : Nat) = true := rgOk_of (by omega) (by omega) (by omega) (by omega) (by omega)
  have hr5 : rgOk 0 5 = true := rgOk_of (by omega) (by omega) (by omega) (by omega) (by omega)
  have hr40 : rgOk 0 40 = true := rgOk_of (by omega) (by omega) (by omega) (by omega) (by omega)
  have hmin : (if (63 : Int) < (ns.length : Nat) then (63 : Int) else (ns.length : Nat)) = (ns.length : Nat) := if_neg (by omega)
  have hl7 : (7 : Nat).log2 < 9000 := by decide
  have hl9 : (1009 : Nat).log2 < 9000 := by decide
  obtain ⟨e2, s2, h2, c2, c3, c4, row, he, hrl⟩ := forL_inv (S := Unit) (g := gN 2) (mb := (mSeq (mSet 3 (mUn dAbs (mUn dInt (mScrItem 0 ns (mLook 2))))) (mIfS (mTest (mBin dGe (mLook 3) (mBin dPow (mC (.int 10)) (mC (.int 18))))) (mFor (mRange (mEnds1 (mC (.int 40)))) (gN 4) (mIfS (mTest (mBin dGt (mLook 3) (mC (.int 0)))) (mSeq (mApp 1 (mBin dMod (mUn dInt (mLook 3)) (mC (.int 1009)))) (mSet 3 (mBin dDiv (mLook 3) (mC (.int 1009))))) (mSkip))) (mSeq (mSet 3 (mBin dAdd (mBin dAdd (mBin dMul (mBin dMod (mUn dInt (mLook 3)) (mC (.int 2147483629))) (mC (.int 48271))) (mBin dMul (mLook 2) (mC (.int 69621)))) (mC (.int 11)))) (mFor (mRange (mEnds1 (mC (.int 5)))) (gN 4) (mSeq (mSet 3 (mBin dMod (mUn dInt (mBin dAdd (mBin dAdd (mBin dMul (mLook 3) (mC (.int 16807))) (mC (.int 12345))) (mLook 4))) (mC (.int 2147483647)))) (mApp 1 (mBin dMod (mUn dInt (mBin dDiv (mLook 3) (mC (.int 7)))) (mC (.int 1009)))))))))) (fun i env s => ∃ (c2 c3 c4 : Ent) (row : List Int), env = [.v .obj, .o (row.map D.int), c2, c3, c4, .no] ∧ row.length ≤ 40 * i) (rangeD 0 (ns.length : Nat)) (env := [.v .obj, .o [], .no, .no, .no, .no]) (s := ()) ⟨_, _, _, [], rfl, by simp⟩ (fun i d e s hd => by
    rintro ⟨c2, c3, c4, row, rfl, hrl⟩
    obtain ⟨rfl, hi⟩ := rangeD_get hd
    have hi2 : i < ns.length := by omega
    have e0 : (0 : Int) + (i : Nat) = (i : Nat) := by omega
    have ei : (if (ns.getD i 0) < 0 then -(ns.getD i 0) else (ns.getD i 0)) = (if (ns.getD i 0) < 0 then -(ns.getD i 0) else (ns.getD i 0)) := rfl
    generalize hcell : (if (ns.getD i 0) < 0 then -(ns.getD i 0) else (ns.getD i 0)) = cell at ei
    have hcell' : (if (ns[i]'hi2) < 0 then -(ns[i]'hi2) else (ns[i]'hi2)) = cell := by rw [← hcell, List.getD_eq_getElem?_getD, List.getElem?_eq_getElem hi2]; rfl
    by_cases hc : (1000000000000000000 : Int) ≤ cell
    · obtain ⟨e2, s2, h2, row2, cell2, c42, he, hrl2⟩ := forL_inv (S := Unit) (g := gN 4) (mb := (mIfS (mTest (mBin dGt (mLook 3) (mC (.int 0)))) (mSeq (mApp 1 (mBin dMod (mUn dInt (mLook 3)) (mC (.int 1009)))) (mSet 3 (mBin dDiv (mLook 3) (mC (.int 1009))))) (mSkip))) (fun t env s => ∃ (row2 : List Int) (cell2 : Int) (c4 : Ent), env = [.v .obj, .o (row2.map D.int), .v (.int i), .v (.int cell2), c4, .no] ∧ row2.length ≤ row.length + t) (rangeD 0 40) (env := [.v .obj, .o (row.map D.int), .v (.int i), .v (.int cell), c4, .no]) (s := ()) ⟨row, cell, c4, rfl, by omega⟩ (fun t d e s hd => by
        rintro ⟨row2, cell2, c42, rfl, hrl2⟩
        obtain ⟨rfl, ht⟩ := rangeD_get hd
        have hlen : row2.length < 16777216 := by omega
        by_cases hp : 0 < cell2
        · refine ⟨_, _, (), rfl, .inl ?_, row2 ++ [cell2 % 1009], cell2 / 1009, .v (.int (0 + (t : Nat))), rfl, by rw [List.length_append, List.length_singleton]; omega⟩
          simp -implicitDefEqProofs [hp, hlen, hl9, dGt, dCmp]
        · refine ⟨_, _, (), rfl, .inl ?_, row2, cell2, .v (.int (0 + (t : Nat))), rfl, by omega⟩
          simp -implicitDefEqProofs [hp, dGt, dCmp])
      refine ⟨_, e2, (), rfl, .inl ?_, .v (.int i), .v (.int cell2), c42, row2, he, ?_⟩
      · simp -implicitDefEqProofs only [e0, gN] at h2 ⊢
        simp -implicitDefEqProofs [hi2, hcell', hc, hr40, dGe, dCmp, h2]
      · have : (rangeD 0 40).length = 40 := rfl
        omega
    · obtain ⟨e2, s2, h2, row2, cell2, c42, he, hrl2⟩ := forL_inv (S := Unit) (g := gN 4) (mb := (mSeq (mSet 3 (mBin dMod (mUn dInt (mBin dAdd (mBin dAdd (mBin dMul (mLook 3) (mC (.int 16807))) (mC (.int 12345))) (mLook 4))) (mC (.int 2147483647)))) (mApp 1 (mBin dMod (mUn dInt (mBin dDiv (mLook 3) (mC (.int 7)))) (mC (.int 1009)))))) (fun t env s => ∃ (row2 : List Int) (cell2 : Int) (c4 : Ent), env = [.v .obj, .o (row2.map D.int), .v (.int i), .v (.int cell2), c4, .no] ∧ row2.length ≤ row.length + t) (rangeD 0 5) (env := [.v .obj, .o (row.map D.int), .v (.int i), .v (.int (cell % 2147483629 * 48271 + (i : Nat) * 69621 + 11)), c4, .no]) (s := ()) ⟨row, _, c4, rfl, by omega⟩ (fun t d e s hd => by
        rintro ⟨row2, cell2, c42, rfl, hrl2⟩
        obtain ⟨rfl, ht⟩ := rangeD_get hd
        have hlen : row2.length < 16777216 := by omega
        refine ⟨_, _, (), rfl, .inl ?_, row2 ++ [(cell2 * 16807 + 12345 + (0 + (t : Nat))) % 2147483647 / 7 % 1009], (cell2 * 16807 + 12345 + (0 + (t : Nat))) % 2147483647, .v (.int (0 + (t : Nat))), rfl, by rw [List.length_append, List.length_singleton]; omega⟩
        simp -implicitDefEqProofs [hlen, hl7, mulOk_r])
      refine ⟨_, e2, (), rfl, .inl ?_, .v (.int i), .v (.int cell2), c42, row2, he, ?_⟩
      · simp -implicitDefEqProofs only [e0, gN] at h2 ⊢
        simp -implicitDefEqProofs [hi2, hcell', hc, hr5, dGe, dCmp, mulOk_r, h2]
      · have : (rangeD 0 5).length = 5 := rfl
        omega)
  refine ⟨row, row.sum + (ns.length : Nat), [.v .obj, .o [], .no, .no, .no, .no], e2, e2.set 5 (.v (.int (row.sum + (ns.length : Nat)))), ?_, ?_, ?_, ?_, ?_⟩
  · simp -implicitDefEqProofs [mDealA2]
  · simp -implicitDefEqProofs [mDealB2, hmin, hr]
    exact h2
  · subst he
    simp -implicitDefEqProofs [mDealC2]
  · subst he
    rfl
  · subst he
    rfl
def mDealA3 : SM Unit := mSetO 1 (mDisp (mNil))
def mDealB3 (ns : List Int) : SM Unit := mFor (mRange (mEnds1 (mBin dMin2 (mScr 0 (.int (ns.length : Nat))) (mC (.int 63))))) (gN 2) (mSeq (mSet 3 (mUn dAbs (mUn dInt (mScrItem 0 ns (mLook 2))))) (mIfS (mTest (mBin dGe (mLook 3) (mBin dPow (mC (.int 10)) (mC (.int 18))))) (mFor (mRange (mEnds1 (mC (.int 40)))) (gN 4) (mIfS (mTest (mBin dGt (mLook 3) (mC (.int 0)))) (mSeq (mApp 1 (mBin dMod (mLook 3) (mC (.int 1009)))) (mSet 3 (mBin dDiv (mLook 3) (mC (.int 1009))))) (mSkip))) (mSeq (mSet 3 (mBin dAdd (mBin dAdd (mBin dMul (mBin dMod (mLook 3) (mC (.int 2147483629))) (mC (.int 48271))) (mBin dMul (mLook 2) (mC (.int 69621)))) (mC (.int 11)))) (mFor (mRange (mEnds1 (mC (.int 5)))) (gN 4) (mSeq (mSet 3 (mBin dMod (mBin dAdd (mBin dAdd (mBin dMul (mLook 3) (mC (.int 16807))) (mC (.int 12345))) (mLook 4)) (mC (.int 2147483647)))) (mApp 1 (mBin dMod (mBin dDiv (mLook 3) (mC (.int 7))) (mC (.int 1009)))))))))
def mDealC3 (ns : List Int) : SM Unit := mSet 5 (mBin dAdd (mUn dSumL (mLook 1)) (mScr 0 (.int (ns.length : Nat))))
theorem deal3_run (ns : List Int) (hl : ns.length ≤ 63) : ∃ (row : List Int) (total : Int) (e1 e2 e3 : List Ent), mDealA3 (startE 6 [.obj]) () = .ok (.nx, e1) () ∧ mDealB3 ns e1 () = .ok (.nx, e2) () ∧ mDealC3 ns e2 () = .ok (.nx, e3) () ∧ e3[1]? = some (.o (row.map D.int)) ∧ e3[5]? = some (.v (.int total)) := by
  have hr : rgOk 0 (ns.length : Nat) = true := rgOk_of (by omega) (by omega) (by omega) (by omega) (by omega)
  have hr5 : rgOk 0 5 = true := rgOk_of (by omega) (by omega) (by omega) (by omega) (by omega)
  have hr40 : rgOk 0 40 = true := rgOk_of (by omega) (by omega) (by omega) (by omega) (by omega)
  have hmin : (if (63 : Int) < (ns.length : Nat) then (63 : Int) else (ns.length : Nat)) = (ns.length : Nat) := if_neg (by omega)
  have hl7 : (7 : Nat).log2 < 9000 := by decide
  have hl9 : (1009 : Nat).log2 < 9000 := by decide
  obtain ⟨e2, s2, h2, c2, c3, c4, row, he, hrl⟩ := forL_inv (S := Unit) (g := gN 2) (mb := (mSeq (mSet 3 (mUn dAbs (mUn dInt (mScrItem 0 ns (mLook 2))))) (mIfS (mTest (mBin dGe (mLook 3) (mBin dPow (mC (.int 10)) (mC (.int 18))))) (mFor (mRange (mEnds1 (mC (.int 40)))) (gN 4) (mIfS (mTest (mBin dGt (mLook 3) (mC (.int 0)))) (mSeq (mApp 1 (mBin dMod (mLook 3) (mC (.int 1009)))) (mSet 3 (mBin dDiv (mLook 3) (mC (.int 1009))))) (mSkip))) (mSeq (mSet 3 (mBin dAdd (mBin dAdd (mBin dMul (mBin dMod (mLook 3) (mC (.int 2147483629))) (mC (.int 48271))) (mBin dMul (mLook 2) (mC (.int 69621)))) (mC (.int 11)))) (mFor (mRange (mEnds1 (mC (.int 5)))) (gN 4) (mSeq (mSet 3 (mBin dMod (mBin dAdd (mBin dAdd (mBin dMul (mLook 3) (mC (.int 16807))) (mC (.int 12345))) (mLook 4)) (mC (.int 2147483647)))) (mApp 1 (mBin dMod (mBin dDiv (mLook 3) (mC (.int 7))) (mC (.int 1009)))))))))) (fun i env s => ∃ (c2 c3 c4 : Ent) (row : List Int), env = [.v .obj, .o (row.map D.int), c2, c3, c4, .no] ∧ row.length ≤ 40 * i) (rangeD 0 (ns.length : Nat)) (env := [.v .obj, .o [], .no, .no, .no, .no]) (s := ()) ⟨_, _, _, [], rfl, by simp⟩ (fun i d e s hd => by
    rintro ⟨c2, c3, c4, row, rfl, hrl⟩
    obtain ⟨rfl, hi⟩ := rangeD_get hd
    have hi2 : i < ns.length := by omega
    have e0 : (0 : Int) + (i : Nat) = (i : Nat) := by omega
    have ei : (if (ns.getD i 0) < 0 then -(ns.getD i 0) else (ns.getD i 0)) = (if (ns.getD i 0) < 0 then -(ns.getD i 0) else (ns.getD i 0)) := rfl
    generalize hcell : (if (ns.getD i 0) < 0 then -(ns.getD i 0) else (ns.getD i 0)) = cell at ei
    have hcell' : (if (ns[i]'hi2) < 0 then -(ns[i]'hi2) else (ns[i]'hi2)) = cell := by rw [← hcell, List.getD_eq_getElem?_getD, List.getElem?_eq_getElem hi2]; rfl
    by_cases hc : (1000000000000000000 : Int) ≤ cell
    · obtain ⟨e2, s2, h2, row2, cell2, c42, he, hrl2⟩ := forL_inv (S := Unit) (g := gN 4) (mb := (mIfS (mTest (mBin dGt (mLook 3) (mC (.int 0)))) (mSeq (mApp 1 (mBin dMod (mLook 3) (mC (.int 1009)))) (mSet 3 (mBin dDiv (mLook 3) (mC (.int 1009))))) (mSkip))) (fun t env s => ∃ (row2 : List Int) (cell2 : Int) (c4 : Ent), env = [.v .obj, .o (row2.map D.int), .v (.int i), .v (.int cell2), c4, .no] ∧ row2.length ≤ row.length + t) (rangeD 0 40) (env := [.v .obj, .o (row.map D.int), .v (.int i), .v (.int cell), c4, .no]) (s := ()) ⟨row, cell, c4, rfl, by omega⟩ (fun t d e s hd => by
        rintro ⟨row2, cell2, c42, rfl, hrl2⟩
        obtain ⟨rfl, ht⟩ := rangeD_get hd
        have hlen : row2.length < 16777216 := by omega
        by_cases hp : 0 < cell2
        · refine ⟨_, _, (), rfl, .inl ?_, row2 ++ [cell2 % 1009], cell2 / 1009, .v (.int (0 + (t : Nat))), rfl, by rw [List.length_append, List.length_singleton]; omega⟩
          simp -implicitDefEqProofs [hp, hlen, hl9, dGt, dCmp]
        · refine ⟨_, _, (), rfl, .inl ?_, row2, cell2, .v (.int (0 + (t : Nat))), rfl, by omega⟩
          simp -implicitDefEqProofs [hp, dGt, dCmp])
      refine ⟨_, e2, (), rfl, .inl ?_, .v (.int i), .v (.int cell2), c42, row2, he, ?_⟩
      · simp -implicitDefEqProofs only [e0, gN] at h2 ⊢
        simp -implicitDefEqProofs [hi2, hcell', hc, hr40, dGe, dCmp, h2]
      · have : (rangeD 0 40).length = 40 := rfl
        omega
    · obtain ⟨e2, s2, h2, row2, cell2, c42, he, hrl2⟩ := forL_inv (S := Unit) (g := gN 4) (mb := (mSeq (mSet 3 (mBin dMod (mBin dAdd (mBin dAdd (mBin dMul (mLook 3) (mC (.int 16807))) (mC (.int 12345))) (mLook 4)) (mC (.int 2147483647)))) (mApp 1 (mBin dMod (mBin dDiv (mLook 3) (mC (.int 7))) (mC (.int 1009)))))) (fun t env s => ∃ (row2 : List Int) (cell2 : Int) (c4 : Ent), env = [.v .obj, .o (row2.map D.int), .v (.int i), .v (.int cell2), c4, .no] ∧ row2.length ≤ row.length + t) (rangeD 0 5) (env := [.v .obj, .o (row.map D.int), .v (.int i), .v (.int (cell % 2147483629 * 48271 + (i : Nat) * 69621 + 11)), c4, .no]) (s := ()) ⟨row, _, c4, rfl, by omega⟩ (fun t d e s hd => by
        rintro ⟨row2, cell2, c42, rfl, hrl2⟩
        obtain ⟨rfl, ht⟩ := rangeD_get hd
        have hlen : row2.length < 16777216 := by omega
        refine ⟨_, _, (), rfl, .inl ?_, row2 ++ [(cell2 * 16807 + 12345 + (0 + (t : Nat))) % 2147483647 / 7 % 1009], (cell2 * 16807 + 12345 + (0 + (t : Nat))) % 2147483647, .v (.int (0 + (t : Nat))), rfl, by rw [List.length_append, List.length_singleton]; omega⟩
        simp -implicitDefEqProofs [hlen, hl7, mulOk_r])
      refine ⟨_, e2, (), rfl, .inl ?_, .v (.int i), .v (.int cell2), c42, row2, he, ?_⟩
      · simp -implicitDefEqProofs only [e0, gN] at h2 ⊢
        simp -implicitDefEqProofs [hi2, hcell', hc, hr5, dGe, dCmp, mulOk_r, h2]
      · have : (rangeD 0 5).length = 5 := rfl
        omega)
  refine ⟨row, row.sum + (ns.length : Nat), [.v .obj, .o [], .no, .no, .no, .no], e2, e2.set 5 (.v (.int (row.sum + (ns.length : Nat)))), ?_, ?_, ?_, ?_, ?_⟩
  · simp -implicitDefEqProofs [mDealA3]
  · simp -implicitDefEqProofs [mDealB3, hmin, hr]
    exact h2
  · subst he
    simp -implicitDefEqProofs [mDealC3]
  · subst he
    rfl
  · subst he
    rfl
section
variable {P : Program} {w : World} {K : PySem.W.Frag} {mg : Str → Option Value} {base : Heap} {X : Cx} {F : Fx Unit} {m1 m2 m3 : SM Unit} {s1 s2 s3 s4 : Stmt} {sa : Addr} {ns : List Int} {tr : Bool} {N : List Str} {H : Hp}
theorem deal_body (hC : F.C = scriptC K sa ns tr) (h0 : F.H0 = H) (hM : F.M0 = fun _ => False) (hN : N.length = 6) (d1 : DS X F W0 s1 m1) (d2 : DS X F W0 s2 m2) (d3 : DS X F W0 s3 m3) (d4 : PS X s4 (tDealRet 1 5))
    (hrel : ∀ M, (scriptC K sa ns tr).rel () M H)
    (hrun : ∃ (row : List Int) (total : Int) (e1 e2 e3 : List Ent), m1 (startE 6 [.obj]) () = .ok (.nx, e1) () ∧ m2 e1 () = .ok (.nx, e2) () ∧ m3 e2 () = .ok (.nx, e3) () ∧ e3[1]? = some (.o (row.map D.int)) ∧ e3[5]? = some (.v (.int total))) :
    ∃ t, PSs X [s1, s2, s3, s4] t ∧ ∀ Q : VK, (∀ a r c row total H', Same H H' → H a = none → H r = none → H c = none → (∀ M, dealRel a r c row total 0 M H') → Q (.ref a) H') → t { nx := fun _ H' => Q .non H', rt := Q } (L2.start N [.ref sa]) H := by
  refine ⟨_, pss_cons d1 (pss_cons d2 (pss_cons d3 (pss_one d4))), fun Q q => ?_⟩
  obtain ⟨row, total, e1, e2, e3, r1, r2, r3, g1, g2⟩ := hrun
  obtain ⟨C, H0, M0⟩ := F
  cases hC
  cases h0
  cases hM
  have R0 : RelS ⟨scriptC K sa ns tr, H0, fun _ => False⟩ (fun _ => False) (startE N.length [.obj]) () (L2.start N [.ref sa]) H0 := rel_start (fun _ z => z.elim) (fun _ z => z.elim) (hrel _) ⟨.ref sa, [], rfl, rfl, rfl⟩
  rw [hN] at R0
  refine ⟨_, _, (), R0, ?_⟩
  rw [r1]
  intro M1 σ1 H1 R1 _
  refine ⟨_, _, (), R1, ?_⟩
  rw [r2]
  intro M2 σ2 H2 R2 _
  refine ⟨_, _, (), R2, ?_⟩
  rw [r3]
  intro M3 σ3 H3 R3 _
  exact deal_ret (fun _ z => z) R3 g1 g2 q
end
/-! ### law -/
section
variable {P : Program} {w : World} {K : PySem.W.Frag} {mg : Str → Option Value} {base : Heap} {X : Cx} {k k0 n : Nat} {N ps : List Str} {s1 : Stmt} {rest : List Stmt} {x : Str} {params : Arguments} {scope : Scope} {f : Addr} {fd : FuncData} {p pos px : Pos}
def tGiven (K : PySem.W.Frag) : TE := fun σ H Q => ∃ v, σ[0]? = some (some v) ∧ ∃ (sa : Addr) (ns : List Int), v = .ref sa ∧ SqL K H sa (ns.map V.int) ∧ ns.length ≤ 63 ∧ ∀ a r c row total H', Same H H' → H a = none → H r = none → H c = none → (∀ M, dealRel a r c row total 0 M H') → Q (.ref a) H'
theorem pe_given (G : Fn X.prog X.w X.K X.mg X.base k "_law_deal" ["script"] (spDeal X.K)) (hr : Room k X.A) (hN : X.N[0]? = some ("script" : Str) := by rfl) (hv : Vis X.env.scope "script" := by first | exact Or.inl rfl | exact Or.inr (Or.inl rfl) | exact Or.inr (Or.inr rfl)) (hg : Gl X "_law_deal" := by rfl)
    (he : starEach [.Name "script" px] X.env = (false, eval (.Name "script" px) X.env) :: starEach [] X.env := by rfl) (hpl : (backTo pos (starEach [] X.env)).any (·.1) = false := by rfl) : PE X (.Call (.Name "_law_deal" p) [.Name "script" px] [] pos) (tGiven X.K) := by
  obtain ⟨f, fd, hm, kp, b, ok⟩ := G.ex
  refine peImp (pe_call ok hr hg hm kp b .nil pass0 (pa_cons (pe_var hN hv (by decide) (by decide)) pa_nil he) (by decide) he hpl) fun σ H Q h => ?_
  obtain ⟨v, h1, sa, ns, rfl, h2, h3, h4⟩ := h
  exact ⟨_, h1, sa, ns, rfl, h2, h3, h4⟩
theorem fnLaw {m : (Nat → Int) → SM Nat} (F : FunD K x x params (s1 :: rest) scope [] [] f fd) (Sc : FnScope N ps scope) (hb : BinA x params (s1 :: rest) scope ps) (hn : 1 = ps.length) (hN : N.length = n + 2)
    (htrue : ∀ b : Nat → Int, ∃ s', runV (m b (lawE n) 0) = .ok (.bl true) s')
    (hbody : ∀ (cdv : Value) (A : Around) (outer : List Env) (s : Shared) (H : Hp) (E : XK), Room k (A.deeper (PyProof.Rows.envOfC x scope s.heap.objs.size f cdv)) → PS (BX P w K mg base N x scope f cdv A outer s H E) s1 (tAsg (tGiven K) (gName 1)) ∧ ∀ i : DealF, DSs (BX P w K mg base N x scope f cdv A outer s H E) i.F W0 rest (m i.b)) :
    FnOk P w K mg base CX0 (k + 1) f fd ps (spLaw K) := by
  refine F.ok Sc (fun vs H Q E h => ?_) fun cdv A outer s H vs Q E hr h => ?_
  · obtain ⟨sa, ns, rfl, _⟩ := h
    exact hn
  · obtain ⟨sa, ns, rfl, h1, h2, h3⟩ := h
    obtain ⟨d1, d2⟩ := hbody cdv A outer s H E hr
    refine ⟨_, PSs.nox (pss_cons d1 (pssEx d2)), ?_⟩
    have e0 : L2.start N [V.ref sa] = some (.ref sa) :: none :: List.replicate n none := by
      unfold L2.start
      rw [hN]
      rfl
    refine ⟨.ref sa, by rw [e0]; rfl, sa, ns, rfl, h1, h2, fun a r c row total H' sm n1 n2 n3 hd => ?_⟩
    rw [e0]
    exact law_rest hd htrue h3
end
end L3
namespace L3
open PySem PySem.Spec L2
section
variable {A S : Type} {g : Tg} {mt : XM S Bool} {me : XM S D} {env : List Ent}
theorem compL_mapA {s : S} (enc : A → D) (p : A → Bool) (f : A → D) : ∀ {xs : List A}, (∀ x ∈ xs, ∃ e1, g (enc x) env = some e1 ∧ mt e1 s = .ok (p x) s ∧ (p x = true → me e1 s = .ok (f x) s)) → compL g mt me env (xs.map enc) s = .ok ((xs.filter p).map f) s
  | [], _ => rfl
  | x :: xs, h => by
    obtain ⟨e1, h1, h2, h3⟩ := h x List.mem_cons_self
    have ih := compL_mapA enc p f (xs := xs) fun d hd => h d (List.mem_cons_of_mem _ hd)
    rw [List.map_cons]
    unfold compL
    rw [h1]
    simp only [h2]
    cases hp : p x with
    | true =>
      simp only [h3 hp, noExc, Res.bind_ok, if_true, ih, List.filter_cons, hp, List.map_cons]
    | false =>
      simp [noExc, ih, hp]
/-- .. where the parts turn the state -/
theorem compL_stA (enc : A → D) (R : A → D → Prop) : ∀ {xs : List A} (s : S), (∀ x ∈ xs, ∀ s, ∃ e1 y s1 s2, g (enc x) env = some e1 ∧ mt e1 s = .ok true s1 ∧ me e1 s1 = .ok y s2 ∧ R x y) →
    ∃ ys s', compL g mt me env (xs.map enc) s = .ok ys s' ∧ ys.length = xs.length ∧ ∀ (i : Nat) x y, xs[i]? = some x → ys[i]? = some y → R x y
  | [], s, _ => ⟨[], s, rfl, rfl, fun i x y e => by simp at e⟩
  | x :: xs, s, h => by
    obtain ⟨e1, y, s1, s2, h1, h2, h3, h4⟩ := h x List.mem_cons_self s
    obtain ⟨ys, s', h5, h6, h7⟩ := compL_stA enc R (xs := xs) s2 fun d hd => h d (List.mem_cons_of_mem _ hd)
    refine ⟨y :: ys, s', ?_, by simp [h6], fun i a b ea eb => ?_⟩
    · rw [List.map_cons]
      unfold compL
      rw [h1]
      simp only [h2, noExc, Res.bind_ok, if_true, h3, h5]
    · cases i with
      | zero => cases ea; cases eb; exact h4
      | succ i => exact h7 i a b ea eb
/-- .. a drawn choice of numbers -/
theorem compL_pickN (enc : Nat → D) (f : Nat → D) : ∀ {xs : List Nat} (s : S), xs.Nodup → (∀ x ∈ xs, ∀ s, ∃ e1 c s1, g (enc x) env = some e1 ∧ mt e1 s = .ok c s1 ∧ (c = true → me e1 s1 = .ok (f x) s1)) →
    ∃ (p : Nat → Bool) (s' : S), compL g mt me env (xs.map enc) s = .ok ((xs.filter p).map f) s'
  | [], s, _, _ => ⟨fun _ => true, s, rfl⟩
  | x :: xs, s, hn, h => by
    obtain ⟨e1, c, s1, h1, h2, h3⟩ := h x List.mem_cons_self s
    rw [List.nodup_cons] at hn
    obtain ⟨p, s', h5⟩ := compL_pickN enc f (xs := xs) s1 hn.2 fun d hd => h d (List.mem_cons_of_mem _ hd)
    have hf : xs.filter (fun y => if y = x then c else p y) = xs.filter p := by
      apply List.filter_congr
      intro y hy
      have : y ≠ x := fun e => hn.1 (e ▸ hy)
      simp [this]
    refine ⟨fun y => if y = x then c else p y, s', ?_⟩
    rw [List.map_cons]
    unfold compL
    rw [h1, List.filter_cons]
    simp only [h2, noExc, Res.bind_ok, if_true, hf]
    cases c with
    | true => simp [h3 rfl, h5]
    | false => simp [h5]
end
theorem filter_false {A : Type} {p : A → Bool} {xs : List A} : (xs.filter p).length = 0 ↔ ∀ x ∈ xs, p x = false := by
  rw [List.length_eq_zero_iff, List.filter_eq_nil_iff]
  simp
theorem rangeD_eq (a b : Int) : rangeD a b = (List.range (b - a).toNat).map fun i => D.int (a + (i : Nat)) := rfl
theorem tidys_ints {n : Nat} {ns : List Int} : tidys n (ns.map D.int) = true := by
  rw [tidys_all]
  intro d hd
  obtain ⟨i, _, rfl⟩ := List.mem_map.mp hd
  cases n <;> rfl
theorem filt_all {A : Type} {p : A → Bool} {xs : List A} : ((((xs.filter fun x => !p x).length : Nat) : Int) == 0) = xs.all p := by
  cases hw : xs.all p with
  | true =>
    have h : (xs.filter fun x => !p x).length = 0 := filter_false.mpr fun w hw' => by
      have := List.all_eq_true.mp hw w hw'
      simp [this]
    rw [h]; rfl
  | false =>
    have h : ¬ (xs.filter fun x => !p x).length = 0 := fun z => by
      have h := filter_false.mp z
      have : xs.all p = true := List.all_eq_true.mpr fun w hw' => by
        have := h w hw'
        simpa using this
      rw [hw] at this; cases this
    rw [beq_eq_false_iff_ne]
    omega
section
variable {A S : Type} {g : Tg} {me : XM S D} {env : List Ent}
theorem compL_all {s : S} (enc : A → D) (f : A → D) {xs : List A} (h : ∀ x ∈ xs, ∃ e1, g (enc x) env = some e1 ∧ me e1 s = .ok (f x) s) : compL g mYes me env (xs.map enc) s = .ok (xs.map f) s := by
  have := compL_mapA (mt := mYes) (me := me) (g := g) (env := env) (s := s) enc (fun _ => true) f (xs := xs) fun x hx => by
    obtain ⟨e1, h1, h2⟩ := h x hx
    exact ⟨e1, h1, rfl, fun _ => h2⟩
  rw [this, List.filter_eq_self.mpr (fun _ _ => rfl)]
end
end L3
namespace L3
open PySem PySem.Spec L2
theorem cutD_tail {α : Type} {xs : List α} : cutD xs (some 1) none = xs.drop 1 := by
  unfold cutD
  cases xs with
  | nil => rfl
  | cons x xs =>
    have h : min 1 (x :: xs).length = 1 := by rw [List.length_cons]; omega
    show List.take ((x :: xs).length - min 1 (x :: xs).length) (List.drop (min 1 (x :: xs).length) (x :: xs)) = _
    rw [h, List.drop_one, List.tail_cons, List.length_cons, Nat.add_sub_cancel, List.take_length]
theorem cutD_init {α : Type} {xs : List α} : cutD xs none (some (-1)) = xs.dropLast := by
  unfold cutD
  show List.take ((-1 + ((xs.length : Nat) : Int)).toNat - 0) (List.drop 0 xs) = _
  rw [List.drop_zero, List.dropLast_eq_take]
  congr 1
  omega
theorem cutD_2 {α : Type} {xs : List α} : cutD xs none (some 2) = xs.take 2 := by
  unfold cutD
  show List.take (min 2 xs.length - 0) (List.drop 0 xs) = _
  rw [List.drop_zero, Nat.sub_zero]
  by_cases h : 2 ≤ xs.length
  · rw [Nat.min_eq_left h]
  · rw [Nat.min_eq_right (by omega), List.take_length, List.take_of_length_le (by omega)]
theorem law_take_eq {b : Nat → Int} {many : Int} {n : Nat} (h : 0 < many) : f_law_take b [.obj, .int many] n = .ok (.int (b n % many)) (n + 1) := by
  unfold f_law_take
  simp [h]
theorem step_ok {S : Type} {A B : SM S} {env e1 : List Ent} {s s1 : S} {d : D} (h : A env s = .ok (.nx, e1) s1) (k : ∃ s', runV (B e1 s1) = .ok d s') : ∃ s', runV (mSeq A B env s) = .ok d s' := by
  obtain ⟨s', k⟩ := k
  refine ⟨s', ?_⟩
  rw [e_mSeq, h]
  exact k
section
variable {A B S : Type} {g : Tg} {mt : XM S Bool} {me : XM S D} {env : List Ent}
theorem compL_stB (enc : A → D) (dec : B → D) (R : A → B → Prop) : ∀ {xs : List A} (s : S), (∀ x ∈ xs, ∀ s, ∃ e1 y s1 s2, g (enc x) env = some e1 ∧ mt e1 s = .ok true s1 ∧ me e1 s1 = .ok (dec y) s2 ∧ R x y) →
    ∃ (ys : List B) (s' : S), compL g mt me env (xs.map enc) s = .ok (ys.map dec) s' ∧ ys.length = xs.length ∧ ∀ (i : Nat) x y, xs[i]? = some x → ys[i]? = some y → R x y
  | [], s, _ => ⟨[], s, rfl, rfl, fun i x y e => by simp at e⟩
  | x :: xs, s, h => by
    obtain ⟨e1, y, s1, s2, h1, h2, h3, h4⟩ := h x List.mem_cons_self s
    obtain ⟨ys, s', h5, h6, h7⟩ := compL_stB enc dec R (xs := xs) s2 fun d hd => h d (List.mem_cons_of_mem _ hd)
    refine ⟨y :: ys, s', ?_, by simp [h6], fun i a b ea eb => ?_⟩
    · rw [List.map_cons]
      unfold compL
      rw [h1]
      simp only [h2, noExc, Res.bind_ok, if_true, h3, h5, List.map_cons]
    · cases i with
      | zero => cases ea; cases eb; exact h4
      | succ i => exact h7 i a b ea eb
end
theorem filter_one {p : Nat → Bool} {n i0 : Nat} (h0 : i0 < n) (h : ∀ i, i < n → (p i = true ↔ i = i0)) : (List.range n).filter p = [i0] := by
  have h2 : (List.range n).filter p = (List.range n).filter fun i => i == i0 := List.filter_congr fun i hi => by
    have := h i (List.mem_range.mp hi)
    cases hp : p i with
    | true => rw [this.mp hp]; simp
    | false =>
      have : i ≠ i0 := fun z => by rw [this.mpr z] at hp; cases hp
      simp [this]
  have h3 := (List.nodup_range (n := n)).count (a := i0)
  rw [if_pos (List.mem_range.mpr h0)] at h3
  rw [h2, List.filter_beq, h3]
  rfl
end L3
namespace K52
open PySem PySem.Spec L2 L3
def m_is_window : SM Unit := mSeq (mAsg (mName 0) (gT (gNs (gN 3) (gNs (gN 4) (gNs (gN 5) (gNs (gN 6) (gNs0))))))) (mRet (mAndV (mChain pLe pLt (mC (.int 0)) (mLook 3) (mLook 1)) (mAndV (mChain pLe pLt (mC (.int 0)) (mLook 4) (mLook 1)) (mAndV (mBin dNe (mLook 3) (mLook 4)) (mChain pLe pLt (mLook 5) (mLook 6) (mBin dAdd (mLook 5) (mLook 2)))))))
def f_is_window (ds : List D) (s : Unit) : Res (D) Unit := runV (m_is_window (startE 7 ds) s)
def m_is_pattern : SM Unit := mSeq (mAsg (mName 0) (gT (gNs (gN 1) (gNs (gN 2) (gNs (gN 3) (gNs0)))))) (mSeq (mIfS (mOr (mNot (mTest (mChain pLe pLe (mC (.int 1)) (mLook 1) (mC (.int 24))))) (mOr (mNot (mTest (mChain pLe pLe (mC (.int 1)) (mLook 2) (mC (.int 1440))))) (mTest (mBin dGt (mUn dLen (mLook 3)) (mC (.int 60)))))) (mRet (mC (.bl false))) (mSkip)) (mRet (mBin dEq (mUn dLen (mLst (mComp [4] (mItems (mLook 3)) (gN 4) (mNot (mTest (mCallP 3 f_is_window (mCons (mName 4) (mCons (mName 1) (mCons (mName 2) (mNil))))))) (mC (.int 1))))) (mC (.int 0)))))
def f_is_pattern (ds : List D) (s : Unit) : Res (D) Unit := runV (m_is_pattern (startE 5 ds) s)
def m_is_timetable : SM Unit := mSeq (mIfS (mOr (mTest (mBin dNe (mUn dLen (mLook 1)) (mBin dIx (mLook 0) (mC (.int 0))))) (mTest (mBin dNe (mBin dIx (mLook 1) (mC (.int 0))) (mC (.int 0))))) (mRet (mC (.bl false))) (mSkip)) (mRet (mBin dEq (mUn dLen (mLst (mComp [2] (mItems (mLook 1)) (gN 2) (mNot (mTest (mChain pLe pLt (mC (.int 0)) (mLook 2) (mBin dIx (mLook 0) (mC (.int 1)))))) (mC (.int 1))))) (mC (.int 0))))
def f_is_timetable (ds : List D) (s : Unit) : Res (D) Unit := runV (m_is_timetable (startE 3 ds) s)
def m_span_of : SM Unit := mSeq (mAsg (mBin dIx (mBin dIx (mLook 0) (mC (.int 2))) (mLook 2)) (gT (gNs (gN 3) (gNs (gN 4) (gNs (gN 5) (gNs (gN 6) (gNs0))))))) (mRet (mBin dAdd (mLook 5) (mBin dMod (mUn dInt (mBin dSub (mBin dSub (mBin dIx (mLook 1) (mLook 4)) (mBin dIx (mLook 1) (mLook 3))) (mLook 5))) (mBin dIx (mLook 0) (mC (.int 1))))))
def f_span_of (ds : List D) (s : Unit) : Res (D) Unit := runV (m_span_of (startE 7 ds) s)
def m_slack_of : SM Unit := mRet (mBin dSub (mCallP 3 f_span_of (mCons (mName 0) (mCons (mName 1) (mCons (mName 2) (mNil))))) (mBin dIx (mBin dIx (mBin dIx (mLook 0) (mC (.int 2))) (mLook 2)) (mC (.int 2))))
def f_slack_of (ds : List D) (s : Unit) : Res (D) Unit := runV (m_slack_of (startE 3 ds) s)
def m_turn_of : SM Unit := mSeq (mAsg (mCut (mBin dIx (mBin dIx (mLook 0) (mC (.int 2))) (mLook 2)) (mNoPart) (mPart (mC (.int 2)))) (gT (gNs (gN 3) (gNs (gN 4) (gNs0))))) (mRet (mBin dDiv (mBin dSub (mBin dAdd (mBin dIx (mLook 1) (mLook 3)) (mCallP 3 f_span_of (mCons (mName 0) (mCons (mName 1) (mCons (mName 2) (mNil)))))) (mBin dIx (mLook 1) (mLook 4))) (mBin dIx (mLook 0) (mC (.int 1)))))
def f_turn_of (ds : List D) (s : Unit) : Res (D) Unit := runV (m_turn_of (startE 5 ds) s)
def m_slacks_of : SM Unit := mRet (mUn dTuple (mLst (mComp [2] (mRange (mEnds1 (mUn dLen (mBin dIx (mLook 0) (mC (.int 2)))))) (gN 2) (mYes) (mCallP 3 f_slack_of (mCons (mName 0) (mCons (mName 1) (mCons (mName 2) (mNil))))))))
def f_slacks_of (ds : List D) (s : Unit) : Res (D) Unit := runV (m_slacks_of (startE 3 ds) s)
def m_turns_of : SM Unit := mRet (mUn dTuple (mLst (mComp [2] (mRange (mEnds1 (mUn dLen (mBin dIx (mLook 0) (mC (.int 2)))))) (gN 2) (mYes) (mCallP 3 f_turn_of (mCons (mName 0) (mCons (mName 1) (mCons (mName 2) (mNil))))))))
def f_turns_of (ds : List D) (s : Unit) : Res (D) Unit := runV (m_turns_of (startE 3 ds) s)
def m_keeps_window : SM Unit := mRet (mBin dLe (mCallP 3 f_span_of (mCons (mName 0) (mCons (mName 1) (mCons (mName 2) (mNil))))) (mBin dIx (mBin dIx (mBin dIx (mLook 0) (mC (.int 2))) (mLook 2)) (mC (.int 3))))
def f_keeps_window (ds : List D) (s : Unit) : Res (D) Unit := runV (m_keeps_window (startE 3 ds) s)
def m_broken_windows : SM Unit := mRet (mLst (mComp [2] (mRange (mEnds1 (mUn dLen (mBin dIx (mLook 0) (mC (.int 2)))))) (gN 2) (mNot (mTest (mCallP 3 f_keeps_window (mCons (mName 0) (mCons (mName 1) (mCons (mName 2) (mNil))))))) (mName 2)))
def f_broken_windows (ds : List D) (s : Unit) : Res (D) Unit := runV (m_broken_windows (startE 3 ds) s)
def m_keeps_pattern : SM Unit := mRet (mAndV (mCallP 2 f_is_timetable (mCons (mName 0) (mCons (mName 1) (mNil)))) (mBin dEq (mCallP 2 f_broken_windows (mCons (mName 0) (mCons (mName 1) (mNil)))) (mLst (mDisp (mNil)))))
def f_keeps_pattern (ds : List D) (s : Unit) : Res (D) Unit := runV (m_keeps_pattern (startE 2 ds) s)
def m_with_windows : SM Unit := mRet (mTup (mCons (mBin dIx (mLook 0) (mC (.int 0))) (mCons (mBin dIx (mLook 0) (mC (.int 1))) (mCons (mBin dAdd (mBin dIx (mLook 0) (mC (.int 2))) (mUn dTuple (mLook 1))) (mNil)))))
def f_with_windows (ds : List D) (s : Unit) : Res (D) Unit := runV (m_with_windows (startE 2 ds) s)
def m_without_windows : SM Unit := mRet (mTup (mCons (mBin dIx (mLook 0) (mC (.int 0))) (mCons (mBin dIx (mLook 0) (mC (.int 1))) (mCons (mUn dTuple (mLst (mComp [2, 3] (mEnum (mBin dIx (mLook 0) (mC (.int 2)))) (gT (gNs (gN 2) (gNs (gN 3) (gNs0)))) (mTest (mBin dNotIn (mLook 2) (mLook 1))) (mName 3)))) (mNil)))))
def f_without_windows (ds : List D) (s : Unit) : Res (D) Unit := runV (m_without_windows (startE 4 ds) s)
def m_only_windows : SM Unit := mRet (mTup (mCons (mBin dIx (mLook 0) (mC (.int 0))) (mCons (mBin dIx (mLook 0) (mC (.int 1))) (mCons (mUn dTuple (mLst (mComp [2] (mItems (mLook 1)) (gN 2) (mYes) (mBin dIx (mBin dIx (mLook 0) (mC (.int 2))) (mLook 2))))) (mNil)))))
def f_only_windows (ds : List D) (s : Unit) : Res (D) Unit := runV (m_only_windows (startE 3 ds) s)
def m_wrapped : SM Unit := mRet (mUn dTuple (mLst (mComp [2] (mItems (mLook 0)) (gN 2) (mYes) (mBin dMod (mUn dInt (mBin dSub (mLook 2) (mBin dIx (mLook 0) (mC (.int 0))))) (mLook 1)))))
def f_wrapped (ds : List D) (s : Unit) : Res (D) Unit := runV (m_wrapped (startE 3 ds) s)
def m_law_same (rec : List D → Unit → Res D Unit) : SM Unit := mSeq (mIfS (mOr (mTest (mUn (dIsi "tuple") (mLook 1))) (mTest (mUn (dIsi "list") (mLook 1)))) (mSeq (mIfS (mOr (mAnd (mTest (mUn (dIsi "tuple") (mLook 1))) (mNot (mTest (mUn (dIsi "tuple") (mLook 0))))) (mAnd (mTest (mUn (dIsi "list") (mLook 1))) (mNot (mTest (mUn (dIsi "list") (mLook 0)))))) (mRet (mC (.bl false))) (mSkip)) (mSeq (mIfS (mTest (mBin dNe (mUn dLen (mLook 0)) (mUn dLen (mLook 1)))) (mRet (mC (.bl false))) (mSkip)) (mSeq (mFor (mRange (mEnds1 (mUn dLen (mLook 1)))) (gN 2) (mIfS (mNot (mTest (mCallP 2 rec (mCons (mBin dIx (mLook 0) (mLook 2)) (mCons (mBin dIx (mLook 1) (mLook 2)) (mNil)))))) (mRet (mC (.bl false))) (mSkip))) (mRet (mC (.bl true)))))) (mSkip)) (mSeq (mIfS (mOr (mTest (mUn (dIsi "bool") (mLook 0))) (mTest (mUn (dIsi "bool") (mLook 1)))) (mRet (mAndV (mUn (dIsi "bool") (mLook 0)) (mAndV (mUn (dIsi "bool") (mLook 1)) (mBin dEq (mLook 0) (mLook 1))))) (mSkip)) (mSeq (mIfS (mTest (mUn (dIsi "int") (mLook 1))) (mRet (mAndV (mUn (dIsi "int") (mLook 0)) (mBin dEq (mLook 0) (mLook 1)))) (mSkip)) (mSeq (mIfS (mTest (mUn (dIsi "str") (mLook 1))) (mRet (mAndV (mUn (dIsi "str") (mLook 0)) (mBin dEq (mLook 0) (mLook 1)))) (mSkip)) (mRet (mAndV (mBin dIs (mLook 0) (mC .non)) (mBin dIs (mLook 1) (mC .non)))))))
def f_law_same : Nat → List D → Unit → Res D Unit
  | 0 => fun _ _ => .bad
  | n + 1 => fun ds s => runV (m_law_same (f_law_same n) (startE 3 ds) s)
def m_law_bool : SM Unit := mRet (mAndV (mUn (dIsi "bool") (mLook 0)) (mBin dEq (mLook 0) (mLook 1)))
def f_law_bool (ds : List D) (s : Unit) : Res (D) Unit := runV (m_law_bool (startE 2 ds) s)
def m_law_forms_hold : SM Unit := mSeq (mAsg (mName 0) (gT (gNs (gN 1) (gNs (gN 2) (gNs (gN 3) (gNs0)))))) (mSeq (mSet 4 (mTup (mCons (mC (.int 24)) (mCons (mC (.int 1440)) (mCons (mBin dMul (mTup (mCons (mTup (mCons (mC (.int 0)) (mCons (mC (.int 23)) (mCons (mUn dNeg (mC (.int 9))) (mCons (mC (.int 1430)) (mNil)))))) (mNil))) (mC (.int 60))) (mNil)))))) (mSeq (mFor (mItems (mLst (mDisp (mCons (mName 0) (mCons (mTup (mCons (mC (.int 1)) (mCons (mC (.int 1)) (mCons (mTup (mNil)) (mNil))))) (mCons (mName 4) (mCons (mTup (mCons (mC (.int 2)) (mCons (mC (.int 5)) (mCons (mTup (mCons (mTup (mCons (mC (.int 0)) (mCons (mC (.int 1)) (mCons (mC (.int 3)) (mCons (mC (.int 7)) (mNil)))))) (mCons (mTup (mCons (mC (.int 1)) (mCons (mC (.int 0)) (mCons (mUn dNeg (mC (.int 4))) (mCons (mUn dNeg (mC (.int 4))) (mNil)))))) (mNil)))) (mNil))))) (mNil)))))))) (gN 5) (mIfS (mNot (mTest (mCallP 2 f_law_bool (mCons (mCallP 1 f_is_pattern (mCons (mName 5) (mNil))) (mCons (mC (.bl true)) (mNil)))))) (mRet (mC (.bl false))) (mSkip))) (mSeq (mSetO 6 (mDisp (mCons (mTup (mCons (mC (.int 0)) (mCons (mName 2) (mCons (mTup (mNil)) (mNil))))) (mCons (mTup (mCons (mC (.int 25)) (mCons (mName 2) (mCons (mTup (mNil)) (mNil))))) (mCons (mTup (mCons (mName 1) (mCons (mC (.int 0)) (mCons (mTup (mNil)) (mNil))))) (mCons (mTup (mCons (mName 1) (mCons (mC (.int 1441)) (mCons (mTup (mNil)) (mNil))))) (mCons (mTup (mCons (mC (.int 24)) (mCons (mC (.int 1440)) (mCons (mBin dMul (mTup (mCons (mTup (mCons (mC (.int 0)) (mCons (mC (.int 23)) (mCons (mUn dNeg (mC (.int 9))) (mCons (mC (.int 1430)) (mNil)))))) (mNil))) (mC (.int 61))) (mNil))))) (mNil)))))))) (mSeq (mFor (mItems (mLst (mDisp (mCons (mTup (mCons (mName 1) (mCons (mC (.int 0)) (mCons (mC (.int 3)) (mCons (mC (.int 4)) (mNil)))))) (mCons (mTup (mCons (mUn dNeg (mC (.int 1))) (mCons (mC (.int 0)) (mCons (mC (.int 3)) (mCons (mC (.int 4)) (mNil)))))) (mCons (mTup (mCons (mC (.int 0)) (mCons (mC (.int 0)) (mCons (mC (.int 3)) (mCons (mC (.int 4)) (mNil)))))) (mCons (mTup (mCons (mC (.int 0)) (mCons (mC (.int 1)) (mCons (mC (.int 3)) (mCons (mC (.int 2)) (mNil)))))) (mCons (mTup (mCons (mC (.int 0)) (mCons (mC (.int 1)) (mCons (mC (.int 3)) (mCons (mBin dAdd (mC (.int 3)) (mLook 2)) (mNil)))))) (mCons (mTup (mCons (mC (.int 1)) (mCons (mC (.int 1)) (mCons (mC (.int 0)) (mCons (mC (.int 0)) (mNil)))))) (mNil)))))))))) (gN 7) (mApp 6 (mTup (mCons (mBin dMax2 (mC (.int 2)) (mLook 1)) (mCons (mName 2) (mCons (mBin dAdd (mLook 3) (mTup (mCons (mIf (mTest (mBin dNe (mBin dIx (mLook 7) (mC (.int 0))) (mLook 1))) (mName 7) (mTup (mCons (mBin dMax2 (mC (.int 2)) (mLook 1)) (mCons (mC (.int 0)) (mCons (mC (.int 3)) (mCons (mC (.int 3)) (mNil))))))) (mNil)))) (mNil))))))) (mRet (mBin dEq (mUn dLen (mLst (mComp [7] (mItems (mLook 6)) (gN 7) (mNot (mTest (mCallP 2 f_law_bool (mCons (mCallP 1 f_is_pattern (mCons (mName 7) (mNil))) (mCons (mC (.bl false)) (mNil)))))) (mC (.int 1))))) (mC (.int 0))))))))
def f_law_forms_hold (ds : List D) (s : Unit) : Res (D) Unit := runV (m_law_forms_hold (startE 8 ds) s)
def m_law_times_of (b : Nat → Int) : SM Nat := mSeq (mSet 2 (mBin dAdd (mC (.int 1)) (mBin dDiv (mBin dIx (mLook 1) (mC (.int 1))) (mC (.int 1440))))) (mRet (mBin dAdd (mTup (mCons (mC (.int 0)) (mNil))) (mUn dTuple (mLst (mComp [3] (mRange (mEnds2 (mC (.int 1)) (mBin dIx (mLook 1) (mC (.int 0))))) (gN 3) (mYes) (mBin dMul (mCall 2 (f_law_take b) (mCons (mName 0) (mCons (mBin dMin2 (mBin dIx (mLook 1) (mC (.int 1))) (mC (.int 720))) (mNil)))) (mLook 2)))))))
def f_law_times_of (b : Nat → Int) (ds : List D) (s : Nat) : Res (D) Nat := runV (m_law_times_of b (startE 4 ds) s)
def m_law_timetables_hold (b : Nat → Int) : SM Nat := mSeq (mSet 3 (mLst (mDisp (mCons (mBin dAdd (mLook 2) (mTup (mCons (mC (.int 0)) (mNil)))) (mCons (mCut (mLook 2) (mPart (mC (.int 1))) (mNoPart)) (mCons (mBin dAdd (mTup (mCons (mC (.int 1)) (mNil))) (mCut (mLook 2) (mPart (mC (.int 1))) (mNoPart))) (mCons (mBin dAdd (mCut (mLook 2) (mNoPart) (mPart (mUn dNeg (mC (.int 1))))) (mTup (mCons (mBin dIx (mLook 1) (mC (.int 1))) (mNil)))) (mCons (mBin dAdd (mCut (mLook 2) (mNoPart) (mPart (mUn dNeg (mC (.int 1))))) (mTup (mCons (mUn dNeg (mC (.int 1))) (mNil)))) (mNil))))))))) (mSeq (mIfS (mNot (mTest (mCallP 2 f_law_bool (mCons (mCallP 2 f_is_timetable (mCons (mName 1) (mCons (mName 2) (mNil)))) (mCons (mC (.bl true)) (mNil)))))) (mRet (mC (.bl false))) (mSkip)) (mSeq (mFor (mItems (mName 3)) (gN 4) (mIfS (mOr (mNot (mTest (mCallP 2 f_law_bool (mCons (mCallP 2 f_is_timetable (mCons (mName 1) (mCons (mName 4) (mNil)))) (mCons (mC (.bl false)) (mNil)))))) (mNot (mTest (mCallP 2 f_law_bool (mCons (mCallP 2 f_keeps_pattern (mCons (mName 1) (mCons (mName 4) (mNil)))) (mCons (mC (.bl false)) (mNil))))))) (mRet (mC (.bl false))) (mSkip))) (mSeq (mSet 5 (mLst (mComp [6] (mItems (mLook 2)) (gN 6) (mYes) (mBin dAdd (mBin dAdd (mLook 6) (mC (.int 11))) (mBin dMul (mBin dIx (mLook 1) (mC (.int 1))) (mBin dSub (mCall 2 (f_law_take b) (mCons (mName 0) (mCons (mC (.int 5)) (mNil)))) (mC (.int 2)))))))) (mRet (mAndV (mCallP 2 (f_law_same 8) (mCons (mCallP 2 f_wrapped (mCons (mBin dAdd (mLst (mDisp (mCons (mBin dIx (mLook 5) (mC (.int 0))) (mNil)))) (mCut (mLook 5) (mPart (mC (.int 1))) (mNoPart))) (mCons (mBin dIx (mLook 1) (mC (.int 1))) (mNil)))) (mCons (mName 2) (mNil)))) (mCallP 2 (f_law_same 8) (mCons (mCallP 2 f_wrapped (mCons (mName 2) (mCons (mBin dIx (mLook 1) (mC (.int 1))) (mNil)))) (mCons (mName 2) (mNil)))))))))
def f_law_timetables_hold (b : Nat → Int) (ds : List D) (s : Nat) : Res (D) Nat := runV (m_law_timetables_hold b (startE 7 ds) s)
def m_law_spans_hold : SM Unit := mSeq (mSet 2 (mTup (mNil))) (mSeq (mSet 3 (mTup (mNil))) (mSeq (mSetO 4 (mDisp (mNil))) (mSeq (mFor (mRange (mEnds1 (mUn dLen (mBin dIx (mLook 0) (mC (.int 2)))))) (gN 5) (mSeq (mAsg (mBin dIx (mBin dIx (mLook 0) (mC (.int 2))) (mLook 5)) (gT (gNs (gN 6) (gNs (gN 7) (gNs (gN 8) (gNs (gN 9) (gNs0))))))) (mSeq (mSet 10 (mBin dSub (mBin dIx (mLook 1) (mLook 7)) (mBin dIx (mLook 1) (mLook 6)))) (mSeq (mSet 11 (mLst (mComp [12] (mRange (mEnds2 (mLook 8) (mBin dAdd (mLook 8) (mBin dIx (mLook 0) (mC (.int 1)))))) (gN 12) (mTest (mBin dEq (mBin dMod (mUn dInt (mBin dSub (mLook 12) (mLook 10))) (mBin dIx (mLook 0) (mC (.int 1)))) (mC (.int 0)))) (mName 12)))) (mSeq (mIfS (mOr (mTest (mBin dNe (mUn dLen (mLook 11)) (mC (.int 1)))) (mNot (mTest (mCallP 2 (f_law_same 8) (mCons (mCallP 3 f_span_of (mCons (mName 0) (mCons (mName 1) (mCons (mName 5) (mNil))))) (mCons (mBin dIx (mLook 11) (mC (.int 0))) (mNil))))))) (mRet (mC (.bl false))) (mSkip)) (mSeq (mSet 2 (mBin dAdd (mLook 2) (mTup (mCons (mBin dSub (mBin dIx (mLook 11) (mC (.int 0))) (mLook 8)) (mNil))))) (mSeq (mSet 3 (mBin dAdd (mLook 3) (mTup (mCons (mBin dDiv (mBin dSub (mBin dIx (mLook 11) (mC (.int 0))) (mLook 10)) (mBin dIx (mLook 0) (mC (.int 1)))) (mNil))))) (mSeq (mIfS (mTest (mBin dGt (mBin dIx (mLook 11) (mC (.int 0))) (mLook 9))) (mApp 4 (mName 5)) (mSkip)) (mSeq (mIfS (mNot (mTest (mCallP 2 f_law_bool (mCons (mCallP 3 f_keeps_window (mCons (mName 0) (mCons (mName 1) (mCons (mName 5) (mNil))))) (mCons (mBin dLe (mBin dIx (mLook 11) (mC (.int 0))) (mLook 9)) (mNil)))))) (mRet (mC (.bl false))) (mSkip)) (mIfS (mOr (mNot (mTest (mCallP 2 (f_law_same 8) (mCons (mCallP 3 f_slack_of (mCons (mName 0) (mCons (mName 1) (mCons (mName 5) (mNil))))) (mCons (mBin dIx (mLook 2) (mLook 5)) (mNil)))))) (mNot (mTest (mCallP 2 (f_law_same 8) (mCons (mCallP 3 f_turn_of (mCons (mName 0) (mCons (mName 1) (mCons (mName 5) (mNil))))) (mCons (mBin dIx (mLook 3) (mLook 5)) (mNil))))))) (mRet (mC (.bl false))) (mSkip))))))))))) (mSeq (mIfS (mOr (mNot (mTest (mCallP 2 (f_law_same 8) (mCons (mCallP 2 f_slacks_of (mCons (mName 0) (mCons (mName 1) (mNil)))) (mCons (mName 2) (mNil)))))) (mNot (mTest (mCallP 2 (f_law_same 8) (mCons (mCallP 2 f_turns_of (mCons (mName 0) (mCons (mName 1) (mNil)))) (mCons (mName 3) (mNil))))))) (mRet (mC (.bl false))) (mSkip)) (mFrz 4 (mRet (mAndV (mCallP 2 (f_law_same 8) (mCons (mCallP 2 f_broken_windows (mCons (mName 0) (mCons (mName 1) (mNil)))) (mCons (mName 4) (mNil)))) (mCallP 2 f_law_bool (mCons (mCallP 2 f_keeps_pattern (mCons (mName 0) (mCons (mName 1) (mNil)))) (mCons (mBin dEq (mUn dLen (mLook 4)) (mC (.int 0))) (mNil)))))))))))
def f_law_spans_hold (ds : List D) (s : Unit) : Res (D) Unit := runV (m_law_spans_hold (startE 13 ds) s)
def m_law_windows (b : Nat → Int) : SM Nat := mSeq (mSetO 3 (mDisp (mNil))) (mSeq (mFor (mRange (mEnds1 (mIf (mTest (mBin dGt (mLook 1) (mC (.int 1)))) (mCall 2 (f_law_take b) (mCons (mName 0) (mCons (mC (.int 9)) (mNil)))) (mC (.int 0))))) (gN 4) (mSeq (mSet 5 (mCall 2 (f_law_take b) (mCons (mName 0) (mCons (mName 1) (mNil))))) (mSeq (mSet 6 (mBin dMod (mUn dInt (mBin dAdd (mBin dAdd (mLook 5) (mC (.int 1))) (mCall 2 (f_law_take b) (mCons (mName 0) (mCons (mBin dSub (mLook 1) (mC (.int 1))) (mNil)))))) (mLook 1))) (mSeq (mSet 7 (mBin dSub (mCall 2 (f_law_take b) (mCons (mName 0) (mCons (mBin dMul (mC (.int 4)) (mLook 2)) (mNil)))) (mBin dMul (mC (.int 2)) (mLook 2)))) (mApp 3 (mTup (mCons (mName 5) (mCons (mName 6) (mCons (mName 7) (mCons (mBin dAdd (mLook 7) (mCall 2 (f_law_take b) (mCons (mName 0) (mCons (mName 2) (mNil))))) (mNil))))))))))) (mRet (mUn dTuple (mLook 3))))
def f_law_windows (b : Nat → Int) (ds : List D) (s : Nat) : Res (D) Nat := runV (m_law_windows b (startE 8 ds) s)
def m_law (b : Nat → Int) : SM Nat := mSeq (mSet 2 (mBin dAdd (mC (.int 1)) (mCall 2 (f_law_take b) (mCons (mName 1) (mCons (mC (.int 7)) (mNil)))))) (mSeq (mSet 3 (mIf (mTest (mBin dGt (mCall 2 (f_law_take b) (mCons (mName 1) (mCons (mC (.int 9)) (mNil)))) (mC (.int 0)))) (mBin dAdd (mC (.int 1)) (mCall 2 (f_law_take b) (mCons (mName 1) (mCons (mC (.int 60)) (mNil))))) (mC (.int 1440)))) (mSeq (mIfS (mAnd (mTest (mBin dLt (mLook 3) (mC (.int 1440)))) (mTest (mBin dEq (mCall 2 (f_law_take b) (mCons (mName 1) (mCons (mC (.int 6)) (mNil)))) (mC (.int 0))))) (mSet 3 (mBin dAdd (mC (.int 1)) (mCall 2 (f_law_take b) (mCons (mName 1) (mCons (mC (.int 2)) (mNil)))))) (mSkip)) (mSeq (mSet 4 (mTup (mCons (mName 2) (mCons (mName 3) (mCons (mCall 3 (f_law_windows b) (mCons (mName 1) (mCons (mName 2) (mCons (mBin dMin2 (mLook 3) (mC (.int 200))) (mNil))))) (mNil)))))) (mSeq (mSet 5 (mCall 2 (f_law_times_of b) (mCons (mName 1) (mCons (mName 4) (mNil))))) (mSeq (mIfS (mOr (mNot (mTest (mCallP 1 f_law_forms_hold (mCons (mName 4) (mNil))))) (mOr (mNot (mTest (mCall 3 (f_law_timetables_hold b) (mCons (mName 1) (mCons (mName 4) (mCons (mName 5) (mNil))))))) (mNot (mTest (mCallP 2 f_law_spans_hold (mCons (mName 4) (mCons (mName 5) (mNil)))))))) (mRet (mC (.bl false))) (mSkip)) (mSeq (mIfS (mNot (mTest (mCallP 2 f_law_spans_hold (mCons (mName 4) (mCons (mCall 2 (f_law_times_of b) (mCons (mName 1) (mCons (mName 4) (mNil)))) (mNil)))))) (mRet (mC (.bl false))) (mSkip)) (mSeq (mSet 6 (mUn dTuple (mLst (mComp [7] (mRange (mEnds1 (mUn dLen (mBin dIx (mLook 4) (mC (.int 2)))))) (gN 7) (mTest (mBin dGt (mCall 2 (f_law_take b) (mCons (mName 1) (mCons (mC (.int 2)) (mNil)))) (mC (.int 0)))) (mName 7))))) (mSeq (mSet 8 (mUn dTuple (mLst (mComp [7] (mRange (mEnds1 (mUn dLen (mBin dIx (mLook 4) (mC (.int 2)))))) (gN 7) (mTest (mBin dNotIn (mLook 7) (mLook 6))) (mName 7))))) (mSeq (mSet 9 (mTup (mCons (mName 2) (mCons (mName 3) (mCons (mUn dTuple (mLst (mComp [7] (mItems (mLook 6)) (gN 7) (mYes) (mBin dIx (mBin dIx (mLook 4) (mC (.int 2))) (mLook 7))))) (mNil)))))) (mSeq (mSet 10 (mCut (mBin dIx (mLook 4) (mC (.int 2))) (mNoPart) (mPart (mC (.int 2))))) (mSeq (mIfS (mOr (mNot (mTest (mCallP 2 (f_law_same 8) (mCons (mCallP 2 f_only_windows (mCons (mName 4) (mCons (mName 6) (mNil)))) (mCons (mName 9) (mNil)))))) (mNot (mTest (mCallP 2 (f_law_same 8) (mCons (mCallP 2 f_without_windows (mCons (mName 4) (mCons (mName 8) (mNil)))) (mCons (mName 9) (mNil))))))) (mRet (mC (.bl false))) (mSkip)) (mRet (mCallP 2 (f_law_same 8) (mCons (mCallP 2 f_with_windows (mCons (mName 4) (mCons (mName 10) (mNil)))) (mCons (mTup (mCons (mName 2) (mCons (mName 3) (mCons (mBin dAdd (mBin dIx (mLook 4) (mC (.int 2))) (mLook 10)) (mNil))))) (mNil))))))))))))))))
end K52
namespace K52
open PySem PySem.Spec L2 L3
structure Win where
  i : Int
  j : Int
  lo : Int
  hi : Int
def encW (w : Win) : D := .tup [.int w.i, .int w.j, .int w.lo, .int w.hi]
def encP (many period : Int) (ws : List Win) : D := .tup [.int many, .int period, .tup (ws.map encW)]
def encT (ts : List Int) : D := .tup (ts.map D.int)
def isW (w : Win) (many period : Int) : Bool := decide (0 ≤ w.i ∧ w.i < many ∧ 0 ≤ w.j ∧ w.j < many ∧ w.i ≠ w.j ∧ w.lo ≤ w.hi ∧ w.hi < w.lo + period)
def isP (many period : Int) (ws : List Win) : Bool := decide (1 ≤ many ∧ many ≤ 24 ∧ 1 ≤ period ∧ period ≤ 1440 ∧ ws.length ≤ 60) && ws.all fun w => isW w many period
def inR (period t : Int) : Bool := decide (0 ≤ t ∧ t < period)
def isT (many period : Int) (ts : List Int) : Bool := decide ((ts.length : Int) = many) && (decide (ts.head? = some 0) && ts.all (inR period))
theorem is_window_eq {w : Win} {many period : Int} {s : Unit} : f_is_window [encW w, .int many, .int period] s = .ok (.bl (isW w many period)) s := by
  simp -implicitDefEqProofs [f_is_window, m_is_window, encW, isW, Bool.and_assoc, pLt, pLe]
theorem is_pattern_eq {many period : Int} {ws : List Win} {s : Unit} : f_is_pattern [encP many period ws] s = .ok (.bl (isP many period ws)) s := by
  by_cases h1 : 1 ≤ many ∧ many ≤ 24
  · by_cases h2 : 1 ≤ period ∧ period ≤ 1440
    · by_cases h3 : ws.length ≤ 60
      · have h3' : ¬ (60 : Int) < (ws.length : Nat) := by omega
        have hc := compL_mapA (g := gN 4) (mt := mNot (mTest (mCallP 3 f_is_window (mCons (mName 4) (mCons (mName 1) (mCons (mName 2) mNil)))))) (me := mC (.int 1)) (env := [.v (encP many period ws), .v (.int many), .v (.int period), .v (.tup (ws.map encW)), .no]) (s := ()) encW (fun w => !isW w many period) (fun _ => D.int 1) (xs := ws) fun w hw => by
          refine ⟨_, rfl, ?_, fun _ => ?_⟩
          · simp -implicitDefEqProofs [is_window_eq]
          · simp -implicitDefEqProofs
        simp -implicitDefEqProofs [encP] at hc
        simp -implicitDefEqProofs [f_is_pattern, m_is_pattern, encP, pLt, pLe, dGt, h1, h2, h3', hc]
        have hh : 1 ≤ many ∧ many ≤ 24 ∧ 1 ≤ period ∧ period ≤ 1440 ∧ ws.length ≤ 60 := ⟨h1.1, h1.2, h2.1, h2.2, h3⟩
        unfold isP
        rw [decide_eq_true hh, Bool.true_and, filt_all]
      · have h3' : (60 : Int) < (ws.length : Nat) := by omega
        have hn : ¬ (1 ≤ many ∧ many ≤ 24 ∧ 1 ≤ period ∧ period ≤ 1440 ∧ ws.length ≤ 60) := fun z => h3 z.2.2.2.2
        simp -implicitDefEqProofs [f_is_pattern, m_is_pattern, encP, pLt, pLe, dGt, h1, h2, h3', isP, hn]
        exact fun z => absurd z h3
    · have hn : ¬ (1 ≤ many ∧ many ≤ 24 ∧ 1 ≤ period ∧ period ≤ 1440 ∧ ws.length ≤ 60) := fun z => h2 ⟨z.2.2.1, z.2.2.2.1⟩
      have h2' : (decide (1 ≤ period) && decide (period ≤ 1440)) = false := by
        rw [← Bool.decide_and]; exact decide_eq_false h2
      unfold isP
      rw [decide_eq_false hn]
      simp -implicitDefEqProofs [f_is_pattern, m_is_pattern, encP, pLt, pLe, dGt, h1, h2']
      try (by_cases q : 1 ≤ period <;> simp [q] at h2 ⊢ <;> omega)
  · have hn : ¬ (1 ≤ many ∧ many ≤ 24 ∧ 1 ≤ period ∧ period ≤ 1440 ∧ ws.length ≤ 60) := fun z => h1 ⟨z.1, z.2.1⟩
    unfold isP
    rw [decide_eq_false hn]
    by_cases q : 1 ≤ many
    · have q2 : ¬ many ≤ 24 := fun z => h1 ⟨q, z⟩
      simp -implicitDefEqProofs [f_is_pattern, m_is_pattern, encP, pLt, pLe, dGt, q, q2]
    · simp -implicitDefEqProofs [f_is_pattern, m_is_pattern, encP, pLt, pLe, dGt, q]
theorem is_timetable_eq {many period : Int} {ws : List Win} {ts : List Int} {s : Unit} (hm : 1 ≤ many) : f_is_timetable [encP many period ws, encT ts] s = .ok (.bl (isT many period ts)) s := by
  by_cases h1 : (ts.length : Int) = many
  · cases ts with
    | nil => simp at h1; omega
    | cons t0 ts =>
      by_cases h2 : t0 = 0
      · have hc := compL_mapA (g := gN 2) (mt := mNot (mTest (mChain pLe pLt (mC (.int 0)) (mLook 2) (mBin dIx (mLook 0) (mC (.int 1)))))) (me := mC (.int 1)) (env := [.v (encP many period ws), .v (encT (t0 :: ts)), .no]) (s := ()) D.int (fun t => !inR period t) (fun _ => D.int 1) (xs := t0 :: ts) fun t ht => by
          refine ⟨_, rfl, ?_, fun _ => rfl⟩
          simp -implicitDefEqProofs [encP, pLe, pLt, inR]
        simp -implicitDefEqProofs only [List.map_cons] at hc
        subst h1
        simp -implicitDefEqProofs [f_is_timetable, m_is_timetable, encP, encT, h2] at hc ⊢
        rw [hc]
        subst h2
        simp -implicitDefEqProofs only [runV_rt, List.length_map, filt_all, isT, List.length_cons, List.head?_cons]
        simp -implicitDefEqProofs [filt_all]
      · subst h1
        simp -implicitDefEqProofs [f_is_timetable, m_is_timetable, encP, encT, h2, isT]
  · simp -implicitDefEqProofs [f_is_timetable, m_is_timetable, encP, encT, h1, isT]
def wAt (ws : List Win) (k : Nat) : Win := ws.getD k ⟨0, 0, 0, 0⟩
def tAt (ts : List Int) (i : Int) : Int := ts.getD i.toNat 0
def span (period : Int) (ws : List Win) (ts : List Int) (k : Nat) : Int := (wAt ws k).lo + (tAt ts (wAt ws k).j - tAt ts (wAt ws k).i - (wAt ws k).lo) % period
structure Ok (many period : Int) (ws : List Win) (ts : List Int) : Prop where
  p1 : 1 ≤ period
  p2 : period ≤ 1440
  m1 : 1 ≤ many
  ln : (ts.length : Int) = many
  wl : ws.length ≤ 60
  w : ∀ w ∈ ws, isW w many period = true
section
variable {many period : Int} {ws : List Win} {ts : List Int} {k : Nat} {s : Unit}
theorem Ok.at_ (O : Ok many period ws ts) (h : k < ws.length) : ws[k]? = some (wAt ws k) ∧ atI ts (wAt ws k).i = some (tAt ts (wAt ws k).i) ∧ atI ts (wAt ws k).j = some (tAt ts (wAt ws k).j) ∧ (wAt ws k).lo ≤ (wAt ws k).hi ∧ (wAt ws k).hi < (wAt ws k).lo + period := by
  have e : ws[k]? = some (wAt ws k) := by
    unfold wAt
    rw [List.getElem?_eq_getElem h, List.getD_eq_getElem?_getD, List.getElem?_eq_getElem h]; rfl
  have m : wAt ws k ∈ ws := List.mem_of_getElem? e
  have q := O.w _ m
  unfold isW at q
  have q := of_decide_eq_true q
  have hl := O.ln
  have key : ∀ i : Int, 0 ≤ i → i < many → atI ts i = some (tAt ts i) := fun i h0 h1 => by
    have hi : i.toNat < ts.length := by omega
    unfold tAt
    rw [atI_of h0 (by omega), List.getD_eq_getElem?_getD, List.getElem?_eq_getElem hi]; rfl
  exact ⟨e, key _ q.1 q.2.1, key _ q.2.2.1 q.2.2.2.1, q.2.2.2.2.2.1, q.2.2.2.2.2.2⟩
theorem span_of_eq (O : Ok many period ws ts) (h : k < ws.length) : f_span_of [encP many period ws, encT ts, .int (k : Nat)] s = .ok (.int (span period ws ts k)) s := by
  obtain ⟨h1, h2, h3, _⟩ := O.at_ h
  have hp : 0 < period := by have := O.p1; omega
  simp -implicitDefEqProofs [f_span_of, m_span_of, encP, encT, atI_k, h1, h2, h3, encW, hp, span]
theorem slack_of_eq (O : Ok many period ws ts) (h : k < ws.length) : f_slack_of [encP many period ws, encT ts, .int (k : Nat)] s = .ok (.int (span period ws ts k - (wAt ws k).lo)) s := by
  obtain ⟨h1, h2, h3, _⟩ := O.at_ h
  have hs := span_of_eq (s := ()) O h
  simp -implicitDefEqProofs [encP, encT] at hs
  simp -implicitDefEqProofs [f_slack_of, m_slack_of, encP, encT, atI_k, h1, encW, hs]
def turn (period : Int) (ws : List Win) (ts : List Int) (k : Nat) : Int := (tAt ts (wAt ws k).i + span period ws ts k - tAt ts (wAt ws k).j) / period
theorem turn_of_eq (O : Ok many period ws ts) (h : k < ws.length) : f_turn_of [encP many period ws, encT ts, .int (k : Nat)] s = .ok (.int (turn period ws ts k)) s := by
  obtain ⟨h1, h2, h3, _⟩ := O.at_ h
  have hs := span_of_eq (s := ()) O h
  have hp : 0 < period := by have := O.p1; omega
  have hd := divOk_of hp (by have := O.p2; omega)
  have hc : ∀ a b c d : D, cutD [a, b, c, d] none (some 2) = [a, b] := fun _ _ _ _ => rfl
  simp -implicitDefEqProofs [encP, encT] at hs
  simp -implicitDefEqProofs [f_turn_of, m_turn_of, encP, encT, atI_k, h1, h2, h3, encW, hs, hp, hd, hc, turn]
theorem keeps_window_eq (O : Ok many period ws ts) (h : k < ws.length) : f_keeps_window [encP many period ws, encT ts, .int (k : Nat)] s = .ok (.bl (decide (span period ws ts k ≤ (wAt ws k).hi))) s := by
  obtain ⟨h1, h2, h3, _⟩ := O.at_ h
  have hs := span_of_eq (s := ()) O h
  simp -implicitDefEqProofs [encP, encT] at hs
  simp -implicitDefEqProofs [f_keeps_window, m_keeps_window, encP, encT, atI_k, h1, encW, hs, dLe]
theorem rgW (O : Ok many period ws ts) : rgOk 0 (ws.length : Nat) = true := rgOk_of (by omega) (by have := O.wl; omega) (by have := O.wl; omega) (by omega) (by omega)
theorem slacks_of_eq (O : Ok many period ws ts) : f_slacks_of [encP many period ws, encT ts] s = .ok (.tup ((List.range ws.length).map fun k => .int (span period ws ts k - (wAt ws k).lo))) s := by
  have hc := compL_all (g := gN 2) (me := mCallP 3 f_slack_of (mCons (mName 0) (mCons (mName 1) (mCons (mName 2) mNil)))) (env := [.v (encP many period ws), .v (encT ts), .no]) (s := ()) (fun k : Nat => D.int (0 + k)) (fun k => .int (span period ws ts k - (wAt ws k).lo)) (xs := List.range ws.length) fun k hk => by
    refine ⟨_, rfl, ?_⟩
    simp -implicitDefEqProofs [slack_of_eq O (List.mem_range.mp hk)]
  have hr := rgW O
  simp -implicitDefEqProofs [encP, encT] at hc
  simp -implicitDefEqProofs [f_slacks_of, m_slacks_of, encP, encT, hr, rangeD_eq, hc]
theorem turns_of_eq (O : Ok many period ws ts) : f_turns_of [encP many period ws, encT ts] s = .ok (.tup ((List.range ws.length).map fun k => .int (turn period ws ts k))) s := by
  have hc := compL_all (g := gN 2) (me := mCallP 3 f_turn_of (mCons (mName 0) (mCons (mName 1) (mCons (mName 2) mNil)))) (env := [.v (encP many period ws), .v (encT ts), .no]) (s := ()) (fun k : Nat => D.int (0 + k)) (fun k => .int (turn period ws ts k)) (xs := List.range ws.length) fun k hk => by
    refine ⟨_, rfl, ?_⟩
    simp -implicitDefEqProofs [turn_of_eq O (List.mem_range.mp hk)]
  have hr := rgW O
  simp -implicitDefEqProofs [encP, encT] at hc
  simp -implicitDefEqProofs [f_turns_of, m_turns_of, encP, encT, hr, rangeD_eq, hc]
def broken (period : Int) (ws : List Win) (ts : List Int) : List Nat := (List.range ws.length).filter fun k => !decide (span period ws ts k ≤ (wAt ws k).hi)
theorem broken_windows_eq (O : Ok many period ws ts) : f_broken_windows [encP many period ws, encT ts] s = .ok (.lst ((broken period ws ts).map fun k => .int (k : Nat))) s := by
  have hc := compL_mapA (g := gN 2) (mt := mNot (mTest (mCallP 3 f_keeps_window (mCons (mName 0) (mCons (mName 1) (mCons (mName 2) (mNil))))))) (me := mName 2) (env := [.v (encP many period ws), .v (encT ts), .no]) (s := ()) (fun k : Nat => D.int (0 + k)) (fun k => !decide (span period ws ts k ≤ (wAt ws k).hi)) (fun k => .int (k : Nat)) (xs := List.range ws.length) fun k hk => by
    refine ⟨_, rfl, ?_, fun _ => ?_⟩
    · simp -implicitDefEqProofs [keeps_window_eq O (List.mem_range.mp hk)]
    · simp -implicitDefEqProofs
  have hr := rgW O
  simp -implicitDefEqProofs [encP, encT] at hc
  simp -implicitDefEqProofs [f_broken_windows, m_broken_windows, encP, encT, hr, rangeD_eq, hc, broken]
theorem keeps_pattern_eq (O : Ok many period ws ts) (hT : isT many period ts = true) : f_keeps_pattern [encP many period ws, encT ts] s = .ok (.bl (broken period ws ts).isEmpty) s := by
  have h1 := is_timetable_eq (many := many) (period := period) (ws := ws) (ts := ts) (s := ()) O.m1
  have h2 := broken_windows_eq (s := ()) O
  have h3 : dEq (.lst ((broken period ws ts).map fun k => .int (k : Nat))) (.lst []) = some (.bl ((broken period ws ts).map fun k => D.int (k : Nat)).isEmpty) := dEq_nilL (n := 2) (by
    have hl : (broken period ws ts).length ≤ 16777216 := by
      have h1 : (broken period ws ts).length ≤ (List.range ws.length).length := List.length_filter_le _ _
      have h2 := O.wl
      rw [List.length_range] at h1
      omega
    rw [tidy]
    simp [hl, tidys_all, tidy]) (by omega)
  rw [hT] at h1
  simp -implicitDefEqProofs [f_keeps_pattern, m_keeps_pattern, h1, h2, h3]
theorem keeps_pattern_no (hm : 1 ≤ many) (hT : isT many period ts = false) : f_keeps_pattern [encP many period ws, encT ts] s = .ok (.bl false) s := by
  have h1 := is_timetable_eq (many := many) (period := period) (ws := ws) (ts := ts) (s := ()) hm
  rw [hT] at h1
  simp -implicitDefEqProofs [f_keeps_pattern, m_keeps_pattern, h1]
theorem law_bool_eq {x y : Bool} : f_law_bool [.bl x, .bl y] s = .ok (.bl (x == y)) s := by
  simp -implicitDefEqProofs [f_law_bool, m_law_bool]
end
/-! ### the same -/
theorem law_same_eq : ∀ (n : Nat) (d : D), tidy n d = true → ∀ s, f_law_same (n + 1) [d, d] s = .ok (.bl true) s
  | n, .non, _, s => by simp -implicitDefEqProofs [f_law_same, m_law_same, dIs]
  | n, .bl _, _, s => by simp -implicitDefEqProofs [f_law_same, m_law_same]
  | n, .int _, _, s => by simp -implicitDefEqProofs [f_law_same, m_law_same]
  | n, .str x, h, s => by
    have h3 : dEq (.str x) (.str x) = some (.bl true) := dEq_self (n := 0) (by cases n <;> exact h) (by omega)
    simp -implicitDefEqProofs [f_law_same, m_law_same, h3]
  | 0, .tup _, h, _ => by cases h
  | 0, .lst _, h, _ => by cases h
  | n + 1, .tup xs, h, s => by
    rw [tidy, Bool.and_eq_true] at h
    have hl := of_decide_eq_true h.1
    have hr : rgOk 0 (xs.length : Nat) = true := rgOk_of (by omega) (by omega) (by omega) (by omega) (by omega)
    have hx := tidys_all.mp h.2
    obtain ⟨e2, s2, h2, h3⟩ := forL_inv (S := Unit) (g := gN 2) (mb := mIfS (mNot (mTest (mCallP 2 (f_law_same (n + 1)) (mCons (mBin dIx (mLook 0) (mLook 2)) (mCons (mBin dIx (mLook 1) (mLook 2)) mNil))))) (mRet (mC (D.bl false))) mSkip) (fun i env s => ∃ c, env = [.v (.tup xs), .v (.tup xs), c]) (rangeD 0 (xs.length : Nat)) (env := [.v (.tup xs), .v (.tup xs), .no]) (s := s) ⟨_, rfl⟩ (fun i d e s hd => by
      rintro ⟨c, rfl⟩
      obtain ⟨rfl, hi⟩ := rangeD_get hd
      have hi2 : i < xs.length := by omega
      refine ⟨_, _, (), rfl, .inl ?_, .v (.int i), rfl⟩
      have ih := law_same_eq n xs[i] (hx _ (List.getElem_mem hi2)) ()
      simp -implicitDefEqProofs [atI_k, List.getElem?_eq_getElem hi2, ih])
    obtain ⟨c, rfl⟩ := h3
    show runV (m_law_same (f_law_same (n + 1)) (startE 3 _) s) = _
    simp -implicitDefEqProofs [m_law_same, hr, h2]
  | n + 1, .lst xs, h, s => by
    rw [tidy, Bool.and_eq_true] at h
    have hl := of_decide_eq_true h.1
    have hr : rgOk 0 (xs.length : Nat) = true := rgOk_of (by omega) (by omega) (by omega) (by omega) (by omega)
    have hx := tidys_all.mp h.2
    obtain ⟨e2, s2, h2, h3⟩ := forL_inv (S := Unit) (g := gN 2) (mb := mIfS (mNot (mTest (mCallP 2 (f_law_same (n + 1)) (mCons (mBin dIx (mLook 0) (mLook 2)) (mCons (mBin dIx (mLook 1) (mLook 2)) mNil))))) (mRet (mC (D.bl false))) mSkip) (fun i env s => ∃ c, env = [.v (.lst xs), .v (.lst xs), c]) (rangeD 0 (xs.length : Nat)) (env := [.v (.lst xs), .v (.lst xs), .no]) (s := s) ⟨_, rfl⟩ (fun i d e s hd => by
      rintro ⟨c, rfl⟩
      obtain ⟨rfl, hi⟩ := rangeD_get hd
      have hi2 : i < xs.length := by omega
      refine ⟨_, _, (), rfl, .inl ?_, .v (.int i), rfl⟩
      have ih := law_same_eq n xs[i] (hx _ (List.getElem_mem hi2)) ()
      simp -implicitDefEqProofs [atI_k, List.getElem?_eq_getElem hi2, ih])
    obtain ⟨c, rfl⟩ := h3
    show runV (m_law_same (f_law_same (n + 1)) (startE 3 _) s) = _
    simp -implicitDefEqProofs [m_law_same, hr, h2]
  | n, .obj, h, _ => by cases n <;> cases h
end K52
namespace K52
open PySem PySem.Spec L2 L3
section
variable {many period : Int} {ws us : List Win} {ts : List Int} {k : Nat} {s : Unit}
theorem wrapped_eq (hp : 0 < period) {t0 : Int} : f_wrapped [encT (t0 :: ts), .int period] s = .ok (encT ((t0 :: ts).map fun t => (t - t0) % period)) s := by
  have hc := compL_all (g := gN 2) (me := mBin dMod (mUn dInt (mBin dSub (mLook 2) (mBin dIx (mLook 0) (mC (.int 0))))) (mLook 1)) (env := [.v (encT (t0 :: ts)), .v (.int period), .no]) (s := ()) D.int (fun t => .int ((t - t0) % period)) (xs := t0 :: ts) fun t ht => by
    refine ⟨_, rfl, ?_⟩
    simp -implicitDefEqProofs [encT, hp]
  simp -implicitDefEqProofs only [List.map_cons, encT] at hc
  simp -implicitDefEqProofs [f_wrapped, m_wrapped, encT, hc]
theorem wrappedL_eq (hp : 0 < period) {t0 : Int} : f_wrapped [.lst ((t0 :: ts).map D.int), .int period] s = .ok (encT ((t0 :: ts).map fun t => (t - t0) % period)) s := by
  have hc := compL_all (g := gN 2) (me := mBin dMod (mUn dInt (mBin dSub (mLook 2) (mBin dIx (mLook 0) (mC (.int 0))))) (mLook 1)) (env := [.v (.lst ((t0 :: ts).map D.int)), .v (.int period), .no]) (s := ()) D.int (fun t => .int ((t - t0) % period)) (xs := t0 :: ts) fun t ht => by
    refine ⟨_, rfl, ?_⟩
    simp -implicitDefEqProofs [encT, hp]
  simp -implicitDefEqProofs only [List.map_cons] at hc
  simp -implicitDefEqProofs [f_wrapped, m_wrapped, encT, hc]
theorem with_windows_eq (h : ws.length + us.length ≤ 16777216) : f_with_windows [encP many period ws, .tup (us.map encW)] s = .ok (encP many period (ws ++ us)) s := by
  simp -implicitDefEqProofs [f_with_windows, m_with_windows, encP, h]
def nums (l : List Nat) : List D := l.map fun k => D.int (k : Nat)
theorem only_windows_eq {l : List Nat} (hl : ∀ k ∈ l, k < ws.length) : f_only_windows [encP many period ws, .tup (nums l)] s = .ok (encP many period (l.map (wAt ws))) s := by
  have hc := compL_all (g := gN 2) (me := mBin dIx (mBin dIx (mLook 0) (mC (.int 2))) (mLook 2)) (env := [.v (encP many period ws), .v (.tup (nums l)), .no]) (s := ()) (fun k : Nat => D.int k) (fun k => encW (wAt ws k)) (xs := l) fun k hk => by
    refine ⟨_, rfl, ?_⟩
    have h := hl k hk
    have e : ws[k]? = some (wAt ws k) := by
      unfold wAt
      rw [List.getElem?_eq_getElem h, List.getD_eq_getElem?_getD, List.getElem?_eq_getElem h]; rfl
    simp -implicitDefEqProofs [encP, atI_k, e]
  simp -implicitDefEqProofs only [encP, nums] at hc
  simp -implicitDefEqProofs [f_only_windows, m_only_windows, encP, nums, hc]
theorem inF_nums {k : Nat} {l : List Nat} : inF (.int (k : Nat)) (nums l) = decide (k ∈ l) := by
  unfold inF nums
  rw [List.any_map]
  induction l with
  | nil => rfl
  | cons x l ih =>
    rw [List.any_cons, ih]
    show ((((x : Nat) : Int) == ((k : Nat) : Int)) || _) = _
    by_cases h : k = x
    · subst h; simp
    · have : ¬ x = k := fun z => h z.symm
      simp [h, this]
      intro z; omega
theorem flat_nums {l : List Nat} : (nums l).all flatD = true := by
  unfold nums
  rw [List.all_map]
  exact List.all_eq_true.mpr fun _ _ => rfl
theorem without_windows_eq {l : List Nat} : f_without_windows [encP many period ws, .tup (nums l)] s = .ok (encP many period (((List.range ws.length).filter fun k => !decide (k ∈ l)).map (wAt ws))) s := by
  have hz : enumD (ws.map encW) = (List.range ws.length).map fun k => .tup [.int (k : Nat), encW (wAt ws k)] := by
    refine List.ext_getElem? fun i => ?_
    by_cases hi : i < ws.length
    · have e : ws[i]? = some (wAt ws i) := by
        unfold wAt
        rw [List.getElem?_eq_getElem hi, List.getD_eq_getElem?_getD, List.getElem?_eq_getElem hi]; rfl
      rw [enumD_get (d := encW (wAt ws i)) (by rw [List.getElem?_map, e]; rfl), List.getElem?_map, List.getElem?_range hi]
      rfl
    · rw [List.getElem?_eq_none (by rw [enumD_length, List.length_map]; omega), List.getElem?_eq_none (by rw [List.length_map, List.length_range]; omega)]
  have hc := compL_mapA (g := gT (gNs (gN 2) (gNs (gN 3) gNs0))) (mt := mTest (mBin dNotIn (mLook 2) (mLook 1))) (me := mName 3) (env := [.v (encP many period ws), .v (.tup (nums l)), .no, .no]) (s := ()) (fun k : Nat => D.tup [D.int (k : Nat), encW (wAt ws k)]) (fun k => !decide (k ∈ l)) (fun k => encW (wAt ws k)) (xs := List.range ws.length) fun k hk => by
    refine ⟨_, rfl, ?_, fun _ => ?_⟩
    · simp -implicitDefEqProofs [dNotIn, dInB, flat_nums, inF_nums, flatD]
    · simp -implicitDefEqProofs
  simp -implicitDefEqProofs only [encP] at hc
  simp -implicitDefEqProofs [f_without_windows, m_without_windows, encP, hz, hc]
end
end K52
namespace K52
open PySem PySem.Spec L2 L3
theorem all_get {P : D → Prop} {l : List D} (h : ∀ d ∈ l, P d) {i : Nat} {d : D} (e : l[i]? = some d) : P d := h d (List.mem_of_getElem? e)
section
variable {many period : Int} {ws us : List Win} {ts : List Int} {k : Nat} {s : Unit}
theorem pat_eq {ws : List Win} {W : D} (e : W = .tup (ws.map encW)) : f_is_pattern [.tup [.int many, .int period, W]] s = .ok (.bl (isP many period ws)) s := by
  rw [e]; exact is_pattern_eq
theorem pat_is {b : Bool} (ws : List Win) {W : D} (e : W = .tup (ws.map encW)) (h : isP many period ws = b) : f_is_pattern [.tup [.int many, .int period, W]] s = .ok (.bl b) s := by
  rw [pat_eq e, h]
theorem isP_snoc {w : Win} (h : isW w many period = false) : isP many period (ws ++ [w]) = false := by
  unfold isP
  rw [List.all_append]
  simp [h]
def bigW (n : Nat) : List Win := List.replicate n ⟨0, 23, -9, 1430⟩
theorem forms_hold_eq (m1 : 1 ≤ many) (m2 : many ≤ 24) (p1 : 1 ≤ period) (p2 : period ≤ 1440) (wl : ws.length ≤ 59) (hw : ∀ w ∈ ws, isW w many period = true) : f_law_forms_hold [encP many period ws] s = .ok (.bl true) s := by
  have big60 : isP 24 1440 (bigW 60) = true := by decide +kernel
  have big61 : isP 24 1440 (bigW 61) = false := by decide +kernel
  have hP : isP many period ws = true := by
    unfold isP
    rw [decide_eq_true ⟨m1, m2, p1, p2, by omega⟩, Bool.true_and]
    exact List.all_eq_true.mpr hw
  have rep : ∀ n, (List.replicate n [D.tup [.int 0, .int 23, .int (-9), .int 1430]]).flatten = (bigW n).map encW := fun n => by
    unfold bigW
    rw [List.map_replicate, List.flatten_replicate_singleton]; rfl
  have g1 : ∀ s, f_is_pattern [encP many period ws] s = .ok (.bl true) s := fun s => by rw [is_pattern_eq, hP]
  have g2 : ∀ s, f_is_pattern [.tup [.int 1, .int 1, .tup []]] s = .ok (.bl true) s := fun s => pat_is [] rfl (by decide)
  have g3 : ∀ s, f_is_pattern [.tup [.int 24, .int 1440, .tup ((bigW 60).map encW)]] s = .ok (.bl true) s := fun s => pat_is (bigW 60) rfl big60
  have g4 : ∀ s, f_is_pattern [.tup [.int 2, .int 5, .tup [.tup [.int 0, .int 1, .int 3, .int 7], .tup [.int 1, .int 0, .int (-4), .int (-4)]]]] s = .ok (.bl true) s := fun s => pat_is [⟨0, 1, 3, 7⟩, ⟨1, 0, -4, -4⟩] rfl (by decide)
  obtain ⟨e2, s2, q1, q2⟩ := forL_inv (S := Unit) (g := gN 5) (mb := mIfS (mNot (mTest (mCallP 2 f_law_bool (mCons (mCallP 1 f_is_pattern (mCons (mName 5) (mNil))) (mCons (mC (.bl true)) (mNil)))))) (mRet (mC (.bl false))) (mSkip)) (fun i env s => ∃ c, env = [.v (encP many period ws), .v (.int many), .v (.int period), .v (.tup (ws.map encW)), .v (.tup [.int 24, .int 1440, .tup ((bigW 60).map encW)]), c, .no, .no])
    [encP many period ws, .tup [.int 1, .int 1, .tup []], .tup [.int 24, .int 1440, .tup ((bigW 60).map encW)], .tup [.int 2, .int 5, .tup [.tup [.int 0, .int 1, .int 3, .int 7], .tup [.int 1, .int 0, .int (-4), .int (-4)]]]] (s := ()) ⟨.no, rfl⟩ (fun i d e s hd => by
      rintro ⟨c, rfl⟩
      have hg : ∀ s, f_is_pattern [d] s = .ok (.bl true) s := all_get (P := fun d => ∀ s, f_is_pattern [d] s = .ok (.bl true) s) (by
        intro d hd
        simp only [List.mem_cons, List.not_mem_nil, or_false] at hd
        rcases hd with rfl | rfl | rfl | rfl
        · exact g1
        · exact g2
        · exact g3
        · exact g4) hd
      refine ⟨_, _, (), rfl, .inl ?_, .v d, rfl⟩
      simp -implicitDefEqProofs [hg, law_bool_eq])
  obtain ⟨c, rfl⟩ := q2
  let BD : D → Prop := fun d => ∀ s, f_is_pattern [d] s = .ok (.bl false) s
  have snoc : ∀ (M : Int) (w : Win), isW w M period = false → BD (.tup [.int M, .int period, .tup (ws.map encW ++ [encW w])]) := fun M w h s => by
    exact pat_is (ws ++ [w]) (by rw [List.map_append]; rfl) (isP_snoc h)
  have hM : ∃ M : Int, (if many > 2 then many else 2) = M ∧ many ≤ M ∧ 2 ≤ M ∧ (many = 1 → M = 2) := ⟨_, rfl, by split <;> omega, by split <;> omega, fun z => by rw [z]; rfl⟩
  obtain ⟨M, hM1, hM2, hM3, hM4⟩ := hM
  obtain ⟨e3, s3, q3, q4⟩ := forL_inv (S := Unit) (g := gN 7) (mb := mApp 6 (mTup (mCons (mBin dMax2 (mC (.int 2)) (mLook 1)) (mCons (mName 2) (mCons (mBin dAdd (mLook 3) (mTup (mCons (mIf (mTest (mBin dNe (mBin dIx (mLook 7) (mC (.int 0))) (mLook 1))) (mName 7) (mTup (mCons (mBin dMax2 (mC (.int 2)) (mLook 1)) (mCons (mC (.int 0)) (mCons (mC (.int 3)) (mCons (mC (.int 3)) (mNil))))))) (mNil)))) (mNil)))))) (fun i env s => ∃ (own : List D) (c7 : Ent), env = [.v (encP many period ws), .v (.int many), .v (.int period), .v (.tup (ws.map encW)), .v (.tup [.int 24, .int 1440, .tup ((bigW 60).map encW)]), c, .o own, c7] ∧ own.length = 5 + i ∧ ∀ d ∈ own, BD d)
    [.tup [.int many, .int 0, .int 3, .int 4], .tup [.int (-1), .int 0, .int 3, .int 4], .tup [.int 0, .int 0, .int 3, .int 4], .tup [.int 0, .int 1, .int 3, .int 2], .tup [.int 0, .int 1, .int 3, .int (3 + period)], .tup [.int 1, .int 1, .int 0, .int 0]] (s := ())
    ⟨[.tup [.int 0, .int period, .tup []], .tup [.int 25, .int period, .tup []], .tup [.int many, .int 0, .tup []], .tup [.int many, .int 1441, .tup []], .tup [.int 24, .int 1440, .tup ((bigW 61).map encW)]], .no, rfl, rfl, by
      intro d hd s
      simp only [List.mem_cons, List.not_mem_nil, or_false] at hd
      rcases hd with rfl | rfl | rfl | rfl | rfl
      · exact pat_is [] rfl (by simp [isP])
      · exact pat_is [] rfl (by simp [isP])
      · exact pat_is [] rfl (by simp [isP])
      · exact pat_is [] rfl (by simp [isP])
      · exact pat_is (bigW 61) rfl big61⟩ (fun i d e s hd => by
      rintro ⟨own, c7, rfl, hl, hb⟩
      have hi : i < 6 := by
        have := List.getElem?_eq_some_iff.mp hd
        simpa using this.1
      have hown : own.length < 16777216 := by omega
      have hwl : ws.length < 16777216 := by omega
      have hwl2 : ws.length + 1 ≤ 16777216 := by omega
      have n1 : ¬ (-1 : Int) = many := by omega
      have n0 : ¬ (0 : Int) = many := by omega
      have key : ∀ w : Win, isW w M period = false → ∀ d ∈ own ++ [D.tup [.int M, .int period, .tup (ws.map encW ++ [encW w])]], BD d := fun w hw d hd => by
        rcases List.mem_append.mp hd with h | h
        · exact hb d h
        · rw [List.mem_singleton.mp h]; exact snoc M w hw
      match i, hi, hd, hl with
      | 0, _, hd, hl =>
        cases hd
        refine ⟨_, _, (), rfl, .inl ?_, own ++ [D.tup [.int M, .int period, .tup (ws.map encW ++ [encW ⟨M, 0, 3, 3⟩])]], .v (.tup [.int many, .int 0, .int 3, .int 4]), rfl, by simp [hl], key _ (by simp [isW])⟩
        simp -implicitDefEqProofs [hM1, hown, hwl, hwl2, encW]
      | 1, _, hd, hl =>
        cases hd
        refine ⟨_, _, (), rfl, .inl ?_, own ++ [D.tup [.int M, .int period, .tup (ws.map encW ++ [encW ⟨-1, 0, 3, 4⟩])]], .v (.tup [.int (-1), .int 0, .int 3, .int 4]), rfl, by simp [hl], key _ (by simp [isW])⟩
        simp -implicitDefEqProofs [hM1, hown, hwl, hwl2, encW, n1]
      | 2, _, hd, hl =>
        cases hd
        refine ⟨_, _, (), rfl, .inl ?_, own ++ [D.tup [.int M, .int period, .tup (ws.map encW ++ [encW ⟨0, 0, 3, 4⟩])]], .v (.tup [.int 0, .int 0, .int 3, .int 4]), rfl, by simp [hl], key _ (by simp [isW])⟩
        simp -implicitDefEqProofs [hM1, hown, hwl, hwl2, encW, n0]
      | 3, _, hd, hl =>
        cases hd
        refine ⟨_, _, (), rfl, .inl ?_, own ++ [D.tup [.int M, .int period, .tup (ws.map encW ++ [encW ⟨0, 1, 3, 2⟩])]], .v (.tup [.int 0, .int 1, .int 3, .int 2]), rfl, by simp [hl], key _ (by simp [isW])⟩
        simp -implicitDefEqProofs [hM1, hown, hwl, hwl2, encW, n0]
      | 4, _, hd, hl =>
        cases hd
        refine ⟨_, _, (), rfl, .inl ?_, own ++ [D.tup [.int M, .int period, .tup (ws.map encW ++ [encW ⟨0, 1, 3, 3 + period⟩])]], .v (.tup [.int 0, .int 1, .int 3, .int (3 + period)]), rfl, by simp [hl], key _ (by simp [isW])⟩
        simp -implicitDefEqProofs [hM1, hown, hwl, hwl2, encW, n0]
      | 5, _, hd, hl =>
        cases hd
        by_cases h1 : (1 : Int) = many
        · refine ⟨_, _, (), rfl, .inl ?_, own ++ [D.tup [.int M, .int period, .tup (ws.map encW ++ [encW ⟨M, 0, 3, 3⟩])]], .v (.tup [.int 1, .int 1, .int 0, .int 0]), rfl, by simp [hl], key _ (by simp [isW])⟩
          simp -implicitDefEqProofs [hM1, hown, hwl, hwl2, encW, h1]
        · refine ⟨_, _, (), rfl, .inl ?_, own ++ [D.tup [.int M, .int period, .tup (ws.map encW ++ [encW ⟨1, 1, 0, 0⟩])]], .v (.tup [.int 1, .int 1, .int 0, .int 0]), rfl, by simp [hl], key _ (by simp [isW])⟩
          simp -implicitDefEqProofs [hM1, hown, hwl, hwl2, encW, h1])
  obtain ⟨own, c7, rfl, hl, hb⟩ := q4
  have hc := compL_map (g := gN 7) (mt := mNot (mTest (mCallP 2 f_law_bool (mCons (mCallP 1 f_is_pattern (mCons (mName 7) (mNil))) (mCons (mC (.bl false)) (mNil)))))) (me := mC (.int 1)) (env := [.v (encP many period ws), .v (.int many), .v (.int period), .v (.tup (ws.map encW)), .v (.tup [.int 24, .int 1440, .tup ((bigW 60).map encW)]), c, .o own, .no]) (s := ()) (fun _ => false) (fun _ => .int 1) (ds := own) fun d hd => by
    refine ⟨_, rfl, ?_, fun z => by cases z⟩
    have := hb d hd
    simp -implicitDefEqProofs [this (), law_bool_eq]
  have r60 : List.replicate 60 (D.tup [.int 0, .int 23, .int (-9), .int 1430]) = (bigW 60).map encW := by unfold bigW; rw [List.map_replicate]; rfl
  have r61 : List.replicate 61 (D.tup [.int 0, .int 23, .int (-9), .int 1430]) = (bigW 61).map encW := by unfold bigW; rw [List.map_replicate]; rfl
  simp -implicitDefEqProofs only [encP] at q1 q3 hc
  have r7 : List.replicate 7 Ent.no = [.no, .no, .no, .no, .no, .no, .no] := rfl
  simp -implicitDefEqProofs [-List.reduceReplicate, r7, f_law_forms_hold, m_law_forms_hold, encP, r60, r61, q1, q3, hc]
end
end K52
namespace K52
open PySem PySem.Spec L2 L3
section
variable {many period : Int} {ws us : List Win} {ts : List Int} {k : Nat}
theorem times_of_eq (b : Nat → Int) (n : Nat) (m1 : 1 ≤ many) (m2 : many ≤ 24) (p1 : 1 ≤ period) (p2 : period ≤ 1440) : ∃ ts n', f_law_times_of b [.obj, encP many period ws] n = .ok (encT (0 :: ts)) n' ∧ isT many period (0 :: ts) = true := by
  obtain ⟨ts, n', h1, h2, h3⟩ := compL_stB (g := gN 3) (mt := mYes) (me := mBin dMul (mCall 2 (f_law_take b) (mCons (mName 0) (mCons (mBin dMin2 (mBin dIx (mLook 1) (mC (.int 1))) (mC (.int 720))) mNil))) (mLook 2)) (env := [.v .obj, .v (encP many period ws), .v (.int (1 + period / 1440)), .no]) (fun i : Nat => D.int (1 + (i : Nat))) D.int (fun _ t => 0 ≤ t ∧ t < period) (xs := List.range (many.toNat - 1)) n fun i hi s => by
    have hmin : ∃ q, (if 720 < period then 720 else period) = q ∧ 0 < q ∧ q ≤ 720 ∧ q ≤ period := ⟨_, rfl, by split <;> omega, by split <;> omega, by split <;> omega⟩
    obtain ⟨q, hq, q1, q2, q3⟩ := hmin
    have hr := Int.emod_nonneg (b s) (by omega : q ≠ 0)
    have hr2 := Int.emod_lt_of_pos (b s) q1
    have hb : period / 1440 = 0 ∧ period < 1440 ∨ period / 1440 = 1 ∧ period = 1440 := by omega
    refine ⟨_, b s % q * (1 + period / 1440), s, s + 1, rfl, rfl, ?_, ?_⟩
    · have hm : mulOk (b s % q) (1 + period / 1440) = true := mulOk_r (by omega) (by omega)
      simp -implicitDefEqProofs [encP, hq, law_take_eq q1, hm]
    · rcases hb with ⟨e, h⟩ | ⟨e, h⟩ <;> (rw [e]; omega)
  have hl : ts.length = many.toNat - 1 := by rw [h2, List.length_range]
  have hr : rgOk 1 many = true := rgOk_of (by omega) (by omega) (by omega) (by omega) (by omega)
  have hlen : 1 + ts.length ≤ 16777216 := by omega
  have hd : Nat.log2 1440 < 9000 := by decide
  have hlen2 : ts.length + 1 ≤ 16777216 := by omega
  refine ⟨ts, n', ?_, ?_⟩
  · simp -implicitDefEqProofs only [encP] at h1
    simp -implicitDefEqProofs [f_law_times_of, m_law_times_of, encP, encT, hr, rangeD_eq, h1, hlen, hlen2, hd]
  · unfold isT
    have ha : ts.all (inR period) = true := List.all_eq_true.mpr fun t ht => by
      obtain ⟨i, hi, e⟩ := List.mem_iff_getElem.mp ht
      have := h3 i i t (List.getElem?_range (by rw [← hl]; exact hi)) (by rw [List.getElem?_eq_getElem hi, e])
      unfold inR; exact decide_eq_true this
    have hz : inR period 0 = true := by unfold inR; exact decide_eq_true ⟨by omega, by omega⟩
    have hle : ((0 :: ts).length : Int) = many := by rw [List.length_cons, hl]; omega
    rw [List.all_cons, ha, hz]
    simp
    simp at hle
    omega
end
end K52
namespace K52
open PySem PySem.Spec L2 L3
section
variable {many period : Int} {ws us : List Win} {ts : List Int} {k : Nat}
theorem isT_len {xs : List Int} (h : ¬ (xs.length : Int) = many) : isT many period xs = false := by
  unfold isT
  rw [decide_eq_false h]; rfl
theorem isT_mem {xs : List Int} {x : Int} (h : x ∈ xs) (h2 : inR period x = false) : isT many period xs = false := by
  unfold isT
  have : xs.all (inR period) = false := by
    cases e : xs.all (inR period) with
    | false => rfl
    | true => rw [List.all_eq_true.mp e x h] at h2; cases h2
  rw [this]; simp
theorem isT_head {xs : List Int} {x : Int} (h : x ≠ 0) : isT many period (x :: xs) = false := by
  unfold isT
  simp [h]
theorem timetables_hold_eq (b : Nat → Int) (n : Nat) (m1 : 1 ≤ many) (m2 : many ≤ 24) (p1 : 1 ≤ period) (p2 : period ≤ 1440) (hT : isT many period (0 :: ts) = true) : ∃ n', f_law_timetables_hold b [.obj, encP many period ws, encT (0 :: ts)] n = .ok (.bl true) n' := by
  have hT' := hT
  unfold isT at hT'
  rw [Bool.and_eq_true, Bool.and_eq_true] at hT'
  have hlen : ((0 :: ts).length : Int) = many := of_decide_eq_true hT'.1
  have hall := List.all_eq_true.mp hT'.2.2
  have hrange : ∀ t ∈ (0 :: ts), 0 ≤ t ∧ t < period := fun t ht => of_decide_eq_true (hall t ht)
  have hlen' : ts.length + 1 = many.toNat := by rw [List.length_cons] at hlen; omega
  let BD : D → Prop := fun d => ∃ xs, d = encT xs ∧ isT many period xs = false
  have hin : inR period period = false := by unfold inR; exact decide_eq_false (by omega)
  have hin2 : inR period (-1) = false := by unfold inR; exact decide_eq_false (by omega)
  obtain ⟨e2, s2, q1, q2⟩ := forL_inv (S := Nat) (g := gN 4) (mb := mIfS (mOr (mNot (mTest (mCallP 2 f_law_bool (mCons (mCallP 2 f_is_timetable (mCons (mName 1) (mCons (mName 4) (mNil)))) (mCons (mC (.bl false)) (mNil)))))) (mNot (mTest (mCallP 2 f_law_bool (mCons (mCallP 2 f_keeps_pattern (mCons (mName 1) (mCons (mName 4) (mNil)))) (mCons (mC (.bl false)) (mNil))))))) (mRet (mC (.bl false))) (mSkip)) (fun i env s => s = n ∧ ∃ c, env = [.v .obj, .v (encP many period ws), .v (encT (0 :: ts)), .v (.lst [encT ((0 :: ts) ++ [0]), encT ts, encT (1 :: ts), encT ((0 :: ts).dropLast ++ [period]), encT ((0 :: ts).dropLast ++ [-1])]), c, .no, .no])
    [encT ((0 :: ts) ++ [0]), encT ts, encT (1 :: ts), encT ((0 :: ts).dropLast ++ [period]), encT ((0 :: ts).dropLast ++ [-1])] (s := n) ⟨rfl, .no, rfl⟩ (fun i d e s hd => by
      rintro ⟨rfl, c, rfl⟩
      have hg : BD d := all_get (P := BD) (by
        intro d hd
        simp only [List.mem_cons, List.not_mem_nil, or_false] at hd
        rcases hd with rfl | rfl | rfl | rfl | rfl
        · exact ⟨_, rfl, isT_len (by rw [List.length_append, List.length_cons, List.length_singleton]; omega)⟩
        · exact ⟨_, rfl, isT_len (by omega)⟩
        · exact ⟨_, rfl, isT_head (by omega)⟩
        · exact ⟨_, rfl, isT_mem (x := period) (by simp) hin⟩
        · exact ⟨_, rfl, isT_mem (x := -1) (by simp) hin2⟩) hd
      obtain ⟨xs, rfl, hx⟩ := hg
      refine ⟨_, _, s, rfl, .inl ?_, rfl, .v (encT xs), rfl⟩
      have h1 := is_timetable_eq (many := many) (period := period) (ws := ws) (ts := xs) (s := ()) m1
      rw [hx] at h1
      have h2 := keeps_pattern_no (many := many) (period := period) (ws := ws) (ts := xs) (s := ()) m1 hx
      simp -implicitDefEqProofs [h1, h2, law_bool_eq])
  obtain ⟨rfl, c, rfl⟩ := q2
  obtain ⟨ms, n', h1, h2, h3⟩ := compL_stB (g := gN 6) (mt := mYes) (me := mBin dAdd (mBin dAdd (mLook 6) (mC (.int 11))) (mBin dMul (mBin dIx (mLook 1) (mC (.int 1))) (mBin dSub (mCall 2 (f_law_take b) (mCons (mName 0) (mCons (mC (.int 5)) (mNil)))) (mC (.int 2))))) (env := [.v .obj, .v (encP many period ws), .v (encT (0 :: ts)), .v (.lst [encT ((0 :: ts) ++ [0]), encT ts, encT (1 :: ts), encT ((0 :: ts).dropLast ++ [period]), encT ((0 :: ts).dropLast ++ [-1])]), c, .no, .no]) D.int D.int (fun t m => ∃ q : Int, m = t + 11 + period * q) (xs := 0 :: ts) s2 fun t ht s => by
    refine ⟨_, t + 11 + period * (b s % 5 - 2), s, s + 1, rfl, rfl, ?_, _, rfl⟩
    have hm : mulOk period (b s % 5 - 2) = true := mulOk_l (by omega) (by omega)
    simp -implicitDefEqProofs [encP, law_take_eq, hm]
  cases ms with
  | nil => simp at h2
  | cons m0 ms =>
    have hw : (m0 :: ms).map (fun m => (m - m0) % period) = 0 :: ts := by
      refine List.ext_getElem? fun i => ?_
      rw [List.getElem?_map]
      by_cases hi : i < (0 :: ts).length
      · have e1 : (0 :: ts)[i]? = some ((0 :: ts)[i]) := List.getElem?_eq_getElem hi
        have e2 : (m0 :: ms)[i]? = some ((m0 :: ms)[i]) := List.getElem?_eq_getElem (by omega)
        obtain ⟨q0, r0⟩ := h3 0 0 m0 rfl rfl
        obtain ⟨q, r⟩ := h3 i _ _ e1 e2
        have hr := hrange _ (List.getElem_mem hi)
        rw [e1, e2, r, r0]
        show some _ = some _
        congr 1
        have : (0 :: ts)[i] + 11 + period * q - (0 + 11 + period * q0) = (0 :: ts)[i] + period * (q - q0) := by rw [Int.mul_sub]; omega
        show ((0 :: ts)[i] + 11 + period * q - (0 + 11 + period * q0)) % period = _
        rw [this, Int.add_mul_emod_self_left]
        exact Int.emod_eq_of_lt hr.1 hr.2
      · rw [List.getElem?_eq_none (by omega), List.getElem?_eq_none (by omega)]; rfl
    have hp : 0 < period := by omega
    have w1 := wrappedL_eq (ts := ms) (s := ()) hp (t0 := m0)
    rw [hw] at w1
    have w2 := wrapped_eq (ts := ts) (s := ()) hp (t0 := 0)
    have hw2 : (0 :: ts).map (fun t => (t - 0) % period) = 0 :: ts := by
      refine List.map_congr_left (g := id) (fun t ht => ?_) |>.trans (List.map_id _)
      have hr := hrange t ht
      rw [Int.sub_zero]
      exact Int.emod_eq_of_lt hr.1 hr.2
    rw [hw2] at w2
    have sm : ∀ s, f_law_same 8 [encT (0 :: ts), encT (0 :: ts)] s = .ok (.bl true) s := law_same_eq 7 _ (by
      unfold encT
      rw [tidy, tidys_ints, Bool.and_true, List.length_map]
      exact decide_eq_true (by rw [List.length_cons]; omega))
    have it := is_timetable_eq (many := many) (period := period) (ws := ws) (ts := 0 :: ts) (s := ()) m1
    rw [hT] at it
    have hl1 : ts.length + 1 + 1 ≤ 16777216 := by omega
    have hl2 : 1 + ts.length ≤ 16777216 := by omega
    have hl3 : ts.length + 1 ≤ 16777216 := by omega
    have hl4 : 1 + ms.length ≤ 16777216 := by rw [List.length_cons, List.length_cons] at h2; omega
    simp -implicitDefEqProofs only [encP, encT, List.map_cons, List.map_append, List.map_nil, List.map_dropLast, List.cons_append] at h1 q1 w1 w2 sm it
    refine ⟨n', ?_⟩
    simp -implicitDefEqProofs [f_law_timetables_hold, m_law_timetables_hold, encP, encT, cutD_tail, cutD_init, it, q1, h1, w1, w2, sm, law_bool_eq, hl1, hl2, hl3, hl4]
end
end K52
namespace K52
open PySem PySem.Spec L2 L3
section
variable {many period : Int} {ws us : List Win} {ts : List Int} {k : Nat}
theorem range_snoc {A : Type} (f : Nat → A) (k : Nat) : (List.range (k + 1)).map f = (List.range k).map f ++ [f k] := by
  rw [List.range_succ, List.map_append]; rfl
def slackL (period : Int) (ws : List Win) (ts : List Int) (k : Nat) : List D := (List.range k).map fun k => .int (span period ws ts k - (wAt ws k).lo)
def turnL (period : Int) (ws : List Win) (ts : List Int) (k : Nat) : List D := (List.range k).map fun k => .int (turn period ws ts k)
def badK (period : Int) (ws : List Win) (ts : List Int) (k : Nat) : Bool := !decide (span period ws ts k ≤ (wAt ws k).hi)
def brokL (period : Int) (ws : List Win) (ts : List Int) (k : Nat) : List D := ((List.range k).filter (badK period ws ts)).map fun k => .int (k : Nat)
theorem slackL_succ : slackL period ws ts (k + 1) = slackL period ws ts k ++ [.int (span period ws ts k - (wAt ws k).lo)] := range_snoc _ k
theorem turnL_succ : turnL period ws ts (k + 1) = turnL period ws ts k ++ [.int (turn period ws ts k)] := range_snoc _ k
theorem slackL_len : (slackL period ws ts k).length = k := by unfold slackL; rw [List.length_map, List.length_range]
theorem turnL_len : (turnL period ws ts k).length = k := by unfold turnL; rw [List.length_map, List.length_range]
theorem brokL_len : (brokL period ws ts k).length ≤ k := by
  unfold brokL
  rw [List.length_map]
  have := List.length_filter_le (badK period ws ts) (List.range k)
  rw [List.length_range] at this
  exact this
theorem brokL_succ : brokL period ws ts (k + 1) = if badK period ws ts k = true then brokL period ws ts k ++ [.int (k : Nat)] else brokL period ws ts k := by
  unfold brokL
  rw [List.range_succ, List.filter_append, List.map_append]
  cases h : badK period ws ts k <;> simp [h]
theorem spans_hold_eq (s : Unit) (O : Ok many period ws ts) (hT : isT many period ts = true) (hlo : ∀ w ∈ ws, -100000 ≤ w.lo ∧ w.lo ≤ 100000) : f_law_spans_hold [encP many period ws, encT ts] s = .ok (.bl true) s := by
  have hr := rgW O
  have hp : 0 < period := by have := O.p1; omega
  have hp2 := O.p2
  have hwl := O.wl
  have hdv := divOk_of hp (by omega)
  have same_int : ∀ (x : Int) (s : Unit), f_law_same 8 [.int x, .int x] s = .ok (.bl true) s := fun x => law_same_eq 7 (.int x) rfl
  obtain ⟨e2, s2, q1, q2⟩ := forL_inv (S := Unit) (g := gN 5) (mb := mSeq (mAsg (mBin dIx (mBin dIx (mLook 0) (mC (.int 2))) (mLook 5)) (gT (gNs (gN 6) (gNs (gN 7) (gNs (gN 8) (gNs (gN 9) (gNs0))))))) (mSeq (mSet 10 (mBin dSub (mBin dIx (mLook 1) (mLook 7)) (mBin dIx (mLook 1) (mLook 6)))) (mSeq (mSet 11 (mLst (mComp [12] (mRange (mEnds2 (mLook 8) (mBin dAdd (mLook 8) (mBin dIx (mLook 0) (mC (.int 1)))))) (gN 12) (mTest (mBin dEq (mBin dMod (mUn dInt (mBin dSub (mLook 12) (mLook 10))) (mBin dIx (mLook 0) (mC (.int 1)))) (mC (.int 0)))) (mName 12)))) (mSeq (mIfS (mOr (mTest (mBin dNe (mUn dLen (mLook 11)) (mC (.int 1)))) (mNot (mTest (mCallP 2 (f_law_same 8) (mCons (mCallP 3 f_span_of (mCons (mName 0) (mCons (mName 1) (mCons (mName 5) (mNil))))) (mCons (mBin dIx (mLook 11) (mC (.int 0))) (mNil))))))) (mRet (mC (.bl false))) (mSkip)) (mSeq (mSet 2 (mBin dAdd (mLook 2) (mTup (mCons (mBin dSub (mBin dIx (mLook 11) (mC (.int 0))) (mLook 8)) (mNil))))) (mSeq (mSet 3 (mBin dAdd (mLook 3) (mTup (mCons (mBin dDiv (mBin dSub (mBin dIx (mLook 11) (mC (.int 0))) (mLook 10)) (mBin dIx (mLook 0) (mC (.int 1)))) (mNil))))) (mSeq (mIfS (mTest (mBin dGt (mBin dIx (mLook 11) (mC (.int 0))) (mLook 9))) (mApp 4 (mName 5)) (mSkip)) (mSeq (mIfS (mNot (mTest (mCallP 2 f_law_bool (mCons (mCallP 3 f_keeps_window (mCons (mName 0) (mCons (mName 1) (mCons (mName 5) (mNil))))) (mCons (mBin dLe (mBin dIx (mLook 11) (mC (.int 0))) (mLook 9)) (mNil)))))) (mRet (mC (.bl false))) (mSkip)) (mIfS (mOr (mNot (mTest (mCallP 2 (f_law_same 8) (mCons (mCallP 3 f_slack_of (mCons (mName 0) (mCons (mName 1) (mCons (mName 5) (mNil))))) (mCons (mBin dIx (mLook 2) (mLook 5)) (mNil)))))) (mNot (mTest (mCallP 2 (f_law_same 8) (mCons (mCallP 3 f_turn_of (mCons (mName 0) (mCons (mName 1) (mCons (mName 5) (mNil))))) (mCons (mBin dIx (mLook 3) (mLook 5)) (mNil))))))) (mRet (mC (.bl false))) (mSkip)))))))))) (fun k env s => ∃ c5 c6 c7 c8 c9 c10 c11 : Ent, env = [.v (encP many period ws), .v (encT ts), .v (.tup (slackL period ws ts k)), .v (.tup (turnL period ws ts k)), .o (brokL period ws ts k), c5, c6, c7, c8, c9, c10, c11, .no])
    (rangeD 0 (ws.length : Nat)) (env := [.v (encP many period ws), .v (encT ts), .v (.tup []), .v (.tup []), .o [], .no, .no, .no, .no, .no, .no, .no, .no]) (s := s) ⟨.no, .no, .no, .no, .no, .no, .no, rfl⟩ (fun k d e s hd => by
      rintro ⟨c5, c6, c7, c8, c9, c10, c11, rfl⟩
      obtain ⟨rfl, hi⟩ := rangeD_get hd
      have hk : k < ws.length := by omega
      obtain ⟨a1, a2, a3, a4, a5⟩ := O.at_ hk
      have hlo2 := hlo _ (List.mem_of_getElem? a1)
      generalize hti : tAt ts (wAt ws k).i = ti at a2
      generalize htj : tAt ts (wAt ws k).j = tj at a3
      have e0 : (0 : Int) + (k : Nat) = (k : Nat) := by omega
      have hs1 := span_of_eq (s := ()) O hk
      have hs2 := slack_of_eq (s := ()) O hk
      have hs3 := turn_of_eq (s := ()) O hk
      have hs4 := keeps_window_eq (s := ()) O hk
      have hrg : rgOk (wAt ws k).lo ((wAt ws k).lo + period) = true := rgOk_of (by omega) (by omega) (by omega) (by omega) (by omega)
      have hrt : (wAt ws k).lo + period - (wAt ws k).lo = period := by omega
      have hm0 := Int.emod_nonneg (tj - ti - (wAt ws k).lo) (by omega : period ≠ 0)
      have hm1 := Int.emod_lt_of_pos (tj - ti - (wAt ws k).lo) hp
      have hspan : span period ws ts k = (wAt ws k).lo + (tj - ti - (wAt ws k).lo) % period := by unfold span; rw [hti, htj]
      have hf : (List.range period.toNat).filter (fun i : Nat => ((wAt ws k).lo + (i : Nat) - (tj - ti)) % period == 0) = [((tj - ti - (wAt ws k).lo) % period).toNat] := filter_one (by omega) fun i hi => by
        have hi2 : (0 : Int) ≤ (i : Nat) ∧ ((i : Nat) : Int) < period := ⟨by omega, by omega⟩
        constructor
        · intro h
          have h : ((wAt ws k).lo + (i : Nat) - (tj - ti)) % period = 0 := by simpa using h
          have h2 : (wAt ws k).lo + (i : Nat) - (tj - ti) = (i : Nat) - (tj - ti - (wAt ws k).lo) := by omega
          rw [h2] at h
          have h3 : ((i : Nat) : Int) % period = (tj - ti - (wAt ws k).lo) % period := Int.emod_eq_emod_iff_emod_sub_eq_zero.mpr h
          rw [Int.emod_eq_of_lt hi2.1 hi2.2] at h3
          omega
        · intro h
          have h3 : ((i : Nat) : Int) = (tj - ti - (wAt ws k).lo) % period := by omega
          have h2 : (wAt ws k).lo + (i : Nat) - (tj - ti) = (i : Nat) - (tj - ti - (wAt ws k).lo) := by omega
          have h4 : ((i : Nat) : Int) % period = (tj - ti - (wAt ws k).lo) % period := by rw [h3, Int.emod_emod]
          have := Int.emod_eq_emod_iff_emod_sub_eq_zero.mp h4
          rw [h2, this]; rfl
      have hc := compL_mapA (g := gN 12) (mt := mTest (mBin dEq (mBin dMod (mUn dInt (mBin dSub (mLook 12) (mLook 10))) (mBin dIx (mLook 0) (mC (.int 1)))) (mC (.int 0)))) (me := mName 12) (env := [.v (encP many period ws), .v (encT ts), .v (.tup (slackL period ws ts k)), .v (.tup (turnL period ws ts k)), .o (brokL period ws ts k), .v (.int (k : Nat)), .v (.int (wAt ws k).i), .v (.int (wAt ws k).j), .v (.int (wAt ws k).lo), .v (.int (wAt ws k).hi), .v (.int (tj - ti)), c11, .no]) (s := ()) (fun i : Nat => D.int ((wAt ws k).lo + (i : Nat))) (fun i : Nat => ((wAt ws k).lo + (i : Nat) - (tj - ti)) % period == 0) (fun i : Nat => D.int ((wAt ws k).lo + (i : Nat))) (xs := List.range period.toNat) fun i hi => by
        refine ⟨_, rfl, ?_, fun _ => ?_⟩
        · simp -implicitDefEqProofs [encP, hp]
        · simp -implicitDefEqProofs
      have hsp : D.int ((wAt ws k).lo + ((((tj - ti - (wAt ws k).lo) % period).toNat : Nat) : Int)) = D.int (span period ws ts k) := by rw [hspan, Int.toNat_of_nonneg hm0]
      rw [hf, List.map_singleton, hsp] at hc
      have hturn : (span period ws ts k - (tj - ti)) / period = turn period ws ts k := by
        have e : span period ws ts k - (tj - ti) = ti + span period ws ts k - tj := by omega
        unfold turn
        rw [hti, htj, e]
      have l1 : k + 1 ≤ 16777216 := by omega
      have l2 : (brokL period ws ts k).length < 16777216 := by
        have := brokL_len (period := period) (ws := ws) (ts := ts) (k := k)
        omega
      have g1 : (slackL period ws ts k ++ [D.int (span period ws ts k - (wAt ws k).lo)])[k]? = some (D.int (span period ws ts k - (wAt ws k).lo)) := by
        rw [List.getElem?_append_right (by rw [slackL_len]; omega), slackL_len, Nat.sub_self]; rfl
      have g2 : (turnL period ws ts k ++ [D.int (turn period ws ts k)])[k]? = some (D.int (turn period ws ts k)) := by
        rw [List.getElem?_append_right (by rw [turnL_len]; omega), turnL_len, Nat.sub_self]; rfl
      have step : (mSeq (mAsg (mBin dIx (mBin dIx (mLook 0) (mC (.int 2))) (mLook 5)) (gT (gNs (gN 6) (gNs (gN 7) (gNs (gN 8) (gNs (gN 9) (gNs0))))))) (mSeq (mSet 10 (mBin dSub (mBin dIx (mLook 1) (mLook 7)) (mBin dIx (mLook 1) (mLook 6)))) (mSeq (mSet 11 (mLst (mComp [12] (mRange (mEnds2 (mLook 8) (mBin dAdd (mLook 8) (mBin dIx (mLook 0) (mC (.int 1)))))) (gN 12) (mTest (mBin dEq (mBin dMod (mUn dInt (mBin dSub (mLook 12) (mLook 10))) (mBin dIx (mLook 0) (mC (.int 1)))) (mC (.int 0)))) (mName 12)))) (mSeq (mIfS (mOr (mTest (mBin dNe (mUn dLen (mLook 11)) (mC (.int 1)))) (mNot (mTest (mCallP 2 (f_law_same 8) (mCons (mCallP 3 f_span_of (mCons (mName 0) (mCons (mName 1) (mCons (mName 5) (mNil))))) (mCons (mBin dIx (mLook 11) (mC (.int 0))) (mNil))))))) (mRet (mC (.bl false))) (mSkip)) (mSeq (mSet 2 (mBin dAdd (mLook 2) (mTup (mCons (mBin dSub (mBin dIx (mLook 11) (mC (.int 0))) (mLook 8)) (mNil))))) (mSeq (mSet 3 (mBin dAdd (mLook 3) (mTup (mCons (mBin dDiv (mBin dSub (mBin dIx (mLook 11) (mC (.int 0))) (mLook 10)) (mBin dIx (mLook 0) (mC (.int 1)))) (mNil))))) (mSeq (mIfS (mTest (mBin dGt (mBin dIx (mLook 11) (mC (.int 0))) (mLook 9))) (mApp 4 (mName 5)) (mSkip)) (mSeq (mIfS (mNot (mTest (mCallP 2 f_law_bool (mCons (mCallP 3 f_keeps_window (mCons (mName 0) (mCons (mName 1) (mCons (mName 5) (mNil))))) (mCons (mBin dLe (mBin dIx (mLook 11) (mC (.int 0))) (mLook 9)) (mNil)))))) (mRet (mC (.bl false))) (mSkip)) (mIfS (mOr (mNot (mTest (mCallP 2 (f_law_same 8) (mCons (mCallP 3 f_slack_of (mCons (mName 0) (mCons (mName 1) (mCons (mName 5) (mNil))))) (mCons (mBin dIx (mLook 2) (mLook 5)) (mNil)))))) (mNot (mTest (mCallP 2 (f_law_same 8) (mCons (mCallP 3 f_turn_of (mCons (mName 0) (mCons (mName 1) (mCons (mName 5) (mNil))))) (mCons (mBin dIx (mLook 3) (mLook 5)) (mNil))))))) (mRet (mC (.bl false))) (mSkip)))))))))) [.v (encP many period ws), .v (encT ts), .v (.tup (slackL period ws ts k)), .v (.tup (turnL period ws ts k)), .o (brokL period ws ts k), .v (.int (k : Nat)), c6, c7, c8, c9, c10, c11, .no] () = .ok (.nx, [.v (encP many period ws), .v (encT ts), .v (.tup (slackL period ws ts (k + 1))), .v (.tup (turnL period ws ts (k + 1))), .o (brokL period ws ts (k + 1)), .v (.int (k : Nat)), .v (.int (wAt ws k).i), .v (.int (wAt ws k).j), .v (.int (wAt ws k).lo), .v (.int (wAt ws k).hi), .v (.int (tj - ti)), .v (.lst [.int (span period ws ts k)]), .no]) () := by
        simp -implicitDefEqProofs only [encP, encT] at hc hs1 hs2 hs3 hs4
        rw [slackL_succ, turnL_succ, brokL_succ]
        cases hb : badK period ws ts k with
        | true =>
          have hb' : (wAt ws k).hi < span period ws ts k := by
            have : (!decide (span period ws ts k ≤ (wAt ws k).hi)) = true := hb
            simpa using this
          have hb2 : ¬ span period ws ts k ≤ (wAt ws k).hi := by omega
          simp -implicitDefEqProofs [hb2] at hs4
          simp -implicitDefEqProofs [encP, encT, atI_k, a1, a2, a3, encW, hrg, rangeD_eq, hrt, hc, hs1, hs2, hs3, hs4, hp, hdv, same_int, law_bool_eq, l1, l2, slackL_len, turnL_len, g1, g2, hb', hb2, dGt, dLe, hturn]
        | false =>
          have hb' : ¬ (wAt ws k).hi < span period ws ts k := by
            have : (!decide (span period ws ts k ≤ (wAt ws k).hi)) = false := hb
            simpa using this
          have hb2 : span period ws ts k ≤ (wAt ws k).hi := by omega
          simp -implicitDefEqProofs [hb2] at hs4
          simp -implicitDefEqProofs [encP, encT, atI_k, a1, a2, a3, encW, hrg, rangeD_eq, hrt, hc, hs1, hs2, hs3, hs4, hp, hdv, same_int, law_bool_eq, l1, l2, slackL_len, turnL_len, g1, g2, hb', hb2, dGt, dLe, hturn]
      exact ⟨_, _, (), by rw [e0]; rfl, .inl step, .v (.int (k : Nat)), .v (.int (wAt ws k).i), .v (.int (wAt ws k).j), .v (.int (wAt ws k).lo), .v (.int (wAt ws k).hi), .v (.int (tj - ti)), .v (.lst [.int (span period ws ts k)]), rfl⟩)
  have hlen : (rangeD 0 (ws.length : Nat)).length = ws.length := by rw [rangeD_length]; omega
  rw [hlen] at q2
  obtain ⟨c5, c6, c7, c8, c9, c10, c11, rfl⟩ := q2
  have h1 := slacks_of_eq (s := ()) O
  have h2 := turns_of_eq (s := ()) O
  have h3 := broken_windows_eq (s := ()) O
  have h4 := keeps_pattern_eq (s := ()) O hT
  have t1 : f_law_same 8 [.tup (slackL period ws ts ws.length), .tup (slackL period ws ts ws.length)] () = .ok (.bl true) () := law_same_eq 7 _ (by
    rw [tidy, slackL_len, decide_eq_true (by omega), Bool.true_and, tidys_all]
    intro d hd
    unfold slackL at hd
    obtain ⟨i, _, rfl⟩ := List.mem_map.mp hd
    rfl) ()
  have t2 : f_law_same 8 [.tup (turnL period ws ts ws.length), .tup (turnL period ws ts ws.length)] () = .ok (.bl true) () := law_same_eq 7 _ (by
    rw [tidy, turnL_len, decide_eq_true (by omega), Bool.true_and, tidys_all]
    intro d hd
    unfold turnL at hd
    obtain ⟨i, _, rfl⟩ := List.mem_map.mp hd
    rfl) ()
  have hbl := brokL_len (period := period) (ws := ws) (ts := ts) (k := ws.length)
  have t3 : f_law_same 8 [.lst (brokL period ws ts ws.length), .lst (brokL period ws ts ws.length)] () = .ok (.bl true) () := law_same_eq 7 _ (by
    rw [tidy, decide_eq_true (by omega), Bool.true_and, tidys_all]
    intro d hd
    unfold brokL at hd
    obtain ⟨i, _, rfl⟩ := List.mem_map.mp hd
    rfl) ()
  have e1 : (List.range ws.length).map (fun k => D.int (span period ws ts k - (wAt ws k).lo)) = slackL period ws ts ws.length := rfl
  have e2 : (List.range ws.length).map (fun k => D.int (turn period ws ts k)) = turnL period ws ts ws.length := rfl
  have e3 : (broken period ws ts).map (fun k => D.int (k : Nat)) = brokL period ws ts ws.length := rfl
  have e4 : (broken period ws ts).isEmpty = (((brokL period ws ts ws.length).length : Int) == 0) := by
    rw [← e3, List.length_map]
    cases broken period ws ts with
    | nil => rfl
    | cons x xs => rw [List.length_cons]; simp; omega
  rw [e1] at h1
  rw [e2] at h2
  rw [e3] at h3
  rw [e4] at h4
  simp -implicitDefEqProofs only [encP, encT] at h1 h2 h3 h4 q1
  simp -implicitDefEqProofs [f_law_spans_hold, m_law_spans_hold, encP, encT, hr, q1, h1, h2, h3, h4, t1, t2, t3, law_bool_eq]
theorem windows_eq (b : Nat → Int) (n : Nat) (m1 : 1 ≤ many) (m2 : many ≤ 24) (p1 : 1 ≤ period) (p2 : period ≤ 1440) : ∃ (ws : List Win) (n' : Nat), f_law_windows b [.obj, .int many, .int period] n = .ok (.tup (ws.map encW)) n' ∧ ws.length ≤ 8 ∧ ∀ w ∈ ws, isW w many period = true ∧ -100000 ≤ w.lo ∧ w.lo ≤ 100000 := by
  have hq : ∃ (q : Int) (n1 : Nat), (mIf (mTest (mBin dGt (mLook 1) (mC (.int 1)))) (mCall 2 (f_law_take b) (mCons (mName 0) (mCons (mC (.int 9)) mNil))) (mC (.int 0))) [.v .obj, .v (.int many), .v (.int period), .o [], .no, .no, .no, .no] n = .ok (.int q) n1 ∧ 0 ≤ q ∧ q ≤ 8 ∧ (q ≠ 0 → 2 ≤ many) := by
    by_cases h : 1 < many
    · exact ⟨b n % 9, n + 1, by simp -implicitDefEqProofs [dGt, h, law_take_eq], by omega, by omega, fun _ => by omega⟩
    · exact ⟨0, n, by simp -implicitDefEqProofs [dGt, h], by omega, by omega, fun z => absurd rfl z⟩
  obtain ⟨q, n1, hq1, hq2, hq3, hq4⟩ := hq
  obtain ⟨e2, s2, r1, r2⟩ := forL_inv (S := Nat) (g := gN 4) (mb := mSeq (mSet 5 (mCall 2 (f_law_take b) (mCons (mName 0) (mCons (mName 1) (mNil))))) (mSeq (mSet 6 (mBin dMod (mUn dInt (mBin dAdd (mBin dAdd (mLook 5) (mC (.int 1))) (mCall 2 (f_law_take b) (mCons (mName 0) (mCons (mBin dSub (mLook 1) (mC (.int 1))) (mNil)))))) (mLook 1))) (mSeq (mSet 7 (mBin dSub (mCall 2 (f_law_take b) (mCons (mName 0) (mCons (mBin dMul (mC (.int 4)) (mLook 2)) (mNil)))) (mBin dMul (mC (.int 2)) (mLook 2)))) (mApp 3 (mTup (mCons (mName 5) (mCons (mName 6) (mCons (mName 7) (mCons (mBin dAdd (mLook 7) (mCall 2 (f_law_take b) (mCons (mName 0) (mCons (mName 2) (mNil))))) (mNil)))))))))) (fun i env s => ∃ (ws : List Win) (c4 c5 c6 c7 : Ent), env = [.v .obj, .v (.int many), .v (.int period), .o (ws.map encW), c4, c5, c6, c7] ∧ ws.length = i ∧ ∀ w ∈ ws, isW w many period = true ∧ -100000 ≤ w.lo ∧ w.lo ≤ 100000) (rangeD 0 q) (env := [.v .obj, .v (.int many), .v (.int period), .o [], .no, .no, .no, .no]) (s := n1) ⟨[], .no, .no, .no, .no, rfl, rfl, fun w h => by cases h⟩ (fun i d e s hd => by
    rintro ⟨ws, c4, c5, c6, c7, rfl, hl, hw⟩
    obtain ⟨rfl, hi⟩ := rangeD_get hd
    have hm : 2 ≤ many := hq4 (by omega)
    have hlen : ws.length < 16777216 := by omega
    have i0 := Int.emod_nonneg (b s) (by omega : many ≠ 0)
    have i1 := Int.emod_lt_of_pos (b s) (by omega : 0 < many)
    have j0 := Int.emod_nonneg (b (s + 1)) (by omega : many - 1 ≠ 0)
    have j1 := Int.emod_lt_of_pos (b (s + 1)) (by omega : 0 < many - 1)
    have k0 := Int.emod_nonneg (b (s + 2)) (by omega : 4 * period ≠ 0)
    have k1 := Int.emod_lt_of_pos (b (s + 2)) (by omega : 0 < 4 * period)
    have l0 := Int.emod_nonneg (b (s + 3)) (by omega : period ≠ 0)
    have l1 := Int.emod_lt_of_pos (b (s + 3)) (by omega : 0 < period)
    generalize hI : b s % many = I at i0 i1
    generalize hJ : b (s + 1) % (many - 1) = J at j0 j1
    generalize hK : b (s + 2) % (4 * period) = Kk at k0 k1
    generalize hL : b (s + 3) % period = L at l0 l1
    have hj : ∃ j, (I + 1 + J) % many = j ∧ 0 ≤ j ∧ j < many ∧ I ≠ j := by
      refine ⟨_, rfl, Int.emod_nonneg _ (by omega), Int.emod_lt_of_pos _ (by omega), ?_⟩
      by_cases h : I + 1 + J < many
      · rw [Int.emod_eq_of_lt (by omega) h]; omega
      · have e : (I + 1 + J) % many = I + 1 + J - many := by
          rw [← Int.sub_emod_right, Int.emod_eq_of_lt (by omega) (by omega)]
        rw [e]; omega
    obtain ⟨j, hj1, hj2, hj3, hj4⟩ := hj
    have o4 : mulOk 4 period = true := mulOk_r (by omega) (by omega)
    have o2 : mulOk 2 period = true := mulOk_r (by omega) (by omega)
    have t1 : f_law_take b [.obj, .int many] s = .ok (.int I) (s + 1) := by rw [law_take_eq (by omega), hI]
    have t2 : f_law_take b [.obj, .int (many - 1)] (s + 1) = .ok (.int J) (s + 2) := by rw [law_take_eq (by omega), hJ]
    have t3 : f_law_take b [.obj, .int (4 * period)] (s + 2) = .ok (.int Kk) (s + 3) := by rw [law_take_eq (by omega), hK]
    have t4 : f_law_take b [.obj, .int period] (s + 3) = .ok (.int L) (s + 4) := by rw [law_take_eq (by omega), hL]
    have hmp : 0 < many := by omega
    refine ⟨_, _, s + 4, rfl, .inl ?_, ws ++ [⟨I, j, Kk - 2 * period, Kk - 2 * period + L⟩], .v (.int (0 + (i : Nat))), .v (.int I), .v (.int j), .v (.int (Kk - 2 * period)), rfl, by rw [List.length_append, hl]; rfl, fun w hw' => ?_⟩
    · simp -implicitDefEqProofs [t1, t2, t3, t4, hj1, o4, o2, hmp, hlen, encW]
    · rcases List.mem_append.mp hw' with h | h
      · exact hw w h
      · rw [List.mem_singleton.mp h]
        refine ⟨?_, ?_, ?_⟩
        · unfold isW
          exact decide_eq_true ⟨i0, i1, hj2, hj3, hj4, by show Kk - 2 * period ≤ Kk - 2 * period + L; omega, by show Kk - 2 * period + L < Kk - 2 * period + period; omega⟩
        · show -100000 ≤ Kk - 2 * period; omega
        · show Kk - 2 * period ≤ 100000; omega)
  obtain ⟨ws, c4, c5, c6, c7, rfl, hl, hw⟩ := r2
  have hr : rgOk 0 q = true := rgOk_of (by omega) (by omega) (by omega) (by omega) (by omega)
  rw [rangeD_length] at hl
  refine ⟨ws, s2, ?_, by omega, hw⟩
  simp -implicitDefEqProofs [-e_mIf, f_law_windows, m_law_windows, hr, hq1, r1]
end
end K52
namespace K52
open PySem PySem.Spec L2 L3
theorem wAt_get {ws : List Win} {k : Nat} (h : k < ws.length) : ws[k]? = some (wAt ws k) := by
  unfold wAt
  rw [List.getElem?_eq_getElem h, List.getD_eq_getElem?_getD, List.getElem?_eq_getElem h]; rfl
theorem isW_mono {w : Win} {many p q : Int} (h : isW w many p = true) (hq : p ≤ q) : isW w many q = true := by
  unfold isW at h ⊢
  have h := of_decide_eq_true h
  exact decide_eq_true ⟨h.1, h.2.1, h.2.2.1, h.2.2.2.1, h.2.2.2.2.1, h.2.2.2.2.2.1, by have := h.2.2.2.2.2.2; omega⟩
theorem encP_tidy {many period : Int} {ws : List Win} (h : ws.length ≤ 16777216) : tidy 7 (encP many period ws) = true := by
  unfold encP
  rw [tidy]
  have hw : tidy 6 (.tup (ws.map encW)) = true := by
    rw [tidy, List.length_map, decide_eq_true h, Bool.true_and, tidys_all]
    intro d hd
    obtain ⟨w, _, rfl⟩ := List.mem_map.mp hd
    rfl
  show (decide (3 ≤ 16777216) && (tidy 6 (.int many) && (tidy 6 (.int period) && (tidy 6 (.tup (ws.map encW)) && true)))) = true
  rw [hw]
  rfl
theorem period_eq (b : Nat → Int) (many : Int) (n : Nat) : ∃ (q : Int) (n1 : Nat), (mSet 3 (mIf (mTest (mBin dGt (mCall 2 (f_law_take b) (mCons (mName 1) (mCons (mC (.int 9)) (mNil)))) (mC (.int 0)))) (mBin dAdd (mC (.int 1)) (mCall 2 (f_law_take b) (mCons (mName 1) (mCons (mC (.int 60)) (mNil))))) (mC (.int 1440)))) [.no, .v .obj, .v (.int many), .no, .no, .no, .no, .no, .no, .no, .no] n = .ok (.nx, [.no, .v .obj, .v (.int many), .v (.int q), .no, .no, .no, .no, .no, .no, .no]) n1 ∧ 1 ≤ q ∧ q ≤ 1440 := by
  by_cases h : 0 < b n % 9
  · exact ⟨1 + b (n + 1) % 60, n + 2, by simp -implicitDefEqProofs [dGt, law_take_eq, h], by omega, by omega⟩
  · exact ⟨1440, n + 1, by simp -implicitDefEqProofs [dGt, law_take_eq, h], by omega, by omega⟩
theorem period2_eq (b : Nat → Int) (many p : Int) (n : Nat) (h1 : 1 ≤ p) (h2 : p ≤ 1440) : ∃ (q : Int) (n1 : Nat), (mIfS (mAnd (mTest (mBin dLt (mLook 3) (mC (.int 1440)))) (mTest (mBin dEq (mCall 2 (f_law_take b) (mCons (mName 1) (mCons (mC (.int 6)) (mNil)))) (mC (.int 0))))) (mSet 3 (mBin dAdd (mC (.int 1)) (mCall 2 (f_law_take b) (mCons (mName 1) (mCons (mC (.int 2)) (mNil)))))) (mSkip)) [.no, .v .obj, .v (.int many), .v (.int p), .no, .no, .no, .no, .no, .no, .no] n = .ok (.nx, [.no, .v .obj, .v (.int many), .v (.int q), .no, .no, .no, .no, .no, .no, .no]) n1 ∧ 1 ≤ q ∧ q ≤ 1440 := by
  by_cases h : p < 1440
  · by_cases h3 : b n % 6 = 0
    · exact ⟨1 + b (n + 1) % 2, n + 2, by simp -implicitDefEqProofs [dLt, law_take_eq, h, h3], by omega, by omega⟩
    · exact ⟨p, n + 1, by simp -implicitDefEqProofs [dLt, law_take_eq, h, h3], by omega, by omega⟩
  · exact ⟨p, n, by simp -implicitDefEqProofs [dLt, law_take_eq, h], by omega, by omega⟩
theorem htrue (b : Nat → Int) : ∃ s', runV (m_law b (lawE 9) 0) = .ok (.bl true) s' := by
  unfold m_law
  generalize hmany : 1 + b 0 % 7 = many
  have m1 : 1 ≤ many := by omega
  have m2 : many ≤ 7 := by omega
  refine step_ok (e1 := [.no, .v .obj, .v (.int many), .no, .no, .no, .no, .no, .no, .no, .no]) (s1 := 1) (by simp -implicitDefEqProofs [lawE, law_take_eq, hmany]) ?_
  obtain ⟨p0, n0, s1, q1, q2⟩ := period_eq b many 1
  refine step_ok s1 ?_
  obtain ⟨period, n1, s2, p1, p2⟩ := period2_eq b many p0 n0 q1 q2
  refine step_ok s2 ?_
  have hmin : ∃ q, (if 200 < period then 200 else period) = q ∧ 1 ≤ q ∧ q ≤ 1440 ∧ q ≤ period := ⟨_, rfl, by split <;> omega, by split <;> omega, by split <;> omega⟩
  obtain ⟨q, hq, hq1, hq2, hq3⟩ := hmin
  obtain ⟨ws, n2, w1, w2, w3⟩ := windows_eq (many := many) (period := q) b n1 m1 (by omega) hq1 hq2
  have hw : ∀ w ∈ ws, isW w many period = true := fun w h => isW_mono (w3 w h).1 hq3
  have hlo : ∀ w ∈ ws, -100000 ≤ w.lo ∧ w.lo ≤ 100000 := fun w h => (w3 w h).2
  refine step_ok (e1 := [.no, .v .obj, .v (.int many), .v (.int period), .v (encP many period ws), .no, .no, .no, .no, .no, .no]) (s1 := n2) (by simp -implicitDefEqProofs [hq, w1, encP]) ?_
  obtain ⟨ts, n3, t1, t2⟩ := times_of_eq (many := many) (period := period) (ws := ws) b n2 m1 (by omega) p1 p2
  refine step_ok (e1 := [.no, .v .obj, .v (.int many), .v (.int period), .v (encP many period ws), .v (encT (0 :: ts)), .no, .no, .no, .no, .no]) (s1 := n3) (by simp -implicitDefEqProofs [t1]) ?_
  have mkO : ∀ ts : List Int, isT many period ts = true → Ok many period ws ts := fun ts h => by
    unfold isT at h
    rw [Bool.and_eq_true] at h
    exact ⟨p1, p2, m1, of_decide_eq_true h.1, by omega, hw⟩
  obtain ⟨n4, th⟩ := timetables_hold_eq (many := many) (period := period) (ws := ws) (ts := ts) b n3 m1 (by omega) p1 p2 t2
  have fh := forms_hold_eq (s := ()) m1 (by omega) p1 p2 (by omega) hw
  have sh := spans_hold_eq () (mkO _ t2) t2 hlo
  refine step_ok (e1 := [.no, .v .obj, .v (.int many), .v (.int period), .v (encP many period ws), .v (encT (0 :: ts)), .no, .no, .no, .no, .no]) (s1 := n4) (by simp -implicitDefEqProofs [th, fh, sh]) ?_
  obtain ⟨ts2, n5, t3, t4⟩ := times_of_eq (many := many) (period := period) (ws := ws) b n4 m1 (by omega) p1 p2
  have sh2 := spans_hold_eq () (mkO _ t4) t4 hlo
  refine step_ok (e1 := [.no, .v .obj, .v (.int many), .v (.int period), .v (encP many period ws), .v (encT (0 :: ts)), .no, .no, .no, .no, .no]) (s1 := n5) (by simp -implicitDefEqProofs [t3, sh2]) ?_
  have hr : rgOk 0 (ws.length : Nat) = true := rgOk_of (by omega) (by omega) (by omega) (by omega) (by omega)
  obtain ⟨pk, n6, l1⟩ := compL_pickN (g := gN 7) (mt := mTest (mBin dGt (mCall 2 (f_law_take b) (mCons (mName 1) (mCons (mC (.int 2)) (mNil)))) (mC (.int 0)))) (me := mName 7) (env := [.no, .v .obj, .v (.int many), .v (.int period), .v (encP many period ws), .v (encT (0 :: ts)), .no, .no, .no, .no, .no]) (fun k : Nat => D.int (0 + k)) (fun k => D.int (k : Nat)) (xs := List.range ws.length) n5 List.nodup_range fun k hk s =>
    ⟨_, decide (0 < b s % 2), s + 1, rfl, by simp -implicitDefEqProofs [dGt, law_take_eq], fun _ => by simp -implicitDefEqProofs⟩
  generalize hlot : (List.range ws.length).filter pk = lot at l1
  have lot1 : ∀ k ∈ lot, k < ws.length := fun k hk => by
    rw [← hlot] at hk
    exact List.mem_range.mp (List.mem_filter.mp hk).1
  have lotL : lot.length ≤ 8 := by
    have := List.length_filter_le pk (List.range ws.length)
    rw [hlot, List.length_range] at this
    omega
  refine step_ok (e1 := [.no, .v .obj, .v (.int many), .v (.int period), .v (encP many period ws), .v (encT (0 :: ts)), .v (.tup (nums lot)), .no, .no, .no, .no]) (s1 := n6) (by
    simp -implicitDefEqProofs only [encP, Int.zero_add] at l1
    simp -implicitDefEqProofs [encP, hr, rangeD_eq, l1, nums]) ?_
  generalize hrest : (List.range ws.length).filter (fun k => !decide (k ∈ lot)) = rest
  have r1 := compL_mapA (g := gN 7) (mt := mTest (mBin dNotIn (mLook 7) (mLook 6))) (me := mName 7) (env := [.no, .v .obj, .v (.int many), .v (.int period), .v (encP many period ws), .v (encT (0 :: ts)), .v (.tup (nums lot)), .no, .no, .no, .no]) (s := n6) (fun k : Nat => D.int (0 + k)) (fun k => !decide (k ∈ lot)) (fun k => D.int (k : Nat)) (xs := List.range ws.length) fun k hk => by
    refine ⟨_, rfl, ?_, fun _ => ?_⟩
    · simp -implicitDefEqProofs [dNotIn, dInB, flat_nums, inF_nums, flatD]
    · simp -implicitDefEqProofs
  rw [hrest] at r1
  refine step_ok (e1 := [.no, .v .obj, .v (.int many), .v (.int period), .v (encP many period ws), .v (encT (0 :: ts)), .v (.tup (nums lot)), .no, .v (.tup (nums rest)), .no, .no]) (s1 := n6) (by
    simp -implicitDefEqProofs only [encP, nums, Int.zero_add] at r1
    simp -implicitDefEqProofs [encP, hr, rangeD_eq, r1, nums]) ?_
  have d1 := compL_all (g := gN 7) (me := mBin dIx (mBin dIx (mLook 4) (mC (.int 2))) (mLook 7)) (env := [.no, .v .obj, .v (.int many), .v (.int period), .v (encP many period ws), .v (encT (0 :: ts)), .v (.tup (nums lot)), .no, .v (.tup (nums rest)), .no, .no]) (s := n6) (fun k : Nat => D.int k) (fun k => encW (wAt ws k)) (xs := lot) fun k hk => by
    refine ⟨_, rfl, ?_⟩
    simp -implicitDefEqProofs [encP, atI_k, wAt_get (lot1 k hk)]
  refine step_ok (e1 := [.no, .v .obj, .v (.int many), .v (.int period), .v (encP many period ws), .v (encT (0 :: ts)), .v (.tup (nums lot)), .no, .v (.tup (nums rest)), .v (encP many period (lot.map (wAt ws))), .no]) (s1 := n6) (by
    simp -implicitDefEqProofs only [encP, nums] at d1
    simp -implicitDefEqProofs [encP, nums, d1]) ?_
  refine step_ok (e1 := [.no, .v .obj, .v (.int many), .v (.int period), .v (encP many period ws), .v (encT (0 :: ts)), .v (.tup (nums lot)), .no, .v (.tup (nums rest)), .v (encP many period (lot.map (wAt ws))), .v (.tup ((ws.take 2).map encW))]) (s1 := n6) (by
    simp -implicitDefEqProofs [encP, cutD_2]) ?_
  have o1 := only_windows_eq (many := many) (period := period) (s := ()) lot1
  have o2 := without_windows_eq (many := many) (period := period) (ws := ws) (l := rest) (s := ())
  have hback : (List.range ws.length).filter (fun k => !decide (k ∈ rest)) = lot := by
    rw [← hlot]
    refine List.filter_congr fun k hk => ?_
    rw [← hrest, ← hlot]
    simp only [List.mem_filter, hk, true_and]
    cases pk k <;> simp
  rw [hback] at o2
  have s4 := law_same_eq 7 _ (encP_tidy (many := many) (period := period) (ws := lot.map (wAt ws)) (by rw [List.length_map]; omega)) ()
  refine step_ok (e1 := [.no, .v .obj, .v (.int many), .v (.int period), .v (encP many period ws), .v (encT (0 :: ts)), .v (.tup (nums lot)), .no, .v (.tup (nums rest)), .v (encP many period (lot.map (wAt ws))), .v (.tup ((ws.take 2).map encW))]) (s1 := n6) (by
    simp -implicitDefEqProofs [o1, o2, s4]) ?_
  have htk : (ws.take 2).length ≤ 8 := by rw [List.length_take]; omega
  have o3 := with_windows_eq (many := many) (period := period) (ws := ws) (us := ws.take 2) (s := ()) (by omega)
  have s5 := law_same_eq 7 _ (encP_tidy (many := many) (period := period) (ws := ws ++ ws.take 2) (by rw [List.length_append]; omega)) ()
  refine ⟨n6, ?_⟩
  have hl9 : ws.length + (ws.take 2).length ≤ 16777216 := by omega
  simp -implicitDefEqProofs only [encP, List.map_append, List.map_take] at o3 s5
  simp -implicitDefEqProofs [encP, o3, s5]
  omega
end K52
namespace K52
open PySem PySem.Spec L2 L3
def top (i : Nat) : Stmt := PySem.Challenge.pw_dayholds_k52_whole_patterns_told_by_form.main.body.getD i (.Pass ⟨0, 0, 0, 0⟩)
structure Tx (K : PySem.W.Frag) (mg : Str → Option Value) : Prop where
  f_is_window : HasF K mg "is_window" (top 4)
  f_is_pattern : HasF K mg "is_pattern" (top 5)
  f_is_timetable : HasF K mg "is_timetable" (top 6)
  f_span_of : HasF K mg "span_of" (top 7)
  f_slack_of : HasF K mg "slack_of" (top 8)
  f_turn_of : HasF K mg "turn_of" (top 9)
  f_slacks_of : HasF K mg "slacks_of" (top 10)
  f_turns_of : HasF K mg "turns_of" (top 11)
  f_keeps_window : HasF K mg "keeps_window" (top 12)
  f_broken_windows : HasF K mg "broken_windows" (top 13)
  f_keeps_pattern : HasF K mg "keeps_pattern" (top 14)
  f_with_windows : HasF K mg "with_windows" (top 15)
  f_without_windows : HasF K mg "without_windows" (top 16)
  f_only_windows : HasF K mg "only_windows" (top 17)
  f_wrapped : HasF K mg "wrapped" (top 18)
  f_law_deal : HasF K mg "_law_deal" (top 20)
  f_law_take : HasF K mg "_law_take" (top 21)
  f_law_same : HasF K mg "_law_same" (top 22)
  f_law_bool : HasF K mg "_law_bool" (top 23)
  f_law_forms_hold : HasF K mg "_law_forms_hold" (top 24)
  f_law_times_of : HasF K mg "_law_times_of" (top 25)
  f_law_timetables_hold : HasF K mg "_law_timetables_hold" (top 26)
  f_law_spans_hold : HasF K mg "_law_spans_hold" (top 27)
  f_law_windows : HasF K mg "_law_windows" (top 28)
  f_law : HasF K mg "law" (top 29)
  g_MOST_MOMENTS : ∃ t, mg "MOST_MOMENTS" = some (.int 24 t)
  g_MOST_WINDOWS : ∃ t, mg "MOST_WINDOWS" = some (.int 60 t)
  g_MOST_PERIOD : ∃ t, mg "MOST_PERIOD" = some (.int 1440 t)
  abs_ : mg "abs" = none
  bool_ : mg "bool" = none
  enumerate_ : mg "enumerate" = none
  int_ : mg "int" = none
  isinstance_ : mg "isinstance" = none
  len_ : mg "len" = none
  list_ : mg "list" = none
  max_ : mg "max" = none
  min_ : mg "min" = none
  range_ : mg "range" = none
  str_ : mg "str" = none
  sum_ : mg "sum" = none
  tuple_ : mg "tuple" = none
section
variable {P : Program} {w : World} {K : PySem.W.Frag} {mg : Str → Option Value} {base : Heap} {b : Nat → Int}
theorem sc_is_window : FnScope ["window", "many", "period", "i", "j", "low", "high"] ["window", "many", "period"] (defScope (top 4)) := ⟨rfl, rfl, rfl, by decide +kernel, rfl, by decide +kernel, by decide +kernel⟩
theorem ok_is_window (T : Tx K mg)  : Fn P w K mg base 1 "is_window" ["window", "many", "period"] (spV KU 3 (f_is_window)) := by
  obtain ⟨f, fd, F, hm⟩ := T.f_is_window
  have sc := sc_is_window
  refine fnV (k := 0) F hm sc (fun _ _ _ _ _ _ us hl => match us, hl with | [_, _, _], _ => rfl) rfl fun cdv A outer s H E hr F' hK => ?_
  exact dss_cons (ds_asg (de_name 0) (dg_tup (dgs_cons (dg_name 3 sc.nd) (dgs_cons (dg_name 4 sc.nd) (dgs_cons (dg_name 5 sc.nd) (dgs_cons (dg_name 6 sc.nd) (dgs_nil))))) (takes1_ (takes1_ (takes1_ (takes1_ takes0_)))))) (dss_one (ds_ret (de_and (de_chain ci_le ci_lt (dv_of (de_int)) (dv_name 3) (dv_name 1)) (de_and (de_chain ci_le ci_lt (dv_of (de_int)) (dv_name 4) (dv_name 1)) (de_and (de_ne hr (dv_name 3) (dv_name 4)) (de_one (de_chain ci_le ci_lt (dv_name 5) (dv_name 6) (dv_of (de_add (dv_name 5) (dv_name 2))))))))))
theorem sc_is_pattern : FnScope ["pattern", "many", "period", "windows", "window"] ["pattern"] (defScope (top 5)) := ⟨rfl, rfl, rfl, by decide +kernel, rfl, by decide +kernel, by decide +kernel⟩
theorem ok_is_pattern (T : Tx K mg) (G_is_window : Fn P w K mg base 1 "is_window" ["window", "many", "period"] (spV KU 3 f_is_window)) : Fn P w K mg base 2 "is_pattern" ["pattern"] (spV KU 1 (f_is_pattern)) := by
  obtain ⟨f, fd, F, hm⟩ := T.f_is_pattern
  have sc := sc_is_pattern
  refine fnV (k := 1) F hm sc (fun _ _ _ _ _ _ us hl => match us, hl with | [_], _ => rfl) rfl fun cdv A outer s H E hr F' hK => ?_
  exact dss_cons (ds_asg (de_name 0) (dg_tup (dgs_cons (dg_name 1 sc.nd) (dgs_cons (dg_name 2 sc.nd) (dgs_cons (dg_name 3 sc.nd) (dgs_nil)))) (takes1_ (takes1_ (takes1_ takes0_))))) (dss_cons (ds_if (dt_w (dw_or (dt_not (dt_chain ci_le ci_le (dv_of (de_int)) (dv_name 1) (dv_of (de_gInt T.g_MOST_MOMENTS)))) (dw_or (dt_not (dt_chain ci_le ci_le (dv_of (de_int)) (dv_name 2) (dv_of (de_gInt T.g_MOST_PERIOD)))) (dw_or1 (dt_gt (dv_of (de_len T.len_ (dv_name 3))) (dv_of (de_gInt T.g_MOST_WINDOWS))))))) (dss_one (ds_ret (de_bl))) (dss_nil)) (dss_one (ds_ret (de_eq hr (dv_of (de_len T.len_ (dv_of (de_of_df (df_comp (own := [("window", 4)]) sc.nd (dj_seq (dv_name 3)) (blkOk_by (by kernel_rfl)) (fun _ _ _ _ _ => dg_name 4 sc.nd) (fun _ _ _ _ _ => dts_one (dt_not (dt_val (de_callP G_is_window (hr.mono (by decide)) (da_cons (de_name 4) (da_cons (de_name 1) (da_cons (de_name 2) (da_nil)))))))) (fun _ _ _ _ _ => de_int)))))) (dv_of (de_int))))))
theorem sc_is_timetable : FnScope ["pattern", "times", "t"] ["pattern", "times"] (defScope (top 6)) := ⟨rfl, rfl, rfl, by decide +kernel, rfl, by decide +kernel, by decide +kernel⟩
theorem ok_is_timetable (T : Tx K mg)  : Fn P w K mg base 1 "is_timetable" ["pattern", "times"] (spV KU 2 (f_is_timetable)) := by
  obtain ⟨f, fd, F, hm⟩ := T.f_is_timetable
  have sc := sc_is_timetable
  refine fnV (k := 0) F hm sc (fun _ _ _ _ _ _ us hl => match us, hl with | [_, _], _ => rfl) rfl fun cdv A outer s H E hr F' hK => ?_
  exact dss_cons (ds_if (dt_w (dw_or (dt_ne hr (dv_of (de_len T.len_ (dv_name 1))) (dv_of (de_ix (dv_name 0) (dv_of (de_int))))) (dw_or1 (dt_ne hr (dv_of (de_ix (dv_name 1) (dv_of (de_int)))) (dv_of (de_int)))))) (dss_one (ds_ret (de_bl))) (dss_nil)) (dss_one (ds_ret (de_eq hr (dv_of (de_len T.len_ (dv_of (de_of_df (df_comp (own := [("t", 2)]) sc.nd (dj_seq (dv_name 1)) (blkOk_by (by kernel_rfl)) (fun _ _ _ _ _ => dg_name 2 sc.nd) (fun _ _ _ _ _ => dts_one (dt_not (dt_chain ci_le ci_lt (dv_of (de_int)) (dv_name 2) (dv_of (de_ix (dv_name 0) (dv_of (de_int))))))) (fun _ _ _ _ _ => de_int)))))) (dv_of (de_int)))))
theorem sc_span_of : FnScope ["pattern", "times", "k", "i", "j", "low", "_"] ["pattern", "times", "k"] (defScope (top 7)) := ⟨rfl, rfl, rfl, by decide +kernel, rfl, by decide +kernel, by decide +kernel⟩
theorem ok_span_of (T : Tx K mg)  : Fn P w K mg base 1 "span_of" ["pattern", "times", "k"] (spV KU 3 (f_span_of)) := by
  obtain ⟨f, fd, F, hm⟩ := T.f_span_of
  have sc := sc_span_of
  refine fnV (k := 0) F hm sc (fun _ _ _ _ _ _ us hl => match us, hl with | [_, _, _], _ => rfl) rfl fun cdv A outer s H E hr F' hK => ?_
  exact dss_cons (ds_asg (de_ix (dv_of (de_ix (dv_name 0) (dv_of (de_int)))) (dv_name 2)) (dg_tup (dgs_cons (dg_name 3 sc.nd) (dgs_cons (dg_name 4 sc.nd) (dgs_cons (dg_name 5 sc.nd) (dgs_cons (dg_name 6 sc.nd) (dgs_nil))))) (takes1_ (takes1_ (takes1_ (takes1_ takes0_)))))) (dss_one (ds_ret (de_add (dv_name 5) (dv_of (de_mod (dv_of (de_int1 T.int_ (dv_of (de_sub (dv_of (de_sub (dv_of (de_ix (dv_name 1) (dv_name 4))) (dv_of (de_ix (dv_name 1) (dv_name 3))))) (dv_name 5))))) (dv_of (de_ix (dv_name 0) (dv_of (de_int)))))))))
theorem sc_slack_of : FnScope ["pattern", "times", "k"] ["pattern", "times", "k"] (defScope (top 8)) := ⟨rfl, rfl, rfl, by decide +kernel, rfl, by decide +kernel, by decide +kernel⟩
theorem ok_slack_of (T : Tx K mg) (G_span_of : Fn P w K mg base 1 "span_of" ["pattern", "times", "k"] (spV KU 3 f_span_of)) : Fn P w K mg base 2 "slack_of" ["pattern", "times", "k"] (spV KU 3 (f_slack_of)) := by
  obtain ⟨f, fd, F, hm⟩ := T.f_slack_of
  have sc := sc_slack_of
  refine fnV (k := 1) F hm sc (fun _ _ _ _ _ _ us hl => match us, hl with | [_, _, _], _ => rfl) rfl fun cdv A outer s H E hr F' hK => ?_
  exact dss_one (ds_ret (de_sub (dv_of (de_callP G_span_of (hr.mono (by decide)) (da_cons (de_name 0) (da_cons (de_name 1) (da_cons (de_name 2) (da_nil)))))) (dv_of (de_ix (dv_of (de_ix (dv_of (de_ix (dv_name 0) (dv_of (de_int)))) (dv_name 2))) (dv_of (de_int))))))
theorem sc_turn_of : FnScope ["pattern", "times", "k", "i", "j"] ["pattern", "times", "k"] (defScope (top 9)) := ⟨rfl, rfl, rfl, by decide +kernel, rfl, by decide +kernel, by decide +kernel⟩
theorem ok_turn_of (T : Tx K mg) (G_span_of : Fn P w K mg base 1 "span_of" ["pattern", "times", "k"] (spV KU 3 f_span_of)) : Fn P w K mg base 2 "turn_of" ["pattern", "times", "k"] (spV KU 3 (f_turn_of)) := by
  obtain ⟨f, fd, F, hm⟩ := T.f_turn_of
  have sc := sc_turn_of
  refine fnV (k := 1) F hm sc (fun _ _ _ _ _ _ us hl => match us, hl with | [_, _, _], _ => rfl) rfl fun cdv A outer s H E hr F' hK => ?_
  exact dss_cons (ds_asg (de_cut (dv_of (de_ix (dv_of (de_ix (dv_name 0) (dv_of (de_int)))) (dv_name 2))) (do_none) (do_some (dv_of (de_int)))) (dg_tup (dgs_cons (dg_name 3 sc.nd) (dgs_cons (dg_name 4 sc.nd) (dgs_nil))) (takes1_ (takes1_ takes0_)))) (dss_one (ds_ret (de_div (dv_of (de_sub (dv_of (de_add (dv_of (de_ix (dv_name 1) (dv_name 3))) (dv_of (de_callP G_span_of (hr.mono (by decide)) (da_cons (de_name 0) (da_cons (de_name 1) (da_cons (de_name 2) (da_nil)))))))) (dv_of (de_ix (dv_name 1) (dv_name 4))))) (dv_of (de_ix (dv_name 0) (dv_of (de_int)))))))
theorem sc_slacks_of : FnScope ["pattern", "times", "k"] ["pattern", "times"] (defScope (top 10)) := ⟨rfl, rfl, rfl, by decide +kernel, rfl, by decide +kernel, by decide +kernel⟩
theorem ok_slacks_of (T : Tx K mg) (G_slack_of : Fn P w K mg base 2 "slack_of" ["pattern", "times", "k"] (spV KU 3 f_slack_of)) : Fn P w K mg base 3 "slacks_of" ["pattern", "times"] (spV KU 2 (f_slacks_of)) := by
  obtain ⟨f, fd, F, hm⟩ := T.f_slacks_of
  have sc := sc_slacks_of
  refine fnV (k := 2) F hm sc (fun _ _ _ _ _ _ us hl => match us, hl with | [_, _], _ => rfl) rfl fun cdv A outer s H E hr F' hK => ?_
  exact dss_one (ds_ret (de_tuple T.tuple_ (dv_of (de_of_df (df_comp (own := [("k", 2)]) sc.nd (dj_of (di_range1 T.range_ (dv_of (de_len T.len_ (dv_of (de_ix (dv_name 0) (dv_of (de_int)))))))) (blkOk_by (by kernel_rfl)) (fun _ _ _ _ _ => dg_name 2 sc.nd) (fun _ _ _ _ _ => dts_nil) (fun _ _ _ _ _ => de_callP G_slack_of (hr.mono (by decide)) (da_cons (de_name 0) (da_cons (de_name 1) (da_cons (de_name 2) (da_nil))))))))))
theorem sc_turns_of : FnScope ["pattern", "times", "k"] ["pattern", "times"] (defScope (top 11)) := ⟨rfl, rfl, rfl, by decide +kernel, rfl, by decide +kernel, by decide +kernel⟩
theorem ok_turns_of (T : Tx K mg) (G_turn_of : Fn P w K mg base 2 "turn_of" ["pattern", "times", "k"] (spV KU 3 f_turn_of)) : Fn P w K mg base 3 "turns_of" ["pattern", "times"] (spV KU 2 (f_turns_of)) := by
  obtain ⟨f, fd, F, hm⟩ := T.f_turns_of
  have sc := sc_turns_of
  refine fnV (k := 2) F hm sc (fun _ _ _ _ _ _ us hl => match us, hl with | [_, _], _ => rfl) rfl fun cdv A outer s H E hr F' hK => ?_
  exact dss_one (ds_ret (de_tuple T.tuple_ (dv_of (de_of_df (df_comp (own := [("k", 2)]) sc.nd (dj_of (di_range1 T.range_ (dv_of (de_len T.len_ (dv_of (de_ix (dv_name 0) (dv_of (de_int)))))))) (blkOk_by (by kernel_rfl)) (fun _ _ _ _ _ => dg_name 2 sc.nd) (fun _ _ _ _ _ => dts_nil) (fun _ _ _ _ _ => de_callP G_turn_of (hr.mono (by decide)) (da_cons (de_name 0) (da_cons (de_name 1) (da_cons (de_name 2) (da_nil))))))))))
theorem sc_keeps_window : FnScope ["pattern", "times", "k"] ["pattern", "times", "k"] (defScope (top 12)) := ⟨rfl, rfl, rfl, by decide +kernel, rfl, by decide +kernel, by decide +kernel⟩
theorem ok_keeps_window (T : Tx K mg) (G_span_of : Fn P w K mg base 1 "span_of" ["pattern", "times", "k"] (spV KU 3 f_span_of)) : Fn P w K mg base 2 "keeps_window" ["pattern", "times", "k"] (spV KU 3 (f_keeps_window)) := by
  obtain ⟨f, fd, F, hm⟩ := T.f_keeps_window
  have sc := sc_keeps_window
  refine fnV (k := 1) F hm sc (fun _ _ _ _ _ _ us hl => match us, hl with | [_, _, _], _ => rfl) rfl fun cdv A outer s H E hr F' hK => ?_
  exact dss_one (ds_ret (de_le (dv_of (de_callP G_span_of (hr.mono (by decide)) (da_cons (de_name 0) (da_cons (de_name 1) (da_cons (de_name 2) (da_nil)))))) (dv_of (de_ix (dv_of (de_ix (dv_of (de_ix (dv_name 0) (dv_of (de_int)))) (dv_name 2))) (dv_of (de_int))))))
theorem sc_broken_windows : FnScope ["pattern", "times", "k"] ["pattern", "times"] (defScope (top 13)) := ⟨rfl, rfl, rfl, by decide +kernel, rfl, by decide +kernel, by decide +kernel⟩
theorem ok_broken_windows (T : Tx K mg) (G_keeps_window : Fn P w K mg base 2 "keeps_window" ["pattern", "times", "k"] (spV KU 3 f_keeps_window)) : Fn P w K mg base 3 "broken_windows" ["pattern", "times"] (spV KU 2 (f_broken_windows)) := by
  obtain ⟨f, fd, F, hm⟩ := T.f_broken_windows
  have sc := sc_broken_windows
  refine fnV (k := 2) F hm sc (fun _ _ _ _ _ _ us hl => match us, hl with | [_, _], _ => rfl) rfl fun cdv A outer s H E hr F' hK => ?_
  exact dss_one (ds_ret (de_of_df (df_comp (own := [("k", 2)]) sc.nd (dj_of (di_range1 T.range_ (dv_of (de_len T.len_ (dv_of (de_ix (dv_name 0) (dv_of (de_int)))))))) (blkOk_by (by kernel_rfl)) (fun _ _ _ _ _ => dg_name 2 sc.nd) (fun _ _ _ _ _ => dts_one (dt_not (dt_val (de_callP G_keeps_window (hr.mono (by decide)) (da_cons (de_name 0) (da_cons (de_name 1) (da_cons (de_name 2) (da_nil)))))))) (fun _ _ _ _ _ => de_name 2))))
theorem sc_keeps_pattern : FnScope ["pattern", "times"] ["pattern", "times"] (defScope (top 14)) := ⟨rfl, rfl, rfl, by decide +kernel, rfl, by decide +kernel, by decide +kernel⟩
theorem ok_keeps_pattern (T : Tx K mg) (G_is_timetable : Fn P w K mg base 1 "is_timetable" ["pattern", "times"] (spV KU 2 f_is_timetable)) (G_broken_windows : Fn P w K mg base 3 "broken_windows" ["pattern", "times"] (spV KU 2 f_broken_windows)) : Fn P w K mg base 4 "keeps_pattern" ["pattern", "times"] (spV KU 2 (f_keeps_pattern)) := by
  obtain ⟨f, fd, F, hm⟩ := T.f_keeps_pattern
  have sc := sc_keeps_pattern
  refine fnV (k := 3) F hm sc (fun _ _ _ _ _ _ us hl => match us, hl with | [_, _], _ => rfl) rfl fun cdv A outer s H E hr F' hK => ?_
  exact dss_one (ds_ret (de_and (de_callP G_is_timetable (hr.mono (by decide)) (da_cons (de_name 0) (da_cons (de_name 1) (da_nil)))) (de_one (de_eq hr (dv_of (de_callP G_broken_windows (hr.mono (by decide)) (da_cons (de_name 0) (da_cons (de_name 1) (da_nil))))) (dv_of (de_of_df (df_lst (da_nil))))))))
theorem sc_with_windows : FnScope ["pattern", "windows"] ["pattern", "windows"] (defScope (top 15)) := ⟨rfl, rfl, rfl, by decide +kernel, rfl, by decide +kernel, by decide +kernel⟩
theorem ok_with_windows (T : Tx K mg)  : Fn P w K mg base 1 "with_windows" ["pattern", "windows"] (spV KU 2 (f_with_windows)) := by
  obtain ⟨f, fd, F, hm⟩ := T.f_with_windows
  have sc := sc_with_windows
  refine fnV (k := 0) F hm sc (fun _ _ _ _ _ _ us hl => match us, hl with | [_, _], _ => rfl) rfl fun cdv A outer s H E hr F' hK => ?_
  exact dss_one (ds_ret (de_tup (da_cons (de_ix (dv_name 0) (dv_of (de_int))) (da_cons (de_ix (dv_name 0) (dv_of (de_int))) (da_cons (de_add (dv_of (de_ix (dv_name 0) (dv_of (de_int)))) (dv_of (de_tuple T.tuple_ (dv_name 1)))) (da_nil))))))
theorem sc_without_windows : FnScope ["pattern", "lost", "k", "window"] ["pattern", "lost"] (defScope (top 16)) := ⟨rfl, rfl, rfl, by decide +kernel, rfl, by decide +kernel, by decide +kernel⟩
theorem ok_without_windows (T : Tx K mg)  : Fn P w K mg base 1 "without_windows" ["pattern", "lost"] (spV KU 2 (f_without_windows)) := by
  obtain ⟨f, fd, F, hm⟩ := T.f_without_windows
  have sc := sc_without_windows
  refine fnV (k := 0) F hm sc (fun _ _ _ _ _ _ us hl => match us, hl with | [_, _], _ => rfl) rfl fun cdv A outer s H E hr F' hK => ?_
  exact dss_one (ds_ret (de_tup (da_cons (de_ix (dv_name 0) (dv_of (de_int))) (da_cons (de_ix (dv_name 0) (dv_of (de_int))) (da_cons (de_tuple T.tuple_ (dv_of (de_of_df (df_comp (own := [("k", 2), ("window", 3)]) sc.nd (dj_enum T.enumerate_ (dv_of (de_ix (dv_name 0) (dv_of (de_int))))) (blkOk_by (by kernel_rfl)) (fun _ _ _ _ _ => dg_tup (dgs_cons (dg_name 2 sc.nd) (dgs_cons (dg_name 3 sc.nd) (dgs_nil))) (takes1_ (takes1_ takes0_))) (fun _ _ _ _ _ => dts_one (dt_notin (dv_name 2) (dv_name 1))) (fun _ _ _ _ _ => de_name 3))))) (da_nil))))))
theorem sc_only_windows : FnScope ["pattern", "lot", "k"] ["pattern", "lot"] (defScope (top 17)) := ⟨rfl, rfl, rfl, by decide +kernel, rfl, by decide +kernel, by decide +kernel⟩
theorem ok_only_windows (T : Tx K mg)  : Fn P w K mg base 1 "only_windows" ["pattern", "lot"] (spV KU 2 (f_only_windows)) := by
  obtain ⟨f, fd, F, hm⟩ := T.f_only_windows
  have sc := sc_only_windows
  refine fnV (k := 0) F hm sc (fun _ _ _ _ _ _ us hl => match us, hl with | [_, _], _ => rfl) rfl fun cdv A outer s H E hr F' hK => ?_
  exact dss_one (ds_ret (de_tup (da_cons (de_ix (dv_name 0) (dv_of (de_int))) (da_cons (de_ix (dv_name 0) (dv_of (de_int))) (da_cons (de_tuple T.tuple_ (dv_of (de_of_df (df_comp (own := [("k", 2)]) sc.nd (dj_seq (dv_name 1)) (blkOk_by (by kernel_rfl)) (fun _ _ _ _ _ => dg_name 2 sc.nd) (fun _ _ _ _ _ => dts_nil) (fun _ _ _ _ _ => de_ix (dv_of (de_ix (dv_name 0) (dv_of (de_int)))) (dv_name 2)))))) (da_nil))))))
theorem sc_wrapped : FnScope ["times", "period", "t"] ["times", "period"] (defScope (top 18)) := ⟨rfl, rfl, rfl, by decide +kernel, rfl, by decide +kernel, by decide +kernel⟩
theorem ok_wrapped (T : Tx K mg)  : Fn P w K mg base 1 "wrapped" ["times", "period"] (spV KU 2 (f_wrapped)) := by
  obtain ⟨f, fd, F, hm⟩ := T.f_wrapped
  have sc := sc_wrapped
  refine fnV (k := 0) F hm sc (fun _ _ _ _ _ _ us hl => match us, hl with | [_, _], _ => rfl) rfl fun cdv A outer s H E hr F' hK => ?_
  exact dss_one (ds_ret (de_tuple T.tuple_ (dv_of (de_of_df (df_comp (own := [("t", 2)]) sc.nd (dj_seq (dv_name 0)) (blkOk_by (by kernel_rfl)) (fun _ _ _ _ _ => dg_name 2 sc.nd) (fun _ _ _ _ _ => dts_nil) (fun _ _ _ _ _ => de_mod (dv_of (de_int1 T.int_ (dv_of (de_sub (dv_name 2) (dv_of (de_ix (dv_name 0) (dv_of (de_int)))))))) (dv_name 1)))))))
theorem sc_law_same : FnScope ["a", "b", "k"] ["a", "b"] (defScope (top 22)) := ⟨rfl, rfl, rfl, by decide +kernel, rfl, by decide +kernel, by decide +kernel⟩
theorem ok_law_same (T : Tx K mg)  : ∀ n : Nat, Fn P w K mg base (1 + n) "_law_same" ["a", "b"] (spV KU 2 (f_law_same n))
  | 0 => by
    obtain ⟨f, fd, F, hm⟩ := T.f_law_same
    exact fnBad F hm (fun _ _ _ _ _ _ us hl => match us, hl with | [_, _], _ => rfl)
  | n + 1 => by
    have G_law_same := ok_law_same T  n
    obtain ⟨f, fd, F, hm⟩ := T.f_law_same
    have sc := sc_law_same
    refine fnV (k := 1 + n) F hm sc (fun _ _ _ _ _ _ us hl => match us, hl with | [_, _], _ => rfl) rfl fun cdv A outer s H E hr F' hK => ?_
    exact dss_cons (ds_if (dt_w (dw_or (dt_val (de_isi (T := "tuple") T.isinstance_ T.tuple_ (by decide +kernel) (dv_name 1))) (dw_or1 (dt_val (de_isi (T := "list") T.isinstance_ T.list_ (by decide +kernel) (dv_name 1)))))) (dss_cons (ds_if (dt_w (dw_or (dt_w (dw_and (dt_val (de_isi (T := "tuple") T.isinstance_ T.tuple_ (by decide +kernel) (dv_name 1))) (dw_and1 (dt_not (dt_val (de_isi (T := "tuple") T.isinstance_ T.tuple_ (by decide +kernel) (dv_name 0))))))) (dw_or1 (dt_w (dw_and (dt_val (de_isi (T := "list") T.isinstance_ T.list_ (by decide +kernel) (dv_name 1))) (dw_and1 (dt_not (dt_val (de_isi (T := "list") T.isinstance_ T.list_ (by decide +kernel) (dv_name 0)))))))))) (dss_one (ds_ret (de_bl))) (dss_nil)) (dss_cons (ds_if (dt_ne hr (dv_of (de_len T.len_ (dv_name 0))) (dv_of (de_len T.len_ (dv_name 1)))) (dss_one (ds_ret (de_bl))) (dss_nil)) (dss_cons (ds_for PassesOwn.never (di_range1 T.range_ (dv_of (de_len T.len_ (dv_name 1)))) (dg_name 2 sc.nd) (dss_one (ds_if (dt_not (dt_val (de_callP G_law_same (hr.mono (by omega)) (da_cons (de_ix (dv_name 0) (dv_name 2)) (da_cons (de_ix (dv_name 1) (dv_name 2)) (da_nil)))))) (dss_one (ds_ret (de_bl))) (dss_nil)))) (dss_one (ds_ret (de_bl)))))) (dss_nil)) (dss_cons (ds_if (dt_w (dw_or (dt_val (de_isi (T := "bool") T.isinstance_ T.bool_ (by decide +kernel) (dv_name 0))) (dw_or1 (dt_val (de_isi (T := "bool") T.isinstance_ T.bool_ (by decide +kernel) (dv_name 1)))))) (dss_one (ds_ret (de_and (de_isi (T := "bool") T.isinstance_ T.bool_ (by decide +kernel) (dv_name 0)) (de_and (de_isi (T := "bool") T.isinstance_ T.bool_ (by decide +kernel) (dv_name 1)) (de_one (de_eq hr (dv_name 0) (dv_name 1))))))) (dss_nil)) (dss_cons (ds_if (dt_val (de_isi (T := "int") T.isinstance_ T.int_ (by decide +kernel) (dv_name 1))) (dss_one (ds_ret (de_and (de_isi (T := "int") T.isinstance_ T.int_ (by decide +kernel) (dv_name 0)) (de_one (de_eq hr (dv_name 0) (dv_name 1)))))) (dss_nil)) (dss_cons (ds_if (dt_val (de_isi (T := "str") T.isinstance_ T.str_ (by decide +kernel) (dv_name 1))) (dss_one (ds_ret (de_and (de_isi (T := "str") T.isinstance_ T.str_ (by decide +kernel) (dv_name 0)) (de_one (de_eq hr (dv_name 0) (dv_name 1)))))) (dss_nil)) (dss_one (ds_ret (de_and (de_is (dv_name 0) (dv_of (de_non))) (de_one (de_is (dv_name 1) (dv_of (de_non))))))))))
theorem sc_law_bool : FnScope ["answer", "due"] ["answer", "due"] (defScope (top 23)) := ⟨rfl, rfl, rfl, by decide +kernel, rfl, by decide +kernel, by decide +kernel⟩
theorem ok_law_bool (T : Tx K mg)  : Fn P w K mg base 1 "_law_bool" ["answer", "due"] (spV KU 2 (f_law_bool)) := by
  obtain ⟨f, fd, F, hm⟩ := T.f_law_bool
  have sc := sc_law_bool
  refine fnV (k := 0) F hm sc (fun _ _ _ _ _ _ us hl => match us, hl with | [_, _], _ => rfl) rfl fun cdv A outer s H E hr F' hK => ?_
  exact dss_one (ds_ret (de_and (de_isi (T := "bool") T.isinstance_ T.bool_ (by decide +kernel) (dv_name 0)) (de_one (de_eq hr (dv_name 0) (dv_name 1)))))
theorem sc_law_forms_hold : FnScope ["pattern", "many", "period", "windows", "big", "good", "odds", "odd"] ["pattern"] (defScope (top 24)) := ⟨rfl, rfl, rfl, by decide +kernel, rfl, by decide +kernel, by decide +kernel⟩
theorem ok_law_forms_hold (T : Tx K mg) (G_law_bool : Fn P w K mg base 1 "_law_bool" ["answer", "due"] (spV KU 2 f_law_bool)) (G_is_pattern : Fn P w K mg base 2 "is_pattern" ["pattern"] (spV KU 1 f_is_pattern)) : Fn P w K mg base 3 "_law_forms_hold" ["pattern"] (spV KU 1 (f_law_forms_hold)) := by
  obtain ⟨f, fd, F, hm⟩ := T.f_law_forms_hold
  have sc := sc_law_forms_hold
  refine fnV (k := 2) F hm sc (fun _ _ _ _ _ _ us hl => match us, hl with | [_], _ => rfl) rfl fun cdv A outer s H E hr F' hK => ?_
  exact dss_cons (ds_asg (de_name 0) (dg_tup (dgs_cons (dg_name 1 sc.nd) (dgs_cons (dg_name 2 sc.nd) (dgs_cons (dg_name 3 sc.nd) (dgs_nil)))) (takes1_ (takes1_ (takes1_ takes0_))))) (dss_cons (ds_set 4 sc.nd (de_tup (da_cons (de_int) (da_cons (de_int) (da_cons (de_mul (dv_of (de_tup (da_cons (de_tup (da_cons (de_int) (da_cons (de_int) (da_cons (de_neg (dv_of (de_int))) (da_cons (de_int) (da_nil)))))) (da_nil)))) (dv_of (de_int))) (da_nil)))))) (dss_cons (ds_for PassesOwn.never (di_seq (de_of_df (df_lst (da_cons (de_name 0) (da_cons (de_tup (da_cons (de_int) (da_cons (de_int) (da_cons (de_tup (da_nil)) (da_nil))))) (da_cons (de_name 4) (da_cons (de_tup (da_cons (de_int) (da_cons (de_int) (da_cons (de_tup (da_cons (de_tup (da_cons (de_int) (da_cons (de_int) (da_cons (de_int) (da_cons (de_int) (da_nil)))))) (da_cons (de_tup (da_cons (de_int) (da_cons (de_int) (da_cons (de_neg (dv_of (de_int))) (da_cons (de_neg (dv_of (de_int))) (da_nil)))))) (da_nil)))) (da_nil))))) (da_nil)))))))) (dg_name 5 sc.nd) (dss_one (ds_if (dt_not (dt_val (de_callP G_law_bool (hr.mono (by decide)) (da_cons (de_callP G_is_pattern (hr.mono (by decide)) (da_cons (de_name 5) (da_nil))) (da_cons (de_bl) (da_nil)))))) (dss_one (ds_ret (de_bl))) (dss_nil)))) (dss_cons (ds_setO 6 sc.nd (df_lst (da_cons (de_tup (da_cons (de_int) (da_cons (de_name 2) (da_cons (de_tup (da_nil)) (da_nil))))) (da_cons (de_tup (da_cons (de_int) (da_cons (de_name 2) (da_cons (de_tup (da_nil)) (da_nil))))) (da_cons (de_tup (da_cons (de_name 1) (da_cons (de_int) (da_cons (de_tup (da_nil)) (da_nil))))) (da_cons (de_tup (da_cons (de_name 1) (da_cons (de_int) (da_cons (de_tup (da_nil)) (da_nil))))) (da_cons (de_tup (da_cons (de_int) (da_cons (de_int) (da_cons (de_mul (dv_of (de_tup (da_cons (de_tup (da_cons (de_int) (da_cons (de_int) (da_cons (de_neg (dv_of (de_int))) (da_cons (de_int) (da_nil)))))) (da_nil)))) (dv_of (de_int))) (da_nil))))) (da_nil)))))))) (dss_cons (ds_for PassesOwn.never (di_seq (de_of_df (df_lst (da_cons (de_tup (da_cons (de_name 1) (da_cons (de_int) (da_cons (de_int) (da_cons (de_int) (da_nil)))))) (da_cons (de_tup (da_cons (de_neg (dv_of (de_int))) (da_cons (de_int) (da_cons (de_int) (da_cons (de_int) (da_nil)))))) (da_cons (de_tup (da_cons (de_int) (da_cons (de_int) (da_cons (de_int) (da_cons (de_int) (da_nil)))))) (da_cons (de_tup (da_cons (de_int) (da_cons (de_int) (da_cons (de_int) (da_cons (de_int) (da_nil)))))) (da_cons (de_tup (da_cons (de_int) (da_cons (de_int) (da_cons (de_int) (da_cons (de_add (dv_of (de_int)) (dv_name 2)) (da_nil)))))) (da_cons (de_tup (da_cons (de_int) (da_cons (de_int) (da_cons (de_int) (da_cons (de_int) (da_nil)))))) (da_nil)))))))))) (dg_name 7 sc.nd) (dss_one (ds_append 6 (de_tup (da_cons (de_max2 T.max_ (dv_of (de_int)) (dv_name 1)) (da_cons (de_name 2) (da_cons (de_add (dv_name 3) (dv_of (de_tup (da_cons (de_if (dt_ne hr (dv_of (de_ix (dv_name 7) (dv_of (de_int)))) (dv_name 1)) (de_name 7) (de_tup (da_cons (de_max2 T.max_ (dv_of (de_int)) (dv_name 1)) (da_cons (de_int) (da_cons (de_int) (da_cons (de_int) (da_nil))))))) (da_nil))))) (da_nil)))))))) (dss_one (ds_ret (de_eq hr (dv_of (de_len T.len_ (dv_of (de_of_df (df_comp (own := [("odd", 7)]) sc.nd (dj_seq (dv_name 6)) (blkOk_by (by kernel_rfl)) (fun _ _ _ _ _ => dg_name 7 sc.nd) (fun _ _ _ _ _ => dts_one (dt_not (dt_val (de_callP G_law_bool (hr.mono (by decide)) (da_cons (de_callP G_is_pattern (hr.mono (by decide)) (da_cons (de_name 7) (da_nil))) (da_cons (de_bl) (da_nil))))))) (fun _ _ _ _ _ => de_int)))))) (dv_of (de_int)))))))))
theorem sc_law_times_of : FnScope ["deal", "pattern", "by", "k"] ["deal", "pattern"] (defScope (top 25)) := ⟨rfl, rfl, rfl, by decide +kernel, rfl, by decide +kernel, by decide +kernel⟩
theorem ok_law_times_of (T : Tx K mg) (G_law_take : Fn P w K mg base 1 "_law_take" ["deal", "many"] (spV (KD b) 2 (f_law_take b))) : Fn P w K mg base 2 "_law_times_of" ["deal", "pattern"] (spV (KD b) 2 (f_law_times_of b)) := by
  obtain ⟨f, fd, F, hm⟩ := T.f_law_times_of
  have sc := sc_law_times_of
  refine fnV (k := 1) F hm sc (fun _ _ _ _ _ _ us hl => match us, hl with | [_, _], _ => rfl) rfl fun cdv A outer s H E hr F' hK => ?_
  exact dss_cons (ds_set 2 sc.nd (de_add (dv_of (de_int)) (dv_of (de_div (dv_of (de_ix (dv_name 1) (dv_of (de_int)))) (dv_of (de_int)))))) (dss_one (ds_ret (de_add (dv_of (de_tup (da_cons (de_int) (da_nil)))) (dv_of (de_tuple T.tuple_ (dv_of (de_of_df (df_comp (own := [("k", 3)]) sc.nd (dj_of (di_range2 T.range_ (dv_of (de_int)) (dv_of (de_ix (dv_name 1) (dv_of (de_int)))))) (blkOk_by (by kernel_rfl)) (fun _ _ _ _ _ => dg_name 3 sc.nd) (fun _ _ _ _ _ => dts_nil) (fun _ _ _ _ _ => de_mul (dv_of (de_call G_law_take (hr.mono (by decide)) hK (da_cons (de_name 0) (da_cons (de_min2 T.min_ (dv_of (de_ix (dv_name 1) (dv_of (de_int)))) (dv_of (de_int))) (da_nil))))) (dv_name 2))))))))))
theorem sc_law_timetables_hold : FnScope ["deal", "pattern", "times", "odds", "odd", "moved", "t"] ["deal", "pattern", "times"] (defScope (top 26)) := ⟨rfl, rfl, rfl, by decide +kernel, rfl, by decide +kernel, by decide +kernel⟩
theorem ok_law_timetables_hold (T : Tx K mg) (G_law_bool : Fn P w K mg base 1 "_law_bool" ["answer", "due"] (spV KU 2 f_law_bool)) (G_law_same : Fn P w K mg base 9 "_law_same" ["a", "b"] (spV KU 2 (f_law_same 8))) (G_is_timetable : Fn P w K mg base 1 "is_timetable" ["pattern", "times"] (spV KU 2 f_is_timetable)) (G_wrapped : Fn P w K mg base 1 "wrapped" ["times", "period"] (spV KU 2 f_wrapped)) (G_keeps_pattern : Fn P w K mg base 4 "keeps_pattern" ["pattern", "times"] (spV KU 2 f_keeps_pattern)) (G_law_take : Fn P w K mg base 1 "_law_take" ["deal", "many"] (spV (KD b) 2 (f_law_take b))) : Fn P w K mg base 10 "_law_timetables_hold" ["deal", "pattern", "times"] (spV (KD b) 3 (f_law_timetables_hold b)) := by
  obtain ⟨f, fd, F, hm⟩ := T.f_law_timetables_hold
  have sc := sc_law_timetables_hold
  refine fnV (k := 9) F hm sc (fun _ _ _ _ _ _ us hl => match us, hl with | [_, _, _], _ => rfl) rfl fun cdv A outer s H E hr F' hK => ?_
  exact dss_cons (ds_set 3 sc.nd (de_of_df (df_lst (da_cons (de_add (dv_name 2) (dv_of (de_tup (da_cons (de_int) (da_nil))))) (da_cons (de_cut (dv_name 2) (do_some (dv_of (de_int))) (do_none)) (da_cons (de_add (dv_of (de_tup (da_cons (de_int) (da_nil)))) (dv_of (de_cut (dv_name 2) (do_some (dv_of (de_int))) (do_none)))) (da_cons (de_add (dv_of (de_cut (dv_name 2) (do_none) (do_some (dv_of (de_neg (dv_of (de_int))))))) (dv_of (de_tup (da_cons (de_ix (dv_name 1) (dv_of (de_int))) (da_nil))))) (da_cons (de_add (dv_of (de_cut (dv_name 2) (do_none) (do_some (dv_of (de_neg (dv_of (de_int))))))) (dv_of (de_tup (da_cons (de_neg (dv_of (de_int))) (da_nil))))) (da_nil))))))))) (dss_cons (ds_if (dt_not (dt_val (de_callP G_law_bool (hr.mono (by decide)) (da_cons (de_callP G_is_timetable (hr.mono (by decide)) (da_cons (de_name 1) (da_cons (de_name 2) (da_nil)))) (da_cons (de_bl) (da_nil)))))) (dss_one (ds_ret (de_bl))) (dss_nil)) (dss_cons (ds_for PassesOwn.never (di_seq (de_name 3)) (dg_name 4 sc.nd) (dss_one (ds_if (dt_w (dw_or (dt_not (dt_val (de_callP G_law_bool (hr.mono (by decide)) (da_cons (de_callP G_is_timetable (hr.mono (by decide)) (da_cons (de_name 1) (da_cons (de_name 4) (da_nil)))) (da_cons (de_bl) (da_nil)))))) (dw_or1 (dt_not (dt_val (de_callP G_law_bool (hr.mono (by decide)) (da_cons (de_callP G_keeps_pattern (hr.mono (by decide)) (da_cons (de_name 1) (da_cons (de_name 4) (da_nil)))) (da_cons (de_bl) (da_nil))))))))) (dss_one (ds_ret (de_bl))) (dss_nil)))) (dss_cons (ds_setLcV 5 (own := [("t", 6)]) sc.nd (dj_seq (dv_name 2)) (blkOk_by (by kernel_rfl)) (fun _ _ _ _ _ => dg_name 6 sc.nd) (fun _ _ _ _ _ => dts_nil) (fun _ _ _ _ _ => de_add (dv_of (de_add (dv_name 6) (dv_of (de_int)))) (dv_of (de_mul (dv_of (de_ix (dv_name 1) (dv_of (de_int)))) (dv_of (de_sub (dv_of (de_call G_law_take (hr.mono (by decide)) hK (da_cons (de_name 0) (da_cons (de_int) (da_nil))))) (dv_of (de_int)))))))) (dss_one (ds_ret (de_and (de_callP G_law_same (hr.mono (by decide)) (da_cons (de_callP G_wrapped (hr.mono (by decide)) (da_cons (de_add (dv_of (de_of_df (df_lst (da_cons (de_ix (dv_name 5) (dv_of (de_int))) (da_nil))))) (dv_of (de_cut (dv_name 5) (do_some (dv_of (de_int))) (do_none)))) (da_cons (de_ix (dv_name 1) (dv_of (de_int))) (da_nil)))) (da_cons (de_name 2) (da_nil)))) (de_one (de_callP G_law_same (hr.mono (by decide)) (da_cons (de_callP G_wrapped (hr.mono (by decide)) (da_cons (de_name 2) (da_cons (de_ix (dv_name 1) (dv_of (de_int))) (da_nil)))) (da_cons (de_name 2) (da_nil)))))))))))
theorem sc_law_spans_hold : FnScope ["pattern", "times", "slacks", "turns", "broken", "k", "i", "j", "low", "high", "gap", "spans", "s"] ["pattern", "times"] (defScope (top 27)) := ⟨rfl, rfl, rfl, by decide +kernel, rfl, by decide +kernel, by decide +kernel⟩
theorem ok_law_spans_hold (T : Tx K mg) (G_law_same : Fn P w K mg base 9 "_law_same" ["a", "b"] (spV KU 2 (f_law_same 8))) (G_law_bool : Fn P w K mg base 1 "_law_bool" ["answer", "due"] (spV KU 2 f_law_bool)) (G_broken_windows : Fn P w K mg base 3 "broken_windows" ["pattern", "times"] (spV KU 2 f_broken_windows)) (G_keeps_pattern : Fn P w K mg base 4 "keeps_pattern" ["pattern", "times"] (spV KU 2 f_keeps_pattern)) (G_keeps_window : Fn P w K mg base 2 "keeps_window" ["pattern", "times", "k"] (spV KU 3 f_keeps_window)) (G_slacks_of : Fn P w K mg base 3 "slacks_of" ["pattern", "times"] (spV KU 2 f_slacks_of)) (G_turns_of : Fn P w K mg base 3 "turns_of" ["pattern", "times"] (spV KU 2 f_turns_of)) (G_span_of : Fn P w K mg base 1 "span_of" ["pattern", "times", "k"] (spV KU 3 f_span_of)) (G_slack_of : Fn P w K mg base 2 "slack_of" ["pattern", "times", "k"] (spV KU 3 f_slack_of)) (G_turn_of : Fn P w K mg base 2 "turn_of" ["pattern", "times", "k"] (spV KU 3 f_turn_of)) : Fn P w K mg base 10 "_law_spans_hold" ["pattern", "times"] (spV KU 2 (f_law_spans_hold)) := by
  obtain ⟨f, fd, F, hm⟩ := T.f_law_spans_hold
  have sc := sc_law_spans_hold
  refine fnV (k := 9) F hm sc (fun _ _ _ _ _ _ us hl => match us, hl with | [_, _], _ => rfl) rfl fun cdv A outer s H E hr F' hK => ?_
  exact dss_cons (ds_set 2 sc.nd (de_tup (da_nil))) (dss_cons (ds_set 3 sc.nd (de_tup (da_nil))) (dss_cons (ds_setO 4 sc.nd (df_lst (da_nil))) (dss_cons (ds_for PassesOwn.never (di_range1 T.range_ (dv_of (de_len T.len_ (dv_of (de_ix (dv_name 0) (dv_of (de_int))))))) (dg_name 5 sc.nd) (dss_cons (ds_asg (de_ix (dv_of (de_ix (dv_name 0) (dv_of (de_int)))) (dv_name 5)) (dg_tup (dgs_cons (dg_name 6 sc.nd) (dgs_cons (dg_name 7 sc.nd) (dgs_cons (dg_name 8 sc.nd) (dgs_cons (dg_name 9 sc.nd) (dgs_nil))))) (takes1_ (takes1_ (takes1_ (takes1_ takes0_)))))) (dss_cons (ds_set 10 sc.nd (de_sub (dv_of (de_ix (dv_name 1) (dv_name 7))) (dv_of (de_ix (dv_name 1) (dv_name 6))))) (dss_cons (ds_setLcV 11 (own := [("s", 12)]) sc.nd (dj_of (di_range2 T.range_ (dv_name 8) (dv_of (de_add (dv_name 8) (dv_of (de_ix (dv_name 0) (dv_of (de_int)))))))) (blkOk_by (by kernel_rfl)) (fun _ _ _ _ _ => dg_name 12 sc.nd) (fun _ _ _ _ _ => dts_one (dt_eq hr (dv_of (de_mod (dv_of (de_int1 T.int_ (dv_of (de_sub (dv_name 12) (dv_name 10))))) (dv_of (de_ix (dv_name 0) (dv_of (de_int)))))) (dv_of (de_int)))) (fun _ _ _ _ _ => de_name 12)) (dss_cons (ds_if (dt_w (dw_or (dt_ne hr (dv_of (de_len T.len_ (dv_name 11))) (dv_of (de_int))) (dw_or1 (dt_not (dt_val (de_callP G_law_same (hr.mono (by decide)) (da_cons (de_callP G_span_of (hr.mono (by decide)) (da_cons (de_name 0) (da_cons (de_name 1) (da_cons (de_name 5) (da_nil))))) (da_cons (de_ix (dv_name 11) (dv_of (de_int))) (da_nil))))))))) (dss_one (ds_ret (de_bl))) (dss_nil)) (dss_cons (ds_set 2 sc.nd (de_add (dv_name 2) (dv_of (de_tup (da_cons (de_sub (dv_of (de_ix (dv_name 11) (dv_of (de_int)))) (dv_name 8)) (da_nil)))))) (dss_cons (ds_set 3 sc.nd (de_add (dv_name 3) (dv_of (de_tup (da_cons (de_div (dv_of (de_sub (dv_of (de_ix (dv_name 11) (dv_of (de_int)))) (dv_name 10))) (dv_of (de_ix (dv_name 0) (dv_of (de_int))))) (da_nil)))))) (dss_cons (ds_if (dt_gt (dv_of (de_ix (dv_name 11) (dv_of (de_int)))) (dv_name 9)) (dss_one (ds_append 4 (de_name 5))) (dss_nil)) (dss_cons (ds_if (dt_not (dt_val (de_callP G_law_bool (hr.mono (by decide)) (da_cons (de_callP G_keeps_window (hr.mono (by decide)) (da_cons (de_name 0) (da_cons (de_name 1) (da_cons (de_name 5) (da_nil))))) (da_cons (de_le (dv_of (de_ix (dv_name 11) (dv_of (de_int)))) (dv_name 9)) (da_nil)))))) (dss_one (ds_ret (de_bl))) (dss_nil)) (dss_one (ds_if (dt_w (dw_or (dt_not (dt_val (de_callP G_law_same (hr.mono (by decide)) (da_cons (de_callP G_slack_of (hr.mono (by decide)) (da_cons (de_name 0) (da_cons (de_name 1) (da_cons (de_name 5) (da_nil))))) (da_cons (de_ix (dv_name 2) (dv_name 5)) (da_nil)))))) (dw_or1 (dt_not (dt_val (de_callP G_law_same (hr.mono (by decide)) (da_cons (de_callP G_turn_of (hr.mono (by decide)) (da_cons (de_name 0) (da_cons (de_name 1) (da_cons (de_name 5) (da_nil))))) (da_cons (de_ix (dv_name 3) (dv_name 5)) (da_nil))))))))) (dss_one (ds_ret (de_bl))) (dss_nil)))))))))))) (dss_cons (ds_if (dt_w (dw_or (dt_not (dt_val (de_callP G_law_same (hr.mono (by decide)) (da_cons (de_callP G_slacks_of (hr.mono (by decide)) (da_cons (de_name 0) (da_cons (de_name 1) (da_nil)))) (da_cons (de_name 2) (da_nil)))))) (dw_or1 (dt_not (dt_val (de_callP G_law_same (hr.mono (by decide)) (da_cons (de_callP G_turns_of (hr.mono (by decide)) (da_cons (de_name 0) (da_cons (de_name 1) (da_nil)))) (da_cons (de_name 3) (da_nil))))))))) (dss_one (ds_ret (de_bl))) (dss_nil)) (dss_one (ds_frz 4 (ds_ret (de_and (de_callP G_law_same (hr.mono (by decide)) (da_cons (de_callP G_broken_windows (hr.mono (by decide)) (da_cons (de_name 0) (da_cons (de_name 1) (da_nil)))) (da_cons (de_name 4) (da_nil)))) (de_one (de_callP G_law_bool (hr.mono (by decide)) (da_cons (de_callP G_keeps_pattern (hr.mono (by decide)) (da_cons (de_name 0) (da_cons (de_name 1) (da_nil)))) (da_cons (de_eq hr (dv_of (de_len T.len_ (dv_name 4))) (dv_of (de_int))) (da_nil)))))))))))))
theorem sc_law_windows : FnScope ["deal", "many", "period", "found", "turn", "i", "j", "low"] ["deal", "many", "period"] (defScope (top 28)) := ⟨rfl, rfl, rfl, by decide +kernel, rfl, by decide +kernel, by decide +kernel⟩
theorem ok_law_windows (T : Tx K mg) (G_law_take : Fn P w K mg base 1 "_law_take" ["deal", "many"] (spV (KD b) 2 (f_law_take b))) : Fn P w K mg base 2 "_law_windows" ["deal", "many", "period"] (spV (KD b) 3 (f_law_windows b)) := by
  obtain ⟨f, fd, F, hm⟩ := T.f_law_windows
  have sc := sc_law_windows
  refine fnV (k := 1) F hm sc (fun _ _ _ _ _ _ us hl => match us, hl with | [_, _, _], _ => rfl) rfl fun cdv A outer s H E hr F' hK => ?_
  exact dss_cons (ds_setO 3 sc.nd (df_lst (da_nil))) (dss_cons (ds_for PassesOwn.never (di_range1 T.range_ (dv_of (de_if (dt_gt (dv_name 1) (dv_of (de_int))) (de_call G_law_take (hr.mono (by decide)) hK (da_cons (de_name 0) (da_cons (de_int) (da_nil)))) (de_int)))) (dg_name 4 sc.nd) (dss_cons (ds_set 5 sc.nd (de_call G_law_take (hr.mono (by decide)) hK (da_cons (de_name 0) (da_cons (de_name 1) (da_nil))))) (dss_cons (ds_set 6 sc.nd (de_mod (dv_of (de_int1 T.int_ (dv_of (de_add (dv_of (de_add (dv_name 5) (dv_of (de_int)))) (dv_of (de_call G_law_take (hr.mono (by decide)) hK (da_cons (de_name 0) (da_cons (de_sub (dv_name 1) (dv_of (de_int))) (da_nil))))))))) (dv_name 1))) (dss_cons (ds_set 7 sc.nd (de_sub (dv_of (de_call G_law_take (hr.mono (by decide)) hK (da_cons (de_name 0) (da_cons (de_mul (dv_of (de_int)) (dv_name 2)) (da_nil))))) (dv_of (de_mul (dv_of (de_int)) (dv_name 2))))) (dss_one (ds_append 3 (de_tup (da_cons (de_name 5) (da_cons (de_name 6) (da_cons (de_name 7) (da_cons (de_add (dv_name 7) (dv_of (de_call G_law_take (hr.mono (by decide)) hK (da_cons (de_name 0) (da_cons (de_name 2) (da_nil)))))) (da_nil)))))))))))) (dss_one (ds_ret (de_tuple T.tuple_ (dv_name 3)))))
theorem sc_law_take : FnScope ["deal", "many", "at", "cell", "turn"] ["deal", "many"] (defScope (top 21)) := ⟨rfl, rfl, rfl, by decide +kernel, rfl, by decide +kernel, by decide +kernel⟩
theorem ok_law_take (T : Tx K mg) : Fn P w K mg base 1 "_law_take" ["deal", "many"] (spV (KD b) 2 (f_law_take b)) := by
  obtain ⟨f, fd, F, hm⟩ := T.f_law_take
  have sc := sc_law_take
  refine fnVx (k := 0) F hm sc (fun _ _ _ _ _ _ us hl => match us, hl with | [_, _], _ => rfl) rfl fun cdv A outer s H E hr F' hK => ?_
  obtain ⟨a, r, c, row, total, hC, rfl⟩ := hK
  refine ⟨mTake1 row total, ?_, fun ds s d s' h => take1_eq row total ds s d s' h⟩
  exact dss_cons (ds_set 2 sc.nd (de_dealAt hC 0)) (dss_cons (ds_dealPut hC 0 (de_add (dv_name 2) (dv_of (de_int)))) (dss_cons (ds_if (dt_lt (dv_name 2) (dv_of (de_dealLen hC 0 T.len_))) (dss_one (ds_ret (de_mod (dv_of (de_int1 T.int_ (dv_of (de_dealItem hC 0 (dv_name 2))))) (dv_name 1)))) (dss_nil)) (dss_cons (ds_set 3 sc.nd (de_mod (dv_of (de_int1 T.int_ (dv_of (de_add (dv_of (de_add (dv_of (de_mul (dv_name 2) (dv_of (de_int)))) (dv_of (de_mul (dv_of (de_dealSum hC 0)) (dv_of (de_int)))))) (dv_of (de_int)))))) (dv_of (de_int)))) (dss_cons (ds_for PassesOwn.never (di_range1 T.range_ (dv_of (de_int))) (dg_name 4 sc.nd) (dss_one (ds_set 3 sc.nd (de_mod (dv_of (de_int1 T.int_ (dv_of (de_add (dv_of (de_add (dv_of (de_mul (dv_name 3) (dv_name 3))) (dv_of (de_mul (dv_of (de_int)) (dv_name 2))))) (dv_of (de_int)))))) (dv_of (de_int)))))) (dss_one (ds_ret (de_mod (dv_of (de_div (dv_name 3) (dv_of (de_int)))) (dv_name 1))))))))
theorem sc_law_deal : FnScope ["script", "row", "k", "cell", "turn", "total"] ["script"] (defScope (top 20)) := ⟨rfl, rfl, rfl, by decide +kernel, rfl, by decide +kernel, by decide +kernel⟩
theorem ok_law_deal (T : Tx K mg) : Fn P w K mg base 1 "_law_deal" ["script"] (spDeal K) := by
  obtain ⟨f, fd, F, hm⟩ := T.f_law_deal
  have sc := sc_law_deal
  refine fnDeal (k := 0) F hm sc (fun _ _ _ _ _ _ us hl => match us, hl with | [_], _ => rfl) rfl fun cdv A outer s H E hr sa ns tr hl hrel => ?_
  have hC : (⟨scriptC K sa ns tr, H, fun _ => False⟩ : Fx Unit).C = scriptC K sa ns tr := rfl
  exact deal_body (F := ⟨scriptC K sa ns tr, H, fun _ => False⟩) hC rfl rfl rfl (ds_setO 1 sc.nd (df_lst (da_nil))) (ds_for PassesOwn.never (di_range1 T.range_ (dv_of (de_min2 T.min_ (dv_of (de_scrLen hC 0 T.len_)) (dv_of (de_int))))) (dg_name 2 sc.nd) (dss_cons (ds_set 3 sc.nd (de_abs T.abs_ (dv_of (de_int1 T.int_ (dv_of (de_scrItem hC 0 (dv_name 2))))))) (dss_one (ds_if (dt_ge (dv_name 3) (dv_of (de_pow (dv_of (de_int)) (dv_of (de_int))))) (dss_one (ds_for PassesOwn.never (di_range1 T.range_ (dv_of (de_int))) (dg_name 4 sc.nd) (dss_one (ds_if (dt_gt (dv_name 3) (dv_of (de_int))) (dss_cons (ds_append 1 (de_mod (dv_of (de_int1 T.int_ (dv_name 3))) (dv_of (de_int)))) (dss_one (ds_set 3 sc.nd (de_div (dv_name 3) (dv_of (de_int)))))) (dss_nil))))) (dss_cons (ds_set 3 sc.nd (de_add (dv_of (de_add (dv_of (de_mul (dv_of (de_mod (dv_of (de_int1 T.int_ (dv_name 3))) (dv_of (de_int)))) (dv_of (de_int)))) (dv_of (de_mul (dv_name 2) (dv_of (de_int)))))) (dv_of (de_int)))) (dss_one (ds_for PassesOwn.never (di_range1 T.range_ (dv_of (de_int))) (dg_name 4 sc.nd) (dss_cons (ds_set 3 sc.nd (de_mod (dv_of (de_int1 T.int_ (dv_of (de_add (dv_of (de_add (dv_of (de_mul (dv_name 3) (dv_of (de_int)))) (dv_of (de_int)))) (dv_name 4))))) (dv_of (de_int)))) (dss_one (ds_append 1 (de_mod (dv_of (de_div (dv_name 3) (dv_of (de_int)))) (dv_of (de_int))))))))))))) (ds_set 5 sc.nd (de_add (dv_of (de_sumL T.sum_ (dv_name 1))) (dv_of (de_scrLen hC 0 T.len_)))) (ps_ret (pe_lst (pa_cons (pe_var rfl (by first | exact Or.inl rfl | exact Or.inr (Or.inl rfl) | exact Or.inr (Or.inr rfl)) (by decide) (by decide)) (pa_cons (pe_lst (pa_cons pe_int pa_nil rfl)) (pa_cons (pe_var rfl (by first | exact Or.inl rfl | exact Or.inr (Or.inl rfl) | exact Or.inr (Or.inr rfl)) (by decide) (by decide)) pa_nil rfl) rfl) rfl))) hrel (deal1_run ns hl)
theorem sc_law : FnScope ["script", "deal", "many", "period", "pattern", "times", "lot", "k", "rest", "due", "more"] ["script"] (defScope (top 29)) := ⟨rfl, rfl, rfl, by decide +kernel, rfl, by decide +kernel, by decide +kernel⟩
theorem ok_law {f : Addr} {fd : FuncData} (T : Tx K mg) (F : FunD K "law" "law" (defArgs (top 29)) (defBody (top 29)) (defScope (top 29)) [] [] f fd) (G_law_deal : Fn P w K mg base 1 "_law_deal" ["script"] (spDeal K)) (G_law_times_of : ∀ b : Nat → Int, Fn P w K mg base 2 "_law_times_of" ["deal", "pattern"] (spV (KD b) 2 (f_law_times_of b))) (G_law_same : ∀ b : Nat → Int, Fn P w K mg base 9 "_law_same" ["a", "b"] (spV KU 2 (f_law_same 8))) (G_law_take : ∀ b : Nat → Int, Fn P w K mg base 1 "_law_take" ["deal", "many"] (spV (KD b) 2 (f_law_take b))) (G_law_windows : ∀ b : Nat → Int, Fn P w K mg base 2 "_law_windows" ["deal", "many", "period"] (spV (KD b) 3 (f_law_windows b))) (G_law_spans_hold : ∀ b : Nat → Int, Fn P w K mg base 10 "_law_spans_hold" ["pattern", "times"] (spV KU 2 f_law_spans_hold)) (G_with_windows : ∀ b : Nat → Int, Fn P w K mg base 1 "with_windows" ["pattern", "windows"] (spV KU 2 f_with_windows)) (G_law_forms_hold : ∀ b : Nat → Int, Fn P w K mg base 3 "_law_forms_hold" ["pattern"] (spV KU 1 f_law_forms_hold)) (G_law_timetables_hold : ∀ b : Nat → Int, Fn P w K mg base 10 "_law_timetables_hold" ["deal", "pattern", "times"] (spV (KD b) 3 (f_law_timetables_hold b))) (G_only_windows : ∀ b : Nat → Int, Fn P w K mg base 1 "only_windows" ["pattern", "lot"] (spV KU 2 f_only_windows)) (G_without_windows : ∀ b : Nat → Int, Fn P w K mg base 1 "without_windows" ["pattern", "lost"] (spV KU 2 f_without_windows)) (htrue : ∀ b : Nat → Int, ∃ s', runV (m_law b (lawE 9) 0) = .ok (.bl true) s') : FnOk P w K mg base CX0 11 f fd ["script"] (spLaw K) := by
  have sc := sc_law
  refine fnLaw (k := 10) (n := 9) F sc (fun _ _ _ _ _ _ us hl => match us, hl with | [_], _ => rfl) rfl rfl htrue fun cdv A outer s H E hr => ⟨?_, fun i => ?_⟩
  · exact ps_set sc.nd rfl (by first | exact Or.inl rfl | exact Or.inr rfl | exact Or.inr (Or.inl rfl) | exact Or.inr (Or.inr rfl)) (pe_given G_law_deal (hr.mono (by decide)))
  · have hK := i.ok
    have G_law_times_of := G_law_times_of i.b
    have G_law_same := G_law_same i.b
    have G_law_take := G_law_take i.b
    have G_law_windows := G_law_windows i.b
    have G_law_spans_hold := G_law_spans_hold i.b
    have G_with_windows := G_with_windows i.b
    have G_law_forms_hold := G_law_forms_hold i.b
    have G_law_timetables_hold := G_law_timetables_hold i.b
    have G_only_windows := G_only_windows i.b
    have G_without_windows := G_without_windows i.b
    exact dss_cons (ds_set 2 sc.nd (de_add (dv_of (de_int)) (dv_of (de_call G_law_take (hr.mono (by decide)) hK (da_cons (de_name 1) (da_cons (de_int) (da_nil))))))) (dss_cons (ds_set 3 sc.nd (de_if (dt_gt (dv_of (de_call G_law_take (hr.mono (by decide)) hK (da_cons (de_name 1) (da_cons (de_int) (da_nil))))) (dv_of (de_int))) (de_add (dv_of (de_int)) (dv_of (de_call G_law_take (hr.mono (by decide)) hK (da_cons (de_name 1) (da_cons (de_int) (da_nil)))))) (de_int))) (dss_cons (ds_if (dt_w (dw_and (dt_lt (dv_name 3) (dv_of (de_int))) (dw_and1 (dt_eq hr (dv_of (de_call G_law_take (hr.mono (by decide)) hK (da_cons (de_name 1) (da_cons (de_int) (da_nil))))) (dv_of (de_int)))))) (dss_one (ds_set 3 sc.nd (de_add (dv_of (de_int)) (dv_of (de_call G_law_take (hr.mono (by decide)) hK (da_cons (de_name 1) (da_cons (de_int) (da_nil)))))))) (dss_nil)) (dss_cons (ds_set 4 sc.nd (de_tup (da_cons (de_name 2) (da_cons (de_name 3) (da_cons (de_call G_law_windows (hr.mono (by decide)) hK (da_cons (de_name 1) (da_cons (de_name 2) (da_cons (de_min2 T.min_ (dv_name 3) (dv_of (de_int))) (da_nil))))) (da_nil)))))) (dss_cons (ds_set 5 sc.nd (de_call G_law_times_of (hr.mono (by decide)) hK (da_cons (de_name 1) (da_cons (de_name 4) (da_nil))))) (dss_cons (ds_if (dt_w (dw_or (dt_not (dt_val (de_callP G_law_forms_hold (hr.mono (by decide)) (da_cons (de_name 4) (da_nil))))) (dw_or (dt_not (dt_val (de_call G_law_timetables_hold (hr.mono (by decide)) hK (da_cons (de_name 1) (da_cons (de_name 4) (da_cons (de_name 5) (da_nil))))))) (dw_or1 (dt_not (dt_val (de_callP G_law_spans_hold (hr.mono (by decide)) (da_cons (de_name 4) (da_cons (de_name 5) (da_nil)))))))))) (dss_one (ds_ret (de_bl))) (dss_nil)) (dss_cons (ds_if (dt_not (dt_val (de_callP G_law_spans_hold (hr.mono (by decide)) (da_cons (de_name 4) (da_cons (de_call G_law_times_of (hr.mono (by decide)) hK (da_cons (de_name 1) (da_cons (de_name 4) (da_nil)))) (da_nil)))))) (dss_one (ds_ret (de_bl))) (dss_nil)) (dss_cons (ds_set 6 sc.nd (de_tuple T.tuple_ (dv_of (de_of_df (df_comp (own := [("k", 7)]) sc.nd (dj_of (di_range1 T.range_ (dv_of (de_len T.len_ (dv_of (de_ix (dv_name 4) (dv_of (de_int)))))))) (blkOk_by (by kernel_rfl)) (fun _ _ _ _ _ => dg_name 7 sc.nd) (fun _ _ _ _ _ => dts_one (dt_gt (dv_of (de_call G_law_take (hr.mono (by decide)) hK (da_cons (de_name 1) (da_cons (de_int) (da_nil))))) (dv_of (de_int)))) (fun _ _ _ _ _ => de_name 7)))))) (dss_cons (ds_set 8 sc.nd (de_tuple T.tuple_ (dv_of (de_of_df (df_comp (own := [("k", 7)]) sc.nd (dj_of (di_range1 T.range_ (dv_of (de_len T.len_ (dv_of (de_ix (dv_name 4) (dv_of (de_int)))))))) (blkOk_by (by kernel_rfl)) (fun _ _ _ _ _ => dg_name 7 sc.nd) (fun _ _ _ _ _ => dts_one (dt_notin (dv_name 7) (dv_name 6))) (fun _ _ _ _ _ => de_name 7)))))) (dss_cons (ds_set 9 sc.nd (de_tup (da_cons (de_name 2) (da_cons (de_name 3) (da_cons (de_tuple T.tuple_ (dv_of (de_of_df (df_comp (own := [("k", 7)]) sc.nd (dj_seq (dv_name 6)) (blkOk_by (by kernel_rfl)) (fun _ _ _ _ _ => dg_name 7 sc.nd) (fun _ _ _ _ _ => dts_nil) (fun _ _ _ _ _ => de_ix (dv_of (de_ix (dv_name 4) (dv_of (de_int)))) (dv_name 7)))))) (da_nil)))))) (dss_cons (ds_set 10 sc.nd (de_cut (dv_of (de_ix (dv_name 4) (dv_of (de_int)))) (do_none) (do_some (dv_of (de_int))))) (dss_cons (ds_if (dt_w (dw_or (dt_not (dt_val (de_callP G_law_same (hr.mono (by decide)) (da_cons (de_callP G_only_windows (hr.mono (by decide)) (da_cons (de_name 4) (da_cons (de_name 6) (da_nil)))) (da_cons (de_name 9) (da_nil)))))) (dw_or1 (dt_not (dt_val (de_callP G_law_same (hr.mono (by decide)) (da_cons (de_callP G_without_windows (hr.mono (by decide)) (da_cons (de_name 4) (da_cons (de_name 8) (da_nil)))) (da_cons (de_name 9) (da_nil))))))))) (dss_one (ds_ret (de_bl))) (dss_nil)) (dss_one (ds_ret (de_callP G_law_same (hr.mono (by decide)) (da_cons (de_callP G_with_windows (hr.mono (by decide)) (da_cons (de_name 4) (da_cons (de_name 10) (da_nil)))) (da_cons (de_tup (da_cons (de_name 2) (da_cons (de_name 3) (da_cons (de_add (dv_of (de_ix (dv_name 4) (dv_of (de_int)))) (dv_name 10)) (da_nil))))) (da_nil)))))))))))))))))
theorem ok_all {f : Addr} {fd : FuncData} (T : Tx K mg) (F : FunD K "law" "law" (defArgs (top 29)) (defBody (top 29)) (defScope (top 29)) [] [] f fd) (htrue : ∀ b : Nat → Int, ∃ s', runV (m_law b (lawE 9) 0) = .ok (.bl true) s') : FnOk P w K mg base CX0 11 f fd ["script"] (spLaw K) := by
  have O_law_deal : Fn P w K mg base 1 "_law_deal" ["script"] (spDeal K) := ok_law_deal T
  have O_law_take := fun b : Nat → Int => ok_law_take (P := P) (w := w) (base := base) (b := b) T
  have O_is_window := fun b : Nat → Int => ok_is_window (P := P) (w := w) (base := base) T 
  have O_is_pattern := fun b : Nat → Int => ok_is_pattern (P := P) (w := w) (base := base) T (O_is_window b)
  have O_is_timetable := fun b : Nat → Int => ok_is_timetable (P := P) (w := w) (base := base) T 
  have O_span_of := fun b : Nat → Int => ok_span_of (P := P) (w := w) (base := base) T 
  have O_slack_of := fun b : Nat → Int => ok_slack_of (P := P) (w := w) (base := base) T (O_span_of b)
  have O_turn_of := fun b : Nat → Int => ok_turn_of (P := P) (w := w) (base := base) T (O_span_of b)
  have O_slacks_of := fun b : Nat → Int => ok_slacks_of (P := P) (w := w) (base := base) T (O_slack_of b)
  have O_turns_of := fun b : Nat → Int => ok_turns_of (P := P) (w := w) (base := base) T (O_turn_of b)
  have O_keeps_window := fun b : Nat → Int => ok_keeps_window (P := P) (w := w) (base := base) T (O_span_of b)
  have O_broken_windows := fun b : Nat → Int => ok_broken_windows (P := P) (w := w) (base := base) T (O_keeps_window b)
  have O_keeps_pattern := fun b : Nat → Int => ok_keeps_pattern (P := P) (w := w) (base := base) T (O_is_timetable b) (O_broken_windows b)
  have O_with_windows := fun b : Nat → Int => ok_with_windows (P := P) (w := w) (base := base) T 
  have O_without_windows := fun b : Nat → Int => ok_without_windows (P := P) (w := w) (base := base) T 
  have O_only_windows := fun b : Nat → Int => ok_only_windows (P := P) (w := w) (base := base) T 
  have O_wrapped := fun b : Nat → Int => ok_wrapped (P := P) (w := w) (base := base) T 
  have O_law_same := fun b : Nat → Int => ok_law_same (P := P) (w := w) (base := base) T  8
  have O_law_bool := fun b : Nat → Int => ok_law_bool (P := P) (w := w) (base := base) T 
  have O_law_forms_hold := fun b : Nat → Int => ok_law_forms_hold (P := P) (w := w) (base := base) T (O_law_bool b) (O_is_pattern b)
  have O_law_times_of := fun b : Nat → Int => ok_law_times_of (P := P) (w := w) (base := base) (b := b) T (O_law_take b)
  have O_law_timetables_hold := fun b : Nat → Int => ok_law_timetables_hold (P := P) (w := w) (base := base) (b := b) T (O_law_bool b) (O_law_same b) (O_is_timetable b) (O_wrapped b) (O_keeps_pattern b) (O_law_take b)
  have O_law_spans_hold := fun b : Nat → Int => ok_law_spans_hold (P := P) (w := w) (base := base) T (O_law_same b) (O_law_bool b) (O_broken_windows b) (O_keeps_pattern b) (O_keeps_window b) (O_slacks_of b) (O_turns_of b) (O_span_of b) (O_slack_of b) (O_turn_of b)
  have O_law_windows := fun b : Nat → Int => ok_law_windows (P := P) (w := w) (base := base) (b := b) T (O_law_take b)
  exact ok_law T F O_law_deal O_law_times_of O_law_same O_law_take O_law_windows O_law_spans_hold O_with_windows O_law_forms_hold O_law_timetables_hold O_only_windows O_without_windows htrue
end
end K52
namespace K52
open PySem PySem.Spec PyProof.Rows L2 L3
def mkD (n : String) (i : Nat) : He.DefD := ⟨(n, none), n, n, defArgs (top i), defBody (top i), defScope (top i), [], []⟩
def fn : List He.DefD := [mkD "is_window" 4, mkD "is_pattern" 5, mkD "is_timetable" 6, mkD "span_of" 7, mkD "slack_of" 8, mkD "turn_of" 9, mkD "slacks_of" 10, mkD "turns_of" 11, mkD "keeps_window" 12, mkD "broken_windows" 13, mkD "keeps_pattern" 14, mkD "with_windows" 15, mkD "without_windows" 16, mkD "only_windows" 17, mkD "wrapped" 18, mkD "_law_deal" 20, mkD "_law_take" 21, mkD "_law_same" 22, mkD "_law_bool" 23, mkD "_law_forms_hold" 24, mkD "_law_times_of" 25, mkD "_law_timetables_hold" 26, mkD "_law_spans_hold" 27, mkD "_law_windows" 28, mkD "law" 29]
def fa : List He.Fa := [(.glo "is_window" : He.Fa), (.glo "is_pattern" : He.Fa), (.glo "is_timetable" : He.Fa), (.glo "span_of" : He.Fa), (.glo "slack_of" : He.Fa), (.glo "turn_of" : He.Fa), (.glo "slacks_of" : He.Fa), (.glo "turns_of" : He.Fa), (.glo "keeps_window" : He.Fa), (.glo "broken_windows" : He.Fa), (.glo "keeps_pattern" : He.Fa), (.glo "with_windows" : He.Fa), (.glo "without_windows" : He.Fa), (.glo "only_windows" : He.Fa), (.glo "wrapped" : He.Fa), (.glo "_law_deal" : He.Fa), (.glo "_law_take" : He.Fa), (.glo "_law_same" : He.Fa), (.glo "_law_bool" : He.Fa), (.glo "_law_forms_hold" : He.Fa), (.glo "_law_times_of" : He.Fa), (.glo "_law_timetables_hold" : He.Fa), (.glo "_law_spans_hold" : He.Fa), (.glo "_law_windows" : He.Fa), (.glo "law" : He.Fa), (.int "MOST_MOMENTS" 24 : He.Fa), (.int "MOST_WINDOWS" 60 : He.Fa), (.int "MOST_PERIOD" 1440 : He.Fa), (.free "abs" : He.Fa), (.free "bool" : He.Fa), (.free "enumerate" : He.Fa), (.free "int" : He.Fa), (.free "isinstance" : He.Fa), (.free "len" : He.Fa), (.free "list" : He.Fa), (.free "max" : He.Fa), (.free "min" : He.Fa), (.free "range" : He.Fa), (.free "str" : He.Fa), (.free "sum" : He.Fa), (.free "tuple" : He.Fa)]
def names : List PySem.Str := [("is_window" : PySem.Str), ("is_pattern" : PySem.Str), ("is_timetable" : PySem.Str), ("span_of" : PySem.Str), ("slack_of" : PySem.Str), ("turn_of" : PySem.Str), ("slacks_of" : PySem.Str), ("turns_of" : PySem.Str), ("keeps_window" : PySem.Str), ("broken_windows" : PySem.Str), ("keeps_pattern" : PySem.Str), ("with_windows" : PySem.Str), ("without_windows" : PySem.Str), ("only_windows" : PySem.Str), ("wrapped" : PySem.Str), ("_law_deal" : PySem.Str), ("_law_take" : PySem.Str), ("_law_same" : PySem.Str), ("_law_bool" : PySem.Str), ("_law_forms_hold" : PySem.Str), ("_law_times_of" : PySem.Str), ("_law_timetables_hold" : PySem.Str), ("_law_spans_hold" : PySem.Str), ("_law_windows" : PySem.Str), ("MOST_MOMENTS" : PySem.Str), ("MOST_WINDOWS" : PySem.Str), ("MOST_PERIOD" : PySem.Str)]
abbrev R : PySem.W.OpenRow := PySem.W.OpenLaw.row PySem.Challenge.rw_dayholds_k52_whole_patterns_told_by_form
abbrev hk : PySem.W.Hook := He.hookD 4 fa fn
def ob (s : PySem.W.SharedT) : He.AlD := He.obsDG 4 fa fn (HandSHeadRun.getT s)
theorem ob_eq (s : PySem.W.SharedT) : ob s = hk.obs s.abs := He.obsDG_eq (HandSHeadRun.getT_eq s)
theorem run (w : World) : HandSHeadRun.RunEq R (PySem.W.view R.prog [29]) hk ob 900 names w := by
  intro os
  kernel_rfl
theorem tx {K : PySem.W.Frag} {h : Heap} {mg : Str → Option Value} (X : K.In h) (G : h.Ns mainGlobals mg) (c : He.SaysD fa fn K) : Tx K mg where
  f_is_window := by
    obtain ⟨fd, F⟩ := c.def_ 0 (d := mkD "is_window" 4) rfl
    exact ⟨_, fd, F, He.glo_ok X G (c.fact 0 (f := .glo "is_window") rfl)⟩
  f_is_pattern := by
    obtain ⟨fd, F⟩ := c.def_ 1 (d := mkD "is_pattern" 5) rfl
    exact ⟨_, fd, F, He.glo_ok X G (c.fact 1 (f := .glo "is_pattern") rfl)⟩
  f_is_timetable := by
    obtain ⟨fd, F⟩ := c.def_ 2 (d := mkD "is_timetable" 6) rfl
    exact ⟨_, fd, F, He.glo_ok X G (c.fact 2 (f := .glo "is_timetable") rfl)⟩
  f_span_of := by
    obtain ⟨fd, F⟩ := c.def_ 3 (d := mkD "span_of" 7) rfl
    exact ⟨_, fd, F, He.glo_ok X G (c.fact 3 (f := .glo "span_of") rfl)⟩
  f_slack_of := by
    obtain ⟨fd, F⟩ := c.def_ 4 (d := mkD "slack_of" 8) rfl
    exact ⟨_, fd, F, He.glo_ok X G (c.fact 4 (f := .glo "slack_of") rfl)⟩
  f_turn_of := by
    obtain ⟨fd, F⟩ := c.def_ 5 (d := mkD "turn_of" 9) rfl
    exact ⟨_, fd, F, He.glo_ok X G (c.fact 5 (f := .glo "turn_of") rfl)⟩
  f_slacks_of := by
    obtain ⟨fd, F⟩ := c.def_ 6 (d := mkD "slacks_of" 10) rfl
    exact ⟨_, fd, F, He.glo_ok X G (c.fact 6 (f := .glo "slacks_of") rfl)⟩
  f_turns_of := by
    obtain ⟨fd, F⟩ := c.def_ 7 (d := mkD "turns_of" 11) rfl
    exact ⟨_, fd, F, He.glo_ok X G (c.fact 7 (f := .glo "turns_of") rfl)⟩
  f_keeps_window := by
    obtain ⟨fd, F⟩ := c.def_ 8 (d := mkD "keeps_window" 12) rfl
    exact ⟨_, fd, F, He.glo_ok X G (c.fact 8 (f := .glo "keeps_window") rfl)⟩
  f_broken_windows := by
    obtain ⟨fd, F⟩ := c.def_ 9 (d := mkD "broken_windows" 13) rfl
    exact ⟨_, fd, F, He.glo_ok X G (c.fact 9 (f := .glo "broken_windows") rfl)⟩
  f_keeps_pattern := by
    obtain ⟨fd, F⟩ := c.def_ 10 (d := mkD "keeps_pattern" 14) rfl
    exact ⟨_, fd, F, He.glo_ok X G (c.fact 10 (f := .glo "keeps_pattern") rfl)⟩
  f_with_windows := by
    obtain ⟨fd, F⟩ := c.def_ 11 (d := mkD "with_windows" 15) rfl
    exact ⟨_, fd, F, He.glo_ok X G (c.fact 11 (f := .glo "with_windows") rfl)⟩
  f_without_windows := by
    obtain ⟨fd, F⟩ := c.def_ 12 (d := mkD "without_windows" 16) rfl
    exact ⟨_, fd, F, He.glo_ok X G (c.fact 12 (f := .glo "without_windows") rfl)⟩
  f_only_windows := by
    obtain ⟨fd, F⟩ := c.def_ 13 (d := mkD "only_windows" 17) rfl
    exact ⟨_, fd, F, He.glo_ok X G (c.fact 13 (f := .glo "only_windows") rfl)⟩
  f_wrapped := by
    obtain ⟨fd, F⟩ := c.def_ 14 (d := mkD "wrapped" 18) rfl
    exact ⟨_, fd, F, He.glo_ok X G (c.fact 14 (f := .glo "wrapped") rfl)⟩
  f_law_deal := by
    obtain ⟨fd, F⟩ := c.def_ 15 (d := mkD "_law_deal" 20) rfl
    exact ⟨_, fd, F, He.glo_ok X G (c.fact 15 (f := .glo "_law_deal") rfl)⟩
  f_law_take := by
    obtain ⟨fd, F⟩ := c.def_ 16 (d := mkD "_law_take" 21) rfl
    exact ⟨_, fd, F, He.glo_ok X G (c.fact 16 (f := .glo "_law_take") rfl)⟩
  f_law_same := by
    obtain ⟨fd, F⟩ := c.def_ 17 (d := mkD "_law_same" 22) rfl
    exact ⟨_, fd, F, He.glo_ok X G (c.fact 17 (f := .glo "_law_same") rfl)⟩
  f_law_bool := by
    obtain ⟨fd, F⟩ := c.def_ 18 (d := mkD "_law_bool" 23) rfl
    exact ⟨_, fd, F, He.glo_ok X G (c.fact 18 (f := .glo "_law_bool") rfl)⟩
  f_law_forms_hold := by
    obtain ⟨fd, F⟩ := c.def_ 19 (d := mkD "_law_forms_hold" 24) rfl
    exact ⟨_, fd, F, He.glo_ok X G (c.fact 19 (f := .glo "_law_forms_hold") rfl)⟩
  f_law_times_of := by
    obtain ⟨fd, F⟩ := c.def_ 20 (d := mkD "_law_times_of" 25) rfl
    exact ⟨_, fd, F, He.glo_ok X G (c.fact 20 (f := .glo "_law_times_of") rfl)⟩
  f_law_timetables_hold := by
    obtain ⟨fd, F⟩ := c.def_ 21 (d := mkD "_law_timetables_hold" 26) rfl
    exact ⟨_, fd, F, He.glo_ok X G (c.fact 21 (f := .glo "_law_timetables_hold") rfl)⟩
  f_law_spans_hold := by
    obtain ⟨fd, F⟩ := c.def_ 22 (d := mkD "_law_spans_hold" 27) rfl
    exact ⟨_, fd, F, He.glo_ok X G (c.fact 22 (f := .glo "_law_spans_hold") rfl)⟩
  f_law_windows := by
    obtain ⟨fd, F⟩ := c.def_ 23 (d := mkD "_law_windows" 28) rfl
    exact ⟨_, fd, F, He.glo_ok X G (c.fact 23 (f := .glo "_law_windows") rfl)⟩
  f_law := by
    obtain ⟨fd, F⟩ := c.def_ 24 (d := mkD "law" 29) rfl
    exact ⟨_, fd, F, He.glo_ok X G (c.fact 24 (f := .glo "law") rfl)⟩
  g_MOST_MOMENTS := He.int_ok X G (c.fact 25 (f := .int "MOST_MOMENTS" 24) rfl)
  g_MOST_WINDOWS := He.int_ok X G (c.fact 26 (f := .int "MOST_WINDOWS" 60) rfl)
  g_MOST_PERIOD := He.int_ok X G (c.fact 27 (f := .int "MOST_PERIOD" 1440) rfl)
  abs_ := He.free_ok X G (c.fact 28 (f := .free "abs") rfl)
  bool_ := He.free_ok X G (c.fact 29 (f := .free "bool") rfl)
  enumerate_ := He.free_ok X G (c.fact 30 (f := .free "enumerate") rfl)
  int_ := He.free_ok X G (c.fact 31 (f := .free "int") rfl)
  isinstance_ := He.free_ok X G (c.fact 32 (f := .free "isinstance") rfl)
  len_ := He.free_ok X G (c.fact 33 (f := .free "len") rfl)
  list_ := He.free_ok X G (c.fact 34 (f := .free "list") rfl)
  max_ := He.free_ok X G (c.fact 35 (f := .free "max") rfl)
  min_ := He.free_ok X G (c.fact 36 (f := .free "min") rfl)
  range_ := He.free_ok X G (c.fact 37 (f := .free "range") rfl)
  str_ := He.free_ok X G (c.fact 38 (f := .free "str") rfl)
  sum_ := He.free_ok X G (c.fact 39 (f := .free "sum") rfl)
  tuple_ := He.free_ok X G (c.fact 40 (f := .free "tuple") rfl)
theorem facts {P : Program} {w : World} {K : PySem.W.Frag} {h : Heap} {mg : Str → Option Value} {f : Addr} (X : K.In h) (G : h.Ns mainGlobals mg) (hfa : mg ("law" : Str) = some (.ref f)) (c : He.SaysD fa fn K) :
    ∃ fd : FuncData, (∀ (s : Shared) (v : Value), BindsTo s fd ⟨[v], []⟩ [("script", v)]) ∧ ∀ base : Heap, K.In base → base.Ns mainGlobals mg → FnOk P w K mg base CX0 11 f fd ["script"] (spLaw K) := by
  obtain ⟨fd0, F⟩ := c.def_ 24 (d := mkD "law" 29) rfl
  have b := FunD.bindsA (ps := ["script"]) F fun _ _ _ _ _ _ us hl => match us, hl with | [_], _ => rfl
  have hm := He.glo_ok X G (c.fact 24 (f := .glo "law") rfl)
  have e := hfa.symm.trans hm
  cases e
  exact ⟨fd0, fun s v => b s [v] rfl, fun base hK hG => ok_all (tx X G c) F htrue⟩
end K52
open PySem PySem.W PySem.Calls PyProof.Rows
theorem PySem.Challenge.cw_dayholds_k52_whole_patterns_told_by_form_holds : PySem.Challenge.rw_dayholds_k52_whole_patterns_told_by_form.Holds := by
  w_on; o_law
  refine HandSHeadRun.head_any (r := OpenLaw.row PySem.Challenge.rw_dayholds_k52_whole_patterns_told_by_form) (q := view (OpenLaw.row PySem.Challenge.rw_dayholds_k52_whole_patterns_told_by_form).prog [29]) (H := K52.hk) (ob := K52.ob) (M := 900) (loose := K52.names) (d := HandSHeadRun.topDef (OpenLaw.row PySem.Challenge.rw_dayholds_k52_whole_patterns_told_by_form).prog 29) (kwd := []) K52.ob_eq
    (by kernel_rfl) (fun s => by kernel_rfl) K52.run (by kernel_rfl) (by kernel_rfl) (by kernel_rfl) (by rfl) (by first | assumption | decide +kernel) (by decide +kernel) ⟨rfl, rfl, rfl, rfl, rfl, by decide +kernel⟩ ?hw ?hc
  case hw => w_witness2
  case hc =>
    refine L2.walk_ofE (l := PySem.Challenge.rw_dayholds_k52_whole_patterns_told_by_form) (n := 63) (k := 11) (x := "script") (CX := L2.CX0) rfl (by decide) (by kernel_rfl) ⟨rfl, by decide, by decide⟩ ?F (fun _ _ _ _ z => z)
    intro w mg fa h Y G hmg0
    obtain ⟨K, KX, c⟩ := Y
    have hmg : mg ("law" : PySem.Str) = some (.ref fa) := by
      have e : (HandSHeadRun.topDef (OpenLaw.row PySem.Challenge.rw_dayholds_k52_whole_patterns_told_by_form).prog 29).name = ("law" : PySem.Str) := by kernel_rfl
      rw [← e]
      exact hmg0
    obtain ⟨fd, hb, hF⟩ := K52.facts (P := (PySem.Challenge.rw_dayholds_k52_whole_patterns_told_by_form).prog) (w := w) KX G hmg c
    exact ⟨K, fd, L3.spLaw K, KX, hb, fun H a ns hl _ hS => ⟨a, ns, rfl, hS, hl, fun _ => rfl⟩, hF⟩
