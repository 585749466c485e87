import PyProof.Rows.All
import Wide.All
import OpenK.AllK
import Wide.FinOn
import KE.GoesEnum
import KE.GoesMore
import KE.GoesZip
import KE.Datum
import HandS.ForMost
import HandS.ForExc
import HandS.Walk
import HandS.Zip
import HandS.SetFor
import HandS.Strs
import HandS.Conv
import HandS.RevRange
import HandS.Flow
import HandS.IsInst
import HandS.ExcValue
import HandS.ExcIs
import HandS.WordsExc
import HandS.TryOnly
import HandS.Head0
import HandS.Head1
import HandS.Head2
import HandS.HeadEnd
import HandS.HeadHook1
import HandS.HeadHook2
import HandS.HeadHook3
import HandS.HeadHook4
import PySem.Challenge.RW_busyweb_k50_whole_ladders_made_here
set_option Elab.async false
set_option linter.all false
set_option maxRecDepth 100000
set_option maxHeartbeats 4000000
/-! Rules that the layer lacks: enumerate over a tuple, zip of a tuple and a list, counts. -/
namespace Bz
open PySem PySem.Spec PyProof.Rows L2

/-- a tuple's iterator behind its end -/
theorem drawsEnd {prog : Program} {w : World} {A : Around} (hh : A.handled = none) (it t : Addr) (items : Array Value) (n : Nat) (hn : items.size ≤ n) :
    Draws prog w A it [it, t] n (fun _ _ => True) (fun i h => i = n ∧ h.IsTupleIter it t i ∧ h.IsTuple t items) where
  live := fun _ _ st => let ⟨o, ho, _⟩ := st.2.1; ⟨o, ho⟩
  frame := fun _ _ _ st hk => ⟨st.1, st.2.1.at fun o e => hk it (by simp) o e, st.2.2.at fun o e => hk t (by simp) o e⟩
  item := fun i s Q E hi st hQ => absurd hi (by rw [st.1]; exact Nat.lt_irrefl _)
  done := fun s Q E st hE => wpAny_nextOf_tuple_end hh st.2.1 st.2.2 (by simp; omega) hE
theorem drawsEndL {prog : Program} {w : World} {A : Around} (hh : A.handled = none) (it t : Addr) (items : Array Value) (n : Nat) (hn : items.size ≤ n) :
    Draws prog w A it [it, t] n (fun _ _ => True) (fun i h => i = n ∧ h.IsListIter it t i ∧ h.IsList t items) where
  live := fun _ _ st => let ⟨o, ho, _⟩ := st.2.1; ⟨o, ho⟩
  frame := fun _ _ _ st hk => ⟨st.1, st.2.1.at fun o e => hk it (by simp) o e, st.2.2.at fun o e => hk t (by simp) o e⟩
  item := fun i s Q E hi st hQ => absurd hi (by rw [st.1]; exact Nat.lt_irrefl _)
  done := fun s Q E st hE => wpAny_nextOf_list_end hh st.2.1 st.2.2 (by simp; omega) hE

/-! ### enumerate(tuple) -/
def IteT (K : PySem.W.Frag) (a : Addr) : It :=
  ⟨fun i H => ∃ (xs : List V) (x : V), SqT K H a xs ∧ xs[i]? = some x, fun i H v H' => ∃ T x, v = .ref T ∧ H T = none ∧ H' = upd H T (.tup [.int (i : Nat), x]) ∧ ∀ xs, SqT K H a xs → xs[i]? = some x, fun i H => ∃ xs : List V, SqT K H a xs ∧ xs.length ≤ i⟩
theorem turn_enumT {P : Program} {w : World} {K : PySem.W.Frag} {elts : List Expr} {kk : Nat} {tpos : Pos} {a e it : Addr} (hai : a ≠ it) (hae : e ≠ a) :
    Turn P w K (.Tuple elts kk tpos) (IteT K a) [e, it] e (fun i h => (∃ old, IsEnum h e it ((i : Nat) : Int) old) ∧ h.IsTupleIter it a i ∧ e ≠ it) where
  mem := by simp
  obj := fun i h st b hb => by
    obtain ⟨⟨old, he⟩, ⟨o, ho, hc, hd⟩, _⟩ := st
    have e' : b = e ∨ b = it := by simpa using hb
    rcases e' with z | z
    · rw [z]; exact ⟨_, he, fun v q => nomatch q⟩
    · rw [z]; exact ⟨o, ho, fun v q => by rw [hd] at q; cases q⟩
  keep := fun i h h' st k => let ⟨⟨old, he⟩, hi, hne⟩ := st; ⟨⟨old, k e (by simp) _ he⟩, hi.at fun o q => k it (by simp) o q, hne⟩
  item := by
    intro X hP hw hK hc i pins s σ H E I hf st hg
    subst hP hw hK
    obtain ⟨⟨old, he⟩, hit, hne⟩ := st
    obtain ⟨xs, x, hq, hx⟩ := hg
    obtain ⟨its, rv, p, hz⟩ := I.tuple hq
    obtain ⟨u, hu, ru⟩ := rv.get hx
    have hel : e < s.heap.objs.size := Heap.lt_size he
    have hil : it < s.heap.objs.size := by obtain ⟨_, q, _⟩ := hit; exact Heap.lt_size q
    have pt : s.heap.IsTuple a its.toArray := p
    have hh : X.A.in1.handled = none := I.ok.hd hc
    have hlt : i < its.toArray.size := by
      have := (List.getElem?_eq_some_iff.mp hu).1
      simpa using this
    have D := Draws.tuple (prog := X.prog) (w := X.w) hh it a hai its.toArray
    refine wpAny_pyNext_enum_itemD D he ⟨hit, pt⟩ hlt hne (by simp; exact ⟨hne, hae⟩) fun x' h' tk hPx ho hit' hT hsz hk => ?_
    have ex : x' = u := by
      have h1 : its.toArray[i]? = some x' := hPx
      have h2 : its.toArray[i]? = some u := by simpa using hu
      rw [h2] at h1
      exact (Option.some.inj h1).symm
    subst ex
    refine ⟨_, rfl, wpAny_letOwnedTupleGo_enum (s := { s with heap := h', toks := tk + 1 }) ho fun h'' he' sb => ?_⟩
    have hT2 : h''.get? s.heap.objs.size = some { cls := .type "tuple", data := .seq #[.int i tk, x'] } := (sb.2 _ (Nat.ne_of_gt hel)).trans hT
    have new : ObjOk X.prog X.w (upd H s.heap.objs.size (.tup [.int (i : Nat), x])) h'' s.heap.objs.size (.tup [.int (i : Nat), x]) :=
      ⟨by show 2 ≤ sizeLine; decide, [.int i tk, x'], .cons ⟨_, rfl⟩ (.cons ru .nil), ⟨_, hT2, rfl, _, rfl⟩⟩
    have I1 : Inv X pins σ (upd H s.heap.objs.size (.tup [.int (i : Nat), x])) { s with heap := h'', toks := tk + 1 } :=
      I.turnedNew (ch := [e, it]) (fun b ob hb q => (sb.2 b (fun z => hb (by simp [z]))).trans (hk b ob (fun z => hb (by simp [z])) (fun z => hb (by simp [z])) q)) hf (Nat.le_refl _) new
    refine ⟨.ref s.heap.objs.size, _, I1, rfl, ⟨_, x, rfl, I.hok.fresh (Nat.le_refl _), rfl, fun ys hy => by rw [I.tuple_inj hy hq]; exact hx⟩, ⟨⟨x', ?_⟩, hit'.1.at fun o q => (sb.2 it (Ne.symm hne)).trans q, hne⟩, fun b hb => ?_⟩
    · have e1 : ((i + 1 : Nat) : Int) = (i : Int) + 1 := by omega
      rw [e1]; exact he'
    · have hb' : b < s.heap.objs.size := by
        have e' : b = e ∨ b = it := by simpa using hb
        rcases e' with z | z
        · rw [z]; exact hel
        · rw [z]; exact hil
      rw [upd_ne (Nat.ne_of_lt hb')]
      exact (hf b hb).1
  done := by
    intro X hP hw hK hc i pins s σ H E I hf st hg
    subst hP hw hK
    obtain ⟨⟨old, he⟩, hit, hne⟩ := st
    obtain ⟨xs, hq, hx⟩ := hg
    obtain ⟨its, rv, p, hz⟩ := I.tuple hq
    obtain ⟨f0, f1, f2, f3, f4, f5⟩ := hf it (by simp)
    have hl := rv.length
    have pt : s.heap.IsTuple a its.toArray := p
    have hh : X.A.in1.handled = none := I.ok.hd hc
    have D := drawsEnd (prog := X.prog) (w := X.w) hh it a its.toArray i (by simp; omega)
    exact wpAny_pyNext_enum_endD D he ⟨rfl, hit, pt⟩ fun h' eb => ⟨rfl, I.turned (t' := s.toks) (fun b o hb q => eb b o hb q) f0 f1 f3 f4 f5⟩
  self := fun A i s Q E st h => let ⟨⟨_, he⟩, _⟩ := st; wpAny_pyIter_enum he h
def iEnumT (K : PySem.W.Frag) (ta : TA) : TI := fun σ H R => ta σ H fun vs H1 => ∃ a xs, vs = [.ref a] ∧ SqT K H1 a xs ∧ R (IteT K a) H1

theorem meets_enum1 {v : Value} {o : Obj} {H : Heap → Prop} (B : Begins v o H) :
    Meets (Builtin.«enumerate.__new__» ⟨[.type "enumerate", v], []⟩) (fun _ R s => H s.heap ∧
      R (.ok (.ret (.ref (s.heap.push o).objs.size))) { s with heap := (s.heap.push o).push { cls := .type "enumerate", data := .fields #[.none, .bool false, .ref s.heap.objs.size, rawInt 0, .none, .none] } }) :=
  .of_wp fun prog w A R s h => by
    obtain ⟨hp, g, d, tk, os⟩ := s; obtain ⟨h1, h⟩ := h
    have hsub := sub_enumerate
    have q1 : ∀ {A' : Around} {E : Value → Shared → Prop} {Q : Value → Shared → Prop}, Q (.ref hp.objs.size) ⟨hp.push o, g, d, tk, os⟩ → wpAny (model prog w) A' (pyIter v) Q E ⟨hp, g, d, tk, os⟩ :=
      fun q => B.iter prog w _ _ ⟨hp, g, d, tk, os⟩ _ h1 q
    wp_walk using q1
    refine wpAny_stack_any fun st => wpAny_pure ?_
    split
    · rename_i c _ _ _ _ _
      cases (c == Value.type "enumerate")
      · wp_walk using q1
        exact ⟨_, rfl, h⟩
      · wp_walk using q1
        exact ⟨_, rfl, h⟩
    · wp_walk using q1
      exact ⟨_, rfl, h⟩
theorem call_enum1 {prog : Program} {w : World} {A : Around} {E : Value → Shared → Prop} {s : Shared} {v : Value} {o : Obj} {H : Heap → Prop} {Q : Value → Shared → Prop} (B : Begins v o H) (h1 : H s.heap)
    (h : ∀ h', IsEnum h' (s.heap.objs.size + 1) s.heap.objs.size 0 .none → h'.get? s.heap.objs.size = some o → h'.objs.size = s.heap.objs.size + 2 →
      (∀ b o, s.heap.get? b = some o → h'.get? b = some o) → Q (.ref (s.heap.objs.size + 1)) { s with heap := h' }) :
    wpAny (model prog w) A (call (.type "enumerate") [v]) Q E s := by
  refine callType_new F.called_enumerate (by decide) (F.typeCall_enumerate_1 _) (F.newCall_enumerate_1 _) (fun obj => F.args_object_init_2 obj _) F.entry_enumerate_new
    (meets_enum1 B) ⟨h1, ?_⟩
  have hz : (s.heap.push o).objs.size = s.heap.objs.size + 1 := Heap.size_push ..
  show _ ∧ _
  rw [hz]
  have he : IsEnum ((s.heap.push o).push { cls := .type "enumerate", data := .fields #[.none, .bool false, .ref s.heap.objs.size, rawInt 0, .none, .none] }) (s.heap.objs.size + 1) s.heap.objs.size 0 .none := by
    have := Heap.get?_push_size (s.heap.push o) (o := { cls := .type "enumerate", data := .fields #[.none, .bool false, .ref s.heap.objs.size, rawInt 0, .none, .none] }) rfl
    rw [hz] at this; exact this
  refine ⟨⟨_, he, rfl⟩, h _ he (Heap.get?_push_of_some _ (Heap.get?_push_size _ B.free)) (by rw [Heap.size_push, hz]) fun b o x => Heap.get?_push_of_some _ (Heap.get?_push_of_some _ x)⟩
theorem pi_enumT {X : Cx} {e : Expr} {ta : TA} {p pos tpos : Pos} {elts : List Expr} {kk : Nat} (hg : Gl X "enumerate") (hm : X.mg "enumerate" = none) (ha : PA X [e] ta) (hs : starEach [e] X.env = [(false, eval e X.env)] := by rfl) :
    PI X (.Tuple elts kk tpos) (.Call (.Name "enumerate" p) [e] [] pos) (iEnumT X.K ta) := by
  refine ⟨fun pins s σ H R I h => ?_⟩
  refine Call_ (ld_blt I hg hm boot_enumerate (PyProof.Rows.callWith_type1 (thn (ha.run pos pins s σ H _ I h) fun us s1 ⟨vs, H1, I1, r1, q1⟩ => ?_) hs rfl))
  obtain ⟨a, xs, ex, hq, q⟩ := q1
  subst ex
  cases r1 with
  | cons r rr =>
    cases rr
    cases r
    obtain ⟨its, rv, p', hz⟩ := I1.tuple hq
    have pt : s1.heap.IsTuple a its.toArray := p'
    have hal : a < s1.heap.objs.size := p'.lt
    refine call_enum1 (begins_tuple a its.toArray) pt fun h' he hit hsz hk => wpAny_pyIter_enum he ?_
    have I2 : Inv X pins σ H1 { s1 with heap := h' } := I1.kept (t' := s1.toks) hk
    refine ⟨s1.heap.objs.size + 1, [s1.heap.objs.size + 1, s1.heap.objs.size], _, _, H1, rfl, I2, turn_enumT (Nat.ne_of_lt hal) (Nat.ne_of_gt (Nat.lt_succ_of_lt hal)), ⟨⟨.none, he⟩, ⟨_, hit, rfl, rfl⟩, Nat.succ_ne_self _⟩, fun b hb => ?_, q⟩
    have e' : b = s1.heap.objs.size + 1 ∨ b = s1.heap.objs.size := by simpa using hb
    have hle : s1.heap.objs.size ≤ b := by
      rcases e' with z | z
      · rw [z]; exact Nat.le_add_right _ _
      · rw [z]; exact Nat.le_refl _
    exact I1.fpOk hle (I1.hok.fresh hle)
theorem walk_enumT {K : PySem.W.Frag} {a : Addr} {xs : List V} : Walk (IteT K a) xs.length (fun H => SqT K H a xs) (YPair (fun i => some (.int (i : Nat))) (fun i => xs[i]?)) := by
  refine ⟨fun i _ hi q => ⟨xs, xs[i], q, by simp [hi]⟩, fun _ q => ⟨xs, q, Nat.le_refl _⟩, fun i H v H' _ q y => ?_⟩
  obtain ⟨T, x, h1, h2, h3, h4⟩ := y
  exact ⟨T, .int (i : Nat), x, h1, h2, h3, rfl, h4 xs q⟩

/-! ### zip(tuple, list) -/
def ItzTL (K : PySem.W.Frag) (a b : Addr) : It :=
  ⟨fun i H => ∃ (xs ys : List V) (x y : V), SqT K H a xs ∧ SqL K H b ys ∧ xs[i]? = some x ∧ ys[i]? = some y,
    fun i H v H' => ∃ T x y, v = .ref T ∧ H T = none ∧ H' = upd H T (.tup [x, y]) ∧ (∀ xs, SqT K H a xs → xs[i]? = some x) ∧ ∀ ys, SqL K H b ys → ys[i]? = some y,
    fun i H => ∃ xs ys : List V, SqT K H a xs ∧ SqL K H b ys ∧ xs.length ≤ i ∧ ys.length ≤ i⟩
theorem turn_zipTL {P : Program} {w : World} {K : PySem.W.Frag} {elts : List Expr} {kk : Nat} {tpos : Pos} {a b z TI TO i1 i2 : Addr} (S : ZipSep2 z TI TO i1 i2 [i1, a] [i2, b]) (n1 : a ≠ i1) (n2 : b ≠ i2) :
    Turn P w K (.Tuple elts kk tpos) (ItzTL K a b) [z, TI, TO, i1, i2] z (fun i h => IsZip h z TI TO .none ∧ IsTupOf2 h TI (.ref i1) (.ref i2) ∧ (∃ x y, IsTupOf2 h TO x y) ∧ h.IsTupleIter i1 a i ∧ h.IsListIter i2 b i) where
  mem := by simp
  obj := fun i h st c hc => by
    obtain ⟨hz, hTI, ⟨x, y, hTO⟩, ⟨o1, e1, _, d1⟩, ⟨o2, e2, _, d2⟩⟩ := st
    have e' : c = z ∨ c = TI ∨ c = TO ∨ c = i1 ∨ c = i2 := by simpa using hc
    rcases e' with q | q | q | q | q
    · rw [q]; exact ⟨_, hz, fun v q => nomatch q⟩
    · rw [q]; exact ⟨_, hTI, fun v q => nomatch q⟩
    · rw [q]; exact ⟨_, hTO, fun v q => nomatch q⟩
    · rw [q]; exact ⟨o1, e1, fun v q => by rw [d1] at q; cases q⟩
    · rw [q]; exact ⟨o2, e2, fun v q => by rw [d2] at q; cases q⟩
  keep := fun i h h' st k => by
    obtain ⟨hz, hTI, ⟨x, y, hTO⟩, h1, h2⟩ := st
    exact ⟨k z (by simp) _ hz, k TI (by simp) _ hTI, ⟨x, y, k TO (by simp) _ hTO⟩, h1.at fun o q => k i1 (by simp) o q, h2.at fun o q => k i2 (by simp) o q⟩
  item := by
    intro X hP hw hK hc i pins s σ H E I hf st hg
    subst hP hw hK
    obtain ⟨hz, hTI, ⟨x0, y0, hTO⟩, h1, h2⟩ := st
    obtain ⟨xs, ys, x, y, hqx, hqy, hx, hy⟩ := hg
    obtain ⟨its, rv, p, _⟩ := I.tuple hqx
    obtain ⟨its2, rv2, p2, _⟩ := I.list hqy
    obtain ⟨u, hu, ru⟩ := rv.get hx
    obtain ⟨u2, hu2, ru2⟩ := rv2.get hy
    have hzl : z < s.heap.objs.size := Heap.lt_size hz
    have hh : X.A.in1.handled = none := I.ok.hd hc
    have pt : s.heap.IsTuple a its.toArray := p
    have l1 : i < its.toArray.size := by simpa using (List.getElem?_eq_some_iff.mp hu).1
    have l2 : i < its2.toArray.size := by simpa using (List.getElem?_eq_some_iff.mp hu2).1
    have D1 := Draws.tuple (prog := X.prog) (w := X.w) hh i1 a n1 its.toArray
    have D2 := Draws.list (prog := X.prog) (w := X.w) hh i2 b n2 its2.toArray
    refine wpAny_pyNext_zipD2_item S D1 D2 hz hTI hTO ⟨h1, pt⟩ ⟨h2, p2.isList⟩ l1 l2 fun x1 x2 h' tk hP1 hP2 z' TO' h1' h2' hT hsz hk => ?_
    have ex : x1 = u := by
      have q1 : its.toArray[i]? = some x1 := hP1
      have q2 : its.toArray[i]? = some u := by simpa using hu
      rw [q2] at q1
      exact (Option.some.inj q1).symm
    have ey : x2 = u2 := by
      have q1 : its2.toArray[i]? = some x2 := hP2
      have q2 : its2.toArray[i]? = some u2 := by simpa using hu2
      rw [q2] at q1
      exact (Option.some.inj q1).symm
    subst ex ey
    refine ⟨_, rfl, wpAny_letOwnedTupleGo_zip (s := { s with heap := h', toks := tk }) z' fun h'' z'' sb => ?_⟩
    have hT2 : h''.get? s.heap.objs.size = some { cls := .type "tuple", data := .seq #[x1, x2] } := (sb.2 _ (Nat.ne_of_gt hzl)).trans hT
    have new : ObjOk X.prog X.w (upd H s.heap.objs.size (.tup [x, y])) h'' s.heap.objs.size (.tup [x, y]) :=
      ⟨by show 2 ≤ sizeLine; decide, [x1, x2], .cons ru (.cons ru2 .nil), ⟨_, hT2, rfl, _, rfl⟩⟩
    have I1 : Inv X pins σ (upd H s.heap.objs.size (.tup [x, y])) { s with heap := h'', toks := tk } :=
      I.turnedNew (t' := tk) (ch := [z, TI, TO, i1, i2]) (fun c o hb q => (sb.2 c (fun q' => hb (by simp [q']))).trans (hk c o (fun q' => hb (by simp [q'])) (fun q' => hb (by simp [q'])) (fun q' => hb (by simp [q'])) (fun q' => hb (by simp [q'])) q)) hf (Nat.le_refl _) new
    refine ⟨.ref s.heap.objs.size, _, I1, rfl, ⟨_, x, y, rfl, I.hok.fresh (Nat.le_refl _), rfl, fun l hl => by rw [I.tuple_inj hl hqx]; exact hx, fun l hl => by rw [I.list_inj hl hqy]; exact hy⟩, ⟨z'', ?_, ⟨x1, x2, ?_⟩, ?_, ?_⟩, fun c hcm => ?_⟩
    · exact (sb.2 _ S.TIz).trans (hk _ _ S.TIz S.TITO S.TIi1 S.TIi2 hTI)
    · exact (sb.2 _ S.TOz).trans TO'
    · exact h1'.1.at fun o q => (sb.2 _ (Ne.symm S.zi1)).trans q
    · exact h2'.1.at fun o q => (sb.2 _ (Ne.symm S.zi2)).trans q
    · have hlt : c < s.heap.objs.size := by
        have e' : c = z ∨ c = TI ∨ c = TO ∨ c = i1 ∨ c = i2 := by simpa using hcm
        rcases e' with q | q | q | q | q
        · rw [q]; exact hzl
        · rw [q]; exact Heap.lt_size hTI
        · rw [q]; exact Heap.lt_size hTO
        · rw [q]; obtain ⟨_, e1, _⟩ := h1; exact Heap.lt_size e1
        · rw [q]; obtain ⟨_, e2, _⟩ := h2; exact Heap.lt_size e2
      rw [upd_ne (Nat.ne_of_lt hlt)]
      exact (hf c hcm).1
  done := by
    intro X hP hw hK hc i pins s σ H E I hf st hg
    subst hP hw hK
    obtain ⟨hz, hTI, ⟨x0, y0, hTO⟩, h1, h2⟩ := st
    obtain ⟨xs, ys, hqx, hqy, hendx, hendy⟩ := hg
    obtain ⟨its, rv, p, _⟩ := I.tuple hqx
    obtain ⟨its2, rv2, p2, _⟩ := I.list hqy
    have l1 := rv.length
    have l2 := rv2.length
    have hh : X.A.in1.handled = none := I.ok.hd hc
    have pt : s.heap.IsTuple a its.toArray := p
    have D1 := drawsEnd (prog := X.prog) (w := X.w) hh i1 a its.toArray i (by simp; omega)
    have D2 := drawsEndL (prog := X.prog) (w := X.w) hh i2 b its2.toArray i (by simp; omega)
    exact wpAny_pyNext_zipD2_end S D1 D2 hz hTI hTO ⟨rfl, h1, pt⟩ ⟨rfl, h2, p2.isList⟩ (Nat.le_refl _) (Nat.le_refl _) (Or.inl rfl) fun h' tk hk => ⟨rfl, I.turnedL (t' := tk) (ch := [z, TI, TO, i1, i2]) (fun c o hb q =>
      hk c o (fun q' => hb (by simp [q'])) (fun q' => hb (by simp [q'])) (fun q' => hb (by simp [q'])) (fun q' => hb (by simp [q'])) q) hf⟩
  self := fun A i s Q E st h => wpAny_pyIter_zip st.1 h
def iZipTL (K : PySem.W.Frag) (ta : TA) : TI := fun σ H R => ta σ H fun vs H1 => ∃ a b xs ys, vs = [.ref a, .ref b] ∧ SqT K H1 a xs ∧ SqL K H1 b ys ∧ R (ItzTL K a b) H1
theorem pi_zipTL {X : Cx} {e e2 : Expr} {ta : TA} {p pos tpos : Pos} {elts : List Expr} {kk : Nat} (hg : Gl X "zip") (hm : X.mg "zip" = none) (ha : PA X [e, e2] ta)
    (hs : starEach [e, e2] X.env = (false, eval e X.env) :: starEach [e2] X.env := by rfl) (hpl : (backTo pos (starEach [e2] X.env)).any (·.1) = false := by rfl) :
    PI X (.Tuple elts kk tpos) (.Call (.Name "zip" p) [e, e2] [] pos) (iZipTL X.K ta) := by
  refine ⟨fun pins s σ H R I h => ?_⟩
  refine Call_ (ld_blt I hg hm PyProof.Rows.boot_zip (PyProof.Rows.callWith_type1 (thn (ha.run pos pins s σ H _ I h) fun us s1 ⟨vs, H1, I1, r1, q1⟩ => ?_) hs hpl))
  obtain ⟨a, b, xs, ys, ex, hqx, hqy, q⟩ := q1
  subst ex
  cases r1 with
  | cons r rr =>
    cases rr with
    | cons r' rr =>
      cases rr
      cases r
      cases r'
      have fresh5 : ∀ c, c ∈ [s1.heap.objs.size + 4, s1.heap.objs.size + 2, s1.heap.objs.size + 3, s1.heap.objs.size, s1.heap.objs.size + 1] → FpOk X pins H1 c := fun c hcm => by
        have e' : c = s1.heap.objs.size + 4 ∨ c = s1.heap.objs.size + 2 ∨ c = s1.heap.objs.size + 3 ∨ c = s1.heap.objs.size ∨ c = s1.heap.objs.size + 1 := by simpa using hcm
        have hle : s1.heap.objs.size ≤ c := by
          rcases e' with z | z | z | z | z
          · rw [z]; exact Nat.le_add_right _ _
          · rw [z]; exact Nat.le_add_right _ _
          · rw [z]; exact Nat.le_add_right _ _
          · rw [z]; exact Nat.le_refl _
          · rw [z]; exact Nat.le_add_right _ _
        exact I1.fpOk hle (I1.hok.fresh hle)
      obtain ⟨its, rv, p1, _⟩ := I1.tuple hqx
      obtain ⟨its2, rv2, p2, _⟩ := I1.list hqy
      have pt : s1.heap.IsTuple a its.toArray := p1
      have la : a < s1.heap.objs.size := p1.lt
      have lb : b < s1.heap.objs.size := p2.lt
      refine zip_begins2 (begins_tuple a its.toArray) (begins_list b its2.toArray) pt p2.isList fun h' hz hTI hTO h1 h2 hsz hk => wpAny_pyIter_zip hz ?_
      have I2 : Inv X pins σ H1 { s1 with heap := h' } := I1.kept (t' := s1.toks) hk
      have S := zip_sep2 (N := s1.heap.objs.size) (fp1 := [a]) (fp2 := [b]) (by simpa using la) (by simpa using lb)
      exact ⟨s1.heap.objs.size + 4, [s1.heap.objs.size + 4, s1.heap.objs.size + 2, s1.heap.objs.size + 3, s1.heap.objs.size, s1.heap.objs.size + 1], _, _, H1, rfl, I2,
        turn_zipTL S (Nat.ne_of_lt la) (Nat.ne_of_lt (Nat.lt_succ_of_lt lb)), ⟨hz, hTI, ⟨_, _, hTO⟩, ⟨_, h1, rfl, rfl⟩, ⟨_, h2, rfl, rfl⟩⟩, fresh5, q⟩
theorem walk_zipTL {K : PySem.W.Frag} {a b : Addr} {xs ys : List V} (hn : xs.length = ys.length) : Walk (ItzTL K a b) xs.length (fun H => SqT K H a xs ∧ SqL K H b ys) (YPair (fun i => xs[i]?) (fun i => ys[i]?)) := by
  refine ⟨fun i _ hi q => ?_, fun _ q => ⟨xs, ys, q.1, q.2, by omega, by omega⟩, fun i H v H' _ q y => ?_⟩
  · have h2 : i < ys.length := by omega
    exact ⟨xs, ys, xs[i], ys[i], q.1, q.2, by simp [hi], by simp [h2]⟩
  · obtain ⟨T, x, z, h1, h2, h3, h4, h5⟩ := y
    exact ⟨T, x, z, h1, h2, h3, h4 xs q.1, h5 ys q.2⟩
end Bz

set_option Elab.async false
set_option linter.all false
set_option maxRecDepth 100000
set_option maxHeartbeats 4000000
/-! More rules that the layer lacks: tuple.count, list.count of truth values, reading for op=, extend by a tuple, set(list). -/
namespace Bz
open PySem PySem.Spec PyProof.Rows L2
section
variable {X : Cx}
/-! ### counts -/
theorem hold_ints {h : Heap} : ∀ {ns : List Int} {us : List Value}, Vals (ns.map V.int) us → PySem.W.HoldAll h us ns
  | [], _, .nil => PySem.W.HoldAll.nil
  | n :: ns, _, .cons r t => by
    obtain ⟨k, rfl⟩ := r
    exact PySem.W.HoldAll.cons (PySem.W.holds_int n k) (hold_ints (h := h) t)
theorem hold_bools {h : Heap} : ∀ {bs : List Bool} {us : List Value}, Vals (bs.map V.bl) us → PySem.W.HoldAll h us bs
  | [], _, .nil => PySem.W.HoldAll.nil
  | b :: bs, _, .cons r t => by
    have r' : _ = Value.bool b := r
    subst r'
    exact PySem.W.HoldAll.cons (PySem.W.holds_bool b) (hold_bools (h := h) t)
theorem countP_eq (xs : List Int) (k : Int) : (xs.countP fun y => decide (y = k)) = xs.count k := by
  unfold List.count
  refine congrArg (fun f => List.countP f xs) (funext fun y => ?_)
  by_cases h : y = k
  · subst h; simp
  · rw [decide_eq_false h]; exact (beq_eq_false_iff_ne.mpr h).symm
theorem countP_eqB (xs : List Bool) (k : Bool) : (xs.countP fun y => decide (y = k)) = xs.count k := by
  unfold List.count
  refine congrArg (fun f => List.countP f xs) (funext fun y => ?_)
  cases y <;> cases k <;> rfl
/-- t.count(k), ints -/
def rCntT (K : PySem.W.Frag) : V → List V → Hp → VK → Prop := fun x xs H Q => ∃ (p : Addr) (ns : List Int) (k : Int), x = .ref p ∧ xs = [.int k] ∧ SqT K H p (ns.map V.int) ∧ Q (.int (ns.count k : Nat)) H
theorem mt_tcount (hu : X.A.units + 2 < cLine) : MtR X "tuple.count" (rCntT X.K) := by
  intro pins s σ H x xs v us Q I rx rxs h
  obtain ⟨p, ns, k, rfl, rfl, hs, q⟩ := h
  cases rx
  obtain ⟨u, rfl, ru⟩ := rxs.one
  obtain ⟨t, rfl⟩ := ru
  obtain ⟨its, rv, pt, hz⟩ := I.tuple hs
  have pt2 : s.heap.IsTuple p its.toArray := pt
  refine PySem.W.count_tuple_datum (xs := ns) (x := k) pt2 (by simpa using hold_ints rv) (PySem.W.holds_int k t) (by show X.A.units + 1 + 0 < cLine; omega) ?_
  rw [countP_eq]
  exact ⟨.int (ns.count k : Nat), H, I.tok _, ⟨s.toks, rfl⟩, q⟩
/-- l.count(b), truth values -/
def rCntB (K : PySem.W.Frag) : V → List V → Hp → VK → Prop := fun x xs H Q => ∃ (p : Addr) (bs : List Bool) (b : Bool), x = .ref p ∧ xs = [.bl b] ∧ SqL K H p (bs.map V.bl) ∧ Q (.int (bs.count b : Nat)) H
theorem mt_bcount (hu : X.A.units + 2 < cLine) : MtR X "list.count" (rCntB X.K) := by
  intro pins s σ H x xs v us Q I rx rxs h
  obtain ⟨p, bs, b, rfl, rfl, hs, q⟩ := h
  cases rx
  obtain ⟨u, rfl, ru⟩ := rxs.one
  have ru' : u = Value.bool b := ru
  subst ru'
  obtain ⟨its, rv, pt, hz⟩ := I.list hs
  refine PySem.W.count_list_datum (xs := bs) (x := b) pt.isList (by simpa using hold_bools rv) (PySem.W.holds_bool b) (by show X.A.units + 1 + 0 < cLine; omega) ?_
  rw [countP_eqB]
  exact ⟨.int (bs.count b : Nat), H, I.tok _, ⟨s.toks, rfl⟩, q⟩
/-! ### xs[i] op= e -/
def rGetL (K : PySem.W.Frag) : V → V → Hp → VK → Prop := fun o i H Q => ∃ (p : Addr) (xs : List V) (j : Nat) (z : V), o = .ref p ∧ i = .int (j : Int) ∧ SqL K H p xs ∧ xs[j]? = some z ∧ Q z H
theorem pg_getL : PGet X (rGetL X.K) := by
  intro pins s σ H o i ov iv Q I ro ri h
  obtain ⟨p, xs, j, z, rfl, rfl, hq, he, q⟩ := h
  cases ro
  obtain ⟨t, rfl⟩ := ri
  obtain ⟨its, r, pl, hz⟩ := I.list hq
  obtain ⟨w, ew, rw'⟩ := r.get he
  have hl := r.length
  have hj : j < xs.length := (List.getElem?_eq_some_iff.mp he).1
  have hn := line63
  exact wpAny_getItem_list pl.isList (Int.natCast_nonneg j) (by omega) (by simpa using ew) ⟨z, H, I, rw', q⟩
/-! ### xs.extend(t), t a tuple -/
theorem meets_extendT (l : Addr) (items : Array Value) (n : Nat) (b : Addr) (items2 : Array Value) (n2 : Nat) (dd : Option Addr) (sl : Array (Option Value)) (hs0 : ¬(!items.isEmpty && Builtin.List.listTooLong (items.size + items2.size)) = true) (hs1 : items.size ≤ sizeLine) (hs2 : items.size + items2.size ≤ sizeLine + 1) :
    Meets (Builtin.«list.extend» ⟨[.ref l, .ref b], []⟩) (fun _ R s => s.heap.get? l = some { cls := .type "list", dict := none, data := .seq items n, slots := #[] } ∧ s.heap.get? b = some { cls := .type "tuple", dict := dd, data := .seq items2 n2, slots := sl } ∧ R (.ok (.ret Value.none)) { s with heap := s.heap.update l (Obj.mapSeq fun x => x ++ items2), toks := s.toks }) :=
  .of_wp fun prog w A R s h => by
    obtain ⟨hp, g, d, tk, os⟩ := s
    obtain ⟨hl, hb, h⟩ := h
    have f1 := AutoSeq1.idx_int
    have f2 := AutoSeq1.sub_tuple_tuple
    have f3 := AutoSeq1.sub_list_list
    have f4 := AutoSeq1.sub_tuple_list
    have f5 := AutoSeq1.sub_list_tuple
    have hz' : (items ++ items2).size ≤ sizeLine + 1 := by rw [Array.size_append]; exact hs2
    wp_walk using (wpAny_updateSeq hl rfl (hz := hs1) (_hz' := hz')), AutoSeq1.wpAny_loadPart' hl, AutoSeq1.wpAny_loadPart' hb
    exact ⟨_, rfl, h⟩
def rExtendT (K : PySem.W.Frag) : V → List V → Hp → VK → Prop := fun x vs H Q => ∃ l b xs zs, x = .ref l ∧ vs = [.ref b] ∧ H l = some (.lst xs) ∧ SqT K H b zs ∧ xs.length + zs.length ≤ sizeLine ∧ Q .non (upd H l (.lst (xs ++ zs)))
theorem mt_extendT : MtM X "list.extend" (rExtendT X.K) := by
  intro pins s σ H x vs v us Q I rx rv h
  obtain ⟨l, b, xs, zs, rfl, rfl, hH, hB, hz, q⟩ := h
  cases rx
  obtain ⟨u, rfl, ru⟩ := rv.one
  cases ru
  obtain ⟨z, its, n, r, hl, e⟩ := I.lstM hH
  obtain ⟨its2, r2, pt, hz2⟩ := I.tuple hB
  obtain ⟨⟨cls, dd, data, sl⟩, e2, hc, n2, hd⟩ := pt
  simp only at hc hd
  subst hc hd
  have hl2 := r2.length
  have hsz : its.toArray.size + its2.toArray.size ≤ sizeLine := by rw [List.size_toArray, List.size_toArray]; omega
  have hlong : ¬ (!its.toArray.isEmpty && Builtin.List.listTooLong (its.toArray.size + its2.toArray.size)) = true := by
    rw [notLongL hsz, Bool.and_false]
    exact Bool.false_ne_true
  refine call_meets F.slot_list_extend ⟨_, e, rfl⟩ F.entry_list_extend (F.args_list_extend_2 _ _)
    (meets_extendT l its.toArray n b its2.toArray n2 dd sl hlong (by rw [List.size_toArray]; omega) (by omega)) ⟨e, e2, ?_⟩
  refine ⟨.non, _, I.lset (its' := its ++ its2) hH e (by simp) (r.append r2) ?_, rfl, q⟩
  rw [List.length_append]
  omega
end
end Bz

set_option Elab.async false
set_option linter.all false
set_option maxRecDepth 100000
set_option maxHeartbeats 4000000
/-! set(list of ints), sorted(set(..)). -/
namespace Bz
open PySem PySem.Spec PyProof.Rows L2
/-- the object of a new set -/
abbrev bare (w : World) : Obj := { cls := .type "set", dict := none, data := .set #[] 0 (.fresh 0 0 (!w.params.followText "set-order")) }
abbrev behind (w : World) (h : Heap) : Heap := h.push (bare w)
section
variable {P : Program} {w : World} {A : Around} {E : Value → Shared → Prop} {s : Shared}
set_option maxRecDepth 100000 in
set_option maxHeartbeats 3200000 in
theorem call_set_lstI {l : Addr} {items : Array Value} (ns : List Int) {Q : Value → Shared → Prop} (hh : A.handled = none) (hl : s.heap.IsList l items) (hit : IntsAre items.toList ns) (hb : ns.length + 1 < scanBound)
    (h : ∀ (h' : Heap) (tk c : Nat), SetR w h' s.heap.objs.size (fun j => decide (j ∈ ns)) c → c ≤ ns.length → (∀ b o, s.heap.get? b = some o → h'.get? b = some o) → Q (.ref s.heap.objs.size) { s with heap := h', toks := tk }) :
    wpAny (model P w) A (call (.type "set") [.ref l]) Q E s := by
  have hisz : items.size = ns.length := by
    have q := IntsAre.length hit
    rw [Array.length_toList] at q
    exact q
  obtain ⟨c, tl, hmro⟩ := F.called_set.mro
  have hmade := F.called_set.made
  have hsub := F.called_set.sub
  refine wpAny_call (codeAny_of_tree ?_)
  show wpAny _ _ (callAny (.type "set") _) _ _ _
  refine wpAny_pure ⟨Code.quiet_builtin _ (by decide +kernel), codeAny_builtin F.entry_type_call ?_⟩
  rw [Around.under_plain (weight_type_call_type "set" [.ref l] []) rfl]
  have h1 := F.called_set.notType
  have h2 := F.called_set.canCreate
  have hct := F.typeCall_set_1 (.ref l)
  repeat (any_goals (first | assumption | wp_step))

  refine codeAny_mono (code_set_led1 (.ref l) (E := E) (Q₁ := fun obj s₁ => obj = .ref s.heap.objs.size ∧ s₁ = { s with heap := behind w s.heap }) ⟨rfl, rfl⟩) fun r s₁ hr => ?_
  cases r with
  | error e => exact hr
  | ok fl =>
    cases fl with
    | ret obj =>
      obtain ⟨rfl, rfl⟩ := hr
      have hS : (behind w s.heap).get? s.heap.objs.size = some (bare w) := Heap.get?_push_size _ rfl
      have hT : Shared.TypeIs { s with heap := behind w s.heap } (.ref s.heap.objs.size) "set" := ⟨_, hS, rfl⟩
      have hli := F.called_set.init.lookup
      have hbi := F.called_set.init.bind (.ref s.heap.objs.size)
      repeat (any_goals (first | assumption | wp_step))

      refine codeAny_mono (codeAny_call_builtin (R := wants (fun r s₂ => r = .none ∧ ∃ h' tk c, s₂ = { s with heap := h', toks := tk } ∧ SetR w h' s.heap.objs.size (fun j => decide (j ∈ ns)) c ∧ c ≤ ns.length ∧
          (∀ b o, s.heap.get? b = some o → h'.get? b = some o)) E) F.called_set.init.plain F.entry_set_init (check_set_init_1 hT ?_)) fun r₂ s₂ hr₂ => ?_
      · obtain ⟨ol, hol, hcl, nl, hdl⟩ := hl
        obtain ⟨ocls, odict, odata, oslots⟩ := ol
        simp only at hcl hdl
        subst hcl; subst hdl
        have hol' : (behind w s.heap).get? l = some { cls := .type "list", dict := odict, data := .seq items nl, slots := oslots } := Heap.get?_push_of_some _ hol
        have hsls := F.sub_list_set
        have hslf := F.sub_list_frozenset
        have hne : (Value.type "list" == Value.type "dict") = false := by decide
        have hl1 : (behind w s.heap).IsList l items := ⟨_, hol', rfl, nl, rfl⟩
        unfold Builtin.«set.__init__» noKeywords Builtin.Frozenset.updateFrom
        generalize hPI : pyIter = PI
        wp_walk
        subst hPI

        refine wpAny_pyIter_list hl1 ?_
        refine wpAny_bind (wpAny_runValue ?_)
        have hlS : l < s.heap.objs.size := Heap.lt_size hol
        have hh3 : A.in1.in1.in1.handled = none := by simp [hh]
        have hz1 : (behind w s.heap).objs.size = s.heap.objs.size + 1 := Heap.size_push ..
        have hneI : l ≠ (behind w s.heap).objs.size := by
          rw [Heap.size_push]; exact Nat.ne_of_lt (Nat.lt_succ_of_lt hlS)
        have hSf : s.heap.objs.size ∉ [(behind w s.heap).objs.size, l] := by
          rw [Heap.size_push]; simp only [List.mem_cons, List.mem_singleton, List.not_mem_nil, or_false, not_or]
          exact ⟨Nat.ne_of_lt (Nat.lt_succ_self _), Nat.ne_of_gt hlS⟩
        have hval : ∀ (i : Nat) (v : Value), items[i]? = some v → ∃ k t, ns[i]? = some k ∧ v = .int k t := fun i v hv => by
          have hi : i < ns.length := by rw [← hisz]; exact (Array.getElem?_eq_some_iff.mp hv).1
          obtain ⟨t, e⟩ := PyProof.Rows.IntsAre.int_at hit i v (by rw [Array.getElem?_toList]; exact hv)
          refine ⟨ns[i], t, List.getElem?_eq_getElem hi, ?_⟩
          rw [e, List.getD_eq_getElem?_getD, List.getElem?_eq_getElem hi] <;> rfl
        refine set_update_ints ((Walks.list hh3 _ l hneI items).toS) s.heap.objs.size
          hSf ns hisz hb hval (items.size - 0) 0 _ (by omega) (Nat.zero_le _)
          ⟨⟨_, Heap.get?_push_size _ rfl, rfl, rfl⟩, (hl1.push _)⟩ ?hS0 ?hR
        case hS0 =>
          have hget : ((behind w s.heap).push { cls := .type "list_iterator", data := .fields #[.ref l, .int 0 0] }).get? s.heap.objs.size
              = some (bare w) := Heap.get?_push_of_some _ hS
          exact ⟨0, Nat.le_refl 0, setR_new_at hget⟩
        case hR =>
          intro s' c' hm hc' hS'
          obtain ⟨h', g2, d', tk', os'⟩ := s'
          have eg : g2 = s.gens := hm.gens
          have ed : d' = s.drawn := hm.drawn
          have eo : os' = s.os := hm.os
          subst eg; subst ed; subst eo
          show wpAny _ _ _ _ _ _
          refine wpAny_pure ?_
          show wpAny _ _ (ret Value.none) _ _ _
          rw [hisz] at hc'
          refine wpAny_pure ⟨rfl, h', tk', c', rfl, hS', hc', fun b o e => ?_⟩
          have hb0 : b < s.heap.objs.size := Heap.lt_size e
          have hb1 : b ≠ s.heap.objs.size := Nat.ne_of_lt hb0
          have hb2 : b ≠ (behind w s.heap).objs.size := by
            rw [Heap.size_push]; exact Nat.ne_of_lt (Nat.lt_succ_of_lt hb0)
          exact hm.heap b o (by simp only [List.mem_cons, List.mem_singleton, List.not_mem_nil, or_false, not_or]; exact ⟨hb1, hb2⟩) (Heap.get?_push_of_some _ (Heap.get?_push_of_some _ e))

      · cases r₂ with
        | error e => exact hr₂
        | ok fl₂ =>
          cases fl₂ with
          | ret r =>
            obtain ⟨rfl, h', tk, c', rfl, hS', hc', hk'⟩ := hr₂
            repeat (any_goals (first | assumption | wp_step))
            exact h _ _ _ hS' hc' hk'
          | _ => exact hr₂.elim
    | _ => exact hr.elim
end
section
variable {X : Cx}
def rSetOf (K : PySem.W.Frag) (w : World) : List V → Hp → VK → Prop := fun xs H Q => ∃ (p : Addr) (ns : List Int), xs = [.ref p] ∧ SqL K H p (ns.map V.int) ∧ ns.length ≤ 1000 ∧
  ∀ (q : Addr) (c : Nat), H q = none → c ≤ ns.length → Q (.ref q) (upd H q (SetO w q (fun j => decide (j ∈ ns)) c))
theorem cr_setOf (hc : X.calm = true) : CallR X (.type "set") (rSetOf X.K X.w) := by
  intro pins s σ H xs us Q I r h
  obtain ⟨p, ns, rfl, hs, hl, q⟩ := h
  obtain ⟨u, rfl, ru⟩ := r.one
  cases ru
  obtain ⟨its, rv, pl, hz⟩ := I.list hs
  refine call_set_lstI ns (I.ok.hd hc) pl.isList (by simpa using ints_of_vals rv) (by unfold scanBound; omega) fun h' tk c R hcl hk => ?_
  have hn : H s.heap.objs.size = none := I.hok.fresh (Nat.le_refl _)
  have J : Inv X pins σ (upd H s.heap.objs.size (SetO X.w s.heap.objs.size (fun j => decide (j ∈ ns)) c)) { s with heap := h', toks := tk } :=
    I.laid (t' := tk) hk (Nat.le_refl _) (setO_new R)
  exact ⟨.ref s.heap.objs.size, _, J, rfl, q _ c hn hcl⟩
end
end Bz

set_option Elab.async false
set_option linter.all false
set_option maxRecDepth 100000
set_option maxHeartbeats 4000000
/-! The layer of this proof: rules with the written part named, pure readings, statements, loops. -/
namespace Bz
open PySem PySem.Spec PyProof.Rows L2
def topS (i : Nat) : Stmt := PySem.Challenge.pw_busyweb_k50_whole_ladders_made_here.main.body.getD i (.Pass ⟨0, 0, 0, 0⟩)

/-! ### rules whose reading names K -/
section
variable {X : Cx}
theorem w_ixL (K : PySem.W.Frag) (h : X.K = K := by rfl) : IxR X (rIxL K) := by subst h; exact ix_list
theorem w_ixT (K : PySem.W.Frag) (h : X.K = K := by rfl) : IxR X (rIxT K) := by subst h; exact ix_tup
theorem w_in (K : PySem.W.Frag) (h : X.K = K := by rfl) : OpR X (compareOp .In) (rIn K false) := by subst h; exact op_in_seq
theorem w_nin (K : PySem.W.Frag) (h : X.K = K := by rfl) : OpR X (compareOp .NotIn) (rIn K true) := by subst h; exact op_notIn_seq
theorem w_eqD (K : PySem.W.Frag) {k : Nat} (hr : Room k X.A) (h : X.K = K := by rfl) : OpR X (compareOp .Eq) (rEqD K) := by subst h; exact op_eqD hr.units
theorem w_neD (K : PySem.W.Frag) {k : Nat} (hr : Room k X.A) (h : X.K = K := by rfl) : OpR X (compareOp .NotEq) (rNeD K) := by subst h; exact op_neD hr.units
def rLen (K : PySem.W.Frag) : List V → Hp → VK → Prop := fun xs H Q => ∃ p ys, xs = [.ref p] ∧ (SqL K H p ys ∨ SqT K H p ys) ∧ Q (.int ys.length) H
theorem w_len (K : PySem.W.Frag) (h : X.K = K := by rfl) : CallR X (.builtin "len") (rLen K) := by subst h; exact call_len_seq
def rListOf (K : PySem.W.Frag) : List V → Hp → VK → Prop := fun xs H Q => ∃ p ys, xs = [.ref p] ∧ (SqL K H p ys ∨ SqT K H p ys) ∧ ∀ l, H l = none → Q (.ref l) (upd H l (.lst ys))
theorem w_listOf (K : PySem.W.Frag) (h : X.K = K := by rfl) : CallR X (.type "list") (rListOf K) := by subst h; exact call_list_of
def rTupOf (K : PySem.W.Frag) : List V → Hp → VK → Prop := fun xs H Q => ∃ p ys, xs = [.ref p] ∧ ((SqL K H p ys ∧ ∀ l, H l = none → Q (.ref l) (upd H l (.tup ys))) ∨ (SqT K H p ys ∧ Q (.ref p) H))
theorem w_tupOf (K : PySem.W.Frag) (h : X.K = K := by rfl) : CallR X (.type "tuple") (rTupOf K) := by subst h; exact call_tuple_of
theorem w_sum (K : PySem.W.Frag) (hc : X.calm = true) (h : X.K = K := by rfl) : CallR X (.builtin "sum") (rSum K) := by subst h; exact cr_sum hc
theorem w_max (K : PySem.W.Frag) (hc : X.calm = true) (h : X.K = K := by rfl) : CallR X (.builtin "max") (rMax K) := by subst h; exact cr_max hc
theorem w_min (K : PySem.W.Frag) (hc : X.calm = true) (h : X.K = K := by rfl) : CallR X (.builtin "min") (rMin K) := by subst h; exact cr_min hc
theorem w_any (K : PySem.W.Frag) (hc : X.calm = true) (h : X.K = K := by rfl) : CallR X (.builtin "any") (rAny K) := by subst h; exact cr_any hc
theorem w_all (K : PySem.W.Frag) (hc : X.calm = true) (h : X.K = K := by rfl) : CallR X (.builtin "all") (rAll K) := by subst h; exact cr_all hc
theorem w_sorted (K : PySem.W.Frag) (h : X.K = K := by rfl) : CallR X (.builtin "sorted") (rSorted K) := by subst h; exact cr_sorted
theorem w_setOf (K : PySem.W.Frag) (w : World) (hc : X.calm = true) (h : X.K = K := by rfl) (hw : X.w = w := by rfl) : CallR X (.type "set") (rSetOf K w) := by subst h; subst hw; exact cr_setOf hc
theorem w_sortedSet (w : World) (hc : X.calm = true) (hw : X.w = w := by rfl) : CallR X (.builtin "sorted") (rSortedSet w) := by subst hw; exact cr_sortedSet hc
theorem w_fld (K : PySem.W.Frag) {e : Expr} {f : Str} {pos : Pos} {ta : TE} (he : PE X e ta) (hb : attributeBase e f X.env (eval e X.env) = eval e X.env := by rfl) (h : X.K = K := by rfl) : PE X (.Attribute e f pos) (tFld K ta f) := by subst h; exact pe_fld he hb
theorem w_piL (K : PySem.W.Frag) {tg l : Expr} {tl : TE} (hl : PE X l tl) (h : X.K = K := by rfl) : PI X tg l (iList K tl) := by subst h; exact pi_list hl
theorem w_piT (K : PySem.W.Frag) {tg l : Expr} {tl : TE} (hl : PE X l tl) (h : X.K = K := by rfl) : PI X tg l (iTup K tl) := by subst h; exact pi_tup hl
theorem w_enumT (K : PySem.W.Frag) {e : Expr} {ta : TA} {p pos tpos : Pos} {elts : List Expr} {kk : Nat} (hm : X.mg "enumerate" = none) (ha : PA X [e] ta) (hg : Gl X "enumerate" := by rfl) (hs : starEach [e] X.env = [(false, eval e X.env)] := by rfl) (h : X.K = K := by rfl) :
    PI X (.Tuple elts kk tpos) (.Call (.Name "enumerate" p) [e] [] pos) (iEnumT K ta) := by subst h; exact pi_enumT hg hm ha hs
theorem w_zipTL (K : PySem.W.Frag) {e e2 : Expr} {ta : TA} {p pos tpos : Pos} {elts : List Expr} {kk : Nat} (hm : X.mg "zip" = none) (ha : PA X [e, e2] ta) (hg : Gl X "zip" := by rfl)
    (hs : starEach [e, e2] X.env = (false, eval e X.env) :: starEach [e2] X.env := by rfl) (hpl : (backTo pos (starEach [e2] X.env)).any (·.1) = false := by rfl) (h : X.K = K := by rfl) :
    PI X (.Tuple elts kk tpos) (.Call (.Name "zip" p) [e, e2] [] pos) (iZipTL K ta) := by subst h; exact pi_zipTL hg hm ha hs hpl
theorem w_zip (K : PySem.W.Frag) {e e2 : Expr} {ta : TA} {p pos tpos : Pos} {elts : List Expr} {kk : Nat} (hm : X.mg "zip" = none) (ha : PA X [e, e2] ta) (hg : Gl X "zip" := by rfl)
    (hs : starEach [e, e2] X.env = (false, eval e X.env) :: starEach [e2] X.env := by rfl) (hpl : (backTo pos (starEach [e2] X.env)).any (·.1) = false := by rfl) (h : X.K = K := by rfl) :
    PI X (.Tuple elts kk tpos) (.Call (.Name "zip" p) [e, e2] [] pos) (iZip K ta) := by subst h; exact pi_zip hg hm ha hs hpl
theorem w_reversed (K : PySem.W.Frag) {tg e : Expr} {ta : TA} {p pos : Pos} (hm : X.mg "reversed" = none) (ha : PA X [e] ta) (hg : Gl X "reversed" := by rfl) (hs : starEach [e] X.env = [(false, eval e X.env)] := by rfl) (h : X.K = K := by rfl) :
    PI X tg (.Call (.Name "reversed" p) [e] [] pos) (iRev K ta) := by subst h; exact pi_reversed hg hm ha hs
theorem w_pgTup (K : PySem.W.Frag) {es : List Expr} {k : Nat} {t : TGs} {n : Nat} {pos : Pos} (hc : X.calm = true) (hp : PGs X es t) (hl : es.length = n := by rfl) (hn : (assignEach es X.env).length = es.length := by rfl)
    (hst : List.findIdx? (fun x => x.fst) (assignEach es X.env) = none := by rfl) (h : X.K = K := by rfl) : PG X (.Tuple es k pos) (gTup K n t) := by subst h; subst hl; exact pg_tup hc hp hn hst
theorem w_slL (K : PySem.W.Frag) (h : X.K = K := by rfl) : SlR X (rSlL K) := by subst h; exact sl_list
theorem w_getL (K : PySem.W.Frag) (h : X.K = K := by rfl) : PGet X (rGetL K) := by subst h; exact pg_getL
theorem w_extT (K : PySem.W.Frag) (h : X.K = K := by rfl) : MtM X "list.extend" (rExtendT K) := by subst h; exact mt_extendT
theorem w_cntT (K : PySem.W.Frag) {k : Nat} (hr : Room k X.A) (h : X.K = K := by rfl) : MtR X "tuple.count" (rCntT K) := by subst h; exact mt_tcount (by have := hr.units; omega)
theorem w_cntB (K : PySem.W.Frag) {k : Nat} (hr : Room k X.A) (h : X.K = K := by rfl) : MtR X "list.count" (rCntB K) := by subst h; exact mt_bcount (by have := hr.units; omega)
theorem w_cntL (K : PySem.W.Frag) (h : X.K = K := by rfl) : MtR X "list.count" (rCntI K) := by subst h; exact mt_lcount
theorem w_index (K : PySem.W.Frag) (h : X.K = K := by rfl) : MtR X "list.index" (rIndex K) := by subst h; exact mt_index
variable {o e : Expr} {es : List Expr} {to : TE} {t : TA} {name : Str} {apos cpos : Pos} {T id : String} {r : V → List V → Hp → VK → Prop}
theorem w_bm0 (K : PySem.W.Frag) (pa : PlainAttrs T) (slot : Slot T name id) (hty : typeOf (.builtin id) = pure (.type "method_descriptor")) (hm : MtR X id r) (ho : PE X o to)
    (hbase : attributeBase o name X.env (eval o X.env) = eval o X.env := by rfl) (hline : (apos.endLine == cpos.line) = true := by rfl) (h : X.K = K := by rfl) : PE X (.Call (.Attribute o name apos) [] [] cpos) (tBM0 K T r to) := by
  subst h; exact pe_bm0 pa slot hty hm ho hbase hline
theorem w_bm (K : PySem.W.Frag) (pa : PlainAttrs T) (slot : Slot T name id) (hty : typeOf (.builtin id) = pure (.type "method_descriptor")) (hm : MtR X id r) (ho : PE X o to) (ha : PA X (e :: es) t)
    (hbase : attributeBase o name X.env (eval o X.env) = eval o X.env := by rfl)
    (hfew : ((backTo cpos (starEach (e :: es) X.env)).all (fun x => !x.1) && (backToKw cpos (keywordEach [] X.env)).all (fun x => x.1.isSome)
      && decide ((e :: es).length + ([] : List Keyword).length + (if ([] : List Keyword).isEmpty then 0 else 1) < 30)) = true := by rfl)
    (hline : (apos.endLine == cpos.line) = true := by rfl) (hs : starEach (e :: es) X.env = (false, eval e X.env) :: starEach es X.env := by rfl) (hplain : (backTo cpos (starEach es X.env)).any (·.1) = false := by rfl) (h : X.K = K := by rfl) :
    PE X (.Call (.Attribute o name apos) (e :: es) [] cpos) (tBM K T r to t) := by subst h; exact pe_bm pa slot hty hm ho ha hbase hfew hline hs hplain
end
/-! ### tuples whose object is known -/
def tTupF (t : TA) : TE := fun σ H Q => t σ H fun xs H1 => xs.length ≤ sizeLine ∧ ∀ (p : Addr) (o : Obj), H1 p = none → o.dict = none → Q (.ref p) (upd H1 p (.frz o (.tup xs)))
theorem pe_tupF {X : Cx} {es : List Expr} {t : TA} {pos : Pos} {x1} (h : PA X es t) : PE X (.Tuple es x1 pos) (tTupF t) := by
  refine ⟨fun pins s σ H Q I hq => ?_⟩
  refine wpAny_Tuple_spliced (thn (h.run pos pins s σ H _ I hq) fun us s1 ⟨xs, H1, I1, r, z, q⟩ => ⟨by rw [← r.length]; exact z, ?_⟩)
  have hf : H1 s1.heap.objs.size = none := I1.hok.fresh (Nat.le_refl _)
  refine ⟨.ref s1.heap.objs.size, _, I1.laid (t' := s1.toks) (fun b u e => Heap.get?_push_of_some _ e) (Nat.le_refl _) ?_, rfl, q _ { cls := .type "tuple", data := .seq us.toArray } hf rfl⟩
  exact ⟨Heap.get?_push_size _ rfl, z, us, r, ⟨_, Heap.get?_push_size _ rfl, rfl, _, rfl⟩⟩
/-- o.m(e, ..), o a tuple whose object is known -/
def tBMT (r : V → List V → Hp → VK → Prop) (to : TE) (t : TA) : TE := fun σ H Q => to σ H fun x H1 => (∃ p o xs, x = .ref p ∧ H1 p = some (.frz o (.tup xs)) ∧ o.dict = none) ∧ t σ H1 fun xs H2 => r x xs H2 Q
theorem pe_bmT {X : Cx} {o e : Expr} {es : List Expr} {to : TE} {t : TA} {name : Str} {apos cpos : Pos} {id : String} {r : V → List V → Hp → VK → Prop} (pa : PlainAttrs "tuple") (slot : Slot "tuple" name id) (hty : typeOf (.builtin id) = pure (.type "method_descriptor")) (hm : MtR X id r) (ho : PE X o to) (ha : PA X (e :: es) t)
    (hbase : attributeBase o name X.env (eval o X.env) = eval o X.env := by rfl)
    (hfew : ((backTo cpos (starEach (e :: es) X.env)).all (fun x => !x.1) && (backToKw cpos (keywordEach [] X.env)).all (fun x => x.1.isSome)
      && decide ((e :: es).length + ([] : List Keyword).length + (if ([] : List Keyword).isEmpty then 0 else 1) < 30)) = true := by rfl)
    (hline : (apos.endLine == cpos.line) = true := by rfl) (hs : starEach (e :: es) X.env = (false, eval e X.env) :: starEach es X.env := by rfl) (hplain : (backTo cpos (starEach es X.env)).any (·.1) = false := by rfl) :
    PE X (.Call (.Attribute o name apos) (e :: es) [] cpos) (tBMT r to t) := by
  refine ⟨fun pins s σ H Q I h => ?_⟩
  refine wpAny_Call_method_late hbase hfew hline rfl (thn (ho.run pins s σ H _ I h) fun v s1 ⟨x, H1, I1, r1, ⟨p, ob, xs, ex, hp, hd⟩, q1⟩ => ?_)
  subst ex
  cases r1
  obtain ⟨hg, hz, its, rv, ⟨o2, hg2, hc2, n, hd2⟩⟩ := I1.hok p _ hp
  rw [hg] at hg2
  cases hg2
  refine ⟨"tuple", id, pa, slot, hty, ⟨ob, hg, hc2⟩, fun a ea => by cases ea; exact ⟨ob, hg, hd⟩, ?_⟩
  have hA := ha.run cpos pins s1 σ H1 _ I1 q1
  rw [hs] at hA ⊢
  refine Calls.callWith_builtin (by show (false || (backTo cpos (starEach es X.env)).any (·.1)) = false; rw [hplain] <;> rfl) (Calls.evalArgs_plain ?_)
  exact thn hA fun us s2 ⟨vs, H2, I2, r2, q2⟩ => hm pins s2 σ H2 (.ref p) vs (.ref p) us Q I2 rfl r2 q2
/-! ### defs by their promises -/
structure Gd (P : Program) (w : World) (K : PySem.W.Frag) (mg : Str → Option Value) (base : Heap) (k : Nat) (x : Str) (ps : List Str) (sp : Sp) : Prop where
  ex : ∃ f fd, FnOk P w K mg base CX0 k f fd ps sp ∧ mg x = some (.ref f) ∧ PySem.W.keepIn K (.ref f) = true ∧ Binds K fd ps []
def tGd (sp : Sp) (t : TA) : TE := fun σ H Q => t σ H fun vs H1 => sp vs H1 Q E0
theorem pe_gd {X : Cx} {k : Nat} {x : Str} {ps : List Str} {sp : Sp} {e : Expr} {es : List Expr} {t : TA} {p pos : Pos} (G : Gd X.prog X.w X.K X.mg X.base k x ps sp) (hr : Room k X.A) (hg : Gl X x)
    (ha : PA X (e :: es) t) (hdb : (x == ("__debug__" : Str)) = false := by decide) (he : starEach (e :: es) X.env = (false, eval e X.env) :: starEach es X.env := by rfl) (hpl : (backTo pos (starEach es X.env)).any (·.1) = false := by rfl) :
    PE X (.Call (.Name x p) (e :: es) [] pos) (tGd sp t) := by
  obtain ⟨f, fd, F, hm, hk, hb⟩ := G.ex
  have q := pe_call (E := E0) (p := p) (pos := pos) F hr hg hm hk hb .nil pass0 ha hdb he hpl
  have e2 : tCall sp [] E0 t = tGd sp t := by
    funext σ H Q
    show (t σ H fun vs H1 => sp (vs ++ []) H1 Q E0) = t σ H fun vs H1 => sp vs H1 Q E0
    congr 1
    funext vs H1
    rw [List.append_nil]
  rw [← e2]
  exact q
/-- where a def of the text stands -/
structure Df (K : PySem.W.Frag) (mg : Str → Option Value) (x : Str) (ps : List Str) (st : Stmt) : Prop where
  ex : ∃ f fd, Fun K x x st f fd ∧ mg x = some (.ref f) ∧ Binds K fd ps []
theorem Df.gd {P : Program} {w : World} {K : PySem.W.Frag} {mg : Str → Option Value} {base : Heap} {k : Nat} {x : Str} {N ps : List Str} {st : Stmt} {sp : Sp} (F : Df K mg x ps st) (S : FnScope N ps (defScope st)) (len : ∀ vs H Q E, sp vs H Q E → vs.length = ps.length)
    (hbody : ∀ (f : Addr) (cdv : Value) (A : Around) (outer : List Env) (s : Shared) (H : Hp) (vs : List V) (Q : VK) (E : XK), Room k (A.deeper (envOfC x (defScope st) s.heap.objs.size f cdv)) → sp vs H Q E →
      ∃ t, PSs (cxOf CX0 P w K mg base N x (defScope st) f cdv A outer s H E).nox (defBody st) t ∧ t { nx := fun _ H' => Q .non H', rt := Q } (start N vs) H) : Gd P w K mg base (k + 1) x ps sp := by
  obtain ⟨f, fd, F, hm, hb⟩ := F.ex
  exact ⟨f, fd, F.ok S len (hbody f), hm, F.kp, hb⟩
theorem Gd.mono {P : Program} {w : World} {K : PySem.W.Frag} {mg : Str → Option Value} {base : Heap} {j k : Nat} {x : Str} {ps : List Str} {sp : Sp} (G : Gd P w K mg base j x ps sp) (h : j ≤ k) : Gd P w K mg base k x ps sp := by
  obtain ⟨f, fd, F, hm, hk, hb⟩ := G.ex
  exact ⟨f, fd, F.mono h, hm, hk, hb⟩
/-- the built-ins that the text names -/
structure Bt (mg : Str → Option Value) : Prop where
  len : mg "len" = none
  range : mg "range" = none
  sorted : mg "sorted" = none
  list : mg "list" = none
  tuple : mg "tuple" = none
  set : mg "set" = none
  sum : mg "sum" = none
  max : mg "max" = none
  min : mg "min" = none
  any : mg "any" = none
  all : mg "all" = none
  int : mg "int" = none
  zip : mg "zip" = none
  enumerate : mg "enumerate" = none
  reversed : mg "reversed" = none
  isinstance : mg "isinstance" = none
  bool : mg "bool" = none
  ValueError : mg "ValueError" = none
  MOST_PLACES : ∃ t, mg "MOST_PLACES" = some (.int 20 t)
  MOST_TIES : ∃ t, mg "MOST_TIES" = some (.int 40 t)
  MOST_REST : ∃ t, mg "MOST_REST" = some (.int (10 ^ 20) t)
theorem pe_mi {X : Cx} {x : Str} {n : Int} {pos : Pos} (hm : ∃ t, X.mg x = some (.int n t)) (hg : Gl X x := by rfl) (hd : (x == ("__debug__" : Str)) = false := by decide) : PE X (.Name x pos) (tC (.int n)) := by
  obtain ⟨t, hm⟩ := hm
  exact pe_glob hg hm ⟨t, rfl⟩ hd
end Bz

/-! Plain mathematics: lists of numbers, places that hang together. -/
set_option Elab.async false
set_option linter.all false
set_option maxHeartbeats 4000000
namespace Bz
abbrev Tie := Nat × Nat
/-! ### lists of numbers -/
theorem nodup_len : ∀ (n : Nat) (l : List Nat), l.Nodup → (∀ x ∈ l, x < n) → l.length ≤ n
  | 0, [], _, _ => Nat.le_refl _
  | 0, x :: _, _, h => absurd (h x List.mem_cons_self) (Nat.not_lt_zero _)
  | n + 1, l, hn, h => by
    have h1 : (l.filter fun x => decide (x ≠ n)).Nodup := hn.filter _
    have h2 := nodup_len n (l.filter fun x => decide (x ≠ n)) h1 fun x hx => by
      have a := List.mem_filter.mp hx
      have b := h x a.1
      have c : x ≠ n := of_decide_eq_true a.2
      omega
    have h3 : l.length ≤ (l.filter fun x => decide (x ≠ n)).length + 1 := by
      clear h1 h2 h
      induction l with
      | nil => exact Nat.zero_le _
      | cons a l ih =>
        have hl := List.nodup_cons.mp hn
        by_cases e : a = n
        · subst e
          have q : (l.filter fun x => decide (x ≠ a)) = l := List.filter_eq_self.mpr fun x hx => decide_eq_true fun z => hl.1 (z ▸ hx)
          rw [List.filter_cons_of_neg (by simp), q]
          exact Nat.le_refl _
        · rw [List.filter_cons_of_pos (by simpa using e), List.length_cons, List.length_cons]
          have := ih hl.2
          omega
    omega
theorem nodup_snoc {l : List Nat} {x : Nat} (h : l.Nodup) (hx : x ∉ l) : (l ++ [x]).Nodup := by
  rw [List.nodup_append]
  exact ⟨h, List.pairwise_singleton _ _, fun a ha b hb e => by
    rw [List.mem_singleton] at hb
    subst hb
    subst e
    exact hx ha⟩
/-- rising order -/
def srt (l : List Nat) : List Nat := l.mergeSort (fun a b => decide (a ≤ b))
theorem srt_perm (l : List Nat) : (srt l).Perm l := List.mergeSort_perm l _
theorem srt_sorted (l : List Nat) : (srt l).Pairwise (· ≤ ·) := by
  have h := List.pairwise_mergeSort (le := fun a b : Nat => decide (a ≤ b)) (fun a b c h1 h2 => decide_eq_true (Nat.le_trans (of_decide_eq_true h1) (of_decide_eq_true h2)))
    (fun a b => by
      rcases Nat.le_total a b with h | h
      · simp [h]
      · simp [h]) l
  exact h.imp fun h => of_decide_eq_true h
theorem srt_strict {l : List Nat} (h : l.Nodup) : (srt l).Pairwise (· < ·) := by
  have h1 : (srt l).Nodup := (srt_perm l).nodup_iff.mpr h
  have h2 := srt_sorted l
  exact (List.pairwise_and_iff.mpr ⟨h2, h1⟩ : (srt l).Pairwise fun a b => a ≤ b ∧ a ≠ b).imp fun h => Nat.lt_of_le_of_ne h.1 h.2
theorem mem_srt {l : List Nat} {x : Nat} : x ∈ srt l ↔ x ∈ l := (srt_perm l).mem_iff
/-- two rising lists with the same members are one -/
theorem rising_ext : ∀ {a b : List Nat}, a.Pairwise (· < ·) → b.Pairwise (· < ·) → (∀ x, x ∈ a ↔ x ∈ b) → a = b
  | [], [], _, _, _ => rfl
  | [], y :: b, _, _, h => absurd ((h y).mpr List.mem_cons_self) List.not_mem_nil
  | x :: a, [], _, _, h => absurd ((h x).mp List.mem_cons_self) List.not_mem_nil
  | x :: a, y :: b, ha, hb, h => by
    have a1 := List.pairwise_cons.mp ha
    have b1 := List.pairwise_cons.mp hb
    have e : x = y := by
      have h1 := (h x).mp List.mem_cons_self
      have h2 := (h y).mpr List.mem_cons_self
      rcases List.mem_cons.mp h1 with q | q
      · exact q
      · rcases List.mem_cons.mp h2 with r | r
        · exact r.symm
        · have := a1.1 y r
          have := b1.1 x q
          omega
    subst e
    have e2 : a = b := rising_ext a1.2 b1.2 fun z => by
      constructor
      · intro hz
        rcases List.mem_cons.mp ((h z).mp (List.mem_cons_of_mem _ hz)) with q | q
        · subst q; exact absurd (a1.1 z hz) (Nat.lt_irrefl _)
        · exact q
      · intro hz
        rcases List.mem_cons.mp ((h z).mpr (List.mem_cons_of_mem _ hz)) with q | q
        · subst q; exact absurd (b1.1 z hz) (Nat.lt_irrefl _)
        · exact q
    rw [e2]
/-! ### places that hang together -/
/-- a set of places that no tie leaves -/
def Cl (ts : List Tie) (X : Nat → Prop) : Prop := ∀ e ∈ ts, (X e.1 ↔ X e.2)
/-- x and y hang together by the ties ts -/
def Rch (ts : List Tie) (x y : Nat) : Prop := ∀ X : Nat → Prop, Cl ts X → X x → X y
theorem Rch.refl (ts : List Tie) (x : Nat) : Rch ts x x := fun _ _ h => h
theorem Rch.trans {ts : List Tie} {x y z : Nat} (a : Rch ts x y) (b : Rch ts y z) : Rch ts x z := fun X c h => b X c (a X c h)
theorem Rch.symm {ts : List Tie} {x y : Nat} (a : Rch ts x y) : Rch ts y x := fun X c h => by
  refine Classical.byContradiction fun hx => ?_
  exact a (fun z => ¬ X z) (fun e he => not_congr (c e he)) hx h
theorem Rch.tie {ts : List Tie} {e : Tie} (h : e ∈ ts) : Rch ts e.1 e.2 := fun X c hx => (c e h).mp hx
theorem Rch.mono {ts us : List Tie} {x y : Nat} (h : ∀ e ∈ ts, e ∈ us) (a : Rch ts x y) : Rch us x y := fun X c hx => a X (fun e he => c e (h e he)) hx
/-- where each tie of ts hangs together by us -/
theorem Rch.sub {ts us : List Tie} {x y : Nat} (h : ∀ e ∈ ts, Rch us e.1 e.2) (a : Rch ts x y) : Rch us x y := fun X c hx => a X (fun e he => ⟨h e he X c, (h e he).symm X c⟩) hx
theorem Rch.lt {ts : List Tie} {n x y : Nat} (hv : ∀ e ∈ ts, e.1 < n ∧ e.2 < n) (hx : x < n) (a : Rch ts x y) : y < n := a (fun z => z < n) (fun e he => ⟨fun _ => (hv e he).2, fun _ => (hv e he).1⟩) hx
/-- the other end -/
def oth (e : Tie) (x : Nat) : Nat := if e.1 = x then e.2 else e.1
theorem oth_int {e : Tie} {x : Nat} (h : e.1 = x ∨ e.2 = x) : (e.1 : Int) + (e.2 : Int) - (x : Int) = ((oth e x : Nat) : Int) := by
  unfold oth
  split
  · omega
  · omega
theorem oth_rch {ts : List Tie} {e : Tie} {x : Nat} (he : e ∈ ts) (h : e.1 = x ∨ e.2 = x) : Rch ts x (oth e x) := by
  unfold oth
  split
  · rename_i q
    subst q
    exact Rch.tie he
  · rename_i q
    rcases h with h | h
    · exact absurd h q
    · subst h
      exact (Rch.tie he).symm
theorem oth_lt {e : Tie} {x n : Nat} (h : e.1 < n ∧ e.2 < n) : oth e x < n := by
  unfold oth
  split
  · exact h.2
  · exact h.1
/-- what a search is through with: F closed at x by the tie e -/
def Shut (F : List Nat) (e : Tie) (x : Nat) : Prop := (e.1 = x → e.2 ∈ F) ∧ (e.2 = x → e.1 ∈ F)
theorem Shut.of {F : List Nat} {e : Tie} {x : Nat} (hx : x ∈ F) (h : e.1 = x ∨ e.2 = x → oth e x ∈ F) : Shut F e x := by
  refine ⟨fun q => ?_, fun q => ?_⟩
  · have := h (.inl q)
    unfold oth at this
    rw [if_pos q] at this
    exact this
  · have := h (.inr q)
    unfold oth at this
    by_cases r : e.1 = x
    · rw [r]; exact hx
    · rw [if_neg r] at this
      exact this
theorem Shut.mono {F G : List Nat} {e : Tie} {x : Nat} (h : Shut F e x) (s : ∀ y ∈ F, y ∈ G) : Shut G e x := ⟨fun q => s _ (h.1 q), fun q => s _ (h.2 q)⟩
theorem shut_all {ts : List Tie} {F : List Nat} (h : ∀ x ∈ F, ∀ e ∈ ts, Shut F e x) : Cl ts fun y => y ∈ F := fun e he => ⟨fun q => (h _ q e he).1 rfl, fun q => (h _ q e he).2 rfl⟩
end Bz

set_option Elab.async false
set_option linter.all false
set_option maxRecDepth 100000
set_option maxHeartbeats 4000000
/-! Data on the heap (webs, lists of numbers); pure readings. -/
namespace Bz
open PySem PySem.Spec L2

/-! ### heaps -/
theorem Same.seqT {K : PySem.W.Frag} {H H' : Hp} {a : Addr} {xs : List V} (e : Same H H') (h : SqT K H a xs) : SqT K H' a xs := by
  rcases h with (h | ⟨o, h⟩) | h
  · exact .inl (.inl (e _ _ h))
  · exact .inl (.inr ⟨o, e _ _ h⟩)
  · exact .inr h
theorem same_new {H : Hp} {p : Addr} {o : HO} (h : H p = none) : Same H (upd H p o) := fun b x e => by
  rw [upd_ne (ne_of_none e h)]
  exact e
/-- an object that H does not know may change -/
theorem Same.mut {H H' : Hp} {p : Addr} {o : HO} (e : Same H H') (h : H p = none) : Same H (upd H' p o) := fun b x q => by
  rw [upd_ne (ne_of_none q h)]
  exact e b x q
theorem small_le {n : Nat} (h : n ≤ 100000) : n ≤ sizeLine := Nat.le_trans h (by decide)
theorem small_lt {n : Nat} (h : n < 100000) : n < sizeLine := Nat.lt_of_lt_of_le h (by decide)

/-! ### numbers -/
/-- a list of places or ties -/
abbrev nvs (ns : List Nat) : List V := ns.map fun n : Nat => V.int (n : Int)
abbrev ivs (ns : List Int) : List V := ns.map V.int
theorem nvs_iv (ns : List Nat) : nvs ns = ivs (ns.map fun n : Nat => (n : Int)) := by
  show ns.map (fun n : Nat => V.int (n : Int)) = (ns.map fun n : Nat => (n : Int)).map V.int
  rw [List.map_map]
  rfl
theorem nvs_get {ns : List Nat} {i : Nat} {n : Nat} (h : ns[i]? = some n) : (nvs ns)[i]? = some (.int (n : Int)) := by
  show (ns.map fun n : Nat => V.int (n : Int))[i]? = _
  rw [List.getElem?_map, h]
  rfl
theorem nvs_at {ns : List Nat} {i : Nat} {n : Nat} (h : ns[i]? = some n) : atI (nvs ns) (i : Int) = some (.int (n : Int)) := atI_nat (nvs_get h)
theorem ivs_get {ns : List Int} {i : Nat} {n : Int} (h : ns[i]? = some n) : (ivs ns)[i]? = some (.int n) := by
  show (ns.map V.int)[i]? = _
  rw [List.getElem?_map, h]
  rfl
theorem ivs_at {ns : List Int} {i : Nat} {n : Int} (h : ns[i]? = some n) : atI (ivs ns) (i : Int) = some (.int n) := atI_nat (ivs_get h)
theorem nvs_of {ns : List Nat} {i : Nat} {v : V} (h : (nvs ns)[i]? = some v) : ∃ n, ns[i]? = some n ∧ v = .int (n : Int) := by
  rw [show (nvs ns)[i]? = (ns[i]?).map fun n : Nat => V.int (n : Int) from List.getElem?_map] at h
  cases e : ns[i]? with
  | none => rw [e] at h; cases h
  | some n => rw [e] at h; exact ⟨n, rfl, (Option.some.inj h).symm⟩
theorem ivs_of {ns : List Int} {i : Nat} {v : V} (h : (ivs ns)[i]? = some v) : ∃ n, ns[i]? = some n ∧ v = .int n := by
  rw [show (ivs ns)[i]? = (ns[i]?).map V.int from List.getElem?_map] at h
  cases e : ns[i]? with
  | none => rw [e] at h; cases h
  | some n => rw [e] at h; exact ⟨n, rfl, (Option.some.inj h).symm⟩
theorem nvs_flat (ns : List Nat) : (nvs ns).all flatV = true := by
  rw [List.all_eq_true]
  intro x hx
  obtain ⟨n, _, rfl⟩ := List.mem_map.mp hx
  rfl
theorem inV_nvs (k : Nat) (ns : List Nat) : inV (.int (k : Int)) (nvs ns) = decide (k ∈ ns) := by
  induction ns with
  | nil => rfl
  | cons n ns ih =>
    show (eqV (.int (n : Int)) (.int (k : Int)) || inV (.int (k : Int)) (nvs ns)) = decide (k ∈ n :: ns)
    rw [ih]
    have e : eqV (.int (n : Int)) (.int (k : Int)) = decide ((n : Int) = (k : Int)) := by
      show ((n : Int) == (k : Int)) = _
      exact Bool.beq_eq_decide_eq _ _
    rw [e]
    by_cases h : k = n
    · subst h; simp
    · have h2 : ¬ (n : Int) = (k : Int) := by omega
      simp [h, h2]
theorem nvs_len (ns : List Nat) : (nvs ns).length = ns.length := List.length_map _
theorem nvs_app (a b : List Nat) : nvs (a ++ b) = nvs a ++ nvs b := List.map_append
theorem ivs_len (ns : List Int) : (ivs ns).length = ns.length := List.length_map _

/-! ### ties, webs -/
def PairAt (K : PySem.W.Frag) (H : Hp) (r : Addr) (e : Tie) : Prop := ∃ o, H r = some (.frz o (.tup [.int (e.1 : Int), .int (e.2 : Int)])) ∧ o.dict = none
theorem PairAt.mono {K : PySem.W.Frag} {H H' : Hp} {r : Addr} {e : Tie} (s : Same H H') (h : PairAt K H r e) : PairAt K H' r e := by
  obtain ⟨o, h1, h2⟩ := h
  exact ⟨o, s _ _ h1, h2⟩
theorem PairAt.sq {K : PySem.W.Frag} {H : Hp} {r : Addr} {e : Tie} (h : PairAt K H r e) : SqT K H r [.int (e.1 : Int), .int (e.2 : Int)] := by
  obtain ⟨o, h1, _⟩ := h
  exact .inl (.inr ⟨o, h1⟩)
/-- the refs rs stand for the ties ts -/
def Refs (K : PySem.W.Frag) (H : Hp) (rs : List Addr) (ts : List Tie) : Prop := rs.length = ts.length ∧ ∀ (k : Nat) (r : Addr) (e : Tie), rs[k]? = some r → ts[k]? = some e → PairAt K H r e
theorem Refs.mono {K : PySem.W.Frag} {H H' : Hp} {rs : List Addr} {ts : List Tie} (s : Same H H') (h : Refs K H rs ts) : Refs K H' rs ts := ⟨h.1, fun k r e a b => (h.2 k r e a b).mono s⟩
theorem Refs.get {K : PySem.W.Frag} {H : Hp} {rs : List Addr} {ts : List Tie} (h : Refs K H rs ts) {k : Nat} {e : Tie} (he : ts[k]? = some e) : ∃ r, rs[k]? = some r ∧ PairAt K H r e := by
  have hl := (List.getElem?_eq_some_iff.mp he).1
  have hk : k < rs.length := by rw [h.1]; exact hl
  have hr : rs[k]? = some rs[k] := List.getElem?_eq_getElem hk
  exact ⟨_, hr, h.2 k _ e hr he⟩
def rvs (rs : List Addr) : List V := rs.map V.ref
theorem rvs_get {rs : List Addr} {i : Nat} {r : Addr} (h : rs[i]? = some r) : (rvs rs)[i]? = some (.ref r) := by
  show (rs.map V.ref)[i]? = _
  rw [List.getElem?_map, h]
  rfl
theorem rvs_of {rs : List Addr} {i : Nat} {v : V} (h : (rvs rs)[i]? = some v) : ∃ r, rs[i]? = some r ∧ v = .ref r := by
  rw [show (rvs rs)[i]? = (rs[i]?).map V.ref from List.getElem?_map] at h
  cases e : rs[i]? with
  | none => rw [e] at h; cases h
  | some n => rw [e] at h; exact ⟨n, rfl, (Option.some.inj h).symm⟩
theorem rvs_len (rs : List Addr) : (rvs rs).length = rs.length := List.length_map _
def TieTup (K : PySem.W.Frag) (H : Hp) (a : Addr) (ts : List Tie) : Prop := ∃ rs, SqT K H a (rvs rs) ∧ Refs K H rs ts
def TieLst (K : PySem.W.Frag) (H : Hp) (a : Addr) (ts : List Tie) : Prop := ∃ rs, SqL K H a (rvs rs) ∧ Refs K H rs ts
theorem TieTup.mono {K : PySem.W.Frag} {H H' : Hp} {a : Addr} {ts : List Tie} (s : Same H H') (h : TieTup K H a ts) : TieTup K H' a ts := by
  obtain ⟨rs, h1, h2⟩ := h
  exact ⟨rs, Same.seqT s h1, h2.mono s⟩
theorem TieLst.mono {K : PySem.W.Frag} {H H' : Hp} {a : Addr} {ts : List Tie} (s : Same H H') (h : TieLst K H a ts) : TieLst K H' a ts := by
  obtain ⟨rs, h1, h2⟩ := h
  exact ⟨rs, s.seq h1, h2.mono s⟩
structure Valid (n : Nat) (ts : List Tie) : Prop where
  pos : 1 ≤ n
  most : n ≤ 20
  len : ts.length ≤ 40
  ends : ∀ e ∈ ts, e.1 < n ∧ e.2 < n
theorem Valid.at {n : Nat} {ts : List Tie} (v : Valid n ts) {k : Nat} {e : Tie} (h : ts[k]? = some e) : e.1 < n ∧ e.2 < n := v.ends e (List.mem_of_getElem? h)
def wf (n : Nat) (tt : Addr) : List (Str × V) := putF "ties" (.ref tt) (putF "many" (.int (n : Int)) [])
theorem mt_ne : ¬ (("many" : Str) = "ties") := by decide +kernel
theorem tm_ne : ¬ (("ties" : Str) = "many") := by decide +kernel
theorem wf_many (n : Nat) (tt : Addr) : (wf n tt).lookup ("many" : Str) = some (.int (n : Int)) := by
  unfold wf
  rw [lookup_putF, if_neg mt_ne, lookup_putF, if_pos rfl]
theorem wf_ties (n : Nat) (tt : Addr) : (wf n tt).lookup ("ties" : Str) = some (.ref tt) := by
  unfold wf
  rw [lookup_putF, if_pos rfl]
/-- what the text says of the class Web, at C -/
structure WebC (K : PySem.W.Frag) (C : Addr) : Prop where
  cl : Cls K C
  nM : NoAttr K C "many"
  nT : NoAttr K C "ties"
structure WebAt (K : PySem.W.Frag) (C : Addr) (H : Hp) (a : Addr) (n : Nat) (ts : List Tie) : Prop where
  ex : ∃ dx tt, H a = some (.ins C dx (wf n tt)) ∧ TieTup K H tt ts
  ok : Valid n ts
theorem WebAt.mono {K : PySem.W.Frag} {C : Addr} {H H' : Hp} {a : Addr} {n : Nat} {ts : List Tie} (s : Same H H') (h : WebAt K C H a n ts) : WebAt K C H' a n ts := by
  obtain ⟨⟨dx, tt, h1, h2⟩, h3⟩ := h
  exact ⟨⟨dx, tt, s _ _ h1, h2.mono s⟩, h3⟩

/-! ### pure readings -/
def Pu (te : TE) (σ : St) (H : Hp) (v : V) : Prop := ∀ H1, Same H H1 → ∀ Q : VK, Q v H1 → te σ H1 Q
def PuT (tt : TT) (σ : St) (H : Hp) (b : Bool) : Prop := ∀ H1, Same H H1 → ∀ Q : Bool → Hp → Prop, Q b H1 → tt σ H1 Q
def PuA (ta : TA) (σ : St) (H : Hp) (vs : List V) : Prop := ∀ H1, Same H H1 → ∀ Q : List V → Hp → Prop, Q vs H1 → ta σ H1 Q
section
variable {K : PySem.W.Frag} {σ : St} {H H' : Hp} {ta tb tc te : TE} {t u : TT} {x y z v : V} {C a p : Addr} {n : Nat} {ts : List Tie}
theorem Pu.at (h : Pu te σ H v) {Q : VK} (q : Q v H) : te σ H Q := h H (Same.refl H) Q q
theorem PuT.at {b : Bool} (h : PuT t σ H b) {Q : Bool → Hp → Prop} (q : Q b H) : t σ H Q := h H (Same.refl H) Q q
theorem PuA.at {ta : TA} {vs : List V} (h : PuA ta σ H vs) {Q : List V → Hp → Prop} (q : Q vs H) : ta σ H Q := h H (Same.refl H) Q q
theorem Pu.mono (s : Same H H') (h : Pu te σ H v) : Pu te σ H' v := fun H1 e Q q => h H1 (s.trans e) Q q
theorem PuT.mono {b : Bool} (s : Same H H') (h : PuT t σ H b) : PuT t σ H' b := fun H1 e Q q => h H1 (s.trans e) Q q
theorem PuA.mono {ta : TA} {vs : List V} (s : Same H H') (h : PuA ta σ H vs) : PuA ta σ H' vs := fun H1 e Q q => h H1 (s.trans e) Q q
theorem Pu.is (h : Pu te σ H v) (e : v = x) : Pu te σ H x := e ▸ h
theorem PuT.is {b c : Bool} (h : PuT t σ H b) (e : b = c) : PuT t σ H c := e ▸ h
theorem pu_var {i : Nat} (h : σ[i]? = some (some v)) : Pu (tVar i) σ H v := fun _ _ _ q => ⟨v, h, q⟩
theorem pu_c : Pu (tC v) σ H v := fun _ _ _ q => q
theorem pu_op {r : R2} (ha : Pu ta σ H x) (hb : Pu tb σ H y) (hr : ∀ H1, Same H H1 → ∀ Q : VK, Q z H1 → r x y H1 Q) : Pu (tOp r ta tb) σ H z := fun H1 e Q q =>
  ha H1 e _ (hb H1 e _ (hr H1 e Q q))
theorem pu_I0 {g : Int → Int → V} {i j : Int} (ha : Pu ta σ H (.int i)) (hb : Pu tb σ H (.int j)) : Pu (tOp (rI0 g) ta tb) σ H (g i j) := pu_op ha hb fun _ _ _ q => ⟨i, j, rfl, rfl, q⟩
theorem pu_I {c : Int → Int → Prop} {g : Int → Int → V} {i j : Int} (ha : Pu ta σ H (.int i)) (hb : Pu tb σ H (.int j)) (hc : c i j) : Pu (tOp (rI c g) ta tb) σ H (g i j) := pu_op ha hb fun _ _ _ q => ⟨i, j, rfl, rfl, hc, q⟩
theorem pu_neg {i : Int} {g : Int → V} (ha : Pu ta σ H (.int i)) : Pu (tUn (rU g) ta) σ H (g i) := fun H1 e Q q => ha H1 e _ ⟨i, rfl, q⟩
theorem pu_eq (hs : scal x y = true) (ha : Pu ta σ H x) (hb : Pu tb σ H y) : Pu (tOp rEq ta tb) σ H (.bl (decide (x = y))) := pu_op ha hb fun _ _ _ q => ⟨hs, q⟩
theorem pu_ne (hs : scal x y = true) (ha : Pu ta σ H x) (hb : Pu tb σ H y) : Pu (tOp rNe ta tb) σ H (.bl (!decide (x = y))) := pu_op ha hb fun _ _ _ q => ⟨hs, q⟩
theorem dec_ii (i j : Int) : decide (V.int i = V.int j) = decide (i = j) := by
  by_cases h : i = j
  · subst h; simp
  · rw [decide_eq_false h, decide_eq_false fun q => h (V.int.inj q)]
theorem dec_nn (i j : Nat) : decide (((i : Nat) : Int) = ((j : Nat) : Int)) = decide (i = j) := by
  by_cases h : i = j
  · subst h; simp
  · have h2 : ¬ (i : Int) = (j : Int) := by omega
    rw [decide_eq_false h, decide_eq_false h2]
theorem pu_eqI {i j : Int} (ha : Pu ta σ H (.int i)) (hb : Pu tb σ H (.int j)) : Pu (tOp rEq ta tb) σ H (.bl (decide (i = j))) := by rw [← dec_ii]; exact pu_eq rfl ha hb
theorem pu_neI {i j : Int} (ha : Pu ta σ H (.int i)) (hb : Pu tb σ H (.int j)) : Pu (tOp rNe ta tb) σ H (.bl (!decide (i = j))) := by rw [← dec_ii]; exact pu_ne rfl ha hb
theorem pu_eqN {i j : Nat} (ha : Pu ta σ H (.int (i : Int))) (hb : Pu tb σ H (.int (j : Int))) : Pu (tOp rEq ta tb) σ H (.bl (decide (i = j))) := by rw [← dec_nn]; exact pu_eqI ha hb
theorem pu_neN {i j : Nat} (ha : Pu ta σ H (.int (i : Int))) (hb : Pu tb σ H (.int (j : Int))) : Pu (tOp rNe ta tb) σ H (.bl (!decide (i = j))) := by rw [← dec_nn]; exact pu_neI ha hb
theorem pu_isN (ha : Pu ta σ H x) : Pu (tOp (fun x y H Q => y = .non ∧ Q (.bl (decide (x = .non))) H) ta (tC .non)) σ H (.bl (decide (x = .non))) := pu_op ha pu_c fun _ _ _ q => ⟨rfl, q⟩
theorem pu_notN (ha : Pu ta σ H x) : Pu (tOp (fun x y H Q => y = .non ∧ Q (.bl (!decide (x = .non))) H) ta (tC .non)) σ H (.bl (!decide (x = .non))) := pu_op ha pu_c fun _ _ _ q => ⟨rfl, q⟩
theorem pu_ixL {xs : List V} {i : Int} (h : SqL K H p xs) (ha : Pu ta σ H (.ref p)) (hb : Pu tb σ H (.int i)) (hv : atI xs i = some v) : Pu (tOp (rIxL K) ta tb) σ H v := pu_op ha hb fun H1 e _ q => ⟨p, xs, i, v, rfl, rfl, e.seq h, hv, q⟩
theorem pu_ixT {xs : List V} {i : Int} (h : SqT K H p xs) (ha : Pu ta σ H (.ref p)) (hb : Pu tb σ H (.int i)) (hv : atI xs i = some v) : Pu (tOp (rIxT K) ta tb) σ H v := pu_op ha hb fun H1 e _ q => ⟨p, xs, i, v, rfl, rfl, Same.seqT e h, hv, q⟩
theorem pu_ixN {ns : List Nat} {i k : Nat} (h : SqL K H p (nvs ns)) (ha : Pu ta σ H (.ref p)) (hb : Pu tb σ H (.int (i : Int))) (hv : ns[i]? = some k) : Pu (tOp (rIxL K) ta tb) σ H (.int (k : Int)) := pu_ixL h ha hb (nvs_at hv)
theorem pu_ixI {ns : List Int} {i : Nat} {k : Int} (h : SqL K H p (ivs ns)) (ha : Pu ta σ H (.ref p)) (hb : Pu tb σ H (.int (i : Int))) (hv : ns[i]? = some k) : Pu (tOp (rIxL K) ta tb) σ H (.int k) := pu_ixL h ha hb (ivs_at hv)
theorem pu_end0 {e : Tie} (h : PairAt K H p e) (ha : Pu ta σ H (.ref p)) : Pu (tOp (rIxT K) ta (tC (.int 0))) σ H (.int (e.1 : Int)) := pu_ixT h.sq ha pu_c (atI_nat (j := 0) rfl)
theorem pu_end1 {e : Tie} (h : PairAt K H p e) (ha : Pu ta σ H (.ref p)) : Pu (tOp (rIxT K) ta (tC (.int 1))) σ H (.int (e.2 : Int)) := pu_ixT h.sq ha pu_c (atI_nat (j := 1) rfl)
theorem pu_inL {k : Nat} {ns : List Nat} (h : SqL K H p (nvs ns)) (ha : Pu ta σ H (.int (k : Int))) (hb : Pu tb σ H (.ref p)) : Pu (tOp (rIn K false) ta tb) σ H (.bl (decide (k ∈ ns))) := by
  refine pu_op ha hb fun H1 e Q q => ⟨p, nvs ns, rfl, .inl (e.seq h), rfl, nvs_flat ns, ?_⟩
  show Q (.bl (inV (.int (k : Int)) (nvs ns))) H1
  rw [inV_nvs]
  exact q
theorem pu_ninL {k : Nat} {ns : List Nat} (h : SqL K H p (nvs ns)) (ha : Pu ta σ H (.int (k : Int))) (hb : Pu tb σ H (.ref p)) : Pu (tOp (rIn K true) ta tb) σ H (.bl (!decide (k ∈ ns))) := by
  refine pu_op ha hb fun H1 e Q q => ⟨p, nvs ns, rfl, .inl (e.seq h), rfl, nvs_flat ns, ?_⟩
  show Q (.bl (!inV (.int (k : Int)) (nvs ns))) H1
  rw [inV_nvs]
  exact q
theorem dec_two (k : Nat) (e : Tie) : decide (k ∈ [e.1, e.2]) = (decide (e.1 = k) || decide (e.2 = k)) := by
  by_cases h1 : e.1 = k
  · simp [h1]
  · by_cases h2 : e.2 = k
    · simp [h2]
    · have h3 : ¬ k = e.1 := fun q => h1 q.symm
      have h4 : ¬ k = e.2 := fun q => h2 q.symm
      simp [h1, h2, h3, h4]
/-- k in ends -/
theorem pu_inP {k : Nat} {e : Tie} (h : PairAt K H p e) (ha : Pu ta σ H (.int (k : Int))) (hb : Pu tb σ H (.ref p)) : Pu (tOp (rIn K false) ta tb) σ H (.bl (decide (e.1 = k) || decide (e.2 = k))) := by
  refine pu_op ha hb fun H1 s Q q => ⟨p, nvs [e.1, e.2], rfl, .inr (Same.seqT s h.sq), rfl, nvs_flat _, ?_⟩
  show Q (.bl (inV (.int (k : Int)) (nvs [e.1, e.2]))) H1
  rw [inV_nvs, dec_two]
  exact q
theorem pu_fld {dx : Addr} {fs : List (Str × V)} {f : Str} (hc : Cls K C) (hn : NoAttr K C f) (ho : H a = some (.ins C dx fs)) (hl : fs.lookup f = some v) (ha : Pu ta σ H (.ref a)) : Pu (tFld K ta f) σ H v := fun H1 e Q q =>
  ha H1 e _ ⟨a, C, dx, fs, v, rfl, e _ _ ho, hc, hn, hl, q⟩
theorem pu_many (T : WebC K C) (h : WebAt K C H a n ts) (ha : Pu ta σ H (.ref a)) : Pu (tFld K ta "many") σ H (.int (n : Int)) := by
  obtain ⟨dx, tt, h1, h2⟩ := h.ex
  exact pu_fld T.cl T.nM h1 (wf_many n tt) ha
theorem pu_ties (T : WebC K C) (h : WebAt K C H a n ts) (ha : Pu ta σ H (.ref a)) : ∃ tt, TieTup K H tt ts ∧ Pu (tFld K ta "ties") σ H (.ref tt) := by
  obtain ⟨dx, tt, h1, h2⟩ := h.ex
  exact ⟨tt, h2, pu_fld T.cl T.nT h1 (wf_ties n tt) ha⟩
/-- web.ties[k] -/
theorem pu_tie {k : Nat} {e : Tie} (T : WebC K C) (h : WebAt K C H a n ts) (ha : Pu ta σ H (.ref a)) (hk : Pu tb σ H (.int (k : Int))) (he : ts[k]? = some e) : ∃ r, PairAt K H r e ∧ Pu (tOp (rIxT K) (tFld K ta "ties") tb) σ H (.ref r) := by
  obtain ⟨tt, ⟨rs, h1, h2⟩, hp⟩ := pu_ties T h ha
  obtain ⟨r, hr, hq⟩ := h2.get he
  exact ⟨r, hq, pu_ixT h1 hp hk (atI_nat (rvs_get hr))⟩
theorem pu_tie0 {k : Nat} {e : Tie} (T : WebC K C) (h : WebAt K C H a n ts) (ha : Pu ta σ H (.ref a)) (hk : Pu tb σ H (.int (k : Int))) (he : ts[k]? = some e) : Pu (tOp (rIxT K) (tOp (rIxT K) (tFld K ta "ties") tb) (tC (.int 0))) σ H (.int (e.1 : Int)) := by
  obtain ⟨r, hr, hp⟩ := pu_tie T h ha hk he
  exact pu_end0 hr hp
theorem pu_tie1 {k : Nat} {e : Tie} (T : WebC K C) (h : WebAt K C H a n ts) (ha : Pu ta σ H (.ref a)) (hk : Pu tb σ H (.int (k : Int))) (he : ts[k]? = some e) : Pu (tOp (rIxT K) (tOp (rIxT K) (tFld K ta "ties") tb) (tC (.int 1))) σ H (.int (e.2 : Int)) := by
  obtain ⟨r, hr, hp⟩ := pu_tie T h ha hk he
  exact pu_end1 hr hp
/-- ties[k] of a list of ties -/
theorem pu_ltie {k : Nat} {e : Tie} (h : TieLst K H a ts) (ha : Pu ta σ H (.ref a)) (hk : Pu tb σ H (.int (k : Int))) (he : ts[k]? = some e) : ∃ r, PairAt K H r e ∧ Pu (tOp (rIxL K) ta tb) σ H (.ref r) := by
  obtain ⟨rs, h1, h2⟩ := h
  obtain ⟨r, hr, hq⟩ := h2.get he
  exact ⟨r, hq, pu_ixL h1 ha hk (atI_nat (rvs_get hr))⟩
theorem pu_ltie0 {k : Nat} {e : Tie} (h : TieLst K H a ts) (ha : Pu ta σ H (.ref a)) (hk : Pu tb σ H (.int (k : Int))) (he : ts[k]? = some e) : Pu (tOp (rIxT K) (tOp (rIxL K) ta tb) (tC (.int 0))) σ H (.int (e.1 : Int)) := by
  obtain ⟨r, hr, hp⟩ := pu_ltie h ha hk he
  exact pu_end0 hr hp
theorem pu_ltie1 {k : Nat} {e : Tie} (h : TieLst K H a ts) (ha : Pu ta σ H (.ref a)) (hk : Pu tb σ H (.int (k : Int))) (he : ts[k]? = some e) : Pu (tOp (rIxT K) (tOp (rIxL K) ta tb) (tC (.int 1))) σ H (.int (e.2 : Int)) := by
  obtain ⟨r, hr, hp⟩ := pu_ltie h ha hk he
  exact pu_end1 hr hp
theorem pa0 : PuA tNil σ H [] := fun _ _ _ q => q
theorem pa1 {tr : TA} {vs : List V} (ha : Pu ta σ H x) (hr : PuA tr σ H vs) : PuA (tCons ta tr) σ H (x :: vs) := fun H1 e Q q => ha H1 e _ (hr H1 e _ q)
theorem pu_cb {r : List V → Hp → VK → Prop} {tr : TA} {vs : List V} (ha : PuA tr σ H vs) (hr : ∀ H1, Same H H1 → ∀ Q : VK, Q z H1 → r vs H1 Q) : Pu (tCB r tr) σ H z := fun H1 e Q q => ha H1 e _ (hr H1 e Q q)
theorem pu_len {xs : List V} (h : SqL K H p xs) (ha : Pu ta σ H (.ref p)) : Pu (tCB (rLen K) (tCons ta tNil)) σ H (.int (xs.length : Int)) := pu_cb (pa1 ha pa0) fun H1 e _ q => ⟨p, xs, rfl, .inl (e.seq h), q⟩
theorem pu_lenN {ns : List Nat} (h : SqL K H p (nvs ns)) (ha : Pu ta σ H (.ref p)) : Pu (tCB (rLen K) (tCons ta tNil)) σ H (.int (ns.length : Int)) := by
  have q := pu_len h ha
  rw [nvs_len] at q
  exact q
theorem pu_lenI {ns : List Int} (h : SqL K H p (ivs ns)) (ha : Pu ta σ H (.ref p)) : Pu (tCB (rLen K) (tCons ta tNil)) σ H (.int (ns.length : Int)) := by
  have q := pu_len h ha
  rw [ivs_len] at q
  exact q
/-- len(web.ties) -/
theorem pu_lenT (T : WebC K C) (h : WebAt K C H a n ts) (ha : Pu ta σ H (.ref a)) : Pu (tCB (rLen K) (tCons (tFld K ta "ties") tNil)) σ H (.int (ts.length : Int)) := by
  obtain ⟨tt, ⟨rs, h1, h2⟩, hp⟩ := pu_ties T h ha
  have q : Pu (tCB (rLen K) (tCons (tFld K ta "ties") tNil)) σ H (.int ((rvs rs).length : Int)) := pu_cb (pa1 hp pa0) fun H1 e _ q => ⟨tt, _, rfl, .inr (Same.seqT e h1), q⟩
  rw [rvs_len, h2.1] at q
  exact q
theorem pu_lenLT (h : TieLst K H a ts) (ha : Pu ta σ H (.ref a)) : Pu (tCB (rLen K) (tCons ta tNil)) σ H (.int (ts.length : Int)) := by
  obtain ⟨rs, h1, h2⟩ := h
  have q := pu_len h1 ha
  rw [rvs_len, h2.1] at q
  exact q
theorem pu_if {b : Bool} (h : PuT t σ H b) (h1 : b = true → Pu ta σ H v) (h2 : b = false → Pu tb σ H v) : Pu (tIf t ta tb) σ H v := fun H1 e Q q => h H1 e _ (by
  cases b with
  | true => exact iteT (h1 rfl H1 e Q q)
  | false => exact iteF (h2 rfl H1 e Q q))
theorem pt_test {b : Bool} (h : Pu te σ H (.bl b)) : PuT (tTest te) σ H b := fun H1 e _ q => h H1 e _ ⟨b, rfl, q⟩
theorem pt_B {b : Bool} (h : Pu te σ H (.bl b)) : PuT (tB te) σ H b := fun H1 e _ q => h H1 e _ ⟨b, rfl, q⟩
theorem pt_notP {b : Bool} (h : PuT t σ H b) : PuT (tNot t) σ H (!b) := fun H1 e _ q => h H1 e _ q
theorem pt_andP {b c : Bool} (h1 : PuT t σ H b) (h2 : b = true → PuT u σ H c) : PuT (tAnd t u) σ H (b && c) := fun H1 e Q q => h1 H1 e _ (by
  cases b with
  | true => exact iteT (h2 rfl H1 e Q q)
  | false => exact iteF q)
theorem pt_orP {b c : Bool} (h1 : PuT t σ H b) (h2 : b = false → PuT u σ H c) : PuT (tOr t u) σ H (b || c) := fun H1 e Q q => h1 H1 e _ (by
  cases b with
  | true => exact iteT q
  | false => exact iteF (h2 rfl H1 e Q q))
theorem pt_yes : PuT tYes σ H true := fun _ _ _ q => q
end
end Bz

set_option Elab.async false
set_option linter.all false
set_option maxRecDepth 100000
set_option maxHeartbeats 4000000
/-! Readings that let the heap grow; statements, loops, comprehensions. -/
namespace Bz
open PySem PySem.Spec L2
/-- a value, the heap may grow -/
def Gv (te : TE) (σ : St) (H : Hp) (v : V) : Prop := ∀ H1, Same H H1 → ∀ Q : VK, (∀ H2, Same H1 H2 → Q v H2) → te σ H1 Q
def GvT (tt : TT) (σ : St) (H : Hp) (b : Bool) : Prop := ∀ H1, Same H H1 → ∀ Q : Bool → Hp → Prop, (∀ H2, Same H1 H2 → Q b H2) → tt σ H1 Q
/-- a list -/
def Ls (te : TE) (σ : St) (H : Hp) (xs : List V) : Prop := ∀ H1, Same H H1 → ∀ Q : VK, (∀ p H2, Same H1 H2 → H2 p = some (.lst xs) → Q (.ref p) H2) → te σ H1 Q
/-- a new list -/
def Nw (te : TE) (σ : St) (H : Hp) (xs : List V) : Prop := ∀ H1, Same H H1 → ∀ Q : VK, (∀ p H2, H1 p = none → Same H1 H2 → H2 p = some (.lst xs) → Q (.ref p) H2) → te σ H1 Q
section
variable {K : PySem.W.Frag} {σ : St} {H H' : Hp} {ta tb tc te : TE} {t u : TT} {x y z v : V} {C a p : Addr} {n : Nat} {ts : List Tie} {xs ys : List V}
theorem Pu.gv (h : Pu te σ H v) : Gv te σ H v := fun H1 e Q q => h H1 e Q (q H1 (Same.refl H1))
theorem PuT.gt {b : Bool} (h : PuT t σ H b) : GvT t σ H b := fun H1 e Q q => h H1 e Q (q H1 (Same.refl H1))
theorem Pu.ls (h : Pu te σ H (.ref p)) (hp : H p = some (.lst xs)) : Ls te σ H xs := fun H1 e Q q => h H1 e Q (q p H1 (Same.refl H1) (e _ _ hp))
theorem Nw.ls (h : Nw te σ H xs) : Ls te σ H xs := fun H1 e Q q => h H1 e Q fun p H2 _ e2 hp => q p H2 e2 hp
theorem Gv.mono (s : Same H H') (h : Gv te σ H v) : Gv te σ H' v := fun H1 e Q q => h H1 (s.trans e) Q q
theorem GvT.mono {b : Bool} (s : Same H H') (h : GvT t σ H b) : GvT t σ H' b := fun H1 e Q q => h H1 (s.trans e) Q q
theorem Ls.mono (s : Same H H') (h : Ls te σ H xs) : Ls te σ H' xs := fun H1 e Q q => h H1 (s.trans e) Q q
theorem Nw.mono (s : Same H H') (h : Nw te σ H xs) : Nw te σ H' xs := fun H1 e Q q => h H1 (s.trans e) Q q
theorem Nw.at (h : Nw te σ H xs) {Q : VK} (k : ∀ p H1, H p = none → Same H H1 → H1 p = some (.lst xs) → Q (.ref p) H1) : te σ H Q := h H (Same.refl H) Q k
theorem Ls.at (h : Ls te σ H xs) {Q : VK} (k : ∀ p H1, Same H H1 → H1 p = some (.lst xs) → Q (.ref p) H1) : te σ H Q := h H (Same.refl H) Q k
theorem Gv.at (h : Gv te σ H v) {Q : VK} (k : ∀ H1, Same H H1 → Q v H1) : te σ H Q := h H (Same.refl H) Q k
theorem GvT.at {b : Bool} (h : GvT t σ H b) {Q : Bool → Hp → Prop} (k : ∀ H1, Same H H1 → Q b H1) : t σ H Q := h H (Same.refl H) Q k
theorem Gv.is (h : Gv te σ H v) (e : v = x) : Gv te σ H x := e ▸ h
theorem GvT.is {b c : Bool} (h : GvT t σ H b) (e : b = c) : GvT t σ H c := e ▸ h
theorem Nw.is (h : Nw te σ H xs) (e : xs = ys) : Nw te σ H ys := e ▸ h
theorem Ls.is (h : Ls te σ H xs) (e : xs = ys) : Ls te σ H ys := e ▸ h

/-! ### new lists -/
theorem nw_lst {ta : TA} {vs : List V} (h : PuA ta σ H vs) (hl : vs.length ≤ 100000) : Nw (tLst ta) σ H vs := fun H1 e Q q => h H1 e _ ⟨small_le hl, fun p hp => q p _ hp (same_new hp) upd_same⟩
theorem rgV_nvs (n : Nat) : rgV 0 (n : Int) = nvs (List.range n) := by
  unfold rgV
  rw [show ((n : Int) - 0).toNat = n by omega]
  show (List.range n).map _ = (List.range n).map _
  refine List.map_congr_left fun i _ => ?_
  rw [Int.zero_add]
theorem nw_rg (h : Pu ta σ H (.int (n : Int))) (hn : n ≤ 100000) : Nw (tLstRg (tRg1 ta)) σ H (nvs (List.range n)) := fun H1 e Q q => h H1 e _ ⟨(n : Int), rfl, RgOk.of_le (Int.le_refl 0) (by omega) (by omega) (by omega), fun p hp => by
  rw [rgV_nvs]
  exact q p _ hp (same_new hp) upd_same⟩
theorem nw_rep {i : Int} (h : Pu tb σ H (.int (n : Int))) (hn : n ≤ 100000) : Nw (tOp rRep (tLst (tCons (tC (.int i)) tNil)) tb) σ H (ivs (List.replicate n i)) := fun H1 e Q q =>
  nw_lst (pa1 pu_c pa0) (by show 1 ≤ 100000; decide) H1 e _ fun p H2 f2 e2 hp => h H2 (e.trans e2) _ ⟨p, (n : Int), [.int i], rfl, rfl, hp, by omega, by omega, by
    show 1 * ((n : Int)).toNat ≤ sizeLine
    exact small_le (by omega), fun p2 hp2 => by
      have e3 : (List.replicate ((n : Int)).toNat [V.int i]).flatten = ivs (List.replicate n i) := by
        rw [show ((n : Int)).toNat = n by omega]
        clear h hn q hp2
        induction n with
        | zero => rfl
        | succ n ih =>
          rw [List.replicate_succ, List.flatten_cons, ih]
          show [V.int i] ++ _ = (List.replicate (n + 1) i).map V.int
          rw [List.replicate_succ]
          rfl
      rw [e3]
      exact q p2 _ (e2.free hp2) (e2.trans (same_new hp2)) upd_same⟩
theorem nw_cat (ha : Ls ta σ H xs) (hb : Ls tb σ H ys) (hl : xs.length + ys.length ≤ 100000) : Nw (tOp rCat ta tb) σ H (xs ++ ys) := fun H1 e Q q =>
  ha H1 e _ fun p H2 e2 hp => hb H2 (e.trans e2) _ fun r H3 e3 hr => ⟨p, r, xs, ys, rfl, rfl, e3 _ _ hp, hr, small_le hl, fun s hs => q s _ ((e2.trans e3).free hs) ((e2.trans e3).trans (same_new hs)) upd_same⟩
theorem nw_list (ha : Ls ta σ H xs) : Nw (tCB (rListOf K) (tCons ta tNil)) σ H xs := fun H1 e Q q => ha H1 e _ fun p H2 e2 hp => ⟨p, xs, rfl, .inl (SqL.of hp), fun l hl => q l _ (e2.free hl) (e2.trans (same_new hl)) upd_same⟩
/-- xs[:j] -/
theorem cut_take {xs : List V} {j : Nat} : cutV xs none (some (j : Int)) = xs.take j := by
  unfold cutV
  rw [HT.sIx_none, HT.sIx_nat]
  show List.take (min j xs.length - 0) xs = xs.take j
  rw [Nat.sub_zero]
  rcases Nat.le_total j xs.length with h | h
  · rw [Nat.min_eq_left h]
  · rw [Nat.min_eq_right h, List.take_of_length_le h, List.take_of_length_le (Nat.le_refl _)]
theorem nw_take {j : Nat} (ha : Ls ta σ H xs) (hb : Pu tb σ H (.int (j : Int))) : Nw (tSl (rSlL K) ta tNoPart (tPart tb)) σ H (xs.take j) := fun H1 e Q q =>
  ha H1 e _ fun p H2 e2 hp => hb H2 (e.trans e2) _ ⟨(j : Int), rfl, p, xs, rfl, SqL.of hp, fun r hr => by
    rw [cut_take]
    exact q r _ (e2.free hr) (e2.trans (same_new hr)) upd_same⟩
theorem nw_sorted {ns : List Nat} (ha : Ls ta σ H (nvs ns)) (hl : ns.length < 64) (ms : List Nat) (hp : ms.Perm ns) (hs : ms.Pairwise (· ≤ ·)) : Nw (tCB (rSorted K) (tCons ta tNil)) σ H (nvs ms) := fun H1 e Q q =>
  ha H1 e _ fun p H2 e2 hp2 => by
    rw [nvs_iv] at hp2
    refine ⟨p, ns.map fun n : Nat => (n : Int), rfl, SqL.of hp2, by rw [List.length_map]; exact hl, fun ns' r pm so hr => ?_⟩
    have h1 : ns'.Perm (ms.map fun n : Nat => (n : Int)) := pm.trans (hp.map _).symm
    have h2 : (ms.map fun n : Nat => (n : Int)).Pairwise (· ≤ ·) := List.pairwise_map.mpr (hs.imp fun h => by omega)
    have h3 : ns' = ms.map fun n : Nat => (n : Int) := h1.eq_of_pairwise (fun a b _ _ q1 q2 => Int.le_antisymm q1 q2) so h2
    subst h3
    have e4 := q r (upd H2 r (.lst ((ms.map fun n : Nat => (n : Int)).map V.int))) (e2.free hr) (e2.trans (same_new hr)) (by rw [upd_same, nvs_iv])
    exact e4
/-- a call of a def that makes a list -/
theorem nw_gd {sp : Sp} {ta : TA} {vs : List V} (h : PuA ta σ H vs) (hs : ∀ H1, Same H H1 → ∀ Q : VK, (∀ p H2, H1 p = none → Same H1 H2 → H2 p = some (.lst xs) → Q (.ref p) H2) → sp vs H1 Q E0) : Nw (tGd sp ta) σ H xs := fun H1 e Q q =>
  h H1 e _ (hs H1 e Q q)
theorem gv_gd {sp : Sp} {ta : TA} {vs : List V} (h : PuA ta σ H vs) (hs : ∀ H1, Same H H1 → ∀ Q : VK, (∀ H2, Same H1 H2 → Q v H2) → sp vs H1 Q E0) : Gv (tGd sp ta) σ H v := fun H1 e Q q =>
  h H1 e _ (hs H1 e Q q)
/-! ### values of lists -/
theorem gv_len (ha : Ls ta σ H xs) : Gv (tCB (rLen K) (tCons ta tNil)) σ H (.int (xs.length : Int)) := fun H1 e Q q => ha H1 e _ fun p H2 e2 hp => ⟨p, xs, rfl, .inl (SqL.of hp), q H2 e2⟩
theorem gv_any {bs : List Bool} (ha : Ls ta σ H (bs.map V.bl)) : Gv (tCB (rAny K) (tCons ta tNil)) σ H (.bl (bs.any id)) := fun H1 e Q q => ha H1 e _ fun p H2 e2 hp => ⟨p, bs, rfl, SqL.of hp, q H2 e2⟩
theorem gv_all {bs : List Bool} (ha : Ls ta σ H (bs.map V.bl)) : Gv (tCB (rAll K) (tCons ta tNil)) σ H (.bl (bs.all id)) := fun H1 e Q q => ha H1 e _ fun p H2 e2 hp => ⟨p, bs, rfl, SqL.of hp, q H2 e2⟩
theorem gv_sum {ns : List Int} (ha : Ls ta σ H (ivs ns)) : Gv (tCB (rSum K) (tCons ta tNil)) σ H (.int ns.sum) := fun H1 e Q q => ha H1 e _ fun p H2 e2 hp => ⟨p, ns, rfl, SqL.of hp, q H2 e2⟩
theorem gv_op {r : R2} (ha : Gv ta σ H x) (hb : Gv tb σ H y) (hr : ∀ H1, Same H H1 → ∀ Q : VK, Q z H1 → r x y H1 Q) : Gv (tOp r ta tb) σ H z := fun H1 e Q q =>
  ha H1 e _ fun H2 e2 => hb H2 (e.trans e2) _ fun H3 e3 => hr H3 ((e.trans e2).trans e3) Q (q H3 (e2.trans e3))
theorem gv_I0 {g : Int → Int → V} {i j : Int} (ha : Gv ta σ H (.int i)) (hb : Gv tb σ H (.int j)) : Gv (tOp (rI0 g) ta tb) σ H (g i j) := gv_op ha hb fun _ _ _ q => ⟨i, j, rfl, rfl, q⟩
theorem gv_I {c : Int → Int → Prop} {g : Int → Int → V} {i j : Int} (ha : Gv ta σ H (.int i)) (hb : Gv tb σ H (.int j)) (hc : c i j) : Gv (tOp (rI c g) ta tb) σ H (g i j) := gv_op ha hb fun _ _ _ q => ⟨i, j, rfl, rfl, hc, q⟩
theorem gv_eqI {i j : Int} (ha : Gv ta σ H (.int i)) (hb : Gv tb σ H (.int j)) : Gv (tOp rEq ta tb) σ H (.bl (decide (i = j))) := by rw [← dec_ii]; exact gv_op ha hb fun _ _ _ q => ⟨rfl, q⟩
theorem gv_neI {i j : Int} (ha : Gv ta σ H (.int i)) (hb : Gv tb σ H (.int j)) : Gv (tOp rNe ta tb) σ H (.bl (!decide (i = j))) := by rw [← dec_ii]; exact gv_op ha hb fun _ _ _ q => ⟨rfl, q⟩
theorem gv_eqN {i j : Nat} (ha : Gv ta σ H (.int (i : Int))) (hb : Gv tb σ H (.int (j : Int))) : Gv (tOp rEq ta tb) σ H (.bl (decide (i = j))) := by rw [← dec_nn]; exact gv_eqI ha hb
theorem gv_inL {k : Nat} {ns : List Nat} (ha : Pu ta σ H (.int (k : Int))) (hb : Ls tb σ H (nvs ns)) : Gv (tOp (rIn K false) ta tb) σ H (.bl (decide (k ∈ ns))) := fun H1 e Q q => ha H1 e _ (hb H1 e _ fun p H2 e2 hp => ⟨p, nvs ns, rfl, .inl (SqL.of hp), rfl, nvs_flat ns, by
  show Q (.bl (inV (.int (k : Int)) (nvs ns))) H2
  rw [inV_nvs]
  exact q H2 e2⟩)
theorem gv_ninL {k : Nat} {ns : List Nat} (ha : Pu ta σ H (.int (k : Int))) (hb : Ls tb σ H (nvs ns)) : Gv (tOp (rIn K true) ta tb) σ H (.bl (!decide (k ∈ ns))) := fun H1 e Q q => ha H1 e _ (hb H1 e _ fun p H2 e2 hp => ⟨p, nvs ns, rfl, .inl (SqL.of hp), rfl, nvs_flat ns, by
  show Q (.bl (!inV (.int (k : Int)) (nvs ns))) H2
  rw [inV_nvs]
  exact q H2 e2⟩)
/-! two lists compared -/
theorem dp_ints {H : Hp} : ∀ ns : List Nat, DpAll K H (nvs ns) (ns.map fun n : Nat => PyData.int (n : Int))
  | [] => .nil
  | n :: ns => .cons (.int _) (dp_ints ns)
theorem eqv_ints : ∀ a b : List Nat, PyData.eqv (.list (a.map fun n : Nat => PyData.int (n : Int))) (.list (b.map fun n : Nat => PyData.int (n : Int))) = decide (a = b) := by
  intro a
  induction a with
  | nil => intro b; cases b <;> rfl
  | cons x a ih =>
    intro b
    cases b with
    | nil => rfl
    | cons y b =>
      have h := ih b
      have e : PyData.eqv (.list ((x :: a).map fun n : Nat => PyData.int (n : Int))) (.list ((y :: b).map fun n : Nat => PyData.int (n : Int))) = (((x : Int) == (y : Int)) && PyData.eqv (.list (a.map fun n : Nat => PyData.int (n : Int))) (.list (b.map fun n : Nat => PyData.int (n : Int)))) := rfl
      rw [e, h]
      by_cases q : x = y
      · subst q; simp
      · have q2 : ¬ (x : Int) = (y : Int) := by omega
        simp [q, q2]
theorem shaped_ints (ns : List Nat) : SeqAt.shaped (.list (ns.map fun n : Nat => PyData.int (n : Int))) = true := by
  induction ns with
  | nil => rfl
  | cons n ns ih => exact ih
theorem gv_eqL {ns ms : List Nat} (ha : Ls ta σ H (nvs ns)) (hb : Ls tb σ H (nvs ms)) : Gv (tOp (rEqD K) ta tb) σ H (.bl (decide (ns = ms))) := fun H1 e Q q =>
  ha H1 e _ fun p H2 e2 hp => hb H2 (e.trans e2) _ fun r H3 e3 hr => ⟨_, _, .lst (SqL.of (e3 _ _ hp)) (dp_ints ns), .lst (SqL.of hr) (dp_ints ms), shaped_ints ns, shaped_ints ms, by
    rw [eqv_ints]
    exact q H3 (e2.trans e3)⟩
theorem gv_neL {ns ms : List Nat} (ha : Ls ta σ H (nvs ns)) (hb : Ls tb σ H (nvs ms)) : Gv (tOp (rNeD K) ta tb) σ H (.bl (!decide (ns = ms))) := fun H1 e Q q =>
  ha H1 e _ fun p H2 e2 hp => hb H2 (e.trans e2) _ fun r H3 e3 hr => ⟨_, _, .lst (SqL.of (e3 _ _ hp)) (dp_ints ns), .lst (SqL.of hr) (dp_ints ms), shaped_ints ns, shaped_ints ms, by
    rw [eqv_ints]
    exact q H3 (e2.trans e3)⟩
theorem ls_nil : Ls (tLst tNil) σ H (nvs []) := (nw_lst pa0 (by decide)).ls
theorem gv_andV {b c : Bool} (h1 : Gv ta σ H (.bl b)) (h2 : b = true → Gv tb σ H (.bl c)) : Gv (tAndV ta tb) σ H (.bl (b && c)) := fun H1 e Q q => h1 H1 e _ fun H2 e2 => ⟨b, rfl, by
  cases b with
  | true => exact iteT (h2 rfl H2 (e.trans e2) Q fun H3 e3 => q H3 (e2.trans e3))
  | false => exact iteF (q H2 e2)⟩
theorem gv_notV {b : Bool} (h1 : Gv ta σ H (.bl b)) : Gv (tNotV ta) σ H (.bl (!b)) := fun H1 e Q q => h1 H1 e _ fun H2 e2 => ⟨b, rfl, q H2 e2⟩
theorem gv_orV {b c : Bool} (h1 : Gv ta σ H (.bl b)) (h2 : b = false → Gv tb σ H (.bl c)) : Gv (tOrV ta tb) σ H (.bl (b || c)) := fun H1 e Q q => h1 H1 e _ fun H2 e2 => ⟨b, rfl, by
  cases b with
  | true => exact iteT (q H2 e2)
  | false => exact iteF (h2 rfl H2 (e.trans e2) Q fun H3 e3 => q H3 (e2.trans e3))⟩
theorem gv_intB {b : Bool} (ha : Gv ta σ H (.bl b)) : Gv (tCB (fun xs H Q => (∃ i, xs = [.int i] ∧ Q (.int i) H) ∨ ∃ k, xs = [.bl k] ∧ Q (.int (if k then 1 else 0)) H) (tCons ta tNil)) σ H (.int (if b then 1 else 0)) := fun H1 e Q q =>
  ha H1 e _ fun H2 e2 => .inr ⟨b, rfl, q H2 e2⟩
theorem gt_test {b : Bool} (h : Gv te σ H (.bl b)) : GvT (tTest te) σ H b := fun H1 e _ q => h H1 e _ fun H2 e2 => ⟨b, rfl, q H2 e2⟩
theorem gt_B {b : Bool} (h : Gv te σ H (.bl b)) : GvT (tB te) σ H b := fun H1 e _ q => h H1 e _ fun H2 e2 => ⟨b, rfl, q H2 e2⟩
theorem gt_not {b : Bool} (h : GvT t σ H b) : GvT (tNot t) σ H (!b) := fun H1 e _ q => h H1 e _ fun H2 e2 => q H2 e2
theorem gt_and {b c : Bool} (h1 : GvT t σ H b) (h2 : b = true → GvT u σ H c) : GvT (tAnd t u) σ H (b && c) := fun H1 e Q q => h1 H1 e _ fun H2 e2 => by
  cases b with
  | true => exact iteT (h2 rfl H2 (e.trans e2) Q fun H3 e3 => q H3 (e2.trans e3))
  | false => exact iteF (q H2 e2)
theorem gt_or {b c : Bool} (h1 : GvT t σ H b) (h2 : b = false → GvT u σ H c) : GvT (tOr t u) σ H (b || c) := fun H1 e Q q => h1 H1 e _ fun H2 e2 => by
  cases b with
  | true => exact iteT (q H2 e2)
  | false => exact iteF (h2 rfl H2 (e.trans e2) Q fun H3 e3 => q H3 (e2.trans e3))
/-- a list as a test -/
theorem gt_list (ha : Ls ta σ H xs) : GvT (fun σ H Q => ta σ H fun x H1 => ∃ k, TruV K x H1 k ∧ Q k H1) σ H (!xs.isEmpty) := fun H1 e Q q => ha H1 e _ fun p H2 e2 hp => ⟨_, .inl ⟨xs, SqL.of hp, rfl⟩, q H2 e2⟩

/-! ### statements -/
variable {D : Ends} {tu tw tz : TS} {g : TG}
theorem q_asg {i : Nat} (h : te σ H fun v H1 => tz D (σ.set i (some v)) H1) : tSeq (tAsg te (gName i)) tz D σ H := h
theorem q_pu {i : Nat} (h : Pu te σ H v) (k : tz D (σ.set i (some v)) H) : tSeq (tAsg te (gName i)) tz D σ H := h.at k
theorem s_pu {i : Nat} (h : Pu te σ H v) (k : D.nx (σ.set i (some v)) H) : tAsg te (gName i) D σ H := h.at k
theorem q_gv {i : Nat} (h : Gv te σ H v) (k : ∀ H1, Same H H1 → tz D (σ.set i (some v)) H1) : tSeq (tAsg te (gName i)) tz D σ H := h.at k
theorem s_gv {i : Nat} (h : Gv te σ H v) (k : ∀ H1, Same H H1 → D.nx (σ.set i (some v)) H1) : tAsg te (gName i) D σ H := h.at k
theorem q_nw {i : Nat} (h : Nw te σ H xs) (k : ∀ p H1, H p = none → Same H H1 → H1 p = some (.lst xs) → tz D (σ.set i (some (.ref p))) H1) : tSeq (tAsg te (gName i)) tz D σ H := h.at k
theorem s_nw {i : Nat} (h : Nw te σ H xs) (k : ∀ p H1, H p = none → Same H H1 → H1 p = some (.lst xs) → D.nx (σ.set i (some (.ref p))) H1) : tAsg te (gName i) D σ H := h.at k
theorem q_if {b : Bool} (h : PuT t σ H b) (h1 : b = true → tu { D with nx := tz D } σ H) (h2 : b = false → tw { D with nx := tz D } σ H) : tSeq (tIfS t tu tw) tz D σ H := h.at (by
  cases b with
  | true => exact iteT (h1 rfl)
  | false => exact iteF (h2 rfl))
theorem q_when {b : Bool} (h : PuT t σ H b) (h1 : b = true → tu { D with nx := tz D } σ H) (h2 : b = false → tz D σ H) : tSeq (tIfS t tu tNext) tz D σ H := q_if h h1 h2
theorem s_if {b : Bool} (h : PuT t σ H b) (h1 : b = true → tu D σ H) (h2 : b = false → tw D σ H) : tIfS t tu tw D σ H := h.at (by
  cases b with
  | true => exact iteT (h1 rfl)
  | false => exact iteF (h2 rfl))
theorem s_when {b : Bool} (h : PuT t σ H b) (h1 : b = true → tu D σ H) (h2 : b = false → D.nx σ H) : tIfS t tu tNext D σ H := s_if h h1 h2
theorem q_ifG {b : Bool} (h : GvT t σ H b) (h1 : b = true → ∀ H1, Same H H1 → tu { D with nx := tz D } σ H1) (h2 : b = false → ∀ H1, Same H H1 → tw { D with nx := tz D } σ H1) : tSeq (tIfS t tu tw) tz D σ H := h.at fun H1 e => by
  cases b with
  | true => exact iteT (h1 rfl H1 e)
  | false => exact iteF (h2 rfl H1 e)
theorem q_whenG {b : Bool} (h : GvT t σ H b) (h1 : b = true → ∀ H1, Same H H1 → tu { D with nx := tz D } σ H1) (h2 : b = false → ∀ H1, Same H H1 → tz D σ H1) : tSeq (tIfS t tu tNext) tz D σ H := q_ifG h h1 h2
theorem s_ifG {b : Bool} (h : GvT t σ H b) (h1 : b = true → ∀ H1, Same H H1 → tu D σ H1) (h2 : b = false → ∀ H1, Same H H1 → tw D σ H1) : tIfS t tu tw D σ H := h.at fun H1 e => by
  cases b with
  | true => exact iteT (h1 rfl H1 e)
  | false => exact iteF (h2 rfl H1 e)
theorem s_whenG {b : Bool} (h : GvT t σ H b) (h1 : b = true → ∀ H1, Same H H1 → tu D σ H1) (h2 : b = false → ∀ H1, Same H H1 → D.nx σ H1) : tIfS t tu tNext D σ H := s_ifG h h1 h2
theorem s_ret (h : Pu te σ H v) (k : D.rt v H) : tRet te D σ H := h.at k
theorem s_retG (h : Gv te σ H v) (k : ∀ H1, Same H H1 → D.rt v H1) : tRet te D σ H := h.at k
theorem s_retN (h : Nw te σ H xs) (k : ∀ p H1, H p = none → Same H H1 → H1 p = some (.lst xs) → D.rt (.ref p) H1) : tRet te D σ H := h.at k
theorem q_drop (h : Gv te σ H v) (k : ∀ H1, Same H H1 → tz D σ H1) : tSeq (tDrop te) tz D σ H := h.at k
theorem pu_app {l : Addr} (ha : Pu ta σ H (.ref l)) (hl : H l = some (.lst xs)) (he : Pu te σ H v) (hz : xs.length < 100000) {Q : VK} (k : Q .non (upd H l (.lst (xs ++ [v])))) : (tBM K "list" rAppend ta (tCons te tNil)) σ H Q :=
  ha.at ⟨.inl ⟨rfl, _, SqL.of hl⟩, he.at ⟨l, xs, v, rfl, rfl, hl, small_lt hz, k⟩⟩
theorem q_app {l : Addr} (ha : Pu ta σ H (.ref l)) (hl : H l = some (.lst xs)) (he : Pu te σ H v) (hz : xs.length < 100000) (k : tz D σ (upd H l (.lst (xs ++ [v])))) : tSeq (tDrop (tBM K "list" rAppend ta (tCons te tNil))) tz D σ H := pu_app ha hl he hz k
theorem s_app {l : Addr} (ha : Pu ta σ H (.ref l)) (hl : H l = some (.lst xs)) (he : Pu te σ H v) (hz : xs.length < 100000) (k : D.nx σ (upd H l (.lst (xs ++ [v])))) : tDrop (tBM K "list" rAppend ta (tCons te tNil)) D σ H := pu_app ha hl he hz k
theorem ix_nat {n j : Nat} (h : j < n) : ixN n (j : Int) = some j := by
  unfold ixN
  rw [if_pos (Int.natCast_nonneg j), if_pos (by omega)]
  rfl
theorem q_setL {l : Addr} {j : Nat} (he : Pu te σ H v) (ha : Pu ta σ H (.ref l)) (hl : H l = some (.lst xs)) (hb : Pu tb σ H (.int (j : Int))) (hj : j < xs.length) (k : tz D σ (upd H l (.lst (xs.set j v)))) : tSeq (tAsg te (gSub ta tb rSetL)) tz D σ H :=
  he.at (ha.at (hb.at ⟨l, xs, (j : Int), j, rfl, rfl, hl, ix_nat hj, k⟩))
theorem s_setL {l : Addr} {j : Nat} (he : Pu te σ H v) (ha : Pu ta σ H (.ref l)) (hl : H l = some (.lst xs)) (hb : Pu tb σ H (.int (j : Int))) (hj : j < xs.length) (k : D.nx σ (upd H l (.lst (xs.set j v)))) : tAsg te (gSub ta tb rSetL) D σ H :=
  he.at (ha.at (hb.at ⟨l, xs, (j : Int), j, rfl, rfl, hl, ix_nat hj, k⟩))
theorem s_augL {l : Addr} {j : Nat} {f : Int → Int → Int} {c d : Int} (ha : Pu ta σ H (.ref l)) (hl : H l = some (.lst xs)) (hb : Pu tb σ H (.int (j : Int))) (hx : xs[j]? = some (.int c)) (he : Pu te σ H (.int d)) (k : D.nx σ (upd H l (.lst (xs.set j (.int (f c d)))))) :
    tAugS ta tb te (rGetL K) (ipI f) rSetL D σ H :=
  ha.at (hb.at ⟨l, xs, j, _, rfl, rfl, SqL.of hl, hx, he.at ⟨c, d, rfl, rfl, l, xs, (j : Int), j, rfl, rfl, hl, ix_nat (List.getElem?_eq_some_iff.mp hx).1, k⟩⟩)
theorem q_augL {l : Addr} {j : Nat} {f : Int → Int → Int} {c d : Int} (ha : Pu ta σ H (.ref l)) (hl : H l = some (.lst xs)) (hb : Pu tb σ H (.int (j : Int))) (hx : xs[j]? = some (.int c)) (he : Pu te σ H (.int d)) (k : tz D σ (upd H l (.lst (xs.set j (.int (f c d)))))) :
    tSeq (tAugS ta tb te (rGetL K) (ipI f) rSetL) tz D σ H := s_augL (D := { D with nx := tz D }) ha hl hb hx he k
theorem s_aug {i : Nat} {f : Int → Int → Int} {c d : Int} (hx : σ[i]? = some (some (.int c))) (h : Pu te σ H (.int d)) (k : D.nx (σ.set i (some (.int (f c d)))) H) : tAug i te (ipI f) D σ H := ⟨_, hx, h.at ⟨c, d, rfl, rfl, k⟩⟩
theorem q_aug {i : Nat} {f : Int → Int → Int} {c d : Int} (hx : σ[i]? = some (some (.int c))) (h : Pu te σ H (.int d)) (k : tz D (σ.set i (some (.int (f c d)))) H) : tSeq (tAug i te (ipI f)) tz D σ H := ⟨_, hx, h.at ⟨c, d, rfl, rfl, k⟩⟩

/-! ### loops -/
theorem s_forR {ta : TA} {j : Nat} (h : PuA ta σ H [.int (n : Int)]) (hn : n ≤ 100000) (Pv : Nat → St → Hp → Prop) (h0 : Pv 0 σ H)
    (hs : ∀ (i : Nat) σ' H', i < n → Pv i σ' H' → tu { D with nx := Pv (i + 1), ct := Pv (i + 1), bk := D.nx } (σ'.set j (some (.int (i : Int)))) H') (hd : ∀ σ' H', Pv n σ' H' → D.nx σ' H') : tFor (iRng1 ta) (gName j) tu D σ H :=
  h.at ⟨(n : Int), rfl, by omega, by omega, for_range (lo := 0) (n := ((n : Int)).toNat) Pv h0 (fun i σ' H' hi p => by
    have q := hs i σ' H' (by omega) p
    show tu _ (σ'.set j (some (.int (0 + (i : Int))))) H'
    rw [Int.zero_add]
    exact q) (fun σ' H' p => hd σ' H' (by rw [show ((n : Int)).toNat = n by omega] at p; exact p))⟩
theorem q_forR {ta : TA} {j : Nat} (h : PuA ta σ H [.int (n : Int)]) (hn : n ≤ 100000) (Pv : Nat → St → Hp → Prop) (h0 : Pv 0 σ H)
    (hs : ∀ (i : Nat) σ' H', i < n → Pv i σ' H' → tu { D with nx := Pv (i + 1), ct := Pv (i + 1), bk := tz D } (σ'.set j (some (.int (i : Int)))) H') (hd : ∀ σ' H', Pv n σ' H' → tz D σ' H') : tSeq (tFor (iRng1 ta) (gName j) tu) tz D σ H :=
  s_forR (D := { D with nx := tz D }) h hn Pv h0 hs hd
theorem s_forL {tl : TE} (h : Pu tl σ H (.ref a)) (hx : SqL K H a xs) (Pv : Nat → St → Hp → Prop) (h0 : Pv 0 σ H) (hl : ∀ i σ' H', i ≤ xs.length → Pv i σ' H' → SqL K H' a xs)
    (hs : ∀ i x σ' H', xs[i]? = some x → Pv i σ' H' → g x σ' H' fun σ2 H2 => tu { D with nx := Pv (i + 1), ct := Pv (i + 1), bk := D.nx } σ2 H2) (hd : ∀ σ' H', Pv xs.length σ' H' → D.nx σ' H') : tFor (iList K tl) g tu D σ H :=
  h.at ⟨a, rfl, ⟨xs, hx⟩, for_list (K := K) (a := a) (xs := xs) Pv h0 hl hs hd⟩
theorem q_forL {tl : TE} (h : Pu tl σ H (.ref a)) (hx : SqL K H a xs) (Pv : Nat → St → Hp → Prop) (h0 : Pv 0 σ H) (hl : ∀ i σ' H', i ≤ xs.length → Pv i σ' H' → SqL K H' a xs)
    (hs : ∀ i x σ' H', xs[i]? = some x → Pv i σ' H' → g x σ' H' fun σ2 H2 => tu { D with nx := Pv (i + 1), ct := Pv (i + 1), bk := tz D } σ2 H2) (hd : ∀ σ' H', Pv xs.length σ' H' → tz D σ' H') : tSeq (tFor (iList K tl) g tu) tz D σ H :=
  s_forL (D := { D with nx := tz D }) h hx Pv h0 hl hs hd
/-- over a list that is made on the way -/
theorem s_forLs {tl : TE} (h : Ls tl σ H xs) (k : ∀ a H1, Same H H1 → H1 a = some (.lst xs) → ∃ Pv : Nat → St → Hp → Prop, Pv 0 σ H1 ∧ (∀ i σ' H', i ≤ xs.length → Pv i σ' H' → H' a = some (.lst xs)) ∧
    (∀ i x σ' H', xs[i]? = some x → Pv i σ' H' → g x σ' H' fun σ2 H2 => tu { D with nx := Pv (i + 1), ct := Pv (i + 1), bk := D.nx } σ2 H2) ∧ (∀ σ' H', Pv xs.length σ' H' → D.nx σ' H')) : tFor (iList K tl) g tu D σ H :=
  h.at fun a H1 e ha => by
    obtain ⟨Pv, h0, hl, hs, hd⟩ := k a H1 e ha
    exact ⟨a, rfl, ⟨xs, SqL.of ha⟩, for_list (K := K) (a := a) (xs := xs) Pv h0 (fun i σ' H' hi p => SqL.of (hl i σ' H' hi p)) hs hd⟩
theorem q_forLs {tl : TE} (h : Ls tl σ H xs) (k : ∀ a H1, Same H H1 → H1 a = some (.lst xs) → ∃ Pv : Nat → St → Hp → Prop, Pv 0 σ H1 ∧ (∀ i σ' H', i ≤ xs.length → Pv i σ' H' → H' a = some (.lst xs)) ∧
    (∀ i x σ' H', xs[i]? = some x → Pv i σ' H' → g x σ' H' fun σ2 H2 => tu { D with nx := Pv (i + 1), ct := Pv (i + 1), bk := tz D } σ2 H2) ∧ (∀ σ' H', Pv xs.length σ' H' → tz D σ' H')) : tSeq (tFor (iList K tl) g tu) tz D σ H :=
  s_forLs (D := { D with nx := tz D }) h k
theorem s_forT {tl : TE} (h : Pu tl σ H (.ref a)) (hx : SqT K H a xs) (Pv : Nat → St → Hp → Prop) (h0 : Pv 0 σ H) (hl : ∀ i σ' H', i ≤ xs.length → Pv i σ' H' → SqT K H' a xs)
    (hs : ∀ i x σ' H', xs[i]? = some x → Pv i σ' H' → g x σ' H' fun σ2 H2 => tu { D with nx := Pv (i + 1), ct := Pv (i + 1), bk := D.nx } σ2 H2) (hd : ∀ σ' H', Pv xs.length σ' H' → D.nx σ' H') : tFor (iTup K tl) g tu D σ H :=
  h.at ⟨a, rfl, ⟨xs, hx⟩, for_tup (K := K) (a := a) (xs := xs) Pv h0 hl hs hd⟩
theorem q_forT {tl : TE} (h : Pu tl σ H (.ref a)) (hx : SqT K H a xs) (Pv : Nat → St → Hp → Prop) (h0 : Pv 0 σ H) (hl : ∀ i σ' H', i ≤ xs.length → Pv i σ' H' → SqT K H' a xs)
    (hs : ∀ i x σ' H', xs[i]? = some x → Pv i σ' H' → g x σ' H' fun σ2 H2 => tu { D with nx := Pv (i + 1), ct := Pv (i + 1), bk := tz D } σ2 H2) (hd : ∀ σ' H', Pv xs.length σ' H' → tz D σ' H') : tSeq (tFor (iTup K tl) g tu) tz D σ H :=
  s_forT (D := { D with nx := tz D }) h hx Pv h0 hl hs hd
theorem s_while (W : Nat → St → Hp → Prop) (m0 : Nat) (h0 : W m0 σ H)
    (hs : ∀ m σ' H', W m σ' H' → ∃ b, PuT t σ' H' b ∧ (b = true → tu { D with nx := fun σ2 H2 => ∃ m', m' < m ∧ W m' σ2 H2, ct := fun σ2 H2 => ∃ m', m' < m ∧ W m' σ2 H2, bk := D.nx } σ' H') ∧ (b = false → D.nx σ' H')) : tWhile t tu D σ H := by
  refine ⟨W, ⟨m0, h0⟩, fun m σ' H' hw => ?_⟩
  obtain ⟨b, ht, h1, h2⟩ := hs m σ' H' hw
  refine ht.at ?_
  cases b with
  | true => exact iteT ⟨_, fun _ _ q => q, h1 rfl⟩
  | false => exact iteF (h2 rfl)
theorem q_while (W : Nat → St → Hp → Prop) (m0 : Nat) (h0 : W m0 σ H)
    (hs : ∀ m σ' H', W m σ' H' → ∃ b, PuT t σ' H' b ∧ (b = true → tu { D with nx := fun σ2 H2 => ∃ m', m' < m ∧ W m' σ2 H2, ct := fun σ2 H2 => ∃ m', m' < m ∧ W m' σ2 H2, bk := tz D } σ' H') ∧ (b = false → tz D σ' H')) : tSeq (tWhile t tu) tz D σ H :=
  s_while (D := { D with nx := tz D }) W m0 h0 hs
/-- for ends in web.ties -/
theorem s_forW {ti : TE} {j : Nat} (T : WebC K C) {H0 : Hp} (hw : WebAt K C H0 a n ts) (s0 : Same H0 H) (h : Pu ti σ H0 (.ref a)) (Pv : Nat → St → Hp → Prop) (h0 : Pv 0 σ H) (hl : ∀ i σ' H', i ≤ ts.length → Pv i σ' H' → Same H0 H')
    (hs : ∀ (i : Nat) (e : Tie) (r : Addr) σ' H', ts[i]? = some e → PairAt K H' r e → Pv i σ' H' → tu { D with nx := Pv (i + 1), ct := Pv (i + 1), bk := D.nx } (σ'.set j (some (.ref r))) H')
    (hd : ∀ σ' H', Pv ts.length σ' H' → D.nx σ' H') : tFor (iTup K (tFld K ti "ties")) (gName j) tu D σ H := by
  obtain ⟨tt, ⟨rs, h1, h2⟩, hp⟩ := pu_ties T hw h
  refine s_forT (hp.mono s0) (Same.seqT s0 h1) Pv h0 (fun i σ' H' hi p => Same.seqT (hl i σ' H' (by rw [rvs_len, h2.1] at hi; exact hi) p) h1) (fun i x σ' H' hx p => ?_) (fun σ' H' p => hd σ' H' (by rw [rvs_len, h2.1] at p; exact p))
  obtain ⟨r, hr, rfl⟩ := rvs_of hx
  have hi' : i < ts.length := by rw [← h2.1]; exact (List.getElem?_eq_some_iff.mp hr).1
  have he : ts[i]? = some ts[i] := List.getElem?_eq_getElem hi'
  exact hs i _ r σ' H' he ((h2.2 i r _ hr he).mono (hl i σ' H' (Nat.le_of_lt hi') p)) p
theorem q_forW {ti : TE} {j : Nat} (T : WebC K C) {H0 : Hp} (hw : WebAt K C H0 a n ts) (s0 : Same H0 H) (h : Pu ti σ H0 (.ref a)) (Pv : Nat → St → Hp → Prop) (h0 : Pv 0 σ H) (hl : ∀ i σ' H', i ≤ ts.length → Pv i σ' H' → Same H0 H')
    (hs : ∀ (i : Nat) (e : Tie) (r : Addr) σ' H', ts[i]? = some e → PairAt K H' r e → Pv i σ' H' → tu { D with nx := Pv (i + 1), ct := Pv (i + 1), bk := tz D } (σ'.set j (some (.ref r))) H')
    (hd : ∀ σ' H', Pv ts.length σ' H' → tz D σ' H') : tSeq (tFor (iTup K (tFld K ti "ties")) (gName j) tu) tz D σ H := s_forW (D := { D with nx := tz D }) T hw s0 h Pv h0 hl hs hd
/-- what a for asks of what it walks -/
def Fo (J : It) (g : TG) (tu : TS) (D : Ends) (σ : St) (H : Hp) : Prop := ∃ W : Nat → Nat → St → Hp → Prop, (∃ m, W 0 m σ H) ∧ ∀ i m σ H, W i m σ H →
  (J.stop i H ∧ D.nx σ H) ∨ (J.go i H ∧ ∃ N : St → Hp → Prop, (∀ σ' H', N σ' H' → ∃ m', m' < m ∧ W (i + 1) m' σ' H') ∧ ∀ x H', J.yld i H x H' → g x σ H' fun σ2 H2 => tu { D with nx := N, ct := N, bk := D.nx } σ2 H2)
theorem fo_enumT {ta : TA} (h : PuA ta σ H [.ref a]) (hx : SqT K H a xs) (k : Fo (IteT K a) g tu D σ H) : tFor (iEnumT K ta) g tu D σ H := h.at ⟨a, xs, rfl, hx, k⟩
theorem fo_zipTL {ta : TA} {b : Addr} (h : PuA ta σ H [.ref a, .ref b]) (hx : SqT K H a xs) (hy : SqL K H b ys) (k : Fo (ItzTL K a b) g tu D σ H) : tFor (iZipTL K ta) g tu D σ H := h.at ⟨a, b, xs, ys, rfl, hx, hy, k⟩
theorem fo_zip {ta : TA} {b : Addr} (h : PuA ta σ H [.ref a, .ref b]) (hx : SqL K H a xs) (hy : SqL K H b ys) (k : Fo (Itz K a b) g tu D σ H) : tFor (iZip K ta) g tu D σ H := h.at ⟨a, b, xs, ys, rfl, hx, hy, k⟩
/-- for i, (a, b) in enumerate(web.ties) -/
theorem s_forE {ti : TE} {j1 j2 j3 : Nat} (T : WebC K C) {H0 : Hp} (hw : WebAt K C H0 a n ts) (s0 : Same H0 H) (h : Pu ti σ H0 (.ref a)) (Pv : Nat → St → Hp → Prop) (h0 : Pv 0 σ H) (hl : ∀ i σ' H', i ≤ ts.length → Pv i σ' H' → Same H0 H')
    (hs : ∀ (i : Nat) (e : Tie) σ' H' H2, ts[i]? = some e → Pv i σ' H' → Same H' H2 → tu { D with nx := Pv (i + 1), ct := Pv (i + 1), bk := D.nx } (((σ'.set j1 (some (.int (i : Int)))).set j2 (some (.int (e.1 : Int)))).set j3 (some (.int (e.2 : Int)))) H2)
    (hd : ∀ σ' H', Pv ts.length σ' H' → D.nx σ' H') :
    tFor (iEnumT K (tCons (tFld K ti "ties") tNil)) (gTup K 2 (gCons (gName j1) (gCons (gTup K 2 (gCons (gName j2) (gCons (gName j3) gNil))) gNil))) tu D σ H := by
  obtain ⟨tt, ⟨rs, h1, h2⟩, hp⟩ := pu_ties T hw h
  refine fo_enumT (pa1 (hp.mono s0) pa0) (Same.seqT s0 h1) ?_
  refine for_it (walk_enumT (xs := rvs rs)) (fun i σ' H' => Pv i σ' H') h0 (fun i σ' H' hi p => Same.seqT (hl i σ' H' (by rw [rvs_len, h2.1] at hi; exact hi) p) h1) (fun i x σ' H1 H2 hi p y => ?_) (fun σ' H' p => hd σ' H' (by rw [rvs_len, h2.1] at p; exact p))
  obtain ⟨Tq, x1, x2, rfl, nT, rfl, f1, f2⟩ := y
  have f1' : x1 = .int (i : Int) := (Option.some.inj f1).symm
  subst f1'
  obtain ⟨r, hr, rfl⟩ := rvs_of f2
  have hi' : i < ts.length := by rw [rvs_len, h2.1] at hi; exact hi
  have he : ts[i]? = some ts[i] := List.getElem?_eq_getElem hi'
  have s2 : Same H0 (upd H1 Tq (.tup [.int (i : Int), .ref r])) := (hl i σ' H1 (Nat.le_of_lt hi') p).trans (same_new nT)
  exact ⟨Tq, _, rfl, SqT.of upd_same, rfl, _, _, rfl, _, _, rfl, ⟨r, _, rfl, ((h2.2 i r _ hr he).mono s2).sq, rfl, _, _, rfl, _, _, rfl, rfl, ⟨rfl, hs i _ σ' H1 _ he p (same_new nT)⟩⟩⟩
theorem q_forE {ti : TE} {j1 j2 j3 : Nat} (T : WebC K C) {H0 : Hp} (hw : WebAt K C H0 a n ts) (s0 : Same H0 H) (h : Pu ti σ H0 (.ref a)) (Pv : Nat → St → Hp → Prop) (h0 : Pv 0 σ H) (hl : ∀ i σ' H', i ≤ ts.length → Pv i σ' H' → Same H0 H')
    (hs : ∀ (i : Nat) (e : Tie) σ' H' H2, ts[i]? = some e → Pv i σ' H' → Same H' H2 → tu { D with nx := Pv (i + 1), ct := Pv (i + 1), bk := tz D } (((σ'.set j1 (some (.int (i : Int)))).set j2 (some (.int (e.1 : Int)))).set j3 (some (.int (e.2 : Int)))) H2)
    (hd : ∀ σ' H', Pv ts.length σ' H' → tz D σ' H') :
    tSeq (tFor (iEnumT K (tCons (tFld K ti "ties") tNil)) (gTup K 2 (gCons (gName j1) (gCons (gTup K 2 (gCons (gName j2) (gCons (gName j3) gNil))) gNil))) tu) tz D σ H := s_forE (D := { D with nx := tz D }) T hw s0 h Pv h0 hl hs hd
/-- for (a, b), x in zip(web.ties, xs) -/
theorem s_forZ {ti tx : TE} {j1 j2 j3 : Nat} {l : Addr} {as : List Int} (T : WebC K C) {H0 : Hp} (hw : WebAt K C H0 a n ts) (s0 : Same H0 H) (h : Pu ti σ H0 (.ref a)) (hx : Pu tx σ H0 (.ref l)) (hxs : SqL K H0 l (ivs as)) (hlen : as.length = ts.length) (Pv : Nat → St → Hp → Prop) (h0 : Pv 0 σ H) (hl : ∀ i σ' H', i ≤ ts.length → Pv i σ' H' → Same H0 H')
    (hs : ∀ (i : Nat) (e : Tie) (x : Int) σ' H' H2, ts[i]? = some e → as[i]? = some x → Pv i σ' H' → Same H' H2 → tu { D with nx := Pv (i + 1), ct := Pv (i + 1), bk := D.nx } (((σ'.set j1 (some (.int (e.1 : Int)))).set j2 (some (.int (e.2 : Int)))).set j3 (some (.int x))) H2)
    (hd : ∀ σ' H', Pv ts.length σ' H' → D.nx σ' H') :
    tFor (iZipTL K (tCons (tFld K ti "ties") (tCons tx tNil))) (gTup K 2 (gCons (gTup K 2 (gCons (gName j1) (gCons (gName j2) gNil))) (gCons (gName j3) gNil))) tu D σ H := by
  obtain ⟨tt, ⟨rs, h1, h2⟩, hp⟩ := pu_ties T hw h
  refine fo_zipTL (pa1 (hp.mono s0) (pa1 (hx.mono s0) pa0)) (Same.seqT s0 h1) (s0.seq hxs) ?_
  have hlr : (rvs rs).length = (ivs as).length := by rw [rvs_len, ivs_len, h2.1, hlen]
  refine for_it (walk_zipTL hlr) (fun i σ' H' => Pv i σ' H') h0 (fun i σ' H' hi p => ?_) (fun i x σ' H1 H2 hi p y => ?_) (fun σ' H' p => hd σ' H' (by rw [rvs_len, h2.1] at p; exact p))
  · have s := hl i σ' H' (by rw [rvs_len, h2.1] at hi; exact hi) p
    exact ⟨Same.seqT s h1, s.seq hxs⟩
  · obtain ⟨Tq, x1, x2, rfl, nT, rfl, f1, f2⟩ := y
    obtain ⟨r, hr, rfl⟩ := rvs_of f1
    obtain ⟨z, hz, rfl⟩ := ivs_of f2
    have hi' : i < ts.length := by rw [rvs_len, h2.1] at hi; exact hi
    have he : ts[i]? = some ts[i] := List.getElem?_eq_getElem hi'
    have s2 : Same H0 (upd H1 Tq (.tup [.ref r, .int z])) := (hl i σ' H1 (Nat.le_of_lt hi') p).trans (same_new nT)
    exact ⟨Tq, _, rfl, SqT.of upd_same, rfl, _, _, rfl, ⟨r, _, rfl, ((h2.2 i r _ hr he).mono s2).sq, rfl, _, _, rfl, _, _, rfl, rfl, ⟨_, _, rfl, rfl, hs i _ z σ' H1 _ he hz p (same_new nT)⟩⟩⟩
theorem q_forZ {ti tx : TE} {j1 j2 j3 : Nat} {l : Addr} {as : List Int} (T : WebC K C) {H0 : Hp} (hw : WebAt K C H0 a n ts) (s0 : Same H0 H) (h : Pu ti σ H0 (.ref a)) (hx : Pu tx σ H0 (.ref l)) (hxs : SqL K H0 l (ivs as)) (hlen : as.length = ts.length) (Pv : Nat → St → Hp → Prop) (h0 : Pv 0 σ H) (hl : ∀ i σ' H', i ≤ ts.length → Pv i σ' H' → Same H0 H')
    (hs : ∀ (i : Nat) (e : Tie) (x : Int) σ' H' H2, ts[i]? = some e → as[i]? = some x → Pv i σ' H' → Same H' H2 → tu { D with nx := Pv (i + 1), ct := Pv (i + 1), bk := tz D } (((σ'.set j1 (some (.int (e.1 : Int)))).set j2 (some (.int (e.2 : Int)))).set j3 (some (.int x))) H2)
    (hd : ∀ σ' H', Pv ts.length σ' H' → tz D σ' H') :
    tSeq (tFor (iZipTL K (tCons (tFld K ti "ties") (tCons tx tNil))) (gTup K 2 (gCons (gTup K 2 (gCons (gName j1) (gCons (gName j2) gNil))) (gCons (gName j3) gNil))) tu) tz D σ H := s_forZ (D := { D with nx := tz D }) T hw s0 h hx hxs hlen Pv h0 hl hs hd
/-- for x, y in zip(xs, ys) -/
theorem s_forZL {tx ty : TE} {j1 j2 : Nat} {l m : Addr} {H0 : Hp} (s0 : Same H0 H) (hx : Pu tx σ H0 (.ref l)) (hxs : SqL K H0 l xs) (hy : Pu ty σ H0 (.ref m)) (hys : SqL K H0 m ys) (hlen : xs.length = ys.length) (Pv : Nat → St → Hp → Prop) (h0 : Pv 0 σ H) (hl : ∀ i σ' H', i ≤ xs.length → Pv i σ' H' → Same H0 H')
    (hs : ∀ (i : Nat) (x y : V) σ' H' H2, xs[i]? = some x → ys[i]? = some y → Pv i σ' H' → Same H' H2 → tu { D with nx := Pv (i + 1), ct := Pv (i + 1), bk := D.nx } ((σ'.set j1 (some x)).set j2 (some y)) H2)
    (hd : ∀ σ' H', Pv xs.length σ' H' → D.nx σ' H') : tFor (iZip K (tCons tx (tCons ty tNil))) (gTup K 2 (gCons (gName j1) (gCons (gName j2) gNil))) tu D σ H := by
  refine fo_zip (pa1 (hx.mono s0) (pa1 (hy.mono s0) pa0)) (s0.seq hxs) (s0.seq hys) ?_
  refine for_it (walk_zip (K := K) (a := l) (b := m) (xs := xs) (ys := ys) (n := xs.length) (by omega)) (fun i σ' H' => Pv i σ' H') h0 (fun i σ' H' hi p => ?_) (fun i x σ' H1 H2 hi p y => ?_) hd
  · have s := hl i σ' H' hi p
    exact ⟨s.seq hxs, s.seq hys⟩
  · obtain ⟨Tq, x1, x2, rfl, nT, rfl, f1, f2⟩ := y
    exact ⟨Tq, _, rfl, SqT.of upd_same, rfl, _, _, rfl, _, _, rfl, rfl, hs i x1 x2 σ' H1 _ f1 f2 p (same_new nT)⟩
theorem q_forZL {tx ty : TE} {j1 j2 : Nat} {l m : Addr} {H0 : Hp} (s0 : Same H0 H) (hx : Pu tx σ H0 (.ref l)) (hxs : SqL K H0 l xs) (hy : Pu ty σ H0 (.ref m)) (hys : SqL K H0 m ys) (hlen : xs.length = ys.length) (Pv : Nat → St → Hp → Prop) (h0 : Pv 0 σ H) (hl : ∀ i σ' H', i ≤ xs.length → Pv i σ' H' → Same H0 H')
    (hs : ∀ (i : Nat) (x y : V) σ' H' H2, xs[i]? = some x → ys[i]? = some y → Pv i σ' H' → Same H' H2 → tu { D with nx := Pv (i + 1), ct := Pv (i + 1), bk := tz D } ((σ'.set j1 (some x)).set j2 (some y)) H2)
    (hd : ∀ σ' H', Pv xs.length σ' H' → tz D σ' H') : tSeq (tFor (iZip K (tCons tx (tCons ty tNil))) (gTup K 2 (gCons (gName j1) (gCons (gName j2) gNil))) tu) tz D σ H :=
  s_forZL (D := { D with nx := tz D }) s0 hx hxs hy hys hlen Pv h0 hl hs hd

/-! ### comprehensions -/
theorem nw_lcL {tl : TE} {j : Nat} {vs : List Nat} (f : V → Bool) (gf : V → V) (h : Ls tl σ H xs) (hz : xs.length ≤ 10000) (hw : ∀ x, wipe ((wipe σ vs).set j (some x)) vs = wipe σ vs)
    (ht : ∀ x ∈ xs, GvT t ((wipe σ vs).set j (some x)) H (f x)) (he : ∀ x ∈ xs, f x = true → Gv te ((wipe σ vs).set j (some x)) H (gf x)) :
    Nw (tLc (iList K tl) (gName j) t te vs) σ H ((xs.filter f).map gf) := fun H1 e Q q => h H1 e _ fun a H2 e2 ha => ⟨a, rfl, ⟨xs, SqL.of ha⟩, fun Dl hD =>
  lc_list (xs := xs) (fun i H' => Same H2 H' ∧ H' Dl = some (.lst (((xs.take i).filter f).map gf))) ⟨same_new hD, upd_same⟩ (fun i H' _ p => SqL.of (p.1 _ _ ha)) (fun i x H' hi p => ⟨hw x, by
    have hm : x ∈ xs := List.mem_of_getElem? hi
    have htk : xs.take (i + 1) = xs.take i ++ [x] := by rw [List.take_add_one, hi]; rfl
    refine ht x hm H' ((e.trans e2).trans p.1) _ fun H3 e3 => ?_
    cases hf : f x with
    | true =>
      refine iteT (he x hm hf H3 (((e.trans e2).trans p.1).trans e3) _ fun H4 e4 => ⟨_, e4 _ _ (e3 _ _ p.2), ?_, Same.mut ((p.1.trans e3).trans e4) hD, ?_⟩)
      · rw [List.length_map]
        refine small_lt (Nat.lt_of_le_of_lt (Nat.le_trans (List.length_filter_le _ _) (List.length_take_le _ _)) ?_)
        have := (List.getElem?_eq_some_iff.mp hi).1
        omega
      · rw [upd_same, htk, List.filter_append, List.map_append]
        have e5 : List.filter f [x] = [x] := by simp [hf]
        rw [e5]
        rfl
    | false =>
      refine iteF ⟨p.1.trans e3, ?_⟩
      rw [htk, List.filter_append]
      have e5 : List.filter f [x] = [] := by simp [hf]
      rw [e5, List.append_nil]
      exact e3 _ _ p.2⟩) (fun H' p => q Dl H' (e2.free hD) (e2.trans p.1) (by rw [p.2, List.take_length]))⟩
theorem filter_all {α : Type} (f : α → Bool) : ∀ xs : List α, (∀ x ∈ xs, f x = true) → xs.filter f = xs := fun xs h => List.filter_eq_self.mpr h
/-- over a list of places: those that pass, themselves -/
theorem nw_lcN {tl : TE} {j : Nat} {vs : List Nat} {ns : List Nat} (f : Nat → Bool) (h : Ls tl σ H (nvs ns)) (hz : ns.length ≤ 10000) (hw : ∀ x, wipe ((wipe σ vs).set j (some x)) vs = wipe σ vs)
    (ht : ∀ k ∈ ns, GvT t ((wipe σ vs).set j (some (.int (k : Int)))) H (f k)) (he : ∀ k ∈ ns, f k = true → Gv te ((wipe σ vs).set j (some (.int (k : Int)))) H (.int (k : Int))) :
    Nw (tLc (iList K tl) (gName j) t te vs) σ H (nvs (ns.filter f)) := by
  have q := nw_lcL (K := K) (t := t) (te := te) (j := j) (vs := vs) (fun v => match v with | .int i => f i.toNat | _ => false) (fun v => v) h (by rw [nvs_len]; exact hz) hw (fun x hx => by
      obtain ⟨k, hk, rfl⟩ := List.mem_map.mp hx
      exact ht k hk) (fun x hx hf => by
      obtain ⟨k, hk, rfl⟩ := List.mem_map.mp hx
      exact he k hk hf)
  refine q.is ?_
  rw [List.map_id'' (fun _ => rfl)]
  show (ns.map fun n : Nat => V.int (n : Int)).filter _ = (ns.filter f).map fun n : Nat => V.int (n : Int)
  rw [List.filter_map]
  rfl
/-- over a range -/
theorem nw_lcR {ta : TA} {j : Nat} {vs : List Nat} (f : Nat → Bool) (gf : Nat → V) (h : PuA ta σ H [.int (n : Int)]) (hn : n ≤ 10000) (hw : ∀ x, wipe ((wipe σ vs).set j (some x)) vs = wipe σ vs)
    (ht : ∀ i, i < n → GvT t ((wipe σ vs).set j (some (.int (i : Int)))) H (f i)) (he : ∀ i, i < n → f i = true → Gv te ((wipe σ vs).set j (some (.int (i : Int)))) H (gf i)) :
    Nw (tLc (iRng1 ta) (gName j) t te vs) σ H (((List.range n).filter f).map gf) := fun H1 e Q q => h H1 e _ ⟨(n : Int), rfl, by omega, by omega, fun Dl hD =>
  lc_range (lo := 0) (n := ((n : Int)).toNat) (fun i H' => Same H1 H' ∧ H' Dl = some (.lst (((List.range i).filter f).map gf))) ⟨same_new hD, upd_same⟩ (fun i H' hi p => by
    have hi' : i < n := by omega
    have e0 : (0 : Int) + (i : Int) = (i : Int) := Int.zero_add _
    show wipe ((wipe σ vs).set j (some (.int (0 + (i : Int))))) vs = wipe σ vs ∧ _
    rw [e0]
    refine ⟨hw _, ht i hi' H' (e.trans p.1) _ fun H3 e3 => ?_⟩
    cases hf : f i with
    | true =>
      refine iteT (he i hi' hf H3 ((e.trans p.1).trans e3) _ fun H4 e4 => ⟨_, e4 _ _ (e3 _ _ p.2), ?_, Same.mut ((p.1.trans e3).trans e4) hD, ?_⟩)
      · rw [List.length_map]
        have := List.length_filter_le f (List.range i)
        rw [List.length_range] at this
        exact small_lt (by omega)
      · rw [upd_same, List.range_succ, List.filter_append, List.map_append]
        have e5 : List.filter f [i] = [i] := by simp [hf]
        rw [e5]
        rfl
    | false =>
      refine iteF ⟨p.1.trans e3, ?_⟩
      rw [List.range_succ, List.filter_append]
      have e5 : List.filter f [i] = [] := by simp [hf]
      rw [e5, List.append_nil]
      exact e3 _ _ p.2) (fun H' p => q Dl H' hD p.1 (by rw [p.2, show ((n : Int)).toNat = n by omega]))⟩
end
end Bz

set_option Elab.async false
set_option linter.all false
set_option maxRecDepth 100000
set_option maxHeartbeats 4000000
namespace Bz
open PySem PySem.Spec L2
section
variable {P : Program} {w : World} {K : PySem.W.Frag} {mg : Str → Option Value} {base : Heap} {C : Addr}
/-! 0 web, 1 tie -/
abbrev s_look_for_tie : Stmt := topS 17
abbrev N_look_for_tie : List Str := ["web", "tie"]
theorem sc_look_for_tie : FnScope N_look_for_tie ["web", "tie"] (defScope s_look_for_tie) := ⟨rfl, rfl, rfl, by decide +kernel, rfl, by decide +kernel, by decide +kernel⟩
def sp_look_for_tie (K : PySem.W.Frag) (C : Addr) : Sp := fun vs H Q _ => ∃ (a : Addr) (n k : Nat) (ts : List Tie), vs = [.ref a, .int (k : Int)] ∧ WebAt K C H a n ts ∧ k < ts.length ∧ Q .non H
theorem ok_look_for_tie (F : Df K mg "look_for_tie" ["web", "tie"] s_look_for_tie) (T : Bt mg) (Wc : WebC K C) : Gd P w K mg base 1 "look_for_tie" ["web", "tie"] (sp_look_for_tie K C) := by
  refine F.gd sc_look_for_tie (fun vs H Q E h => ?_) (fun f cdv A outer s H vs Q E hr h => ?_)
  · obtain ⟨a, n, k, ts, rfl, _⟩ := h
    rfl
  · obtain ⟨a, n, k, ts, rfl, hw, hk, q⟩ := h
    refine ⟨_, (pss_one (ps_if (PW.pt (pw_or (pt_cmpR op_lt (pv 1) pe_int (nomark _)) (pw_or1 (pt_cmpR op_ge (pv 1) (pe_callB (w_len K) (by rfl) T.len PySem.boot_len (pa_cons (w_fld K (pv 0)) pa_nil)) (nomark _)))))
        (pss_one ps_never)
        pss_nil)), ?_⟩
    refine s_when (b := false) ((pt_orP (pt_test (pu_I0 (pu_var rfl) pu_c)) fun _ => pt_test (pu_I0 (pu_var rfl) (pu_lenT Wc hw (pu_var rfl)))).is ?_) (fun h => by cases h) (fun _ => q)
    rw [decide_eq_false (show ¬ (k : Int) < 0 by omega), decide_eq_false (show ¬ (ts.length : Int) ≤ (k : Int) by omega)]
    rfl
/-! 0 web, 1 place, 2 found, 3 k, 4 ends, 5 other -/
abbrev s_reached : Stmt := topS 18
abbrev N_reached : List Str := ["web", "place", "found", "k", "ends", "other"]
theorem sc_reached : FnScope N_reached ["web", "place"] (defScope s_reached) := ⟨rfl, rfl, rfl, by decide +kernel, rfl, by decide +kernel, by decide +kernel⟩
def sp_reached (K : PySem.W.Frag) (C : Addr) : Sp := fun vs H Q _ => ∃ (a : Addr) (n p : Nat) (ts : List Tie), vs = [.ref a, .int (p : Int)] ∧ WebAt K C H a n ts ∧ p < n ∧
  ∀ (F : List Nat) r H', H r = none → Same H H' → F.Pairwise (· < ·) → (∀ y, y ∈ F ↔ Rch ts p y) → H' r = some (.lst (nvs F)) → Q (.ref r) H'
/-- what a search by reached keeps -/
structure RIn (ts : List Tie) (n p k : Nat) (F : List Nat) : Prop where
  nd : F.Nodup
  lt : ∀ y ∈ F, y < n
  st : p ∈ F
  ok : ∀ y ∈ F, Rch ts p y
  le : k ≤ F.length
  sh : ∀ x ∈ F.take k, ∀ e ∈ ts, Shut F e x
theorem RIn.more {ts : List Tie} {n p k x : Nat} {F : List Nat} {e : Tie} (R : RIn ts n p k F) (hx : F[k]? = some x) (hv : e.1 < n ∧ e.2 < n) (he : e ∈ ts) (h : e.1 = x ∨ e.2 = x) (hn : oth e x ∉ F) : RIn ts n p k (F ++ [oth e x]) := by
  refine ⟨nodup_snoc R.nd hn, fun y hy => ?_, List.mem_append_left _ R.st, fun y hy => ?_, by rw [List.length_append]; have := R.le; omega, fun z hz g hg => ?_⟩
  · rcases List.mem_append.mp hy with q | q
    · exact R.lt y q
    · rw [List.mem_singleton.mp q]; exact oth_lt hv
  · rcases List.mem_append.mp hy with q | q
    · exact R.ok y q
    · rw [List.mem_singleton.mp q]
      exact (R.ok x (List.mem_of_getElem? hx)).trans (oth_rch he h)
  · rw [List.take_append_of_le_length R.le] at hz
    exact (R.sh z hz g hg).mono fun y hy => List.mem_append_left _ hy
theorem RIn.next {ts : List Tie} {n p k x : Nat} {F : List Nat} (R : RIn ts n p k F) (hx : F[k]? = some x) (h : ∀ e ∈ ts, Shut F e x) : RIn ts n p (k + 1) F := by
  refine ⟨R.nd, R.lt, R.st, R.ok, (List.getElem?_eq_some_iff.mp hx).1, fun z hz g hg => ?_⟩
  rw [List.take_add_one, hx] at hz
  rcases List.mem_append.mp hz with q | q
  · exact R.sh z q g hg
  · have : z = x := by simpa using q
    subst this
    exact h g hg
theorem RIn.all {ts : List Tie} {n p : Nat} {F : List Nat} (R : RIn ts n p F.length F) (y : Nat) : y ∈ F ↔ Rch ts p y :=
  ⟨R.ok y, fun h => h (fun z => z ∈ F) (shut_all fun x hx e he => R.sh x (by rw [List.take_length]; exact hx) e he) R.st⟩
theorem ok_reached (F : Df K mg "reached" ["web", "place"] s_reached) (T : Bt mg) (Wc : WebC K C) : Gd P w K mg base 1 "reached" ["web", "place"] (sp_reached K C) := by
  refine F.gd sc_reached (fun vs H Q E h => ?_) (fun f cdv A outer s H vs Q E hr h => ?_)
  · obtain ⟨a, n, p, ts, rfl, _⟩ := h
    rfl
  · obtain ⟨a, n, p, ts, rfl, hw, hp, q⟩ := h
    refine ⟨_, (pss_cons (ps_set (i := 2) sc_reached.nd rfl (Or.inl rfl) (pe_lst (pa_cons (pv 1) pa_nil)))
      (pss_cons (ps_set (i := 3) sc_reached.nd rfl (Or.inl rfl) pe_int)
      (pss_cons (ps_while PassesOwn.never (pt_cmpR op_lt (pv 3) (pe_callB (w_len K) (by rfl) T.len PySem.boot_len (pa_cons (pv 2) pa_nil)) (nomark _))
        (pss_cons (ps_for PassesOwn.never rfl (w_piT K (w_fld K (pv 0))) (pg_name (i := 4) sc_reached.nd rfl (Or.inl rfl))
          (pss_one (ps_if (pt_cmpR (w_in K) (pe_ix (w_ixL K) (pv 2) (pv 3) (fun _ _ => rfl)) (pv 4) (by rfl))
            (pss_cons (ps_set (i := 5) sc_reached.nd rfl (Or.inl rfl) (pe_op op_sub (pe_op op_add (pe_ix (w_ixT K) (pv 4) pe_int (fun _ _ => rfl)) (pe_ix (w_ixT K) (pv 4) pe_int (fun _ _ => rfl))) (pe_ix (w_ixL K) (pv 2) (pv 3) (fun _ _ => rfl))))
            (pss_one (ps_if (pt_cmpR (w_nin K) (pv 5) (pv 2) (by rfl))
              (pss_one (ps_expr (w_bm K PySem.F.plainAttrs_list PySem.F.slot_list_append PySem.F.type_list_append mt_append (pv 2) (pa_cons (pv 5) pa_nil))))
              pss_nil)))
            pss_nil)))
        (pss_one (ps_aug (i := 3) sc_reached.nd rfl (Or.inl rfl) pe_int ip_add))))
      (pss_one (ps_ret (pe_callB (w_sorted K) (by rfl) T.sorted (by decide +kernel) (pa_cons (pv 2) pa_nil))))))), ?_⟩
    refine q_nw (nw_lst (pa1 (pu_var rfl) pa0) (by show 1 ≤ 100000; decide)) fun fo H1 f1 s1 e1 => ?_
    refine q_pu pu_c ?_
    refine q_while (fun m σ' H' => ∃ (F : List Nat) (k : Nat) (v4 v5 : Option V), σ' = [some (.ref a), some (.int (p : Int)), some (.ref fo), some (.int (k : Int)), v4, v5] ∧ Same H H' ∧ H' fo = some (.lst (nvs F)) ∧ RIn ts n p k F ∧ m = n - k) n
      ⟨[p], 0, none, none, rfl, s1, e1, ⟨List.pairwise_singleton _ _, by simpa using hp, List.mem_singleton.mpr rfl, fun y hy => by rw [List.mem_singleton.mp hy]; exact Rch.refl _ _, Nat.zero_le _, fun x hx => by simp at hx⟩, rfl⟩ ?_
    rintro m σ' H' ⟨F, k, v4, v5, rfl, s2, e2, R, rfl⟩
    refine ⟨_, pt_test (pu_I0 (pu_var rfl) (pu_lenN (SqL.of e2) (pu_var rfl))), fun hb => ?_, fun hb => ?_⟩
    · have hk : k < F.length := by have := of_decide_eq_true hb; omega
      obtain ⟨x, hx⟩ : ∃ x, F[k]? = some x := ⟨_, List.getElem?_eq_getElem hk⟩
      have hw2 := hw.mono s2
      refine q_forW Wc hw s2 (pu_var rfl) (fun i σ3 H3 => ∃ (G : List Nat) (v4 v5 : Option V), σ3 = [some (.ref a), some (.int (p : Int)), some (.ref fo), some (.int (k : Int)), v4, v5] ∧ Same H H3 ∧ H3 fo = some (.lst (nvs G)) ∧ RIn ts n p k G ∧ G[k]? = some x ∧ ∀ e ∈ ts.take i, Shut G e x)
        ⟨F, v4, v5, rfl, s2, e2, R, hx, by simp⟩ (fun i σ3 H3 _ ⟨_, _, _, _, s, _⟩ => s) ?_ ?_
      · rintro i e r σ3 H3 he hr3 ⟨G, v4, v5, rfl, s3, e3, R3, hx3, sh3⟩
        have hem : e ∈ ts := List.mem_of_getElem? he
        have htk : ts.take (i + 1) = ts.take i ++ [e] := by rw [List.take_add_one, he]; rfl
        have pf : ∀ {H3 : Hp} {v5 : Option V}, H3 fo = some (.lst (nvs G)) → Pu (tOp (rIxL K) (tVar 2) (tVar 3)) [some (.ref a), some (.int (p : Int)), some (.ref fo), some (.int (k : Int)), some (.ref r), v5] H3 (.int (x : Int)) := fun e3 => pu_ixN (SqL.of e3) (pu_var rfl) (pu_var rfl) hx3
        refine s_when (pt_test (pu_inP hr3 (pf e3) (pu_var rfl))) (fun hb => ?_) (fun hb => ?_)
        · have hor : e.1 = x ∨ e.2 = x := by simpa using hb
          refine q_pu ((pu_I0 (pu_I0 (pu_end0 hr3 (pu_var rfl)) (pu_end1 hr3 (pu_var rfl))) (pf e3)).is (congrArg V.int (oth_int hor))) ?_
          refine s_when (pt_test (pu_ninL (SqL.of e3) (pu_var rfl) (pu_var rfl))) (fun hc => ?_) (fun hc => ?_)
          · have hno : oth e x ∉ G := by simpa using hc
            have hl : G.length ≤ n := nodup_len n G R3.nd R3.lt
            refine s_app (pu_var rfl) e3 (pu_var rfl) (by rw [nvs_len]; have := hw.ok.most; omega) ?_
            refine ⟨G ++ [oth e x], _, _, rfl, Same.mut s3 f1, by rw [upd_same, nvs_app]; rfl, R3.more hx3 (hw.ok.ends e hem) hem hor hno, ?_, fun g hg => ?_⟩
            · rw [List.getElem?_append_left (List.getElem?_eq_some_iff.mp hx3).1]; exact hx3
            · rw [htk] at hg
              rcases List.mem_append.mp hg with z | z
              · exact (sh3 g z).mono fun y hy => List.mem_append_left _ hy
              · rw [List.mem_singleton.mp z]
                exact Shut.of (List.mem_append_left _ (List.mem_of_getElem? hx3)) fun _ => List.mem_append_right _ (List.mem_singleton.mpr rfl)
          · have hin : oth e x ∈ G := by simpa using hc
            refine ⟨G, _, _, rfl, s3, e3, R3, hx3, fun g hg => ?_⟩
            rw [htk] at hg
            rcases List.mem_append.mp hg with z | z
            · exact sh3 g z
            · rw [List.mem_singleton.mp z]
              exact Shut.of (List.mem_of_getElem? hx3) fun _ => hin
        · refine ⟨G, _, _, rfl, s3, e3, R3, hx3, fun g hg => ?_⟩
          rw [htk] at hg
          rcases List.mem_append.mp hg with z | z
          · exact sh3 g z
          · rw [List.mem_singleton.mp z]
            have hno : ¬ (e.1 = x ∨ e.2 = x) := by simpa using hb
            exact ⟨fun q => absurd (Or.inl q) hno, fun q => absurd (Or.inr q) hno⟩
      · rintro σ3 H3 ⟨G, v4, v5, rfl, s3, e3, R3, hx3, sh3⟩
        rw [List.take_length] at sh3
        have hkG : k < G.length := (List.getElem?_eq_some_iff.mp hx3).1
        have hl : G.length ≤ n := nodup_len n G R3.nd R3.lt
        refine s_aug rfl pu_c ?_
        exact ⟨n - (k + 1), by omega, G, k + 1, _, _, rfl, s3, e3, R3.next hx3 sh3, rfl⟩
    · have hk : k = F.length := by
        have := of_decide_eq_false hb
        have := R.le
        omega
      subst hk
      have hl : F.length ≤ n := nodup_len n F R.nd R.lt
      refine s_retN (nw_sorted (Pu.ls (pu_var rfl) e2) (by have := hw.ok.most; omega) (srt F) (srt_perm F) (srt_sorted F)) fun r H3 f3 s3 e3 => ?_
      exact q (srt F) r H3 (s2.free f3) (s2.trans s3) (srt_strict R.nd) (fun y => mem_srt.trans (R.all y)) e3
end
end Bz

set_option Elab.async false
set_option linter.all false
set_option maxRecDepth 100000
set_option maxHeartbeats 4000000
namespace Bz
open PySem PySem.Spec L2
theorem w_sfld {X : Cx} (K : PySem.W.Frag) {o value : Expr} {f : Str} {pos pos' : Pos} {ta tv : TE} (ha : PE X o ta) (hv : PE X value tv) (hs : swapsWith value (some (.Attribute o f pos')) pos.line X.env = pure false := by rfl) (h : X.K = K := by rfl) :
    PS X (.Assign [.Attribute o f pos'] value pos) (sFld K ta tv f) := by subst h; exact ps_fld ha hv hs
section
variable {P : Program} {w : World} {K : PySem.W.Frag} {mg : Str → Option Value} {base : Heap} {C : Addr}
theorem s_sfld {σ : St} {H : Hp} {ta tv : TE} {f : Str} {D : Ends} {a dx : Addr} {fs : List (Str × V)} {v : V} (hv : Pu tv σ H v) (ha : Pu ta σ H (.ref a)) (ho : H a = some (.ins C dx fs)) (hc : Cls K C) (hn : NoAttr K C f) (hl : fs.length < 1000) (k : D.nx σ (upd H a (.ins C dx (putF f v fs)))) : sFld K ta tv f D σ H :=
  hv.at (ha.at ⟨a, C, dx, fs, rfl, ho, hc, hn, hl, k⟩)
theorem q_sfld {σ : St} {H : Hp} {ta tv : TE} {f : Str} {D : Ends} {tz : TS} {a dx : Addr} {fs : List (Str × V)} {v : V} (hv : Pu tv σ H v) (ha : Pu ta σ H (.ref a)) (ho : H a = some (.ins C dx fs)) (hc : Cls K C) (hn : NoAttr K C f) (hl : fs.length < 1000) (k : tz D σ (upd H a (.ins C dx (putF f v fs)))) : tSeq (sFld K ta tv f) tz D σ H :=
  hv.at (ha.at ⟨a, C, dx, fs, rfl, ho, hc, hn, hl, k⟩)
/-! lists of pairs made by a comprehension -/
theorem Refs.snoc {H H' : Hp} {rs : List Addr} {ts : List Tie} {r : Addr} {e : Tie} (h : Refs K H rs ts) (s : Same H H') (hr : PairAt K H' r e) : Refs K H' (rs ++ [r]) (ts ++ [e]) := by
  refine ⟨by rw [List.length_append, List.length_append, h.1]; rfl, fun k q g a b => ?_⟩
  by_cases hk : k < rs.length
  · rw [List.getElem?_append_left hk] at a
    rw [List.getElem?_append_left (by rw [← h.1]; exact hk)] at b
    exact (h.2 k q g a b).mono s
  · rw [List.getElem?_append_right (Nat.le_of_not_lt hk)] at a
    rw [List.getElem?_append_right (by rw [← h.1]; exact Nat.le_of_not_lt hk), ← h.1] at b
    have h0 : k - rs.length = 0 := by
      have := (List.getElem?_eq_some_iff.mp a).1
      simp at this
      omega
    rw [h0] at a b
    have e1 : r = q := Option.some.inj a
    have e2 : e = g := Option.some.inj b
    subst e1 e2
    exact hr
theorem mut_pair {H : Hp} {p r : Addr} {o : HO} {e : Tie} (hp : Mut (H p)) (h : PairAt K H r e) : PairAt K (upd H p o) r e := by
  obtain ⟨u, h1, h2⟩ := h
  exact ⟨u, by rw [upd_ne (fun q => by rw [← q, h1] at hp; exact hp)]; exact h1, h2⟩
theorem mut_refs {H : Hp} {p : Addr} {o : HO} {rs : List Addr} {ts : List Tie} (hp : Mut (H p)) (h : Refs K H rs ts) : Refs K (upd H p o) rs ts := ⟨h.1, fun k r e a b => mut_pair hp (h.2 k r e a b)⟩
theorem pair_turn {σ2 : St} {H0 H' : Hp} {Dl : Addr} {rs : List Addr} {ts : List Tie} {e : Tie} {t1 t2 : TE} (s : Same H0 H') (hD : H0 Dl = none) (hl : H' Dl = some (.lst (rvs rs))) (hR : Refs K H' rs ts) (hz : rs.length ≤ 1000) (h1 : Pu t1 σ2 H0 (.int (e.1 : Int))) (h2 : Pu t2 σ2 H0 (.int (e.2 : Int))) :
    tTupF (tCons t1 (tCons t2 tNil)) σ2 H' fun y H4 => ∃ acc, H4 Dl = some (.lst acc) ∧ acc.length < sizeLine ∧ (Same H0 (upd H4 Dl (.lst (acc ++ [y]))) ∧ ∃ rs2, upd H4 Dl (.lst (acc ++ [y])) Dl = some (.lst (rvs rs2)) ∧ Refs K (upd H4 Dl (.lst (acc ++ [y]))) rs2 (ts ++ [e])) := by
  refine (pa1 h1 (pa1 h2 pa0)) H' s _ ⟨by show 2 ≤ sizeLine; decide, fun p o hp ho => ?_⟩
  have nD : Dl ≠ p := ne_of_none hl hp
  have hl2 : upd H' p (.frz o (.tup [.int (e.1 : Int), .int (e.2 : Int)])) Dl = some (.lst (rvs rs)) := by rw [upd_ne nD]; exact hl
  refine ⟨rvs rs, hl2, by rw [rvs_len]; exact small_lt (by omega), Same.mut (s.trans (same_new hp)) hD, rs ++ [p], ?_, ?_⟩
  · rw [upd_same]
    show some (HO.lst (rs.map V.ref ++ [V.ref p])) = some (HO.lst ((rs ++ [p]).map V.ref))
    rw [List.map_append]
    rfl
  · have hm : Mut (upd H' p (.frz o (.tup [.int (e.1 : Int), .int (e.2 : Int)])) Dl) := by rw [hl2]; trivial
    exact (mut_refs hm (hR.mono (same_new hp))).snoc (Same.refl _) (mut_pair hm ⟨o, upd_same, ho⟩)
/-- a new list of pairs -/
def Nt (K : PySem.W.Frag) (te : TE) (σ : St) (H : Hp) (ts : List Tie) : Prop := ∀ H1, Same H H1 → ∀ Q : VK, (∀ p H2 rs, H1 p = none → Same H1 H2 → H2 p = some (.lst (rvs rs)) → Refs K H2 rs ts → Q (.ref p) H2) → te σ H1 Q
theorem nt_lcL {σ : St} {H : Hp} {tl t1 t2 : TE} {j : Nat} {vs : List Nat} {la : Addr} {rs : List Addr} {ts : List Tie} (h : Pu tl σ H (.ref la)) (hL : SqL K H la (rvs rs)) (hR : Refs K H rs ts) (hz : rs.length ≤ 1000) (hw : ∀ x, wipe ((wipe σ vs).set j (some x)) vs = wipe σ vs)
    (he : ∀ (i : Nat) (r : Addr) (e : Tie), rs[i]? = some r → ts[i]? = some e → PairAt K H r e → Pu t1 ((wipe σ vs).set j (some (.ref r))) H (.int (e.1 : Int)) ∧ Pu t2 ((wipe σ vs).set j (some (.ref r))) H (.int (e.2 : Int))) :
    Nt K (tLc (iList K tl) (gName j) tYes (tTupF (tCons t1 (tCons t2 tNil))) vs) σ H ts := fun H1 e1 Q q => h H1 e1 _ ⟨la, rfl, ⟨_, e1.seq hL⟩, fun Dl hD =>
  lc_list (xs := rvs rs) (fun i H' => Same H1 H' ∧ ∃ rs2, H' Dl = some (.lst (rvs rs2)) ∧ Refs K H' rs2 (ts.take i)) ⟨same_new hD, [], upd_same, rfl, fun k r g a => by simp at a⟩ (fun i H' _ p => (e1.trans p.1).seq hL) (fun i x H' hi p => ⟨hw x, by
    obtain ⟨s, rs2, p2, p3⟩ := p
    obtain ⟨r, hr, rfl⟩ := rvs_of hi
    have hlt : i < rs.length := (List.getElem?_eq_some_iff.mp hr).1
    have hg : ts[i]? = some (ts[i]'(by rw [← hR.1]; exact hlt)) := List.getElem?_eq_getElem _
    have hpe := hR.2 i r _ hr hg
    obtain ⟨h1, h2⟩ := he i r _ hr hg hpe
    have htk : ts.take (i + 1) = ts.take i ++ [ts[i]'(by rw [← hR.1]; exact hlt)] := by rw [List.take_add_one, hg]; rfl
    rw [htk]
    refine iteT (B := Same H1 H' ∧ ∃ rs2, H' Dl = some (.lst (rvs rs2)) ∧ Refs K H' rs2 (ts.take i ++ [ts[i]'(by rw [← hR.1]; exact hlt)])) ?_
    refine pair_turn s hD p2 p3 ?_ (h1.mono e1) (h2.mono e1)
    rw [p3.1, List.length_take]
    omega⟩) (fun H' p => by
      obtain ⟨s, rs2, p2, p3⟩ := p
      refine q Dl H' rs2 hD s p2 ?_
      rw [rvs_len, hR.1, List.take_length] at p3
      exact p3)⟩
theorem s_fldTup {σ : St} {H : Hp} {ta te : TE} {f : Str} {D : Ends} {ts : List Tie} (nt : Nt K te σ H ts) (k : ∀ tt H2 rs, Same H H2 → SqT K H2 tt (rvs rs) → Refs K H2 rs ts → ta σ H2 fun x H3 => ∃ a C dx fs, x = .ref a ∧ H3 a = some (.ins C dx fs) ∧ Cls K C ∧ NoAttr K C f ∧ fs.length < 1000 ∧
    D.nx σ (upd H3 a (.ins C dx (putF f (.ref tt) fs)))) : sFld K ta (tCB (rTupOf K) (tCons te tNil)) f D σ H :=
  nt H (Same.refl _) _ fun l H2 rs2 f2 s2 e2 R2 => ⟨l, rvs rs2, rfl, .inl ⟨SqL.of e2, fun tt ht => k tt _ rs2 (s2.trans (same_new ht)) (SqT.of upd_same) (R2.mono (same_new ht))⟩⟩
/-! an instance changes: lists and tuples stand -/
theorem ins_seqL {H : Hp} {p a dx D' : Addr} {fs : List (Str × V)} {o : HO} {xs : List V} (hp : H p = some (.ins D' dx fs)) (h : SqL K H a xs) : SqL K (upd H p o) a xs := by
  rcases h with (z | ⟨u, z⟩) | z
  · exact .inl (.inl (by rw [upd_ne (fun q => by rw [q, hp] at z; cases z)]; exact z))
  · exact .inl (.inr ⟨u, by rw [upd_ne (fun q => by rw [q, hp] at z; cases z)]; exact z⟩)
  · exact .inr z
theorem ins_seqT {H : Hp} {p a dx D' : Addr} {fs : List (Str × V)} {o : HO} {xs : List V} (hp : H p = some (.ins D' dx fs)) (h : SqT K H a xs) : SqT K (upd H p o) a xs := by
  rcases h with (z | ⟨u, z⟩) | z
  · exact .inl (.inl (by rw [upd_ne (fun q => by rw [q, hp] at z; cases z)]; exact z))
  · exact .inl (.inr ⟨u, by rw [upd_ne (fun q => by rw [q, hp] at z; cases z)]; exact z⟩)
  · exact .inr z
theorem ins_refs {H : Hp} {p dx D' : Addr} {fs : List (Str × V)} {o : HO} {rs : List Addr} {ts : List Tie} (hp : H p = some (.ins D' dx fs)) (h : Refs K H rs ts) : Refs K (upd H p o) rs ts := mut_refs (by rw [hp]; trivial) h
/-! 0 self, 1 many, 2 ties, 3 ends, 4 place -/
abbrev s_Web___init__ : Stmt := inClass (topS 16) 0
abbrev N_Web___init__ : List Str := ["self", "many", "ties", "ends", "place"]
theorem sc_Web___init__ : FnScope N_Web___init__ ["self", "many", "ties"] (defScope s_Web___init__) := ⟨rfl, rfl, rfl, by decide +kernel, rfl, by decide +kernel, by decide +kernel⟩
def sp_init (K : PySem.W.Frag) (C : Addr) : Sp := fun vs H Q _ => ∃ (p dx la : Addr) (n : Nat) (ts : List Tie), vs = [.ref p, .int (n : Int), .ref la] ∧ H p = some (.ins C dx []) ∧ TieLst K H la ts ∧ Valid n ts ∧
  ∀ H' tt, (∀ b o, b ≠ p → H b = some o → H' b = some o) → H' p = some (.ins C dx (wf n tt)) → TieTup K H' tt ts → Q .non H'
theorem ok_init {f : Addr} {fd : FuncData} (F : Fun K "__init__" "Web.__init__" s_Web___init__ f fd) (T : Bt mg) (Wc : WebC K C) : FnOk P w K mg base CX0 1 f fd ["self", "many", "ties"] (sp_init K C) := by
  refine F.ok sc_Web___init__ (fun vs H Q E h => ?_) (fun cdv A outer s H vs Q E hr h => ?_)
  · obtain ⟨p, dx, la, n, ts, rfl, _⟩ := h
    rfl
  · obtain ⟨p, dx, la, n, ts, rfl, hp, hT, hV, q⟩ := h
    refine ⟨_, (pss_cons (ps_if (PW.pt (pw_or (pt_cmpR op_lt (pv 1) pe_int (nomark _)) (pw_or (pt_cmpR op_gt (pv 1) (pe_mi T.MOST_PLACES) (nomark _)) (pw_or1 (pt_cmpR op_gt (pe_callB (w_len K) (by rfl) T.len PySem.boot_len (pa_cons (pv 2) pa_nil)) (pe_mi T.MOST_TIES) (nomark _))))))
        (pss_one ps_never)
        pss_nil)
      (pss_cons (ps_for PassesOwn.never rfl (w_piL K (pv 2)) (pg_name (i := 3) sc_Web___init__.nd rfl (Or.inl rfl))
        (pss_one (ps_for PassesOwn.never rfl (w_piT K (pv 3)) (pg_name (i := 4) sc_Web___init__.nd rfl (Or.inl rfl))
          (pss_one (ps_if (PW.pt (pw_or (pt_cmpR op_lt (pv 4) pe_int (nomark _)) (pw_or1 (pt_cmpR op_ge (pv 4) (pv 1) (nomark _)))))
            (pss_one ps_never)
            pss_nil)))))
      (pss_cons (w_sfld K (pv 0) (pv 1))
      (pss_one (w_sfld K (pv 0) (pe_callTy (w_tupOf K) (by rfl) T.tuple (by decide +kernel) (pa_cons (pe_lc (own := [("ends", 3)]) (g := gName 3) (by rfl) sc_Web___init__.nd (w_piL K (pv 2)) (blkOk_by (own := [("ends", 3)]) (N := N_Web___init__) (sc := defScope s_Web___init__) (by decide +kernel)) (fun _ _ _ _ _ => (pg_name (i := 3) sc_Web___init__.nd rfl (Or.inl rfl))) (fun _ _ _ _ _ => pts_nil) (fun _ _ _ _ _ => (pe_tupF (pa_cons (pe_ix (w_ixT K) (pv 3) pe_int (fun _ _ => rfl)) (pa_cons (pe_ix (w_ixT K) (pv 3) pe_int (fun _ _ => rfl)) pa_nil))))) pa_nil))))))), ?_⟩
    have v1 := hV.pos
    have v2 := hV.most
    have v3 := hV.len
    refine q_when (b := false) ((pt_orP (pt_test (pu_I0 (pu_var rfl) pu_c)) fun _ => pt_orP (pt_test (pu_I0 (pu_var rfl) pu_c)) fun _ => pt_test (pu_I0 (pu_lenLT hT (pu_var rfl)) pu_c)).is ?_) (fun h => by cases h) (fun _ => ?_)
    · rw [decide_eq_false (show ¬ (n : Int) < 1 by omega), decide_eq_false (show ¬ (20 : Int) < (n : Int) by omega), decide_eq_false (show ¬ (40 : Int) < (ts.length : Int) by omega)]
      rfl
    obtain ⟨rs, hL, hR⟩ := hT
    refine q_forL (pu_var rfl) hL (fun i σ' H' => ∃ (v3 v4 : Option V), σ' = [some (.ref p), some (.int (n : Int)), some (.ref la), v3, v4] ∧ H' = H) ⟨none, none, rfl, rfl⟩ (fun i σ' H' _ ⟨_, _, _, e⟩ => by rw [e]; exact hL) ?_ ?_
    · rintro i x σ' H' hx ⟨v3, v4, rfl, rfl⟩
      obtain ⟨r, hr1, rfl⟩ := rvs_of hx
      have hi : i < ts.length := by rw [← hR.1]; exact (List.getElem?_eq_some_iff.mp hr1).1
      have he : ts[i]? = some ts[i] := List.getElem?_eq_getElem hi
      have hpr := hR.2 i r _ hr1 he
      have hve := hV.at he
      refine s_forT (pu_var rfl) hpr.sq (fun i σ' H2 => ∃ (v4 : Option V), σ' = [some (.ref p), some (.int (n : Int)), some (.ref la), some (.ref r), v4] ∧ H2 = H') ⟨v4, rfl, rfl⟩ (fun i σ' H2 _ ⟨_, _, e⟩ => by rw [e]; exact hpr.sq) ?_ ?_
      · rintro j x σ' H2 hx ⟨v4, rfl, rfl⟩
        obtain ⟨z, hz, rfl⟩ : ∃ z : Nat, z < n ∧ x = .int (z : Int) := by
          match j, hx with
          | 0, hx => exact ⟨_, hve.1, (Option.some.inj hx).symm⟩
          | 1, hx => exact ⟨_, hve.2, (Option.some.inj hx).symm⟩
          | j + 2, hx => simp at hx
        refine s_when (b := false) ((pt_orP (pt_test (pu_I0 (pu_var rfl) pu_c)) fun _ => pt_test (pu_I0 (pu_var rfl) (pu_var rfl))).is ?_) (fun h => by cases h) (fun _ => ⟨_, rfl, rfl⟩)
        rw [decide_eq_false (show ¬ (z : Int) < 0 by omega), decide_eq_false (show ¬ (n : Int) ≤ (z : Int) by omega)]
        rfl
      · rintro σ' H2 ⟨v4, rfl, rfl⟩
        exact ⟨_, _, rfl, rfl⟩
    · rintro σ' H' ⟨v3, v4, rfl, rfl⟩
      refine q_sfld (pu_var rfl) (pu_var rfl) hp Wc.cl Wc.nM (by show 0 < 1000; decide) ?_
      have hL1 := ins_seqL (K := K) (o := .ins C dx (putF "many" (.int (n : Int)) [])) hp hL
      have hR1 := ins_refs (K := K) (o := .ins C dx (putF "many" (.int (n : Int)) [])) hp hR
      have hp1 : upd H' p (.ins C dx (putF "many" (.int (n : Int)) [])) p = some (.ins C dx (putF "many" (.int (n : Int)) [])) := upd_same
      have kp1 : ∀ b o, b ≠ p → H' b = some o → upd H' p (.ins C dx (putF "many" (.int (n : Int)) [])) b = some o := fun b o hb e => by rw [upd_ne hb]; exact e
      generalize upd H' p (.ins C dx (putF "many" (.int (n : Int)) [])) = H1 at hL1 hR1 hp1 kp1 ⊢
      have nt : Nt K (tLc (iList K (tVar 2)) (gName 3) tYes (tTupF (tCons (tOp (rIxT K) (tVar 3) (tC (.int 0))) (tCons (tOp (rIxT K) (tVar 3) (tC (.int 1))) tNil))) [3]) [some (.ref p), some (.int (n : Int)), some (.ref la), v3, v4] H1 ts :=
        nt_lcL (pu_var rfl) hL1 hR1 (by rw [hR.1]; omega) (fun _ => rfl) (fun i r e _ _ hpe => ⟨pu_end0 hpe (pu_var rfl), pu_end1 hpe (pu_var rfl)⟩)
      refine s_fldTup nt fun tt H2 rs2 s2 ht R2 => ?_
      have hp4 := s2 _ _ hp1
      refine ⟨_, rfl, p, C, dx, _, rfl, hp4, Wc.cl, Wc.nT, by show 1 < 1000; decide, ?_⟩
      refine q _ tt (fun b o hb e => ?_) upd_same ⟨rs2, ins_seqT hp4 ht, ins_refs hp4 R2⟩
      rw [upd_ne hb]
      exact s2 _ _ (kp1 b o hb e)
/-! ### Web(many, ties) as a def -/
def sp_web (K : PySem.W.Frag) (C : Addr) : Sp := fun vs H Q _ => ∃ (n : Nat) (ts : List Tie) (la : Addr), vs = [.int (n : Int), .ref la] ∧ TieLst K H la ts ∧ Valid n ts ∧ ∀ x H2, H x = none → Same H H2 → WebAt K C H2 x n ts → Q (.ref x) H2
structure GdW (P : Program) (w : World) (K : PySem.W.Frag) (mg : Str → Option Value) (base : Heap) (C : Addr) (k : Nat) : Prop where
  ex : ∃ f fd, Mk K C f ∧ FnOk P w K mg base CX0 k f fd ["self", "many", "ties"] (sp_init K C) ∧ mg "Web" = some (.ref C) ∧ Binds K fd ["self", "many", "ties"] []
theorem pe_mk {X : Cx} {k : Nat} {e : Expr} {es : List Expr} {t : TA} {p pos : Pos} (G : GdW X.prog X.w K X.mg X.base C k) (hr : Room (k + 1) X.A) (hg : Gl X "Web")
    (ha : PA X (e :: es) t) (he : starEach (e :: es) X.env = (false, eval e X.env) :: starEach es X.env := by rfl) (hpl : (backTo pos (starEach es X.env)).any (·.1) = false := by rfl) (hK : X.K = K := by rfl) :
    PE X (.Call (.Name "Web" p) (e :: es) [] pos) (tGd (sp_web K C) t) := by
  subst hK
  obtain ⟨f, fd, M, F, hm, hb⟩ := G.ex
  refine ⟨fun pins s σ H Q I h => ?_⟩
  refine wpAny_Call_Name_kw (ld_glob I hg hm ?_ (by decide))
  refine PySem.W.callWith_K (h₀ := X.base) I.ok.mod.kin M.kp (thn (ha.run pos pins s σ H _ I h) fun us s1 ⟨vs, H1, I1, r, q⟩ => ⟨I1.kIn, ?_⟩) he hpl
  obtain ⟨n, ts, la, rfl, hT, hV, q⟩ := q
  refine run_make (E := E0) (dvs := []) M F hr hb .nil pass0 I1 r fun x dx nx nd ne => ?_
  have s0 : Same H1 (upd (upd H1 dx (.own x)) x (.ins C dx [])) := fun b o e => by
    rw [upd_ne (ne_of_none e nx), upd_ne (ne_of_none e nd)]
    exact e
  refine ⟨x, dx, la, n, ts, rfl, upd_same, hT.mono s0, hV, fun H' tt keep hx ht => ⟨rfl, ?_⟩⟩
  exact q x H' nx (fun b o e => keep b o (ne_of_none e nx) (s0 b o e)) ⟨⟨dx, tt, hx, ht⟩, hV⟩
end
end Bz

set_option Elab.async false
set_option linter.all false
set_option maxHeartbeats 4000000
namespace Bz
/-! ### some of the ties -/
def tieAt (ts : List Tie) (k : Nat) : Tie := ts.getD k (0, 0)
theorem tieAt_of {ts : List Tie} {k : Nat} {e : Tie} (h : ts[k]? = some e) : tieAt ts k = e := by
  unfold tieAt
  rw [List.getD_eq_getElem?_getD, h]
  rfl
theorem tieAt_get {ts : List Tie} {k : Nat} (h : k < ts.length) : ts[k]? = some (tieAt ts k) := by
  have := List.getElem?_eq_getElem h
  rw [this, tieAt_of this]
theorem tieAt_mem {ts : List Tie} {k : Nat} (h : k < ts.length) : tieAt ts k ∈ ts := List.mem_of_getElem? (tieAt_get h)
def sub (ts : List Tie) (is : List Nat) : List Tie := is.map (tieAt ts)
theorem sub_len (ts : List Tie) (is : List Nat) : (sub ts is).length = is.length := List.length_map _
theorem sub_get {ts : List Tie} {is : List Nat} {i k : Nat} (h : is[i]? = some k) : (sub ts is)[i]? = some (tieAt ts k) := by
  unfold sub
  rw [List.getElem?_map, h]
  rfl
theorem mem_sub {ts : List Tie} {is : List Nat} {e : Tie} : e ∈ sub ts is ↔ ∃ k ∈ is, tieAt ts k = e := List.mem_map
theorem sub_mem {ts : List Tie} {is : List Nat} {k : Nat} (h : k ∈ is) : tieAt ts k ∈ sub ts is := List.mem_map.mpr ⟨k, h, rfl⟩
theorem mem_take {ts : List Tie} {i : Nat} {e : Tie} (hi : i ≤ ts.length) : e ∈ ts.take i ↔ ∃ k, k < i ∧ tieAt ts k = e := by
  constructor
  · intro h
    obtain ⟨k, hk⟩ := List.mem_iff_getElem?.mp h
    rw [List.getElem?_take] at hk
    by_cases q : k < i
    · rw [if_pos q] at hk
      exact ⟨k, q, tieAt_of hk⟩
    · rw [if_neg q] at hk
      cases hk
  · rintro ⟨k, hk, rfl⟩
    refine List.mem_iff_getElem?.mpr ⟨k, ?_⟩
    rw [List.getElem?_take, if_pos hk]
    exact tieAt_get (Nat.lt_of_lt_of_le hk hi)
theorem take_snoc {ts : List Tie} {i : Nat} (h : i < ts.length) : ts.take (i + 1) = ts.take i ++ [tieAt ts i] := by
  rw [List.take_add_one, tieAt_get h]
  rfl
/-! ### ties between two sets of places -/
def joins (e : Tie) (A B : List Nat) : Bool := (decide (e.1 ∈ A) && decide (e.2 ∈ B)) || (decide (e.1 ∈ B) && decide (e.2 ∈ A))
def btw (ts : List Tie) (A B : List Nat) : List Nat := (List.range ts.length).filter fun k => joins (tieAt ts k) A B
theorem mem_btw {ts : List Tie} {A B : List Nat} {k : Nat} : k ∈ btw ts A B ↔ k < ts.length ∧ ((((tieAt ts k).1 ∈ A) ∧ (tieAt ts k).2 ∈ B) ∨ ((tieAt ts k).1 ∈ B ∧ (tieAt ts k).2 ∈ A)) := by
  unfold btw joins
  rw [List.mem_filter, List.mem_range]
  simp
theorem btw_rising (ts : List Tie) (A B : List Nat) : (btw ts A B).Pairwise (· < ·) := List.Pairwise.filter _ List.pairwise_lt_range
theorem btw_len (ts : List Tie) (A B : List Nat) : (btw ts A B).length ≤ ts.length := by
  have := List.length_filter_le (fun k => joins (tieAt ts k) A B) (List.range ts.length)
  rw [List.length_range] at this
  exact this
/-! ### the ends of some ties -/
def endsL (ts : List Tie) (is : List Nat) : List Nat := is.flatMap fun k => [(tieAt ts k).1, (tieAt ts k).2]
theorem endsL_snoc (ts : List Tie) (is : List Nat) (k : Nat) : endsL ts (is ++ [k]) = endsL ts is ++ [(tieAt ts k).1, (tieAt ts k).2] := by
  unfold endsL
  rw [List.flatMap_append]
  simp
theorem endsL_len (ts : List Tie) (is : List Nat) : (endsL ts is).length = 2 * is.length := by
  induction is with
  | nil => rfl
  | cons k is ih =>
    show ([(tieAt ts k).1, (tieAt ts k).2] ++ endsL ts is).length = 2 * (is.length + 1)
    rw [List.length_append, ih]
    show 2 + _ = _
    omega
/-- loops at p alone -/
theorem endsL_loops {ts : List Tie} {p : Nat} : ∀ {is : List Nat}, (∀ k ∈ is, tieAt ts k = (p, p)) → endsL ts is = List.replicate (2 * is.length) p
  | [], _ => rfl
  | k :: is, h => by
    show [(tieAt ts k).1, (tieAt ts k).2] ++ endsL ts is = List.replicate (2 * (is.length + 1)) p
    rw [endsL_loops fun j hj => h j (List.mem_cons_of_mem _ hj), h k List.mem_cons_self]
    show [p, p] ++ _ = _
    rw [show 2 * (is.length + 1) = 2 * is.length + 1 + 1 by omega, List.replicate_succ, List.replicate_succ]
    rfl
theorem rch_loops {us : List Tie} {p y : Nat} (h : ∀ e ∈ us, e = (p, p)) : Rch us p y ↔ y = p := by
  constructor
  · intro r
    exact r (fun z => z = p) (fun e he => by rw [h e he]) rfl
  · rintro rfl
    exact Rch.refl _ _
/-! ### one tie more -/
theorem rch_snoc {A : List Tie} {e : Tie} {x y : Nat} : Rch (A ++ [e]) x y ↔ Rch A x y ∨ (Rch A x e.1 ∧ Rch A e.2 y) ∨ (Rch A x e.2 ∧ Rch A e.1 y) := by
  have hA : ∀ g ∈ A, g ∈ A ++ [e] := fun g hg => List.mem_append_left _ hg
  have he : e ∈ A ++ [e] := List.mem_append_right _ (List.mem_singleton.mpr rfl)
  constructor
  · intro h
    refine h (fun z => Rch A x z ∨ (Rch A x e.1 ∧ Rch A e.2 z) ∨ (Rch A x e.2 ∧ Rch A e.1 z)) (fun g hg => ?_) (.inl (Rch.refl _ _))
    rcases List.mem_append.mp hg with hg | hg
    · have t : Rch A g.1 g.2 := Rch.tie hg
      constructor
      · rintro (h | ⟨a, h⟩ | ⟨a, h⟩)
        · exact .inl (h.trans t)
        · exact .inr (.inl ⟨a, h.trans t⟩)
        · exact .inr (.inr ⟨a, h.trans t⟩)
      · rintro (h | ⟨a, h⟩ | ⟨a, h⟩)
        · exact .inl (h.trans t.symm)
        · exact .inr (.inl ⟨a, h.trans t.symm⟩)
        · exact .inr (.inr ⟨a, h.trans t.symm⟩)
    · rw [List.mem_singleton.mp hg]
      constructor
      · rintro (h | ⟨a, h⟩ | ⟨a, h⟩)
        · exact .inr (.inl ⟨h, Rch.refl _ _⟩)
        · exact .inr (.inl ⟨a, Rch.refl _ _⟩)
        · exact .inl a
      · rintro (h | ⟨a, h⟩ | ⟨a, h⟩)
        · exact .inr (.inr ⟨h, Rch.refl _ _⟩)
        · exact .inl a
        · exact .inr (.inr ⟨a, Rch.refl _ _⟩)
  · rintro (h | ⟨a, b⟩ | ⟨a, b⟩)
    · exact h.mono hA
    · exact ((a.mono hA).trans (Rch.tie he)).trans (b.mono hA)
    · exact ((a.mono hA).trans (Rch.tie he).symm).trans (b.mono hA)
/-! ### the forest -/
structure Forest (ts : List Tie) (F : List Nat) : Prop where
  rise : F.Pairwise (· < ·)
  lt : ∀ k ∈ F, k < ts.length
  mem : ∀ k, k < ts.length → (k ∈ F ↔ ¬ Rch (ts.take k) (tieAt ts k).1 (tieAt ts k).2)
  span : ∀ e ∈ ts, Rch (sub ts F) e.1 e.2
/-- what is kept while the forest is made: the names' classes, the ties taken -/
structure FIn (ts : List Tie) (n i : Nat) (N F : List Nat) : Prop where
  len : N.length = n
  cls : ∀ x y, x < n → y < n → (N.getD x 0 = N.getD y 0 ↔ Rch (ts.take i) x y)
  rise : F.Pairwise (· < ·)
  lt : ∀ k ∈ F, k < i
  mem : ∀ k, k < i → (k ∈ F ↔ ¬ Rch (ts.take k) (tieAt ts k).1 (tieAt ts k).2)
  span : ∀ e ∈ ts.take i, Rch (sub ts F) e.1 e.2
theorem FIn.start (ts : List Tie) (n : Nat) : FIn ts n 0 (List.range n) [] := by
  refine ⟨List.length_range, fun x y hx hy => ?_, List.Pairwise.nil, fun k hk => absurd hk List.not_mem_nil, fun k hk => absurd hk (Nat.not_lt_zero _), fun e he => by simp at he⟩
  have gx : (List.range n).getD x 0 = x := by simp [List.getD_eq_getElem?_getD, hx]
  have gy : (List.range n).getD y 0 = y := by simp [List.getD_eq_getElem?_getD, hy]
  rw [gx, gy]
  constructor
  · rintro rfl
    exact Rch.refl _ _
  · intro h
    exact h (fun z => x = z) (fun e he => by simp at he) rfl
theorem FIn.stay {ts : List Tie} {n i : Nat} {N F : List Nat} (R : FIn ts n i N F) (hi : i < ts.length) (hv : (tieAt ts i).1 < n ∧ (tieAt ts i).2 < n) (h : N.getD (tieAt ts i).1 0 = N.getD (tieAt ts i).2 0) : FIn ts n (i + 1) N F := by
  have r := (R.cls _ _ hv.1 hv.2).mp h
  refine ⟨R.len, fun x y hx hy => ?_, R.rise, fun k hk => Nat.lt_succ_of_lt (R.lt k hk), fun k hk => ?_, fun e he => ?_⟩
  · rw [R.cls x y hx hy, take_snoc hi, rch_snoc]
    constructor
    · exact .inl
    · rintro (h | ⟨a, b⟩ | ⟨a, b⟩)
      · exact h
      · exact (a.trans r).trans b
      · exact (a.trans r.symm).trans b
  · by_cases q : k = i
    · subst q
      exact ⟨fun hk => absurd (R.lt k hk) (Nat.lt_irrefl _), fun hn => absurd r hn⟩
    · exact R.mem k (by omega)
  · rw [take_snoc hi] at he
    rcases List.mem_append.mp he with z | z
    · exact R.span e z
    · rw [List.mem_singleton.mp z]
      exact r.sub R.span
theorem getD_map {f : Nat → Nat} {N : List Nat} {x : Nat} (h : x < N.length) : (N.map f).getD x 0 = f (N.getD x 0) := by
  simp [List.getD_eq_getElem?_getD, h]
theorem FIn.join {ts : List Tie} {n i : Nat} {N F : List Nat} (R : FIn ts n i N F) (hi : i < ts.length) (hv : (tieAt ts i).1 < n ∧ (tieAt ts i).2 < n) (h : N.getD (tieAt ts i).1 0 ≠ N.getD (tieAt ts i).2 0) :
    FIn ts n (i + 1) (N.map fun z => if z = N.getD (tieAt ts i).2 0 then N.getD (tieAt ts i).1 0 else z) (F ++ [i]) := by
  have r : ¬ Rch (ts.take i) (tieAt ts i).1 (tieAt ts i).2 := fun q => h ((R.cls _ _ hv.1 hv.2).mpr q)
  refine ⟨by rw [List.length_map]; exact R.len, fun x y hx hy => ?_, ?_, fun k hk => ?_, fun k hk => ?_, fun e he => ?_⟩
  · rw [getD_map (by rw [R.len]; exact hx), getD_map (by rw [R.len]; exact hy), take_snoc hi, rch_snoc]
    have cx1 := R.cls x _ hx hv.1
    have cx2 := R.cls x _ hx hv.2
    have cy1 := R.cls _ y hv.1 hy
    have cy2 := R.cls _ y hv.2 hy
    have cxy := R.cls x y hx hy
    rw [← cx1, ← cx2, ← cy1, ← cy2, ← cxy]
    by_cases a : N.getD x 0 = N.getD (tieAt ts i).2 0
    · by_cases b : N.getD y 0 = N.getD (tieAt ts i).2 0
      · rw [if_pos a, if_pos b]
        exact ⟨fun _ => .inl (a.trans b.symm), fun _ => rfl⟩
      · rw [if_pos a, if_neg b]
        constructor
        · intro q
          exact .inr (.inr ⟨a, q⟩)
        · rintro (q | ⟨q, q2⟩ | ⟨q, q2⟩)
          · exact absurd (q.symm.trans a) b
          · exact absurd q2.symm b
          · exact q2
    · by_cases b : N.getD y 0 = N.getD (tieAt ts i).2 0
      · rw [if_neg a, if_pos b]
        constructor
        · intro q
          exact .inr (.inl ⟨q, b.symm⟩)
        · rintro (q | ⟨q, q2⟩ | ⟨q, q2⟩)
          · exact absurd (q.trans b) a
          · exact q
          · exact absurd q a
      · rw [if_neg a, if_neg b]
        constructor
        · exact .inl
        · rintro (q | ⟨q, q2⟩ | ⟨q, q2⟩)
          · exact q
          · exact absurd q2.symm b
          · exact absurd q a
  · rw [List.pairwise_append]
    exact ⟨R.rise, List.pairwise_singleton _ _, fun a ha b hb => by rw [List.mem_singleton.mp hb]; exact R.lt a ha⟩
  · rcases List.mem_append.mp hk with z | z
    · exact Nat.lt_succ_of_lt (R.lt k z)
    · rw [List.mem_singleton.mp z]; exact Nat.lt_succ_self _
  · by_cases q : k = i
    · subst q
      exact ⟨fun _ => r, fun _ => List.mem_append_right _ (List.mem_singleton.mpr rfl)⟩
    · rw [← R.mem k (by omega), List.mem_append]
      exact ⟨fun z => z.elim id fun z => absurd (List.mem_singleton.mp z) q, .inl⟩
  · have hs : ∀ g ∈ sub ts F, g ∈ sub ts (F ++ [i]) := fun g hg => by
      obtain ⟨k, hk, rfl⟩ := mem_sub.mp hg
      exact sub_mem (List.mem_append_left _ hk)
    rw [take_snoc hi] at he
    rcases List.mem_append.mp he with z | z
    · exact (R.span e z).mono hs
    · rw [List.mem_singleton.mp z]
      exact Rch.tie (sub_mem (List.mem_append_right _ (List.mem_singleton.mpr rfl)))
theorem FIn.forest {ts : List Tie} {n : Nat} {N F : List Nat} (R : FIn ts n ts.length N F) : Forest ts F := ⟨R.rise, R.lt, R.mem, fun e he => R.span e (by rw [List.take_length]; exact he)⟩
/-- the ties that aren't in the forest -/
def free (ts : List Tie) (F : List Nat) : List Nat := (List.range ts.length).filter fun k => !decide (k ∈ F)
theorem mem_free {ts : List Tie} {F : List Nat} {k : Nat} : k ∈ free ts F ↔ k < ts.length ∧ k ∉ F := by
  unfold free
  rw [List.mem_filter, List.mem_range]
  simp
theorem free_rising (ts : List Tie) (F : List Nat) : (free ts F).Pairwise (· < ·) := List.Pairwise.filter _ List.pairwise_lt_range
end Bz

set_option Elab.async false
set_option linter.all false
set_option maxRecDepth 100000
set_option maxHeartbeats 4000000
namespace Bz
open PySem PySem.Spec L2
section
variable {P : Program} {w : World} {K : PySem.W.Frag} {mg : Str → Option Value} {base : Heap} {C : Addr}
section
variable {σ : St} {H H' : Hp} {ta tb tc te : TE} {v : V} {a p : Addr} {n : Nat} {ts us : List Tie} {xs ys : List V} {D : Ends} {tu tw tz : TS} {sp : Sp} {vs : List V}
theorem q_gd {i : Nat} {ta : TA} (h : PuA ta σ H vs) (k : sp vs H (fun v H1 => tz D (σ.set i (some v)) H1) E0) : tSeq (tAsg (tGd sp ta) (gName i)) tz D σ H := h.at k
theorem s_gd {i : Nat} {ta : TA} (h : PuA ta σ H vs) (k : sp vs H (fun v H1 => D.nx (σ.set i (some v)) H1) E0) : tAsg (tGd sp ta) (gName i) D σ H := h.at k
theorem q_gdDrop {ta : TA} (h : PuA ta σ H vs) (k : sp vs H (fun _ H1 => tz D σ H1) E0) : tSeq (tDrop (tGd sp ta)) tz D σ H := h.at k
theorem s_gdDrop {ta : TA} (h : PuA ta σ H vs) (k : sp vs H (fun _ H1 => D.nx σ H1) E0) : tDrop (tGd sp ta) D σ H := h.at k
theorem s_gdRet {ta : TA} (h : PuA ta σ H vs) (k : sp vs H D.rt E0) : tRet (tGd sp ta) D σ H := h.at k
theorem s_retWeb {tm tl : TE} (hm : Pu tm σ H (.int (n : Int))) (hl : Nw tl σ H xs) (ht : ∀ l H1, Same H H1 → H1 l = some (.lst xs) → TieLst K H1 l us) (hV : Valid n us) (k : ∀ x H2, H x = none → Same H H2 → WebAt K C H2 x n us → D.rt (.ref x) H2) :
    tRet (tGd (sp_web K C) (tCons tm (tCons tl tNil))) D σ H := hm.at (hl.at fun l H1 f1 s1 e1 => ⟨n, us, l, rfl, ht l H1 s1 e1, hV, fun x H2 hx s2 hw => k x H2 (s1.free hx) (s1.trans s2) hw⟩)
theorem s_extT {l b : Addr} {zs : List V} (ha : Pu ta σ H (.ref l)) (hl : H l = some (.lst xs)) (hb : Pu tb σ H (.ref b)) (hz : SqT K H b zs) (hn : xs.length + zs.length ≤ 100000) (k : D.nx σ (upd H l (.lst (xs ++ zs)))) : tDrop (tBM K "list" (rExtendT K) ta (tCons tb tNil)) D σ H :=
  ha.at ⟨.inl ⟨rfl, _, SqL.of hl⟩, hb.at ⟨l, b, xs, zs, rfl, rfl, hl, hz, small_le hn, k⟩⟩
theorem put_of {t : TT} {b : Bool} (h : PuT t σ H b) (hb : b = true) : PuT t σ H true := hb ▸ h
end
/-! 0 web*, 1 some, 2 tie -/
abbrev s_web_of : Stmt := topS 27
abbrev N_web_of : List Str := ["web", "some", "tie"]
theorem sc_web_of : FnScope N_web_of ["web", "some"] (defScope s_web_of) := ⟨rfl, rfl, rfl, by decide +kernel, rfl, by decide +kernel, by decide +kernel⟩
def sp_web_of (K : PySem.W.Frag) (C : Addr) : Sp := fun vs H Q _ => ∃ (a l : Addr) (n : Nat) (ts : List Tie) (is : List Nat), vs = [.ref a, .ref l] ∧ WebAt K C H a n ts ∧ H l = some (.lst (nvs is)) ∧ (∀ k ∈ is, k < ts.length) ∧ is.length ≤ 40 ∧
  ∀ x H2, H x = none → Same H H2 → WebAt K C H2 x n (sub ts is) → Q (.ref x) H2
theorem sub_valid {n : Nat} {ts : List Tie} {is : List Nat} (hV : Valid n ts) (h : ∀ k ∈ is, k < ts.length) (hl : is.length ≤ 40) : Valid n (sub ts is) :=
  ⟨hV.pos, hV.most, by rw [sub_len]; exact hl, fun e he => by
    obtain ⟨k, hk, rfl⟩ := mem_sub.mp he
    exact hV.ends _ (tieAt_mem (h k hk))⟩
theorem ok_web_of {k : Nat} (F : Df K mg "web_of" ["web", "some"] s_web_of) (T : Bt mg) (Wc : WebC K C) (G_Web : GdW P w K mg base C k) : Gd P w K mg base (k + 2) "web_of" ["web", "some"] (sp_web_of K C) := by
  refine F.gd sc_web_of (fun vs H Q E h => ?_) (fun f cdv A outer s H vs Q E hr h => ?_)
  · obtain ⟨a, l, n, ts, is, rfl, _⟩ := h
    rfl
  · obtain ⟨a, l, n, ts, is, rfl, hw, hl, hk, hlen, q⟩ := h
    have hr_Web := hr
    refine ⟨_, (pss_one (ps_ret (pe_mk G_Web hr_Web (by rfl) (pa_cons (w_fld K (pv 0)) (pa_cons (pe_lc (own := [("tie", 2)]) (g := gName 2) (by rfl) sc_web_of.nd (w_piL K (pv 1)) (blkOk_by (own := [("tie", 2)]) (N := N_web_of) (sc := defScope s_web_of) (by decide +kernel)) (fun _ _ _ _ _ => (pg_name (i := 2) sc_web_of.nd rfl (Or.inl rfl))) (fun _ _ _ _ _ => pts_nil) (fun _ _ _ _ _ => (pe_ix (w_ixT K) (w_fld K (pv 0)) (pv 2) (fun _ _ => rfl)))) pa_nil))))), ?_⟩
    obtain ⟨dx, tt, h1, rs, hT, hR⟩ := hw.ex
    have pt : ∀ {σ : St} {ta : TE}, Pu ta σ H (.ref a) → Pu (tFld K ta "ties") σ H (.ref tt) := fun ha => pu_fld Wc.cl Wc.nT h1 (wf_ties n tt) ha
    have hgr : ∀ k ∈ is, rs[k]? = some (rs.getD k 0) := fun k hkm => by
      have hkr : k < rs.length := by rw [hR.1]; exact hk k hkm
      rw [List.getD_eq_getElem?_getD, List.getElem?_eq_getElem hkr]
      rfl
    refine s_retWeb (xs := rvs (is.map fun k => rs.getD k 0)) (us := sub ts is) (pu_many Wc hw (pu_var rfl)) ?_ ?_ (sub_valid hw.ok hk hlen) fun x H2 hx s2 w2 => q x H2 hx s2 w2
    · refine (nw_lcL (K := K) (fun _ => true) (fun v => match v with | .int i => .ref (rs.getD i.toNat 0) | _ => .non) (Pu.ls (pu_var rfl) hl) (by rw [nvs_len]; omega) (fun _ => rfl) (fun x hx => pt_yes.gt) (fun x hx _ => ?_)).is ?_
      · obtain ⟨k, hkm, rfl⟩ := List.mem_map.mp hx
        exact (pu_ixT hT (pt (pu_var rfl)) (pu_var rfl) (atI_nat (rvs_get (hgr k hkm)))).gv
      · rw [filter_all _ _ fun _ _ => rfl]
        show ((is.map fun n : Nat => V.int (n : Int)).map _) = (is.map fun k => rs.getD k 0).map V.ref
        rw [List.map_map, List.map_map]
        rfl
    · intro l2 H1 s1 e1
      refine ⟨_, SqL.of e1, by rw [List.length_map, sub_len], fun k r e a b => ?_⟩
      rw [List.getElem?_map] at a
      cases hz : is[k]? with
      | none => rw [hz] at a; cases a
      | some j =>
        rw [hz] at a
        have hj := List.mem_of_getElem? hz
        have e2 : rs.getD j 0 = r := Option.some.inj a
        have e3 : tieAt ts j = e := Option.some.inj ((sub_get hz).symm.trans b)
        subst e2 e3
        exact (hR.2 j _ _ (hgr j hj) (tieAt_get (hk j hj))).mono s1
/-! 0 web, 1 some, 2 others, 3 found, 4 tie, 5 one, 6 two -/
abbrev s_ties_between : Stmt := topS 28
abbrev N_ties_between : List Str := ["web", "some", "others", "found", "tie", "one", "two"]
theorem sc_ties_between : FnScope N_ties_between ["web", "some", "others"] (defScope s_ties_between) := ⟨rfl, rfl, rfl, by decide +kernel, rfl, by decide +kernel, by decide +kernel⟩
def sp_ties_between (K : PySem.W.Frag) (C : Addr) : Sp := fun vs H Q _ => ∃ (a l m : Addr) (n : Nat) (ts : List Tie) (A B : List Nat), vs = [.ref a, .ref l, .ref m] ∧ WebAt K C H a n ts ∧ SqL K H l (nvs A) ∧ SqL K H m (nvs B) ∧
  ∀ r H2, H r = none → Same H H2 → H2 r = some (.lst (nvs (btw ts A B))) → Q (.ref r) H2
theorem ok_ties_between (F : Df K mg "ties_between" ["web", "some", "others"] s_ties_between) (T : Bt mg) (Wc : WebC K C) : Gd P w K mg base 1 "ties_between" ["web", "some", "others"] (sp_ties_between K C) := by
  refine F.gd sc_ties_between (fun vs H Q E h => ?_) (fun f cdv A outer s H vs Q E hr h => ?_)
  · obtain ⟨a, l, m, n, ts, A, B, rfl, _⟩ := h
    rfl
  · obtain ⟨a, l, m, n, ts, A, B, rfl, hw, hA, hB, q⟩ := h
    refine ⟨_, (pss_cons (ps_set (i := 3) sc_ties_between.nd rfl (Or.inl rfl) (pe_lst pa_nil))
      (pss_cons (ps_for PassesOwn.never rfl (w_enumT K T.enumerate (pa_cons (w_fld K (pv 0)) pa_nil)) (w_pgTup K rfl (pgs_cons (pg_name (i := 4) sc_ties_between.nd rfl (Or.inl rfl)) (pgs_cons (w_pgTup K rfl (pgs_cons (pg_name (i := 5) sc_ties_between.nd rfl (Or.inl rfl)) (pgs_cons (pg_name (i := 6) sc_ties_between.nd rfl (Or.inl rfl)) pgs_nil))) pgs_nil)))
        (pss_one (ps_if (PW.pt (pw_or (PW.pt (pw_and (pt_cmpR (w_in K) (pv 5) (pv 1) (by rfl)) (pw_and1 (pt_cmpR (w_in K) (pv 6) (pv 2) (by rfl))))) (pw_or1 (PW.pt (pw_and (pt_cmpR (w_in K) (pv 5) (pv 2) (by rfl)) (pw_and1 (pt_cmpR (w_in K) (pv 6) (pv 1) (by rfl))))))))
          (pss_one (ps_expr (w_bm K PySem.F.plainAttrs_list PySem.F.slot_list_append PySem.F.type_list_append mt_append (pv 3) (pa_cons (pv 4) pa_nil))))
          pss_nil)))
      (pss_one (ps_ret (pv 3))))), ?_⟩
    refine q_nw (nw_lst pa0 (by decide)) fun fo H1 f1 s1 e1 => ?_
    refine q_forE Wc hw s1 (pu_var rfl) (fun i σ' H' => ∃ v4 v5 v6, σ' = [some (.ref a), some (.ref l), some (.ref m), some (.ref fo), v4, v5, v6] ∧ Same H H' ∧ H' fo = some (.lst (nvs ((List.range i).filter fun k => joins (tieAt ts k) A B))))
      ⟨none, none, none, rfl, s1, e1⟩ (fun i σ' H' _ ⟨_, _, _, _, s, _⟩ => s) ?_ ?_
    · rintro i e σ' H' H2 he ⟨v4, v5, v6, rfl, s2, e2⟩ s3
      have s4 := s2.trans s3
      have e3 := s3 _ _ e2
      have ea := tieAt_of he
      refine s_when (b := joins e A B) (pt_orP (pt_andP (pt_test (pu_inL (s4.seq hA) (pu_var rfl) (pu_var rfl))) fun _ => pt_test (pu_inL (s4.seq hB) (pu_var rfl) (pu_var rfl))) fun _ => pt_andP (pt_test (pu_inL (s4.seq hB) (pu_var rfl) (pu_var rfl))) fun _ => pt_test (pu_inL (s4.seq hA) (pu_var rfl) (pu_var rfl))) (fun hb => ?_) (fun hb => ?_)
      · refine s_app (pu_var rfl) e3 (pu_var rfl) ?_ ?_
        · rw [nvs_len]
          have h1 := List.length_filter_le (fun k => joins (tieAt ts k) A B) (List.range i)
          rw [List.length_range] at h1
          have := (List.getElem?_eq_some_iff.mp he).1
          have := hw.ok.len
          omega
        · refine ⟨_, _, _, rfl, Same.mut s4 f1, ?_⟩
          rw [upd_same, List.range_succ, List.filter_append, nvs_app]
          have e5 : List.filter (fun k => joins (tieAt ts k) A B) [i] = [i] := by simp [ea, hb]
          rw [e5]
          rfl
      · refine ⟨_, _, _, rfl, s4, ?_⟩
        rw [List.range_succ, List.filter_append]
        have e5 : List.filter (fun k => joins (tieAt ts k) A B) [i] = [] := by simp [ea, hb]
        rw [e5, List.append_nil]
        exact e3
    · rintro σ' H' ⟨v4, v5, v6, rfl, s2, e2⟩
      exact s_ret (pu_var rfl) (q fo H' f1 s2 e2)
/-! 0 web, 1 some, 2 found, 3 tie -/
abbrev s_ends_of : Stmt := topS 29
abbrev N_ends_of : List Str := ["web", "some", "found", "tie"]
theorem sc_ends_of : FnScope N_ends_of ["web", "some"] (defScope s_ends_of) := ⟨rfl, rfl, rfl, by decide +kernel, rfl, by decide +kernel, by decide +kernel⟩
def sp_ends_of (K : PySem.W.Frag) (C : Addr) : Sp := fun vs H Q _ => ∃ (a l : Addr) (n : Nat) (ts : List Tie) (is : List Nat), vs = [.ref a, .ref l] ∧ WebAt K C H a n ts ∧ SqL K H l (nvs is) ∧ (∀ k ∈ is, k < ts.length) ∧ is.length ≤ 1000 ∧
  ∀ r H2, H r = none → Same H H2 → H2 r = some (.lst (nvs (endsL ts is))) → Q (.ref r) H2
theorem take_next {α : Type} {l : List α} {i : Nat} {x : α} (h : l[i]? = some x) : l.take (i + 1) = l.take i ++ [x] := by
  rw [List.take_add_one, h]
  rfl
theorem ok_ends_of (F : Df K mg "ends_of" ["web", "some"] s_ends_of) (T : Bt mg) (Wc : WebC K C) : Gd P w K mg base 1 "ends_of" ["web", "some"] (sp_ends_of K C) := by
  refine F.gd sc_ends_of (fun vs H Q E h => ?_) (fun f cdv A outer s H vs Q E hr h => ?_)
  · obtain ⟨a, l, n, ts, is, rfl, _⟩ := h
    rfl
  · obtain ⟨a, l, n, ts, is, rfl, hw, hl, hk, hlen, q⟩ := h
    refine ⟨_, (pss_cons (ps_set (i := 2) sc_ends_of.nd rfl (Or.inl rfl) (pe_lst pa_nil))
      (pss_cons (ps_for PassesOwn.never rfl (w_piL K (pv 1)) (pg_name (i := 3) sc_ends_of.nd rfl (Or.inl rfl))
        (pss_one (ps_expr (w_bm K PySem.F.plainAttrs_list PySem.F.slot_list_extend PySem.F.type_list_extend (w_extT K) (pv 2) (pa_cons (pe_ix (w_ixT K) (w_fld K (pv 0)) (pv 3) (fun _ _ => rfl)) pa_nil)))))
      (pss_one (ps_ret (pv 2))))), ?_⟩
    refine q_nw (nw_lst pa0 (by decide)) fun fo H1 f1 s1 e1 => ?_
    refine q_forL (pu_var rfl) (s1.seq hl) (fun i σ' H' => ∃ v3, σ' = [some (.ref a), some (.ref l), some (.ref fo), v3] ∧ Same H H' ∧ H' fo = some (.lst (nvs (endsL ts (is.take i)))))
      ⟨none, rfl, s1, e1⟩ (fun i σ' H' _ ⟨_, _, s, _⟩ => s.seq hl) ?_ ?_
    · rintro i x σ' H' hx ⟨v3, rfl, s2, e2⟩
      obtain ⟨k, hki, rfl⟩ := nvs_of hx
      have hkl := hk k (List.mem_of_getElem? hki)
      obtain ⟨r, hpr, hp⟩ := pu_tie (tb := tVar 3) (σ := [some (.ref a), some (.ref l), some (.ref fo), some (.int (k : Int))]) (ta := tVar 0) Wc (hw.mono s2) (pu_var rfl) (pu_var rfl) (tieAt_get hkl)
      refine s_extT (pu_var rfl) e2 hp hpr.sq ?_ ?_
      · rw [nvs_len, endsL_len, List.length_take]
        have := (List.getElem?_eq_some_iff.mp hki).1
        show 2 * min i is.length + 2 ≤ 100000
        omega
      · refine ⟨_, rfl, Same.mut s2 f1, ?_⟩
        rw [upd_same, take_next hki, endsL_snoc, nvs_app]
        rfl
    · rintro σ' H' ⟨v3, rfl, s2, e2⟩
      rw [nvs_len, List.take_length] at e2
      exact s_ret (pu_var rfl) (q fo H' f1 s2 e2)
/-! 0 numbers, 1 many, 2 last, 3 number -/
abbrev s_rising : Stmt := topS 30
abbrev N_rising : List Str := ["numbers", "many", "last", "number"]
theorem sc_rising : FnScope N_rising ["numbers", "many"] (defScope s_rising) := ⟨rfl, rfl, rfl, by decide +kernel, rfl, by decide +kernel, by decide +kernel⟩
def sp_rising (K : PySem.W.Frag) : Sp := fun vs H Q _ => ∃ (l : Addr) (m : Nat) (ns : List Nat), vs = [.ref l, .int (m : Int)] ∧ SqL K H l (nvs ns) ∧ ns.Pairwise (· < ·) ∧ (∀ k ∈ ns, k < m) ∧ Q (.bl true) H
theorem ok_rising (F : Df K mg "rising" ["numbers", "many"] s_rising) (T : Bt mg) : Gd P w K mg base 1 "rising" ["numbers", "many"] (sp_rising K) := by
  refine F.gd sc_rising (fun vs H Q E h => ?_) (fun f cdv A outer s H vs Q E hr h => ?_)
  · obtain ⟨l, m, ns, rfl, _⟩ := h
    rfl
  · obtain ⟨l, m, ns, rfl, hl, hs, hm, q⟩ := h
    refine ⟨_, (pss_cons (ps_set (i := 2) sc_rising.nd rfl (Or.inl rfl) (pe_un un_neg pe_int))
      (pss_cons (ps_for PassesOwn.never rfl (w_piL K (pv 0)) (pg_name (i := 3) sc_rising.nd rfl (Or.inl rfl))
        (pss_cons (ps_if (PW.pt (pw_or (pt_cmpR op_le (pv 3) (pv 2) (nomark _)) (pw_or1 (pt_cmpR op_ge (pv 3) (pv 1) (nomark _)))))
          (pss_one (ps_ret pe_bl))
          pss_nil)
        (pss_one (ps_set (i := 2) sc_rising.nd rfl (Or.inl rfl) (pv 3)))))
      (pss_one (ps_ret pe_bl)))), ?_⟩
    refine q_pu (pu_neg (i := 1) pu_c) ?_
    refine q_forL (pu_var rfl) hl (fun i σ' H' => ∃ (z : Int) (v3 : Option V), σ' = [some (.ref l), some (.int (m : Int)), some (.int z), v3] ∧ H' = H ∧ ∀ (j : Nat), j ∈ ns.drop i → z < (j : Int))
      ⟨-1, none, rfl, rfl, fun j _ => by omega⟩ (fun i σ' H' _ ⟨_, _, _, e, _⟩ => by rw [e]; exact hl) ?_ ?_
    · rintro i x σ' H' hx ⟨z, v3, rfl, rfl, hz⟩
      obtain ⟨k, hki, rfl⟩ := nvs_of hx
      have hkm := hm k (List.mem_of_getElem? hki)
      have hd : ns.drop i = k :: ns.drop (i + 1) := by
        obtain ⟨hlt, e⟩ := List.getElem?_eq_some_iff.mp hki
        rw [List.drop_eq_getElem_cons hlt, e]
      have hzk := hz k (by rw [hd]; exact List.mem_cons_self)
      refine q_when (b := false) ((pt_orP (pt_test (pu_I0 (pu_var rfl) (pu_var rfl))) fun _ => pt_test (pu_I0 (pu_var rfl) (pu_var rfl))).is ?_) (fun h => by cases h) (fun _ => ?_)
      · rw [decide_eq_false (show ¬ (k : Int) ≤ z by omega), decide_eq_false (show ¬ (m : Int) ≤ (k : Int) by omega)]
        rfl
      · refine s_pu (pu_var rfl) ⟨k, _, rfl, rfl, fun j hj => ?_⟩
        have h1 : (ns.drop i).Pairwise (· < ·) := hs.sublist (List.drop_sublist i ns)
        rw [hd] at h1
        have := (List.pairwise_cons.mp h1).1 j hj
        omega
    · rintro σ' H' ⟨z, v3, rfl, rfl, _⟩
      exact s_ret pu_c q
end
end Bz

set_option Elab.async false
set_option linter.all false
set_option maxRecDepth 100000
set_option maxHeartbeats 4000000
namespace Bz
open PySem PySem.Spec L2
section
variable {P : Program} {w : World} {K : PySem.W.Frag} {mg : Str → Option Value} {base : Heap} {C : Addr}
/-! 0 web, 1 names, 2 found, 3 number, 4 one*, 5 two*, 6 name -/
abbrev s_forest : Stmt := topS 20
abbrev N_forest : List Str := ["web", "names", "found", "number", "one", "two", "name"]
theorem sc_forest : FnScope N_forest ["web"] (defScope s_forest) := ⟨rfl, rfl, rfl, by decide +kernel, rfl, by decide +kernel, by decide +kernel⟩
def sp_forest (K : PySem.W.Frag) (C : Addr) : Sp := fun vs H Q _ => ∃ (a : Addr) (n : Nat) (ts : List Tie), vs = [.ref a] ∧ WebAt K C H a n ts ∧ ∀ F r H2, Forest ts F → H r = none → Same H H2 → H2 r = some (.lst (nvs F)) → Q (.ref r) H2
theorem getD_get {N : List Nat} {x : Nat} (h : x < N.length) : N[x]? = some (N.getD x 0) := by
  rw [List.getD_eq_getElem?_getD, List.getElem?_eq_getElem h]
  rfl
theorem ok_forest (F : Df K mg "forest" ["web"] s_forest) (T : Bt mg) (Wc : WebC K C) : Gd P w K mg base 1 "forest" ["web"] (sp_forest K C) := by
  refine F.gd sc_forest (fun vs H Q E h => ?_) (fun f cdv A outer s H vs Q E hr h => ?_)
  · obtain ⟨a, n, ts, rfl, _⟩ := h
    rfl
  · obtain ⟨a, n, ts, rfl, hw, q⟩ := h
    refine ⟨_, (pss_cons (ps_set (i := 1) sc_forest.nd rfl (Or.inl rfl) (pe_listRg rfl rfl T.list (prg_1 rfl T.range (w_fld K (pv 0)))))
      (pss_cons (ps_set (i := 2) sc_forest.nd rfl (Or.inl rfl) (pe_lst pa_nil))
      (pss_cons (ps_for PassesOwn.never rfl (pi_range1 rfl T.range (pa_cons (pe_callB (w_len K) (by rfl) T.len PySem.boot_len (pa_cons (w_fld K (pv 0)) pa_nil)) pa_nil)) (pg_name (i := 3) sc_forest.nd rfl (Or.inl rfl))
        (pss_cons (ps_set (i := 4) sc_forest.nd rfl (Or.inr rfl) (pe_ix (w_ixL K) (pv 1) (pe_ix (w_ixT K) (pe_ix (w_ixT K) (w_fld K (pv 0)) (pv 3) (fun _ _ => rfl)) pe_int (fun _ _ => rfl)) (fun _ _ => rfl)))
        (pss_cons (ps_set (i := 5) sc_forest.nd rfl (Or.inr rfl) (pe_ix (w_ixL K) (pv 1) (pe_ix (w_ixT K) (pe_ix (w_ixT K) (w_fld K (pv 0)) (pv 3) (fun _ _ => rfl)) pe_int (fun _ _ => rfl)) (fun _ _ => rfl)))
        (pss_one (ps_if (pt_cmpR op_ne (pv 4) (pv 5) (nomark _))
          (pss_cons (ps_expr (w_bm K PySem.F.plainAttrs_list PySem.F.slot_list_append PySem.F.type_list_append mt_append (pv 2) (pa_cons (pv 3) pa_nil)))
          (pss_one (ps_setLc (i := 1) (own := [("name", 6)]) (g := gName 6)  rfl sc_forest.nd rfl rfl (sw_true rfl rfl rfl (by decide +kernel)) (w_piL K (pv 1)) (blkOk_by (own := [("name", 6)]) (N := N_forest) (sc := defScope s_forest) (by decide +kernel)) (fun _ _ _ _ _ => (pg_name (i := 6) sc_forest.nd rfl (Or.inl rfl))) (fun _ _ _ _ _ => pts_nil) (fun _ _ _ _ _ => (pe_ifExp (pt_cmpR op_eq (pv 6) (pv 5) (nomark _)) (pv 4) (pv 6))))))
          pss_nil)))))
      (pss_one (ps_ret (pv 2)))))), ?_⟩
    have hV := hw.ok
    have h20 := hV.most
    have h40 := hV.len
    refine q_nw (nw_rg (pu_many Wc hw (pu_var rfl)) (by omega)) fun no H1 f1 s1 e1 => ?_
    refine q_nw (nw_lst pa0 (by decide)) fun fo H2 f2 s2 e2 => ?_
    have e1' := s2 _ _ e1
    have nfn : no ≠ fo := ne_of_none e1 f2
    refine q_forR (n := ts.length) (pa1 (pu_lenT Wc (hw.mono (s1.trans s2)) (pu_var rfl)) pa0) (by omega)
      (fun i σ' H' => ∃ (no : Addr) (N F : List Nat) (v3 v4 v5 : Option V), σ' = [some (.ref a), some (.ref no), some (.ref fo), v3, v4, v5, none] ∧ Same H H' ∧ H' fo = some (.lst (nvs F)) ∧ H' no = some (.lst (nvs N)) ∧ no ≠ fo ∧ FIn ts n i N F)
      ⟨no, _, [], none, none, none, rfl, s1.trans s2, e2, e1', nfn, FIn.start ts n⟩ ?_ ?_
    · rintro i σ' H' hi ⟨no, N, F, v3, v4, v5, rfl, s3, e3, e4, nn, R⟩
      have hw3 := hw.mono s3
      have hv := hV.ends _ (tieAt_mem hi)
      have g1 := getD_get (N := N) (x := (tieAt ts i).1) (by rw [R.len]; exact hv.1)
      have g2 := getD_get (N := N) (x := (tieAt ts i).2) (by rw [R.len]; exact hv.2)
      refine q_pu (pu_ixN (SqL.of e4) (pu_var rfl) (pu_tie0 Wc hw3 (pu_var rfl) (pu_var rfl) (tieAt_get hi)) g1) ?_
      refine q_pu (pu_ixN (SqL.of e4) (pu_var rfl) (pu_tie1 Wc hw3 (pu_var rfl) (pu_var rfl) (tieAt_get hi)) g2) ?_
      refine s_when (pt_test (pu_neN (pu_var rfl) (pu_var rfl))) (fun hb => ?_) (fun hb => ?_)
      · have hne : N.getD (tieAt ts i).1 0 ≠ N.getD (tieAt ts i).2 0 := by simpa using hb
        have hFl : F.length ≤ i := nodup_len i F (R.rise.imp fun h => Nat.ne_of_lt h) R.lt
        refine q_app (pu_var rfl) e3 (pu_var rfl) (by rw [nvs_len]; omega) ?_
        have e4' : upd H' fo (.lst (nvs F ++ [.int (i : Int)])) no = some (.lst (nvs N)) := by rw [upd_ne nn]; exact e4
        refine s_nw ((nw_lcL (K := K) (fun _ => true) (fun v => match v with | .int z => if z = ((N.getD (tieAt ts i).2 0 : Nat) : Int) then .int ((N.getD (tieAt ts i).1 0 : Nat) : Int) else .int z | v => v) (Pu.ls (pu_var rfl) e4') (by rw [nvs_len, R.len]; omega) (fun _ => rfl) (fun x hx => pt_yes.gt) (fun x hx _ => ?_)).is
          (ys := nvs (N.map fun z => if z = N.getD (tieAt ts i).2 0 then N.getD (tieAt ts i).1 0 else z)) ?_) fun no2 H3 f3 s4 e5 => ?_
        · obtain ⟨k, hk, rfl⟩ := List.mem_map.mp hx
          refine (pu_if (pt_test (pu_eqI (pu_var rfl) (pu_var rfl))) (fun h => ?_) (fun h => ?_)).gv
          · exact (pu_var rfl).is (if_pos (of_decide_eq_true h)).symm
          · exact (pu_var rfl).is (if_neg (of_decide_eq_false h)).symm
        · rw [filter_all _ _ fun _ _ => rfl]
          show (N.map fun n : Nat => V.int (n : Int)).map _ = (N.map _).map fun n : Nat => V.int (n : Int)
          rw [List.map_map, List.map_map]
          refine List.map_congr_left fun k _ => ?_
          show (if ((k : Nat) : Int) = _ then _ else _) = V.int ((if k = _ then _ else k : Nat) : Int)
          by_cases z : k = N.getD (tieAt ts i).2 0
          · rw [if_pos z, if_pos (by rw [z])]
          · rw [if_neg z, if_neg (by omega)]
        · refine ⟨no2, _, F ++ [i], _, _, _, rfl, (Same.mut s3 (s1.free f2)).trans s4, ?_, e5, ?_, R.join hi hv hne⟩
          · refine s4 _ _ ?_
            rw [upd_same, nvs_app]
            rfl
          · exact (ne_of_none (by rw [upd_same]) f3).symm
      · have he : N.getD (tieAt ts i).1 0 = N.getD (tieAt ts i).2 0 := by simpa using hb
        exact ⟨no, N, F, _, _, _, rfl, s3, e3, e4, nn, R.stay hi hv he⟩
    · rintro σ' H' ⟨no, N, F, v3, v4, v5, rfl, s3, e3, e4, nn, R⟩
      exact s_ret (pu_var rfl) (q F fo H' R.forest (s1.free f2) s3 e3)
/-! 0 web, 1 held*, 2 number -/
abbrev s_free_ties : Stmt := topS 21
abbrev N_free_ties : List Str := ["web", "held", "number"]
theorem sc_free_ties : FnScope N_free_ties ["web"] (defScope s_free_ties) := ⟨rfl, rfl, rfl, by decide +kernel, rfl, by decide +kernel, by decide +kernel⟩
def sp_free_ties (K : PySem.W.Frag) (C : Addr) : Sp := fun vs H Q _ => ∃ (a : Addr) (n : Nat) (ts : List Tie), vs = [.ref a] ∧ WebAt K C H a n ts ∧ ∀ F r H2, Forest ts F → H r = none → Same H H2 → H2 r = some (.lst (nvs (free ts F))) → Q (.ref r) H2
theorem ok_free_ties {k : Nat} (F : Df K mg "free_ties" ["web"] s_free_ties) (T : Bt mg) (Wc : WebC K C) (G_forest : Gd P w K mg base k "forest" ["web"] (sp_forest K C)) : Gd P w K mg base (k + 1) "free_ties" ["web"] (sp_free_ties K C) := by
  refine F.gd sc_free_ties (fun vs H Q E h => ?_) (fun f cdv A outer s H vs Q E hr h => ?_)
  · obtain ⟨a, n, ts, rfl, _⟩ := h
    rfl
  · obtain ⟨a, n, ts, rfl, hw, q⟩ := h
    have hr_forest := hr
    refine ⟨_, (pss_cons (ps_set (i := 1) sc_free_ties.nd rfl (Or.inr rfl) (pe_gd G_forest hr_forest (by rfl) (pa_cons (pv 0) pa_nil)))
      (pss_one (ps_ret (pe_lc (own := [("number", 2)]) (g := gName 2) (by rfl) sc_free_ties.nd (pi_range1 rfl T.range (pa_cons (pe_callB (w_len K) (by rfl) T.len PySem.boot_len (pa_cons (w_fld K (pv 0)) pa_nil)) pa_nil)) (blkOk_by (own := [("number", 2)]) (N := N_free_ties) (sc := defScope s_free_ties) (by decide +kernel)) (fun _ _ _ _ _ => (pg_name (i := 2) sc_free_ties.nd rfl (Or.inl rfl))) (fun _ _ _ _ _ => pts_one (pt_cmpR (w_nin K) (pv 2) (pv 1) (by rfl))) (fun _ _ _ _ _ => (pv 2)))))), ?_⟩
    have h40 := hw.ok.len
    refine q_gd (pa1 (pu_var rfl) pa0) ⟨a, n, ts, rfl, hw, fun F fo H1 hF f1 s1 e1 => ?_⟩
    refine s_retN ((nw_lcR (n := ts.length) (fun k => !decide (k ∈ F)) (fun k => .int (k : Int)) (pa1 (pu_lenT Wc (hw.mono s1) (pu_var rfl)) pa0) (by omega) (fun _ => rfl) (fun i hi => (pt_test (pu_ninL (SqL.of e1) (pu_var rfl) (pu_var rfl))).gt) (fun i hi _ => (pu_var rfl).gv))) fun r H2 f2 s2 e2 => ?_
    exact q F r H2 hF (s1.free f2) (s1.trans s2) e2
end
end Bz

set_option Elab.async false
set_option linter.all false
set_option maxHeartbeats 4000000
namespace Bz
/-! ### what places gain -/
def ind (p : Prop) [Decidable p] (a : Int) : Int := if p then a else 0
def gain : List Tie → List Int → Nat → Int
  | e :: ts, a :: as, x => ind (e.2 = x) a - ind (e.1 = x) a + gain ts as x
  | _, _, _ => 0
theorem ind_zero (p : Prop) [Decidable p] : ind p 0 = 0 := by
  unfold ind
  split <;> rfl
theorem ind_add (p : Prop) [Decidable p] (a b : Int) : ind p (a + b) = ind p a + ind p b := by
  unfold ind
  split
  · rfl
  · omega
theorem ind_neg (p : Prop) [Decidable p] (a : Int) : ind p (-a) = - ind p a := by
  unfold ind
  split
  · rfl
  · omega
theorem ind_mul (p : Prop) [Decidable p] (c a : Int) : ind p (c * a) = c * ind p a := by
  unfold ind
  split
  · rfl
  · omega
theorem gain_zero : ∀ (ts : List Tie) (as : List Int) (x : Nat), (∀ a ∈ as, a = 0) → gain ts as x = 0
  | [], _, _, _ => by simp [gain]
  | _ :: _, [], _, _ => by simp [gain]
  | e :: ts, a :: as, x, h => by
    have h1 : a = 0 := h a List.mem_cons_self
    subst h1
    show ind _ 0 - ind _ 0 + gain ts as x = 0
    rw [ind_zero, ind_zero, gain_zero ts as x fun b hb => h b (List.mem_cons_of_mem _ hb)]
    rfl
theorem gain_rep (ts : List Tie) (m : Nat) (x : Nat) : gain ts (List.replicate m 0) x = 0 := gain_zero ts _ x fun a ha => (List.mem_replicate.mp ha).2
theorem gain_set : ∀ (ts : List Tie) (as : List Int) (k : Nat) (c a : Int) (x : Nat), as[k]? = some c → k < ts.length → gain ts (as.set k a) x = gain ts as x + ind ((tieAt ts k).2 = x) (a - c) - ind ((tieAt ts k).1 = x) (a - c)
  | [], as, k, c, a, x, h, hk => absurd hk (Nat.not_lt_zero _)
  | e :: ts, [], k, c, a, x, h, hk => by simp at h
  | e :: ts, b :: as, 0, c, a, x, h, hk => by
    have h1 : b = c := Option.some.inj h
    subst h1
    show ind (e.2 = x) a - ind (e.1 = x) a + gain ts as x = ind (e.2 = x) b - ind (e.1 = x) b + gain ts as x + ind (e.2 = x) (a - b) - ind (e.1 = x) (a - b)
    rw [show a - b = a + -b from Int.sub_eq_add_neg, ind_add, ind_add, ind_neg, ind_neg]
    omega
  | e :: ts, b :: as, k + 1, c, a, x, h, hk => by
    have ih := gain_set ts as k c a x h (by simpa using hk)
    show ind (e.2 = x) b - ind (e.1 = x) b + gain ts (as.set k a) x = _ + ind ((tieAt ts k).2 = x) (a - c) - ind ((tieAt ts k).1 = x) (a - c)
    rw [ih]
    show _ = ind (e.2 = x) b - ind (e.1 = x) b + gain ts as x + _ - _
    omega
/-! ### ways -/
/-- the ties ks lead from x to y -/
def IsWay (ts : List Tie) : Nat → Nat → List Nat → Prop
  | x, y, [] => x = y
  | x, y, k :: r => k < ts.length ∧ ((tieAt ts k).1 = x ∨ (tieAt ts k).2 = x) ∧ IsWay ts (oth (tieAt ts k) x) y r
/-- a search: the root, each place found with the place and the tie by which it was found -/
abbrev Ent := Nat × Nat × Nat
def places (one : Nat) (L : List Ent) : List Nat := one :: L.map (·.1)
theorem places_snoc (one : Nat) (L : List Ent) (l : Ent) : places one (L ++ [l]) = places one L ++ [l.1] := by
  unfold places
  rw [List.map_append]
  rfl
theorem places_len (one : Nat) (L : List Ent) : (places one L).length = L.length + 1 := by
  unfold places
  rw [List.length_cons, List.length_map]
structure SIn (ts : List Tie) (is : List Nat) (n one : Nat) (L : List Ent) (W : List Nat) : Prop where
  nd : (places one L).Nodup
  lt : ∀ y ∈ places one L, y < n
  ent : ∀ (i : Nat) (l : Ent), L[i]? = some l → l.2.2 ∈ is ∧ ((tieAt ts l.2.2).1 = l.2.1 ∨ (tieAt ts l.2.2).2 = l.2.1) ∧ oth (tieAt ts l.2.2) l.2.1 = l.1 ∧ l.2.1 ∈ (places one L).take (i + 1)
  wt : ∀ y ∈ W, y ∈ places one L
  sh : ∀ x ∈ places one L, x ∉ W → ∀ k ∈ is, Shut (places one L) (tieAt ts k) x
theorem SIn.start {ts : List Tie} {is : List Nat} {n one : Nat} (h : one < n) : SIn ts is n one [] [one] :=
  ⟨List.pairwise_singleton _ _, fun y hy => by rw [List.mem_singleton.mp hy]; exact h, fun i l hl => by simp at hl, fun y hy => hy, fun x hx hn => absurd hx hn⟩
/-- here is taken from those that wait; its ties are looked at one by one -/
structure SMid (ts : List Tie) (is : List Nat) (n one x i : Nat) (L : List Ent) (W : List Nat) : Prop where
  nd : (places one L).Nodup
  lt : ∀ y ∈ places one L, y < n
  ent : ∀ (i : Nat) (l : Ent), L[i]? = some l → l.2.2 ∈ is ∧ ((tieAt ts l.2.2).1 = l.2.1 ∨ (tieAt ts l.2.2).2 = l.2.1) ∧ oth (tieAt ts l.2.2) l.2.1 = l.1 ∧ l.2.1 ∈ (places one L).take (i + 1)
  wt : ∀ y ∈ W, y ∈ places one L
  sh : ∀ y ∈ places one L, y ≠ x → y ∉ W → ∀ k ∈ is, Shut (places one L) (tieAt ts k) y
  st : x ∈ places one L
  now : ∀ k ∈ is.take i, Shut (places one L) (tieAt ts k) x
theorem SIn.mid {ts : List Tie} {is : List Nat} {n one x : Nat} {L : List Ent} {W : List Nat} (R : SIn ts is n one L (x :: W)) : SMid ts is n one x 0 L W :=
  ⟨R.nd, R.lt, R.ent, fun y hy => R.wt y (List.mem_cons_of_mem _ hy), fun y hy hn hw => R.sh y hy fun z => by
    rcases List.mem_cons.mp z with z | z
    · exact hn z
    · exact hw z, R.wt x List.mem_cons_self, fun k hk => by simp at hk⟩
theorem SMid.fin {ts : List Tie} {is : List Nat} {n one x : Nat} {L : List Ent} {W : List Nat} (R : SMid ts is n one x is.length L W) : SIn ts is n one L W :=
  ⟨R.nd, R.lt, R.ent, R.wt, fun y hy hw k hk => by
    by_cases h : y = x
    · subst h
      exact R.now k (by rw [List.take_length]; exact hk)
    · exact R.sh y hy h hw k hk⟩
theorem SMid.old {ts : List Tie} {is : List Nat} {n one x i k : Nat} {L : List Ent} {W : List Nat} (R : SMid ts is n one x i L W) (hk : is[i]? = some k) (h : Shut (places one L) (tieAt ts k) x) : SMid ts is n one x (i + 1) L W :=
  ⟨R.nd, R.lt, R.ent, R.wt, R.sh, R.st, fun j hj => by
    rw [List.take_add_one, hk] at hj
    rcases List.mem_append.mp hj with q | q
    · exact R.now j q
    · have : j = k := by simpa using q
      subst this
      exact h⟩
theorem SMid.new {ts : List Tie} {is : List Nat} {n one x i k : Nat} {L : List Ent} {W : List Nat} (R : SMid ts is n one x i L W) (hk : is[i]? = some k) (hv : (tieAt ts k).1 < n ∧ (tieAt ts k).2 < n) (hx : (tieAt ts k).1 = x ∨ (tieAt ts k).2 = x) (hn : oth (tieAt ts k) x ∉ places one L) :
    SMid ts is n one x (i + 1) (L ++ [(oth (tieAt ts k) x, x, k)]) (W ++ [oth (tieAt ts k) x]) := by
  have hp := places_snoc one L (oth (tieAt ts k) x, x, k)
  have hs : ∀ y ∈ places one L, y ∈ places one (L ++ [(oth (tieAt ts k) x, x, k)]) := fun y hy => by rw [hp]; exact List.mem_append_left _ hy
  have hnew : oth (tieAt ts k) x ∈ places one (L ++ [(oth (tieAt ts k) x, x, k)]) := by rw [hp]; exact List.mem_append_right _ (List.mem_singleton.mpr rfl)
  have hxm : x ∈ places one L := R.st
  refine ⟨?_, fun y hy => ?_, fun j l hl => ?_, fun y hy => ?_, fun y hy h1 h2 g hg => ?_, hs _ R.st, fun j hj => ?_⟩
  · rw [hp]
    exact nodup_snoc R.nd hn
  · rw [hp] at hy
    rcases List.mem_append.mp hy with q | q
    · exact R.lt y q
    · rw [List.mem_singleton.mp q]; exact oth_lt hv
  · by_cases hj : j < L.length
    · rw [List.getElem?_append_left hj] at hl
      obtain ⟨a, b, c, d⟩ := R.ent j l hl
      refine ⟨a, b, c, ?_⟩
      rw [hp, List.take_append_of_le_length (by rw [places_len]; omega)]
      exact d
    · rw [List.getElem?_append_right (Nat.le_of_not_lt hj)] at hl
      have h0 : j - L.length = 0 := by
        have := (List.getElem?_eq_some_iff.mp hl).1
        simp at this
        omega
      rw [h0] at hl
      have el : (oth (tieAt ts k) x, x, k) = l := Option.some.inj hl
      subst el
      refine ⟨List.mem_of_getElem? hk, hx, rfl, ?_⟩
      rw [hp, List.take_append_of_le_length (by rw [places_len]; omega), List.take_of_length_le (by rw [places_len]; omega)]
      exact R.st
  · rcases List.mem_append.mp hy with q | q
    · exact hs y (R.wt y q)
    · rw [List.mem_singleton.mp q]; exact hnew
  · rw [hp] at hy
    rcases List.mem_append.mp hy with q | q
    · exact (R.sh y q h1 (fun z => h2 (List.mem_append_left _ z)) g hg).mono hs
    · exact absurd (List.mem_append_right _ q) h2
  · rw [List.take_add_one, hk] at hj
    rcases List.mem_append.mp hj with q | q
    · exact (R.now j q).mono hs
    · have : j = k := by simpa using q
      subst this
      exact Shut.of (hs x R.st) fun _ => hnew
theorem SIn.all {ts : List Tie} {is : List Nat} {n one y : Nat} {L : List Ent} (R : SIn ts is n one L []) (h : Rch (sub ts is) one y) : y ∈ places one L :=
  h (fun z => z ∈ places one L) (fun e he => by
    obtain ⟨k, hk, rfl⟩ := mem_sub.mp he
    exact ⟨fun q => (R.sh _ q List.not_mem_nil k hk).1 rfl, fun q => (R.sh _ q List.not_mem_nil k hk).2 rfl⟩) List.mem_cons_self
/-- the way back: from the place at q, by ties that have an end behind q -/
structure Back (ts : List Tie) (is : List Nat) (one two : Nat) (L : List Ent) (q : Nat) (R : List Nat) : Prop where
  way : ∀ p, (places one L)[q]? = some p → IsWay ts p two R.reverse
  nd : R.Nodup
  mem : ∀ k ∈ R, k ∈ is
  far : ∀ k ∈ R, ∃ y, ((tieAt ts k).1 = y ∨ (tieAt ts k).2 = y) ∧ y ∉ (places one L).take (q + 1)
theorem Back.start {ts : List Tie} {is : List Nat} {one two : Nat} {L : List Ent} {q : Nat} (h : (places one L)[q]? = some two) : Back ts is one two L q [] :=
  ⟨fun p hp => by rw [h] at hp; exact (Option.some.inj hp).symm, List.Pairwise.nil, fun k hk => absurd hk List.not_mem_nil, fun k hk => absurd hk List.not_mem_nil⟩
theorem pos_of {α : Type} [DecidableEq α] {l : List α} {x : α} {m : Nat} (h : x ∈ l.take m) : ∃ q, q < m ∧ l[q]? = some x := by
  obtain ⟨q, hq⟩ := List.mem_iff_getElem?.mp h
  rw [List.getElem?_take] at hq
  by_cases c : q < m
  · rw [if_pos c] at hq
    exact ⟨q, c, hq⟩
  · rw [if_neg c] at hq
    cases hq
theorem nd_take {l : List Nat} (h : l.Nodup) {q m : Nat} {x : Nat} (hq : l[q]? = some x) (hm : m ≤ q) : x ∉ l.take m := fun hx => by
  obtain ⟨j, hj, e⟩ := pos_of hx
  obtain ⟨h1, e1⟩ := List.getElem?_eq_some_iff.mp hq
  obtain ⟨h2, e2⟩ := List.getElem?_eq_some_iff.mp e
  have := (List.getElem_inj (h₀ := h2) (h₁ := h1) h).mp (e2.trans e1.symm)
  omega
theorem oth_ends {e : Tie} {p x : Nat} (h : e.1 = p ∨ e.2 = p) (ho : oth e p = x) : ∀ y, (e.1 = y ∨ e.2 = y) → y = p ∨ y = x := by
  intro y hy
  unfold oth at ho
  split at ho
  · rename_i c
    rcases hy with q | q
    · left; omega
    · right; omega
  · rename_i c
    rcases h with h | h
    · exact absurd h c
    · rcases hy with q | q
      · right; omega
      · left; omega
theorem Back.step {ts : List Tie} {is W : List Nat} {n one two : Nat} {L : List Ent} {q : Nat} {R : List Nat} {l : Ent} (S : SIn ts is n one L W) (hm : ∀ k ∈ is, k < ts.length) (B : Back ts is one two L (q + 1) R) (hl : L[q]? = some l) :
    ∃ q', q' ≤ q ∧ (places one L)[q']? = some l.2.1 ∧ Back ts is one two L q' (R ++ [l.2.2]) := by
  obtain ⟨a, b, c, d⟩ := S.ent q l hl
  obtain ⟨q', hq', eq'⟩ := pos_of d
  have epl : (places one L)[q + 1]? = some l.1 := by
    show (L.map (·.1))[q]? = some l.1
    rw [List.getElem?_map, hl]
    rfl
  have hmem : l.1 ∈ (places one L).take (q + 1 + 1) := by
    rw [List.take_add_one, epl]
    exact List.mem_append_right _ (List.mem_singleton.mpr rfl)
  have hpar : l.2.1 ∈ (places one L).take (q + 1 + 1) := by
    rw [List.take_add_one]
    exact List.mem_append_left _ d
  have hno : l.2.2 ∉ R := fun hk => by
    obtain ⟨y, hy, hf⟩ := B.far _ hk
    rcases oth_ends b c y hy with z | z
    · exact hf (z ▸ hpar)
    · exact hf (z ▸ hmem)
  refine ⟨q', by omega, eq', fun p hp => ?_, nodup_snoc B.nd hno, fun k hk => ?_, fun k hk => ?_⟩
  · rw [eq'] at hp
    have ep : l.2.1 = p := Option.some.inj hp
    subst ep
    rw [List.reverse_append]
    refine ⟨hm _ a, b, ?_⟩
    rw [c]
    exact B.way _ epl
  · rcases List.mem_append.mp hk with z | z
    · exact B.mem k z
    · rw [List.mem_singleton.mp z]; exact a
  · rcases List.mem_append.mp hk with z | z
    · obtain ⟨y, hy, hf⟩ := B.far k z
      refine ⟨y, hy, fun w => hf ?_⟩
      obtain ⟨j, hj, ej⟩ := pos_of w
      exact List.mem_iff_getElem?.mpr ⟨j, by rw [List.getElem?_take, if_pos (by omega)]; exact ej⟩
    · rw [List.mem_singleton.mp z]
      refine ⟨l.1, ?_, nd_take S.nd epl (by omega)⟩
      unfold oth at c
      split at c
      · exact .inr c
      · exact .inl c
/-! ### a flow along a way -/
structure Along (ts : List Tie) (x y cur : Nat) (way : List Nat) (i : Nat) (fl : List Int) : Prop where
  len : fl.length = ts.length
  g : ∀ z, gain ts fl z = ind (z = cur) 1 - ind (z = x) 1
  zero : ∀ k, k < ts.length → k ∉ way.take i → fl[k]? = some 0
  rest : IsWay ts cur y (way.drop i)
theorem Along.start {ts : List Tie} {x y : Nat} {way : List Nat} (h : IsWay ts x y way) : Along ts x y x way 0 (List.replicate ts.length 0) :=
  ⟨List.length_replicate, fun z => by rw [gain_rep]; omega, fun k hk _ => by simp [hk], h⟩
theorem ind_symm (a b : Nat) (c : Int) : ind (a = b) c = ind (b = a) c := by
  unfold ind
  by_cases h : a = b
  · rw [if_pos h, if_pos h.symm]
  · rw [if_neg h, if_neg fun q => h q.symm]
theorem Along.step {ts : List Tie} {x y cur i k : Nat} {way : List Nat} {fl : List Int} (R : Along ts x y cur way i fl) (hn : way.Nodup) (hk : way[i]? = some k) :
    k < ts.length ∧ ((tieAt ts k).1 = cur ∨ (tieAt ts k).2 = cur) ∧ Along ts x y (oth (tieAt ts k) cur) way (i + 1) (fl.set k (if (tieAt ts k).1 = cur then 1 else -1)) := by
  obtain ⟨hlt, hkk⟩ := List.getElem?_eq_some_iff.mp hk
  have hd : way.drop i = k :: way.drop (i + 1) := by rw [List.drop_eq_getElem_cons hlt, hkk]
  have hr := R.rest
  rw [hd] at hr
  obtain ⟨h1, h2, h3⟩ := hr
  have hno : k ∉ way.take i := nd_take hn hk (Nat.le_refl _)
  have hz := R.zero k h1 hno
  refine ⟨h1, h2, by rw [List.length_set]; exact R.len, fun z => ?_, fun j hj hjn => ?_, h3⟩
  · rw [gain_set ts fl k 0 _ z hz h1, R.g z]
    unfold oth
    by_cases c : (tieAt ts k).1 = cur
    · rw [if_pos c, if_pos c, c, ind_symm z cur, ind_symm (tieAt ts k).2 z]
      show _ + ind (z = (tieAt ts k).2) 1 - ind (cur = z) 1 = _
      omega
    · rw [if_neg c, if_neg c]
      have c2 : (tieAt ts k).2 = cur := h2.resolve_left c
      rw [c2, ind_symm z cur, ind_symm (tieAt ts k).1 z]
      show _ + ind (cur = z) (-1) - ind (z = (tieAt ts k).1) (-1) = _
      rw [ind_neg, ind_neg]
      omega
  · rw [List.take_add_one, hk] at hjn
    have hjk : j ≠ k := fun e => hjn (by rw [e]; exact List.mem_append_right _ (List.mem_singleton.mpr rfl))
    rw [List.getElem?_set_ne (Ne.symm hjk)]
    exact R.zero j hj fun z => hjn (List.mem_append_left _ z)
/-! ### the flow of a ring -/
structure Ring (ts : List Tie) (is : List Nat) (t : Nat) (fl : List Int) : Prop where
  len : fl.length = ts.length
  g : ∀ z, gain ts fl z = 0
  one : fl[t]? = some 1
  zero : ∀ k, k < ts.length → k ∉ is → k ≠ t → fl[k]? = some 0
theorem ring_of_along {ts : List Tie} {is way : List Nat} {t : Nat} {fl : List Int} (ht : t < ts.length) (hw : ∀ k ∈ way, k ∈ is ∧ k ≠ t) (R : Along ts (tieAt ts t).2 (tieAt ts t).1 (tieAt ts t).1 way way.length fl) : Ring ts is t (fl.set t 1) := by
  have h0 : fl[t]? = some 0 := R.zero t ht fun h => (hw t (List.mem_of_mem_take h)).2 rfl
  refine ⟨by rw [List.length_set]; exact R.len, fun z => ?_, ?_, fun k hk h1 h2 => ?_⟩
  · rw [gain_set ts fl t 0 1 z h0 ht, R.g z, ind_symm z, ind_symm z]
    show _ + ind _ 1 - ind _ 1 = 0
    omega
  · rw [List.getElem?_set_self (by rw [R.len]; exact ht)]
  · rw [List.getElem?_set_ne (Ne.symm h2)]
    exact R.zero k hk fun h => h1 (hw k (List.mem_of_mem_take h)).1
end Bz

set_option Elab.async false
set_option linter.all false
set_option maxRecDepth 100000
set_option maxHeartbeats 4000000
namespace Bz
open PySem PySem.Spec L2
/-! ### dicts whose keys are places -/
def dk (M : List (Nat × V)) : List (Key × V) := M.map fun p => (Sum.inl (p.1 : Int), p.2)
def look (M : List (Nat × V)) (k : Nat) : Option V := (M.find? fun p => decide (p.1 = k)).map (·.2)
theorem dk_val (M : List (Nat × V)) (k : Nat) : valV (dk M) (Sum.inl (k : Int)) = look M k := by
  induction M with
  | nil => rfl
  | cons p M ih =>
    by_cases h : p.1 = k
    · have e : look (p :: M) k = some p.2 := by simp [look, List.find?_cons, h]
      rw [e]
      exact valV_pos (p := (Sum.inl (p.1 : Int), p.2)) (by rw [h])
    · have e : look (p :: M) k = look M k := by simp [look, List.find?_cons, h]
      rw [e, ← ih]
      exact valV_neg (p := (Sum.inl (p.1 : Int), p.2)) (fun q => h (by have := Sum.inl.inj q; omega))
theorem look_mem {M : List (Nat × V)} {k : Nat} : (look M k).isSome = decide (k ∈ M.map (·.1)) := by
  induction M with
  | nil => rfl
  | cons p M ih =>
    by_cases h : p.1 = k
    · have e : look (p :: M) k = some p.2 := by simp [look, List.find?_cons, h]
      rw [e]
      simp [h]
    · have e : look (p :: M) k = look M k := by simp [look, List.find?_cons, h]
      rw [e, ih]
      have h2 : ¬ k = p.1 := fun q => h q.symm
      simp [h2]
theorem look_at {M : List (Nat × V)} {i k : Nat} {v : V} (hn : (M.map (·.1)).Nodup) (h : M[i]? = some (k, v)) : look M k = some v := by
  induction M generalizing i with
  | nil => simp at h
  | cons p M ih =>
    have hn2 := List.nodup_cons.mp hn
    cases i with
    | zero =>
      have e : p = (k, v) := Option.some.inj h
      subst e
      simp [look, List.find?_cons]
    | succ i =>
      have hm : k ∈ M.map (·.1) := List.mem_map.mpr ⟨(k, v), List.mem_of_getElem? h, rfl⟩
      have hk : ¬ p.1 = k := fun q => hn2.1 (by show p.1 ∈ _; rw [q]; exact hm)
      have e : look (p :: M) k = look M k := by simp [look, List.find?_cons, hk]
      rw [e]
      exact ih hn2.2 h
theorem dk_put {M : List (Nat × V)} {k : Nat} {v : V} (h : k ∉ M.map (·.1)) : putK (dk M) (Sum.inl (k : Int)) v = dk (M ++ [(k, v)]) := by
  have h1 : ((dk M).any fun kv => decide (kv.1 = (Sum.inl (k : Int) : Key))) = false := by
    rw [valV_any, dk_val, look_mem, decide_eq_false h]
  unfold putK
  rw [if_neg (by rw [h1]; decide)]
  unfold dk
  rw [List.map_append]
  rfl
section
variable {P : Program} {w : World} {K : PySem.W.Frag} {mg : Str → Option Value} {base : Heap} {C : Addr}
section
variable {σ : St} {H H' : Hp} {ta tb tc te : TE} {v : V} {d : Addr} {D : Ends} {tz : TS} {M : List (Nat × V)} {k : Nat}
theorem pu_din (h : H d = some (.dK (dk M))) (ha : Pu ta σ H (.int (k : Int))) (hb : Pu tb σ H (.ref d)) : Pu (tDIn ta tb) σ H (.bl (decide (k ∈ M.map (·.1)))) := fun H1 e Q q => ha H1 e _ (hb H1 e _ ⟨d, _, rfl, DGet.k (k := Sum.inl (k : Int)) (e _ _ h), by
  rw [dk_val, look_mem]
  exact q⟩)
theorem pu_dnin (h : H d = some (.dK (dk M))) (ha : Pu ta σ H (.int (k : Int))) (hb : Pu tb σ H (.ref d)) : Pu (tDNotIn ta tb) σ H (.bl (!decide (k ∈ M.map (·.1)))) := fun H1 e Q q => ha H1 e _ (hb H1 e _ ⟨d, _, rfl, DGet.k (k := Sum.inl (k : Int)) (e _ _ h), by
  rw [dk_val, look_mem]
  exact q⟩)
theorem pu_dget (h : H d = some (.dK (dk M))) (hv : look M k = some v) (ha : Pu ta σ H (.ref d)) (hb : Pu tb σ H (.int (k : Int))) : Pu (tDGet ta tb) σ H v := fun H1 e Q q => ha H1 e _ (hb H1 e _ ⟨d, v, rfl, by
  have g := DGet.k (k := (Sum.inl (k : Int) : Key)) (e _ _ h)
  rw [dk_val, hv] at g
  exact g, q⟩)
/-- d[k] = v, k new -/
theorem q_dput (h : H d = some (.dK (dk M))) (hn : k ∉ M.map (·.1)) (hl : M.length < 100000) (hv : Pu tc σ H v) (ha : Pu ta σ H (.ref d)) (hb : Pu tb σ H (.int (k : Int))) (q : tz D σ (upd H d (.dK (dk (M ++ [(k, v)]))))) : tSeq (sDPut ta tb tc) tz D σ H :=
  hv.at (ha.at (hb.at ⟨d, _, rfl, DPut.k (k := Sum.inl (k : Int)) h (by unfold dk; rw [List.length_map]; exact small_lt hl), by rw [dk_put hn]; exact q⟩))
/-- d[k] = (.., ..), k new -/
theorem q_dputT {vs : List V} {tr : TA} (h : H d = some (.dK (dk M))) (hn : k ∉ M.map (·.1)) (hl : M.length < 100000) (hv : PuA tr σ H vs) (hz : vs.length ≤ 1000) (ha : Pu ta σ H (.ref d)) (hb : Pu tb σ H (.int (k : Int)))
    (q : ∀ r, H r = none → d ≠ r → tz D σ (upd (upd H r (.tup vs)) d (.dK (dk (M ++ [(k, .ref r)]))))) : tSeq (sDPut ta tb (tTup tr)) tz D σ H :=
  hv.at ⟨small_le (by omega), fun r hr => by
    have nd : d ≠ r := ne_of_none h hr
    refine (ha.mono (same_new hr)).at ((hb.mono (same_new hr)).at ⟨d, _, rfl, DPut.k (k := Sum.inl (k : Int)) (by rw [upd_ne nd]; exact h) (by unfold dk; rw [List.length_map]; exact small_lt hl), ?_⟩)
    rw [dk_put hn]
    exact q r hr nd⟩
theorem pu_notN' {x : V} (ha : Pu ta σ H x) : Pu (tNotN ta) σ H (.bl (!decide (x = .non))) := fun H1 e Q q => ha H1 e _ q
end
/-! 0 web, 1 some, 2 one, 3 two, 4 came, 5 waiting, 6 here, 7 number, 8 ends, 9 other, 10 found, 11 place -/
abbrev s_way_by : Stmt := topS 22
abbrev N_way_by : List Str := ["web", "some", "one", "two", "came", "waiting", "here", "number", "ends", "other", "found", "place"]
theorem sc_way_by : FnScope N_way_by ["web", "some", "one", "two"] (defScope s_way_by) := ⟨rfl, rfl, rfl, by decide +kernel, rfl, by decide +kernel, by decide +kernel⟩
/-- the entries of a search stand in the dict -/
def Ents (K : PySem.W.Frag) (H : Hp) (M : List (Nat × V)) (L : List Ent) : Prop := M.length = L.length ∧ ∀ (i : Nat) (p : Nat × V) (l : Ent), M[i]? = some p → L[i]? = some l → p.1 = l.1 ∧ ∃ r, p.2 = .ref r ∧ SqT K H r [.int (l.2.1 : Int), .int (l.2.2 : Int)]
theorem Ents.keys {H : Hp} {M : List (Nat × V)} {L : List Ent} (h : Ents K H M L) : M.map (·.1) = L.map (·.1) := by
  refine List.ext_getElem? fun i => ?_
  rw [List.getElem?_map, List.getElem?_map]
  cases e : M[i]? with
  | none =>
    have h1 := List.getElem?_eq_none_iff.mp e
    rw [List.getElem?_eq_none_iff.mpr (by rw [← h.1]; exact h1)]
    rfl
  | some p =>
    have hlt := (List.getElem?_eq_some_iff.mp e).1
    have hl : L[i]? = some (L[i]'(by rw [← h.1]; exact hlt)) := List.getElem?_eq_getElem _
    rw [hl]
    show some p.1 = some _
    rw [(h.2 i p _ e hl).1]
theorem mut_seqT {H : Hp} {p r : Addr} {o : HO} {xs : List V} (hp : Mut (H p)) (h : SqT K H r xs) : SqT K (upd H p o) r xs := by
  rcases h with (z | ⟨u, z⟩) | z
  · exact .inl (.inl (by rw [upd_ne (fun q => by rw [← q, z] at hp; exact hp)]; exact z))
  · exact .inl (.inr ⟨u, by rw [upd_ne (fun q => by rw [← q, z] at hp; exact hp)]; exact z⟩)
  · exact .inr z
theorem Ents.upd {H : Hp} {M : List (Nat × V)} {L : List Ent} {p : Addr} {o : HO} (h : Ents K H M L) (hp : Mut (H p)) : Ents K (upd H p o) M L := ⟨h.1, fun i q l a b => by
  obtain ⟨e, r, e2, hr⟩ := h.2 i q l a b
  exact ⟨e, r, e2, mut_seqT hp hr⟩⟩
theorem Ents.mono {H H' : Hp} {M : List (Nat × V)} {L : List Ent} (h : Ents K H M L) (s : Same H H') : Ents K H' M L := ⟨h.1, fun i q l a b => by
  obtain ⟨e, r, e2, hr⟩ := h.2 i q l a b
  exact ⟨e, r, e2, Same.seqT s hr⟩⟩
theorem Ents.snoc {H : Hp} {M : List (Nat × V)} {L : List Ent} {k : Nat} {r : Addr} {x y : Nat} (h : Ents K H M L) (hr : SqT K H r [.int (x : Int), .int (y : Int)]) : Ents K H (M ++ [(k, .ref r)]) (L ++ [(k, x, y)]) := by
  refine ⟨by rw [List.length_append, List.length_append, h.1]; rfl, fun i q l a b => ?_⟩
  by_cases hi : i < M.length
  · rw [List.getElem?_append_left hi] at a
    rw [List.getElem?_append_left (by rw [← h.1]; exact hi)] at b
    exact h.2 i q l a b
  · rw [List.getElem?_append_right (Nat.le_of_not_lt hi)] at a
    rw [List.getElem?_append_right (by rw [← h.1]; exact Nat.le_of_not_lt hi), ← h.1] at b
    have h0 : i - M.length = 0 := by
      have := (List.getElem?_eq_some_iff.mp a).1
      simp at this
      omega
    rw [h0] at a b
    have e1 : (k, V.ref r) = q := Option.some.inj a
    have e2 : (k, x, y) = l := Option.some.inj b
    subst e1 e2
    exact ⟨rfl, r, rfl, hr⟩
section
variable {σ : St} {H H' : Hp} {ta tb tk tv te : TE} {v : V} {l : Addr} {D : Ends} {tz : TS} {k : Nat} {xs : List V}
theorem q_disp1 {i : Nat} (hk : Pu tk σ H (.int (k : Int))) (hv : Pu tv σ H v) (q : ∀ p H1, H p = none → Same H H1 → H1 p = some (.dK (dk [(k, v)])) → tz D (σ.set i (some (.ref p))) H1) : tSeq (tAsg (tDisp [(tk, tv)]) (gName i)) tz D σ H := fun p hp =>
  hk _ (same_new hp) _ (hv _ (same_new hp) _ ⟨upd_same, [(Sum.inl (k : Int), v)], rfl, by show 1 ≤ 15; decide, q p _ hp (by rw [upd_upd]; exact same_new hp) (by rw [upd_same]; rfl)⟩)
theorem q_pop0 {i : Nat} (ha : Pu ta σ H (.ref l)) (hl : H l = some (.lst (v :: xs))) (hz : xs.length < 100000) (q : tz D (σ.set i (some v)) (upd H l (.lst xs))) : tSeq (tAsg (tBM K "list" rPopAt ta (tCons (tC (.int 0)) tNil)) (gName i)) tz D σ H :=
  ha.at ⟨.inl ⟨rfl, _, SqL.of hl⟩, l, v :: xs, 0, 0, v, rfl, rfl, hl, by decide, by decide, by
    unfold seqIndex?
    simp, rfl, q⟩
theorem q_rev (ha : Pu ta σ H (.ref l)) (hl : H l = some (.lst xs)) (q : tz D σ (upd H l (.lst xs.reverse))) : tSeq (tDrop (tBM0 K "list" rReverse ta)) tz D σ H := ha.at ⟨.inl ⟨rfl, _, SqL.of hl⟩, l, xs, rfl, rfl, hl, q⟩
end
def sp_way_by (K : PySem.W.Frag) (C : Addr) : Sp := fun vs H Q _ => ∃ (a l : Addr) (n one two : Nat) (ts : List Tie) (is : List Nat), vs = [.ref a, .ref l, .int (one : Int), .int (two : Int)] ∧ WebAt K C H a n ts ∧ SqL K H l (nvs is) ∧ (∀ k ∈ is, k < ts.length) ∧ one < n ∧ Rch (sub ts is) one two ∧
  ∀ way r H2, IsWay ts one two way → way.Nodup → (∀ k ∈ way, k ∈ is) → (one = two → way = []) → H r = none → Same H H2 → H2 r = some (.lst (nvs way)) → Q (.ref r) H2
theorem ok_way_by (F : Df K mg "way_by" ["web", "some", "one", "two"] s_way_by) (T : Bt mg) (Wc : WebC K C) : Gd P w K mg base 1 "way_by" ["web", "some", "one", "two"] (sp_way_by K C) := by
  refine F.gd sc_way_by (fun vs H Q E h => ?_) (fun f cdv A outer s H vs Q E hr h => ?_)
  · obtain ⟨a, l, n, one, two, ts, is, rfl, _⟩ := h
    rfl
  · obtain ⟨a, l, n, one, two, ts, is, rfl, hw, hl, hm, h1, hrc, q⟩ := h
    refine ⟨_, (pss_cons (ps_set (i := 4) sc_way_by.nd rfl (Or.inl rfl) (pe_disp (pps_cons (pv 2) pe_non pps_nil) (by rfl) (by rfl) (fun z => by cases z) (by decide)))
      (pss_cons (ps_set (i := 5) sc_way_by.nd rfl (Or.inl rfl) (pe_lst (pa_cons (pv 2) pa_nil)))
      (pss_cons (ps_while PassesOwn.never (pt_cmpR op_gt (pe_callB (w_len K) (by rfl) T.len PySem.boot_len (pa_cons (pv 5) pa_nil)) pe_int (nomark _))
        (pss_cons (ps_set (i := 6) sc_way_by.nd rfl (Or.inl rfl) (w_bm K PySem.F.plainAttrs_list PySem.F.slot_list_pop PySem.F.type_list_pop mt_popAt (pv 5) (pa_cons pe_int pa_nil)))
        (pss_one (ps_for PassesOwn.never rfl (w_piL K (pv 1)) (pg_name (i := 7) sc_way_by.nd rfl (Or.inl rfl))
          (pss_cons (ps_set (i := 8) sc_way_by.nd rfl (Or.inl rfl) (pe_ix (w_ixT K) (w_fld K (pv 0)) (pv 7) (fun _ _ => rfl)))
          (pss_one (ps_if (pt_cmpR (w_in K) (pv 6) (pv 8) (by rfl))
            (pss_cons (ps_set (i := 9) sc_way_by.nd rfl (Or.inl rfl) (pe_op op_sub (pe_op op_add (pe_ix (w_ixT K) (pv 8) pe_int (fun _ _ => rfl)) (pe_ix (w_ixT K) (pv 8) pe_int (fun _ _ => rfl))) (pv 6)))
            (pss_one (ps_if (pt_cmp (pc_dnotin (hu_of hr) (pv 9) (pv 4)))
              (pss_cons (ps_dput (hu_of hr) (pv 4) (pv 9) (pe_tup (pa_cons (pv 6) (pa_cons (pv 7) pa_nil))) rfl)
              (pss_one (ps_expr (w_bm K PySem.F.plainAttrs_list PySem.F.slot_list_append PySem.F.type_list_append mt_append (pv 5) (pa_cons (pv 9) pa_nil)))))
              pss_nil)))
            pss_nil)))))))
      (pss_cons (ps_if (pt_cmp (pc_dnotin (hu_of hr) (pv 3) (pv 4)))
        (pss_one (ps_ret pe_non))
        pss_nil)
      (pss_cons (ps_set (i := 10) sc_way_by.nd rfl (Or.inl rfl) (pe_lst pa_nil))
      (pss_cons (ps_set (i := 11) sc_way_by.nd rfl (Or.inl rfl) (pv 3))
      (pss_cons (ps_while PassesOwn.never (pt_cmpR op_notN (pe_dget (hu_of hr) (pv 4) (pv 11) (fun _ _ => rfl)) pe_non (nomark _))
        (pss_cons (ps_expr (w_bm K PySem.F.plainAttrs_list PySem.F.slot_list_append PySem.F.type_list_append mt_append (pv 10) (pa_cons (pe_ix (w_ixT K) (pe_dget (hu_of hr) (pv 4) (pv 11) (fun _ _ => rfl)) pe_int (fun _ _ => rfl)) pa_nil)))
        (pss_one (ps_set (i := 11) sc_way_by.nd rfl (Or.inl rfl) (pe_ix (w_ixT K) (pe_dget (hu_of hr) (pv 4) (pv 11) (fun _ _ => rfl)) pe_int (fun _ _ => rfl))))))
      (pss_cons (ps_expr (w_bm0 K PySem.F.plainAttrs_list PySem.F.slot_list_reverse PySem.F.type_list_reverse mt_reverse (pv 10)))
      (pss_one (ps_ret (pv 10))))))))))), ?_⟩
    have hV := hw.ok
    have h20 := hV.most
    refine q_disp1 (pu_var rfl) pu_c fun d H1 f1 s1 e1 => ?_
    refine q_nw (nw_lst (pa1 (pu_var rfl) pa0) (by show 1 ≤ 100000; decide)) fun wo H2 f2 s2 e2 => ?_
    have fd : H d = none := f1
    have fw : H wo = none := s1.free f2
    refine q_while (fun m σ' H' => ∃ (M : List (Nat × V)) (L : List Ent) (Wt : List Nat) (v6 v7 v8 v9 : Option V), σ' = [some (.ref a), some (.ref l), some (.int (one : Int)), some (.int (two : Int)), some (.ref d), some (.ref wo), v6, v7, v8, v9, none, none] ∧ Same H H' ∧
        H' d = some (.dK (dk ((one, .non) :: M))) ∧ Ents K H' M L ∧ H' wo = some (.lst (nvs Wt)) ∧ SIn ts is n one L Wt ∧ Wt.length ≤ L.length + 1 ∧ m = n - (L.length + 1) + Wt.length) (n - 1 + 1)
      ⟨[], [], [one], none, none, none, none, rfl, s1.trans s2, s2 _ _ e1, ⟨rfl, fun i p l a => by simp at a⟩, e2, SIn.start h1, by show 1 ≤ 1; omega, rfl⟩ ?_
    rintro m σ' H' ⟨M, L, Wt, v6, v7, v8, v9, rfl, s3, e3, en, e4, R, hW, rfl⟩
    refine ⟨_, pt_test (pu_I0 (pu_lenN (SqL.of e4) (pu_var rfl)) pu_c), fun hb => ?_, fun hb => ?_⟩
    · obtain ⟨x, W2, rfl⟩ : ∃ x W2, Wt = x :: W2 := by
        cases Wt with
        | nil => exact absurd (of_decide_eq_true hb) (by simp)
        | cons x W2 => exact ⟨x, W2, rfl⟩
      have hLn : L.length + 1 ≤ n := by
        have := nodup_len n _ R.nd R.lt
        rw [places_len] at this
        exact this
      have hW2 : W2.length ≤ L.length := by simpa using hW
      refine q_pop0 (K := K) (pu_var rfl) e4 (by rw [List.length_map]; omega) ?_
      have nd : d ≠ wo := ne_of e3 e4 (by intro z; cases z)
      refine s_forL (pu_var rfl) ((Same.mut s3 fw).seq hl) (fun i σ3 H3 => ∃ (M : List (Nat × V)) (L2 : List Ent) (W3 : List Nat) (v7 v8 v9 : Option V), σ3 = [some (.ref a), some (.ref l), some (.int (one : Int)), some (.int (two : Int)), some (.ref d), some (.ref wo), some (.int (x : Int)), v7, v8, v9, none, none] ∧ Same H H3 ∧
          H3 d = some (.dK (dk ((one, .non) :: M))) ∧ Ents K H3 M L2 ∧ H3 wo = some (.lst (nvs W3)) ∧ SMid ts is n one x i L2 W3 ∧ W3.length ≤ L2.length ∧ n - (L2.length + 1) + W3.length = n - (L.length + 1) + W2.length)
        ⟨M, L, W2, v7, v8, v9, rfl, Same.mut s3 fw, by rw [upd_ne nd]; exact e3, en.upd (by rw [e4]; trivial), upd_same, R.mid, hW2, rfl⟩ (fun i σ3 H3 _ ⟨_, _, _, _, _, _, _, s, _⟩ => s.seq hl) ?_ ?_
      · rintro i xv σ3 H3 hx ⟨M3, L3, W3, v7, v8, v9, rfl, s5, e5, en5, e6, R5, hW3, hm5⟩
        obtain ⟨k, hki, rfl⟩ := nvs_of hx
        have hkl := hm k (List.mem_of_getElem? hki)
        have hv := hV.ends _ (tieAt_mem hkl)
        have hL3 : L3.length + 1 ≤ n := by
          have := nodup_len n _ R5.nd R5.lt
          rw [places_len] at this
          exact this
        obtain ⟨r, hpr, hp⟩ := pu_tie (tb := tVar 7) (σ := [some (.ref a), some (.ref l), some (.int (one : Int)), some (.int (two : Int)), some (.ref d), some (.ref wo), some (.int (x : Int)), some (.int (k : Int)), v8, v9, none, none]) (ta := tVar 0) Wc (hw.mono s5) (pu_var rfl) (pu_var rfl) (tieAt_get hkl)
        refine q_pu hp ?_
        refine s_when (pt_test (pu_inP hpr (pu_var rfl) (pu_var rfl))) (fun hb => ?_) (fun hb => ?_)
        · have hor : (tieAt ts k).1 = x ∨ (tieAt ts k).2 = x := by simpa using hb
          refine q_pu ((pu_I0 (pu_I0 (pu_end0 hpr (pu_var rfl)) (pu_end1 hpr (pu_var rfl))) (pu_var rfl)).is (congrArg V.int (oth_int hor))) ?_
          have ekeys : ((one, V.non) :: M3).map (·.1) = places one L3 := by
            show one :: M3.map (·.1) = _
            rw [en5.keys]
            rfl
          have pin := pu_dnin (ta := tVar 9) (tb := tVar 4) (σ := [some (.ref a), some (.ref l), some (.int (one : Int)), some (.int (two : Int)), some (.ref d), some (.ref wo), some (.int (x : Int)), some (.int (k : Int)), some (.ref r), some (.int ((oth (tieAt ts k) x : Nat) : Int)), none, none]) e5 (pu_var rfl) (pu_var rfl)
          rw [ekeys] at pin
          refine s_when (pt_B pin) (fun hc => ?_) (fun hc => ?_)
          · have hno : oth (tieAt ts k) x ∉ places one L3 := by simpa using hc
            refine q_dputT e5 (by rw [ekeys]; exact hno) (by rw [List.length_cons, en5.1]; omega) (pa1 (pu_var rfl) (pa1 (pu_var rfl) pa0)) (by show 2 ≤ 1000; decide) (pu_var rfl) (pu_var rfl) fun r2 hr2 ndr => ?_
            have nwr : wo ≠ r2 := ne_of_none e6 hr2
            have s6 : Same H3 (upd H3 r2 (.tup [.int (x : Int), .int (k : Int)])) := same_new hr2
            have e7 : upd (upd H3 r2 (.tup [.int (x : Int), .int (k : Int)])) d (.dK (dk ((one, .non) :: M3 ++ [(oth (tieAt ts k) x, .ref r2)]))) wo = some (.lst (nvs W3)) := by
              rw [upd_ne nd.symm, upd_ne nwr]
              exact e6
            refine s_app (pu_var rfl) e7 (pu_var rfl) (by rw [nvs_len]; omega) ?_
            have sd : Same H (upd (upd H3 r2 (.tup [.int (x : Int), .int (k : Int)])) d (.dK (dk ((one, .non) :: M3 ++ [(oth (tieAt ts k) x, .ref r2)])))) := Same.mut (s5.trans s6) fd
            have hmd : Mut (upd H3 r2 (.tup [.int (x : Int), .int (k : Int)]) d) := by rw [upd_ne ndr, e5]; trivial
            refine ⟨M3 ++ [(oth (tieAt ts k) x, .ref r2)], _, _, _, _, _, rfl, Same.mut sd fw, ?_, ?_, ?_, R5.new hki hv hor hno, ?_, ?_⟩
            · rw [upd_ne nd, upd_same]
              rfl
            · refine Ents.upd ?_ (by rw [e7]; trivial)
              refine Ents.snoc (Ents.upd (en5.mono s6) hmd) (mut_seqT hmd (SqT.of upd_same))
            · rw [upd_same, nvs_app]
              rfl
            · rw [List.length_append, List.length_append]
              show W3.length + 1 ≤ L3.length + 1
              omega
            · rw [List.length_append, List.length_append]
              show n - (L3.length + 1 + 1) + (W3.length + 1) = _
              have h9 : (places one (L3 ++ [(oth (tieAt ts k) x, x, k)])).length ≤ n := nodup_len n _ (R5.new hki hv hor hno).nd (R5.new hki hv hor hno).lt
              rw [places_len, List.length_append] at h9
              have h10 : L3.length + 1 + 1 ≤ n := h9
              omega
          · have hin : oth (tieAt ts k) x ∈ places one L3 := by simpa using hc
            exact ⟨M3, L3, W3, _, _, _, rfl, s5, e5, en5, e6, R5.old hki (Shut.of R5.st fun _ => hin), hW3, hm5⟩
        · have hno : ¬ ((tieAt ts k).1 = x ∨ (tieAt ts k).2 = x) := by simpa using hb
          exact ⟨M3, L3, W3, _, _, _, rfl, s5, e5, en5, e6, R5.old hki ⟨fun q => absurd (Or.inl q) hno, fun q => absurd (Or.inr q) hno⟩, hW3, hm5⟩
      · rintro σ3 H3 ⟨M3, L3, W3, v7, v8, v9, rfl, s5, e5, en5, e6, R5, hW3, hm5⟩
        rw [nvs_len] at R5
        refine ⟨n - (L3.length + 1) + W3.length, ?_, M3, L3, W3, _, _, _, _, rfl, s5, e5, en5, e6, R5.fin, by omega, rfl⟩
        rw [hm5, List.length_cons]
        omega
    · have hW0 : Wt = [] := by
        cases Wt with
        | nil => rfl
        | cons x W2 => exact absurd (of_decide_eq_false hb) (by simp)
      subst hW0
      have ekeys : ((one, V.non) :: M).map (·.1) = places one L := by
        show one :: M.map (·.1) = _
        rw [en.keys]
        rfl
      have htwo : two ∈ places one L := R.all hrc
      have pin := pu_dnin (ta := tVar 3) (tb := tVar 4) (σ := [some (.ref a), some (.ref l), some (.int (one : Int)), some (.int (two : Int)), some (.ref d), some (.ref wo), v6, v7, v8, v9, none, none]) e3 (pu_var rfl) (pu_var rfl)
      rw [ekeys] at pin
      refine q_when (pt_B pin) (fun hc => by simp [htwo] at hc) (fun _ => ?_)
      refine q_nw (nw_lst pa0 (by decide)) fun fo H4 f4 s4 e4' => ?_
      have ff : H fo = none := s3.free f4
      refine q_pu (pu_var rfl) ?_
      obtain ⟨q0, hq0⟩ : ∃ q0, (places one L)[q0]? = some two ∧ (one = two → q0 = 0) := by
        by_cases c : one = two
        · exact ⟨0, by subst c; rfl, fun _ => rfl⟩
        · obtain ⟨q0, h⟩ := List.mem_iff_getElem?.mp htwo
          exact ⟨q0, h, fun z => absurd z c⟩
      have nd : d ≠ fo := ne_of_none e3 f4
      refine q_while (fun m σ' H' => ∃ (R2 : List Nat) (p : Nat), σ' = [some (.ref a), some (.ref l), some (.int (one : Int)), some (.int (two : Int)), some (.ref d), some (.ref wo), v6, v7, v8, v9, some (.ref fo), some (.int (p : Int))] ∧ Same H H' ∧
          H' d = some (.dK (dk ((one, .non) :: M))) ∧ Ents K H' M L ∧ H' fo = some (.lst (nvs R2)) ∧ (places one L)[m]? = some p ∧ Back ts is one two L m R2 ∧ (one = two → m = 0 ∧ R2 = []) ∧ R2.length + m ≤ n) q0
        ⟨[], two, rfl, s3.trans s4, s4 _ _ e3, en.mono s4, e4', hq0.1, Back.start hq0.1, fun z => ⟨hq0.2 z, rfl⟩, by
          have h1 := (List.getElem?_eq_some_iff.mp hq0.1).1
          have h2 := nodup_len n _ R.nd R.lt
          show 0 + q0 ≤ n
          omega⟩ ?_
      rintro m σ' H' ⟨R2, p, rfl, s5, e5, en5, e6, hp, B, hz, hlen⟩
      have hnk : (((one, V.non) :: M).map (·.1)).Nodup := by rw [ekeys]; exact R.nd
      cases m with
      | zero =>
        have ep : one = p := Option.some.inj hp
        subst ep
        have hlk : look ((one, V.non) :: M) one = some .non := look_at (i := 0) hnk rfl
        refine ⟨_, pt_test (pu_notN (pu_dget e5 hlk (pu_var rfl) (pu_var rfl))), fun hc => by simp at hc, fun _ => ?_⟩
        refine q_rev (K := K) (pu_var rfl) e6 ?_
        refine s_ret (pu_var rfl) (q R2.reverse fo _ (B.way one rfl) ((List.reverse_perm R2).nodup_iff.mpr B.nd) (fun k hk => B.mem k (List.mem_reverse.mp hk)) (fun z => by rw [(hz z).2]; rfl) ff (Same.mut s5 ff) ?_)
        rw [upd_same]
        show some (HO.lst ((R2.map fun n : Nat => V.int (n : Int)).reverse)) = some (HO.lst (R2.reverse.map fun n : Nat => V.int (n : Int)))
        rw [List.map_reverse]
      | succ m =>
        have hlp : (L.map (·.1))[m]? = some p := hp
        obtain ⟨e, he, hep⟩ : ∃ e, L[m]? = some e ∧ e.1 = p := by
          rw [List.getElem?_map] at hlp
          cases z : L[m]? with
          | none => rw [z] at hlp; cases hlp
          | some e => rw [z] at hlp; exact ⟨e, rfl, Option.some.inj hlp⟩
        subst hep
        have hMm : M[m]? = some (M[m]'(by rw [en5.1]; exact (List.getElem?_eq_some_iff.mp he).1)) := List.getElem?_eq_getElem _
        obtain ⟨g1, r, g2, hr2⟩ := en5.2 m _ e hMm he
        have hent : ((one, V.non) :: M)[m + 1]? = some (e.1, .ref r) := by
          show M[m]? = _
          rw [hMm, ← g1, ← g2]
        have hlk := look_at hnk hent
        refine ⟨_, pt_test (pu_notN (pu_dget e5 hlk (pu_var rfl) (pu_var rfl))), fun _ => ?_, fun hc => by simp at hc⟩
        refine q_app (pu_var rfl) e6 (pu_ixT hr2 (pu_dget e5 hlk (pu_var rfl) (pu_var rfl)) pu_c (atI_nat (j := 1) rfl)) (by rw [nvs_len]; omega) ?_
        have hmf : Mut (H' fo) := by rw [e6]; trivial
        have e5' : upd H' fo (.lst (nvs R2 ++ [.int (e.2.2 : Int)])) d = some (.dK (dk ((one, .non) :: M))) := by rw [upd_ne nd]; exact e5
        refine s_pu (pu_ixT (mut_seqT hmf hr2) (pu_dget e5' hlk (pu_var rfl) (pu_var rfl)) pu_c (atI_nat (j := 0) rfl)) ?_
        obtain ⟨q', hq', hpq, B'⟩ := B.step R hm he
        refine ⟨q', by omega, R2 ++ [e.2.2], e.2.1, rfl, Same.mut s5 ff, e5', en5.upd hmf, ?_, hpq, B', fun z => ?_, ?_⟩
        · rw [upd_same, nvs_app]
          rfl
        · exact absurd (hz z).1 (by omega)
        · rw [List.length_append]
          show R2.length + 1 + q' ≤ n
          omega
end
end Bz

set_option Elab.async false
set_option linter.all false
set_option maxRecDepth 100000
set_option maxHeartbeats 4000000
namespace Bz
open PySem PySem.Spec L2
theorem ivs_set (fl : List Int) (k : Nat) (a : Int) : (ivs fl).set k (.int a) = ivs (fl.set k a) := (List.map_set).symm
section
variable {P : Program} {w : World} {K : PySem.W.Frag} {mg : Str → Option Value} {base : Heap} {C : Addr}
theorem q_gdNw2 {σ : St} {H : Hp} {t1 tl : TE} {tr : TA} {sp : Sp} {v1 : V} {xs : List V} {i : Nat} {tz : TS} {D : Ends} (h1 : Pu t1 σ H v1) (hl : Nw tl σ H xs)
    (k : ∀ l H1, H l = none → Same H H1 → H1 l = some (.lst xs) → ∃ vs, PuA tr σ H1 vs ∧ sp (v1 :: .ref l :: vs) H1 (fun v H2 => tz D (σ.set i (some v)) H2) E0) : tSeq (tAsg (tGd sp (tCons t1 (tCons tl tr))) (gName i)) tz D σ H :=
  h1.at (hl.at fun l H1 f1 s1 e1 => by
    obtain ⟨vs, hp, hs⟩ := k l H1 f1 s1 e1
    exact hp.at hs)
/-! 0 web, 1 way, 2 place, 3 found, 4 number, 5 ends -/
abbrev s_flow_along : Stmt := topS 23
abbrev N_flow_along : List Str := ["web", "way", "place", "found", "number", "ends"]
theorem sc_flow_along : FnScope N_flow_along ["web", "way", "place"] (defScope s_flow_along) := ⟨rfl, rfl, rfl, by decide +kernel, rfl, by decide +kernel, by decide +kernel⟩
def sp_flow_along (K : PySem.W.Frag) (C : Addr) : Sp := fun vs H Q _ => ∃ (a l : Addr) (n x y : Nat) (ts : List Tie) (way : List Nat), vs = [.ref a, .ref l, .int (x : Int)] ∧ WebAt K C H a n ts ∧ SqL K H l (nvs way) ∧ IsWay ts x y way ∧ way.Nodup ∧
  ∀ fl r H2, Along ts x y y way way.length fl → H r = none → Same H H2 → H2 r = some (.lst (ivs fl)) → Q (.ref r) H2
theorem ok_flow_along (F : Df K mg "flow_along" ["web", "way", "place"] s_flow_along) (T : Bt mg) (Wc : WebC K C) : Gd P w K mg base 1 "flow_along" ["web", "way", "place"] (sp_flow_along K C) := by
  refine F.gd sc_flow_along (fun vs H Q E h => ?_) (fun f cdv A outer s H vs Q E hr h => ?_)
  · obtain ⟨a, l, n, x, y, ts, way, rfl, _⟩ := h
    rfl
  · obtain ⟨a, l, n, x, y, ts, way, rfl, hw, hl, hway, hnd, q⟩ := h
    refine ⟨_, (pss_cons (ps_set (i := 3) sc_flow_along.nd rfl (Or.inl rfl) (pe_op op_rep (pe_lst (pa_cons pe_int pa_nil)) (pe_callB (w_len K) (by rfl) T.len PySem.boot_len (pa_cons (w_fld K (pv 0)) pa_nil))))
      (pss_cons (ps_for PassesOwn.never rfl (w_piL K (pv 1)) (pg_name (i := 4) sc_flow_along.nd rfl (Or.inl rfl))
        (pss_cons (ps_set (i := 5) sc_flow_along.nd rfl (Or.inl rfl) (pe_ix (w_ixT K) (w_fld K (pv 0)) (pv 4) (fun _ _ => rfl)))
        (pss_cons (ps_if (pt_cmpR op_eq (pe_ix (w_ixT K) (pv 5) pe_int (fun _ _ => rfl)) (pv 2) (nomark _))
          (pss_one (ps_asg pe_int (pg_sub (pv 3) (pv 4) set_list)))
          (pss_one (ps_asg (pe_un un_neg pe_int) (pg_sub (pv 3) (pv 4) set_list))))
        (pss_one (ps_set (i := 2) sc_flow_along.nd rfl (Or.inl rfl) (pe_op op_sub (pe_op op_add (pe_ix (w_ixT K) (pv 5) pe_int (fun _ _ => rfl)) (pe_ix (w_ixT K) (pv 5) pe_int (fun _ _ => rfl))) (pv 2)))))))
      (pss_one (ps_ret (pv 3))))), ?_⟩
    have h40 := hw.ok.len
    refine q_nw (nw_rep (pu_lenT Wc hw (pu_var rfl)) (by omega)) fun fo H1 f1 s1 e1 => ?_
    refine q_forL (pu_var rfl) (s1.seq hl) (fun i σ' H' => ∃ (cur : Nat) (fl : List Int) (v4 v5 : Option V), σ' = [some (.ref a), some (.ref l), some (.int (cur : Int)), some (.ref fo), v4, v5] ∧ Same H H' ∧ H' fo = some (.lst (ivs fl)) ∧ Along ts x y cur way i fl)
      ⟨x, _, none, none, rfl, s1, e1, Along.start hway⟩ (fun i σ' H' _ ⟨_, _, _, _, _, s, _⟩ => s.seq hl) ?_ ?_
    · rintro i xv σ' H' hx ⟨cur, fl, v4, v5, rfl, s2, e2, R⟩
      obtain ⟨k, hki, rfl⟩ := nvs_of hx
      obtain ⟨hkl, hor, R2⟩ := R.step hnd hki
      obtain ⟨r, hpr, hp⟩ := pu_tie (tb := tVar 4) (σ := [some (.ref a), some (.ref l), some (.int (cur : Int)), some (.ref fo), some (.int (k : Int)), v5]) (ta := tVar 0) Wc (hw.mono s2) (pu_var rfl) (pu_var rfl) (tieAt_get hkl)
      refine q_pu hp ?_
      have hkf : k < (ivs fl).length := by rw [ivs_len, R.len]; exact hkl
      have hmf : Mut (H' fo) := by rw [e2]; trivial
      refine q_if (pt_test (pu_eqN (pu_end0 hpr (pu_var rfl)) (pu_var rfl))) (fun hb => ?_) (fun hb => ?_)
      · have c : (tieAt ts k).1 = cur := of_decide_eq_true hb
        refine s_setL pu_c (pu_var rfl) e2 (pu_var rfl) hkf ?_
        have hpr2 : PairAt K (upd H' fo (.lst ((ivs fl).set k (.int 1)))) r (tieAt ts k) := mut_pair hmf hpr
        dsimp only
        refine s_pu ((pu_I0 (pu_I0 (pu_end0 hpr2 (pu_var rfl)) (pu_end1 hpr2 (pu_var rfl))) (pu_var rfl)).is (congrArg V.int (oth_int hor))) ?_
        rw [if_pos c] at R2
        exact ⟨_, _, _, _, rfl, Same.mut s2 f1, by rw [upd_same, ivs_set], R2⟩
      · have c : ¬ (tieAt ts k).1 = cur := of_decide_eq_false hb
        refine s_setL (pu_neg (i := 1) pu_c) (pu_var rfl) e2 (pu_var rfl) hkf ?_
        have hpr2 : PairAt K (upd H' fo (.lst ((ivs fl).set k (.int (-1))))) r (tieAt ts k) := mut_pair hmf hpr
        dsimp only
        refine s_pu ((pu_I0 (pu_I0 (pu_end0 hpr2 (pu_var rfl)) (pu_end1 hpr2 (pu_var rfl))) (pu_var rfl)).is (congrArg V.int (oth_int hor))) ?_
        rw [if_neg c] at R2
        exact ⟨_, _, _, _, rfl, Same.mut s2 f1, by rw [upd_same, ivs_set], R2⟩
    · rintro σ' H' ⟨cur, fl, v4, v5, rfl, s2, e2, R⟩
      rw [nvs_len] at R
      have hc : cur = y := by
        have := R.rest
        rw [List.drop_length] at this
        exact this
      subst hc
      exact s_ret (pu_var rfl) (q fl fo H' R f1 s2 e2)
/-! 0 web, 1 some, 2 tie*, 3 ends, 4 way, 5 found, 6 number -/
abbrev s_ring_by : Stmt := topS 24
abbrev N_ring_by : List Str := ["web", "some", "tie", "ends", "way", "found", "number"]
theorem sc_ring_by : FnScope N_ring_by ["web", "some", "tie"] (defScope s_ring_by) := ⟨rfl, rfl, rfl, by decide +kernel, rfl, by decide +kernel, by decide +kernel⟩
def sp_ring_by (K : PySem.W.Frag) (C : Addr) : Sp := fun vs H Q _ => ∃ (a l : Addr) (n t : Nat) (ts : List Tie) (is : List Nat), vs = [.ref a, .ref l, .int (t : Int)] ∧ WebAt K C H a n ts ∧ H l = some (.lst (nvs is)) ∧ is.length ≤ 1000 ∧ (∀ k ∈ is, k < ts.length) ∧ t < ts.length ∧
  Rch (sub ts (is.filter fun k => !decide (k = t))) (tieAt ts t).2 (tieAt ts t).1 ∧
  ∀ fl r H2, Ring ts is t fl → ((tieAt ts t).1 = (tieAt ts t).2 → ∀ k, k < ts.length → k ≠ t → fl[k]? = some 0) → H r = none → Same H H2 → H2 r = some (.lst (ivs fl)) → Q (.ref r) H2
theorem ok_ring_by {j k : Nat} (F : Df K mg "ring_by" ["web", "some", "tie"] s_ring_by) (T : Bt mg) (Wc : WebC K C) (G_way_by : Gd P w K mg base j "way_by" ["web", "some", "one", "two"] (sp_way_by K C))
    (G_flow_along : Gd P w K mg base k "flow_along" ["web", "way", "place"] (sp_flow_along K C)) (hj : j ≤ 1) (hk : k ≤ 1) : Gd P w K mg base 2 "ring_by" ["web", "some", "tie"] (sp_ring_by K C) := by
  refine F.gd sc_ring_by (fun vs H Q E h => ?_) (fun f cdv A outer s H vs Q E hr h => ?_)
  · obtain ⟨a, l, n, t, ts, is, rfl, _⟩ := h
    rfl
  · obtain ⟨a, l, n, t, ts, is, rfl, hw, hl, hlen, hm, ht, hrc, q⟩ := h
    have hr_way_by := hr.mono hj
    have hr_flow_along := hr.mono hk
    refine ⟨_, (pss_cons (ps_set (i := 3) sc_ring_by.nd rfl (Or.inl rfl) (pe_ix (w_ixT K) (w_fld K (pv 0)) (pv 2) (fun _ _ => rfl)))
      (pss_cons (ps_set (i := 4) sc_ring_by.nd rfl (Or.inl rfl) (pe_gd G_way_by hr_way_by (by rfl) (pa_cons (pv 0) (pa_cons (pe_lc (own := [("number", 6)]) (g := gName 6) (by rfl) sc_ring_by.nd (w_piL K (pv 1)) (blkOk_by (own := [("number", 6)]) (N := N_ring_by) (sc := defScope s_ring_by) (by decide +kernel)) (fun _ _ _ _ _ => (pg_name (i := 6) sc_ring_by.nd rfl (Or.inl rfl))) (fun _ _ _ _ _ => pts_one (pt_cmpR op_ne (pv 6) (pv 2) (nomark _))) (fun _ _ _ _ _ => (pv 6))) (pa_cons (pe_ix (w_ixT K) (pv 3) pe_int (fun _ _ => rfl)) (pa_cons (pe_ix (w_ixT K) (pv 3) pe_int (fun _ _ => rfl)) pa_nil))))))
      (pss_cons (ps_if (pt_cmpR op_isN (pv 4) pe_non (nomark _))
        (pss_one (ps_ret pe_non))
        pss_nil)
      (pss_cons (ps_set (i := 5) sc_ring_by.nd rfl (Or.inl rfl) (pe_gd G_flow_along hr_flow_along (by rfl) (pa_cons (pv 0) (pa_cons (pv 4) (pa_cons (pe_ix (w_ixT K) (pv 3) pe_int (fun _ _ => rfl)) pa_nil)))))
      (pss_cons (ps_asg pe_int (pg_sub (pv 5) (pv 2) set_list))
      (pss_one (ps_ret (pv 5)))))))), ?_⟩
    have hv := hw.ok.ends _ (tieAt_mem ht)
    obtain ⟨r, hpr, hp⟩ := pu_tie (tb := tVar 2) (σ := [some (.ref a), some (.ref l), some (.int (t : Int)), none, none, none, none]) (ta := tVar 0) Wc hw (pu_var rfl) (pu_var rfl) (tieAt_get ht)
    refine q_pu hp ?_
    have hsub : ∀ g ∈ is.filter (fun k => !decide (k = t)), g ∈ is ∧ g ≠ t := fun g hg => by
      have := List.mem_filter.mp hg
      exact ⟨this.1, by simpa using this.2⟩
    refine q_gdNw2 (pu_var rfl) (nw_lcN (K := K) (fun k => !decide (k = t)) (Pu.ls (pu_var rfl) hl) (by omega) (fun _ => rfl) (fun k _ => (pt_test (pu_neN (pu_var rfl) (pu_var rfl))).gt) (fun k _ _ => (pu_var rfl).gv)) fun lo H1 f1 s1 e1 => ?_
    have hpr1 : PairAt K H1 r (tieAt ts t) := hpr.mono s1
    refine ⟨_, pa1 (pu_end1 hpr1 (pu_var rfl)) (pa1 (pu_end0 hpr1 (pu_var rfl)) pa0), a, lo, n, (tieAt ts t).2, (tieAt ts t).1, ts, _, rfl, hw.mono s1, SqL.of e1, fun k hk => hm k (hsub k hk).1, hv.2, hrc, ?_⟩
    intro way wo H2 hway hwn hwm hw0 f2 s2 e2
    have s12 := s1.trans s2
    refine q_when (pt_test (pu_isN (pu_var rfl))) (fun hc => by simp at hc) (fun _ => ?_)
    refine q_gd (pa1 (pu_var rfl) (pa1 (pu_var rfl) (pa1 (pu_end1 (hpr.mono s12) (pu_var rfl)) pa0))) ⟨a, wo, n, _, _, ts, way, rfl, hw.mono s12, SqL.of e2, hway, hwn, fun fl fo H3 R f3 s3 e3 => ?_⟩
    have hno : ∀ k ∈ way, k ∈ is ∧ k ≠ t := fun k hk => hsub k (hwm k hk)
    have s123 := s12.trans s3
    have hf : H fo = none := s12.free f3
    refine q_setL pu_c (pu_var rfl) e3 (pu_var rfl) (by rw [ivs_len, R.len]; exact ht) ?_
    refine s_ret (pu_var rfl) (q (fl.set t 1) fo _ (ring_of_along ht hno R) (fun he k hk hkt => ?_) hf (Same.mut s123 hf) (by rw [upd_same, ivs_set]))
    rw [List.getElem?_set_ne (Ne.symm hkt)]
    refine R.zero k hk ?_
    rw [hw0 he.symm]
    simp
/-! 0 web, 1 tie, 2 held -/
abbrev s_ring_of : Stmt := topS 25
abbrev N_ring_of : List Str := ["web", "tie", "held"]
theorem sc_ring_of : FnScope N_ring_of ["web", "tie"] (defScope s_ring_of) := ⟨rfl, rfl, rfl, by decide +kernel, rfl, by decide +kernel, by decide +kernel⟩
def sp_ring_of (K : PySem.W.Frag) (C : Addr) : Sp := fun vs H Q _ => ∃ (a : Addr) (n t : Nat) (ts : List Tie), vs = [.ref a, .int (t : Int)] ∧ WebAt K C H a n ts ∧ t < ts.length ∧ Rch (ts.take t) (tieAt ts t).1 (tieAt ts t).2 ∧
  ∀ fl r H2, fl.length = ts.length → (∀ z, gain ts fl z = 0) → fl[t]? = some 1 → H r = none → Same H H2 → H2 r = some (.lst (ivs fl)) → Q (.ref r) H2
theorem ok_ring_of (F : Df K mg "ring_of" ["web", "tie"] s_ring_of) (T : Bt mg) (Wc : WebC K C) (G_look_for_tie : Gd P w K mg base 1 "look_for_tie" ["web", "tie"] (sp_look_for_tie K C)) (G_forest : Gd P w K mg base 1 "forest" ["web"] (sp_forest K C))
    (G_ring_by : Gd P w K mg base 2 "ring_by" ["web", "some", "tie"] (sp_ring_by K C)) : Gd P w K mg base 3 "ring_of" ["web", "tie"] (sp_ring_of K C) := by
  refine F.gd sc_ring_of (fun vs H Q E h => ?_) (fun f cdv A outer s H vs Q E hr h => ?_)
  · obtain ⟨a, n, t, ts, rfl, _⟩ := h
    rfl
  · obtain ⟨a, n, t, ts, rfl, hw, ht, hrc, q⟩ := h
    have hr_look_for_tie := hr.mono (j := 1) (by decide)
    have hr_forest := hr.mono (j := 1) (by decide)
    have hr_ring_by := hr
    refine ⟨_, (pss_cons (ps_expr (pe_gd G_look_for_tie hr_look_for_tie (by rfl) (pa_cons (pv 0) (pa_cons (pv 1) pa_nil))))
      (pss_cons (ps_set (i := 2) sc_ring_of.nd rfl (Or.inl rfl) (pe_gd G_forest hr_forest (by rfl) (pa_cons (pv 0) pa_nil)))
      (pss_cons (ps_if (pt_cmpR (w_in K) (pv 1) (pv 2) (by rfl))
        (pss_one ps_never)
        pss_nil)
      (pss_one (ps_ret (pe_gd G_ring_by hr_ring_by (by rfl) (pa_cons (pv 0) (pa_cons (pv 2) (pa_cons (pv 1) pa_nil))))))))), ?_⟩
    refine q_gdDrop (pa1 (pu_var rfl) (pa1 (pu_var rfl) pa0)) ⟨a, n, t, ts, rfl, hw, ht, ?_⟩
    refine q_gd (pa1 (pu_var rfl) pa0) ⟨a, n, ts, rfl, hw, fun F fo H1 hF f1 s1 e1 => ?_⟩
    have hno : t ∉ F := fun h => (hF.mem t ht).mp h hrc
    refine q_when (pt_test (pu_inL (SqL.of e1) (pu_var rfl) (pu_var rfl))) (fun hc => absurd (of_decide_eq_true hc) hno) (fun _ => ?_)
    have hFl : F.length ≤ ts.length := nodup_len _ F (hF.rise.imp fun h => Nat.ne_of_lt h) hF.lt
    have h40 := hw.ok.len
    refine s_gdRet (pa1 (pu_var rfl) (pa1 (pu_var rfl) (pa1 (pu_var rfl) pa0))) ⟨a, fo, n, t, ts, F, rfl, hw.mono s1, e1, by omega, hF.lt, ht, ?_, fun fl r H2 R _ f2 s2 e2 => q fl r H2 R.len R.g R.one (s1.free f2) (s1.trans s2) e2⟩
    have e4 : F.filter (fun k => !decide (k = t)) = F := List.filter_eq_self.mpr fun k hk => by
      have : k ≠ t := fun z => hno (z ▸ hk)
      simpa using this
    rw [e4]
    exact (hF.span _ (tieAt_mem ht)).symm
end
end Bz

set_option Elab.async false
set_option linter.all false
set_option maxHeartbeats 4000000
namespace Bz
/-! ### lists of amounts -/
def addL (a b : List Int) : List Int := (List.range a.length).map fun k => a.getD k 0 + b.getD k 0
theorem addL_len (a b : List Int) : (addL a b).length = a.length := by
  unfold addL
  rw [List.length_map, List.length_range]
theorem getD_of {a : List Int} {k : Nat} {x : Int} (h : a[k]? = some x) : a.getD k 0 = x := by
  rw [List.getD_eq_getElem?_getD, h]
  rfl
theorem get_getD {a : List Int} {k : Nat} (h : k < a.length) : a[k]? = some (a.getD k 0) := by
  have := List.getElem?_eq_getElem h
  rw [this, getD_of this]
theorem addL_get {a b : List Int} {k : Nat} {x y : Int} (hx : a[k]? = some x) (hy : b[k]? = some y) : (addL a b)[k]? = some (x + y) := by
  unfold addL
  have hk := (List.getElem?_eq_some_iff.mp hx).1
  rw [List.getElem?_map, List.getElem?_range hk]
  show some (a.getD k 0 + b.getD k 0) = _
  rw [getD_of hx, getD_of hy]
/-- gains by the ties so far -/
theorem gain_snoc : ∀ (ts : List Tie) (as : List Int) (e : Tie) (a : Int) (x : Nat), ts.length = as.length → gain (ts ++ [e]) (as ++ [a]) x = gain ts as x + ind (e.2 = x) a - ind (e.1 = x) a
  | [], [], e, a, x, _ => by
    show ind (e.2 = x) a - ind (e.1 = x) a + gain [] [] x = gain [] [] x + ind (e.2 = x) a - ind (e.1 = x) a
    simp [gain]
  | [], _ :: _, _, _, _, h => by simp at h
  | _ :: _, [], _, _, _, h => by simp at h
  | g :: ts, b :: as, e, a, x, h => by
    have ih := gain_snoc ts as e a x (by simpa using h)
    show ind (g.2 = x) b - ind (g.1 = x) b + gain (ts ++ [e]) (as ++ [a]) x = ind (g.2 = x) b - ind (g.1 = x) b + gain ts as x + ind (e.2 = x) a - ind (e.1 = x) a
    rw [ih]
    omega
theorem gain_next {ts : List Tie} {as : List Int} {i : Nat} {a : Int} (x : Nat) (hl : as.length = ts.length) (h : as[i]? = some a) : gain (ts.take (i + 1)) (as.take (i + 1)) x = gain (ts.take i) (as.take i) x + ind ((tieAt ts i).2 = x) a - ind ((tieAt ts i).1 = x) a := by
  have hi := (List.getElem?_eq_some_iff.mp h).1
  rw [take_snoc (by omega), List.take_add_one, h]
  show gain (ts.take i ++ [tieAt ts i]) (as.take i ++ [a]) x = _
  rw [gain_snoc _ _ _ _ _ (by rw [List.length_take, List.length_take]; omega)]
/-- g holds the gains of the first i ties -/
def Gains (ts : List Tie) (as : List Int) (n i : Nat) (g : List Int) : Prop := g.length = n ∧ ∀ x, x < n → g[x]? = some (gain (ts.take i) (as.take i) x)
theorem Gains.start (ts : List Tie) (as : List Int) (n : Nat) : Gains ts as n 0 (List.replicate n 0) := ⟨List.length_replicate, fun x hx => by
  show (List.replicate n 0)[x]? = some (gain [] [] x)
  simp [gain, hx]⟩
theorem Gains.step {ts : List Tie} {as : List Int} {n i : Nat} {g : List Int} {a c d : Int} (R : Gains ts as n i g) (hl : as.length = ts.length) (h : as[i]? = some a) (hv : (tieAt ts i).1 < n ∧ (tieAt ts i).2 < n)
    (hc : g[(tieAt ts i).1]? = some c) (hd : (g.set (tieAt ts i).1 (c - a))[(tieAt ts i).2]? = some d) : Gains ts as n (i + 1) ((g.set (tieAt ts i).1 (c - a)).set (tieAt ts i).2 (d + a)) := by
  refine ⟨by rw [List.length_set, List.length_set]; exact R.1, fun x hx => ?_⟩
  rw [gain_next x hl h]
  have hgx := R.2 x hx
  have hg1 := R.2 _ hv.1
  rw [hg1] at hc
  have ec := Option.some.inj hc
  by_cases h2 : (tieAt ts i).2 = x
  · rw [h2] at hd ⊢
    rw [List.getElem?_set_self (by rw [List.length_set, R.1]; exact hx)]
    by_cases h1 : (tieAt ts i).1 = x
    · rw [h1] at hd ec ⊢
      rw [List.getElem?_set_self (by rw [R.1]; exact hx)] at hd
      have ed := Option.some.inj hd
      have : ind (x = x) a = a := if_pos rfl
      rw [this]
      congr 1
      omega
    · rw [List.getElem?_set_ne h1, hgx] at hd
      have ed := Option.some.inj hd
      have e1 : ind (x = x) a = a := if_pos rfl
      have e2 : ind ((tieAt ts i).1 = x) a = 0 := if_neg h1
      rw [e1, e2]
      congr 1
      omega
  · rw [List.getElem?_set_ne h2]
    have e1 : ind ((tieAt ts i).2 = x) a = 0 := if_neg h2
    rw [e1]
    by_cases h1 : (tieAt ts i).1 = x
    · rw [h1] at ec ⊢
      rw [List.getElem?_set_self (by rw [R.1]; exact hx)]
      have e2 : ind (x = x) a = a := if_pos rfl
      rw [e2]
      congr 1
      omega
    · rw [List.getElem?_set_ne h1, hgx]
      have e2 : ind ((tieAt ts i).1 = x) a = 0 := if_neg h1
      rw [e2]
      congr 1
      omega
theorem Gains.all {ts : List Tie} {as : List Int} {n : Nat} {g : List Int} (R : Gains ts as n ts.length g) (hl : as.length = ts.length) : ∀ x, x < n → g[x]? = some (gain ts as x) := fun x hx => by
  have h := R.2 x hx
  rw [List.take_length, ← hl, List.take_length] at h
  exact h
/-- how many ends of a tie lie at a place -/
theorem count_two (a b x : Int) : (([a, b] : List Int).count x : Int) = (if a = x then 1 else 0) + (if b = x then 1 else 0) := by
  rw [List.count_cons, List.count_cons, List.count_nil]
  by_cases h1 : a = x
  · by_cases h2 : b = x
    · simp [h1, h2]
    · simp [h1, h2]
  · by_cases h2 : b = x
    · simp [h1, h2]
    · simp [h1, h2]
theorem sum_even : ∀ l : List Int, (∀ a ∈ l, a % 2 = 0) → l.sum % 2 = 0
  | [], _ => rfl
  | a :: l, h => by
    have h1 := h a List.mem_cons_self
    have h2 := sum_even l fun b hb => h b (List.mem_cons_of_mem _ hb)
    rw [List.sum_cons]
    omega
end Bz

set_option Elab.async false
set_option linter.all false
set_option maxRecDepth 100000
set_option maxHeartbeats 4000000
namespace Bz
open PySem PySem.Spec L2
section
variable {P : Program} {w : World} {K : PySem.W.Frag} {mg : Str → Option Value} {base : Heap} {C : Addr}
/-! 0 one*, 1 two*, 2 k -/
abbrev s_added : Stmt := topS 36
abbrev N_added : List Str := ["one", "two", "k"]
theorem sc_added : FnScope N_added ["one", "two"] (defScope s_added) := ⟨rfl, rfl, rfl, by decide +kernel, rfl, by decide +kernel, by decide +kernel⟩
def sp_added (K : PySem.W.Frag) : Sp := fun vs H Q _ => ∃ (l m : Addr) (a b : List Int), vs = [.ref l, .ref m] ∧ SqL K H l (ivs a) ∧ SqL K H m (ivs b) ∧ a.length = b.length ∧ a.length ≤ 1000 ∧ ∀ r H2, H r = none → Same H H2 → H2 r = some (.lst (ivs (addL a b))) → Q (.ref r) H2
theorem ok_added (F : Df K mg "added" ["one", "two"] s_added) (T : Bt mg) : Gd P w K mg base 1 "added" ["one", "two"] (sp_added K) := by
  refine F.gd sc_added (fun vs H Q E h => ?_) (fun f cdv A outer s H vs Q E hr h => ?_)
  · obtain ⟨l, m, a, b, rfl, _⟩ := h
    rfl
  · obtain ⟨l, m, a, b, rfl, ha, hb, hl, hz, q⟩ := h
    refine ⟨_, (pss_cons (ps_if (pt_cmpR op_ne (pe_callB (w_len K) (by rfl) T.len PySem.boot_len (pa_cons (pv 0) pa_nil)) (pe_callB (w_len K) (by rfl) T.len PySem.boot_len (pa_cons (pv 1) pa_nil)) (nomark _))
        (pss_one ps_never)
        pss_nil)
      (pss_one (ps_ret (pe_lc (own := [("k", 2)]) (g := gName 2) (by rfl) sc_added.nd (pi_range1 rfl T.range (pa_cons (pe_callB (w_len K) (by rfl) T.len PySem.boot_len (pa_cons (pv 0) pa_nil)) pa_nil)) (blkOk_by (own := [("k", 2)]) (N := N_added) (sc := defScope s_added) (by decide +kernel)) (fun _ _ _ _ _ => (pg_name (i := 2) sc_added.nd rfl (Or.inl rfl))) (fun _ _ _ _ _ => pts_nil) (fun _ _ _ _ _ => (pe_op op_add (pe_ix (w_ixL K) (pv 0) (pv 2) (fun _ _ => rfl)) (pe_ix (w_ixL K) (pv 1) (pv 2) (fun _ _ => rfl)))))))), ?_⟩
    refine q_when (b := false) ((pt_test (pu_neI (pu_lenI ha (pu_var rfl)) (pu_lenI hb (pu_var rfl)))).is (by rw [hl]; simp)) (fun hc => by cases hc) (fun _ => ?_)
    refine s_retN ((nw_lcR (n := a.length) (fun _ => true) (fun k => .int (a.getD k 0 + b.getD k 0)) (pa1 (pu_lenI ha (pu_var rfl)) pa0) (by omega) (fun _ => rfl) (fun i hi => pt_yes.gt) (fun i hi _ => (pu_I0 (pu_ixI ha (pu_var rfl) (pu_var rfl) (get_getD hi)) (pu_ixI hb (pu_var rfl) (pu_var rfl) (get_getD (by omega)))).gv)).is (ys := ivs (addL a b)) ?_) q
    rw [filter_all _ _ fun _ _ => rfl]
    show _ = ((List.range a.length).map _).map V.int
    rw [List.map_map]
    rfl
/-! 0 number*, 1 flow, 2 amount -/
abbrev s_times : Stmt := topS 37
abbrev N_times : List Str := ["number", "flow", "amount"]
theorem sc_times : FnScope N_times ["number", "flow"] (defScope s_times) := ⟨rfl, rfl, rfl, by decide +kernel, rfl, by decide +kernel, by decide +kernel⟩
def sp_times (K : PySem.W.Frag) : Sp := fun vs H Q _ => ∃ (l : Addr) (a : List Int), vs = [.int 3, .ref l] ∧ SqL K H l (ivs a) ∧ a.length ≤ 1000 ∧ ∀ r H2, H r = none → Same H H2 → H2 r = some (.lst (ivs (a.map fun x => 3 * x))) → Q (.ref r) H2
theorem nw_lcI {σ : St} {H : Hp} {tl te : TE} {t : TT} {j : Nat} {vs : List Nat} {ns : List Int} (f : Int → Bool) (g : Int → V) (h : Pu tl σ H (.ref a)) (hx : SqL K H a (ivs ns)) (hz : ns.length ≤ 10000) (hw : ∀ x, wipe ((wipe σ vs).set j (some x)) vs = wipe σ vs)
    (ht : ∀ k ∈ ns, GvT t ((wipe σ vs).set j (some (.int k))) H (f k)) (he : ∀ k ∈ ns, f k = true → Gv te ((wipe σ vs).set j (some (.int k))) H (g k)) :
    Nw (tLc (iList K tl) (gName j) t te vs) σ H ((ns.filter f).map g) := fun H1 e1 Q q => h H1 e1 _ ⟨a, rfl, ⟨_, e1.seq hx⟩, fun Dl hD =>
  lc_list (xs := ivs ns) (fun i H' => Same H1 H' ∧ H' Dl = some (.lst (((ns.take i).filter f).map g))) ⟨same_new hD, upd_same⟩ (fun i H' _ p => (e1.trans p.1).seq hx) (fun i x H' hi p => ⟨hw x, by
    obtain ⟨k, hk, rfl⟩ := ivs_of hi
    have hm : k ∈ ns := List.mem_of_getElem? hk
    have htk : ns.take (i + 1) = ns.take i ++ [k] := take_next hk
    refine ht k hm H' (e1.trans p.1) _ fun H3 e3 => ?_
    cases hf : f k with
    | true =>
      refine iteT (he k hm hf H3 ((e1.trans p.1).trans e3) _ fun H4 e4 => ⟨_, e4 _ _ (e3 _ _ p.2), ?_, Same.mut ((p.1.trans e3).trans e4) hD, ?_⟩)
      · rw [List.length_map]
        refine small_lt (Nat.lt_of_le_of_lt (Nat.le_trans (List.length_filter_le _ _) (List.length_take_le _ _)) ?_)
        have := (List.getElem?_eq_some_iff.mp hk).1
        omega
      · rw [upd_same, htk, List.filter_append, List.map_append]
        have e5 : List.filter f [k] = [k] := by simp [hf]
        rw [e5]
        rfl
    | false =>
      refine iteF ⟨p.1.trans e3, ?_⟩
      rw [htk, List.filter_append]
      have e5 : List.filter f [k] = [] := by simp [hf]
      rw [e5, List.append_nil]
      exact e3 _ _ p.2⟩) (fun H' p => q Dl H' hD p.1 (by rw [p.2, ivs_len, List.take_length]))⟩
theorem ok_times (F : Df K mg "times" ["number", "flow"] s_times) (T : Bt mg) : Gd P w K mg base 1 "times" ["number", "flow"] (sp_times K) := by
  refine F.gd sc_times (fun vs H Q E h => ?_) (fun f cdv A outer s H vs Q E hr h => ?_)
  · obtain ⟨l, a, rfl, _⟩ := h
    rfl
  · obtain ⟨l, a, rfl, ha, hz, q⟩ := h
    refine ⟨_, (pss_one (ps_ret (pe_lc (own := [("amount", 2)]) (g := gName 2) (by rfl) sc_times.nd (w_piL K (pv 1)) (blkOk_by (own := [("amount", 2)]) (N := N_times) (sc := defScope s_times) (by decide +kernel)) (fun _ _ _ _ _ => (pg_name (i := 2) sc_times.nd rfl (Or.inl rfl))) (fun _ _ _ _ _ => pts_nil) (fun _ _ _ _ _ => (pe_op op_mul (pv 0) (pv 2)))))), ?_⟩
    refine s_retN ((nw_lcI (K := K) (fun _ => true) (fun x => .int (3 * x)) (pu_var rfl) ha (by omega) (fun _ => rfl) (fun k _ => pt_yes.gt) (fun k _ _ => (pu_I (pu_var rfl) (pu_var rfl) (.inl (by decide))).gv)).is (ys := ivs (a.map fun x => 3 * x)) ?_) q
    rw [filter_all _ _ fun _ _ => rfl]
    show _ = (a.map _).map V.int
    rw [List.map_map]
    rfl
/-! 0 web, 1 some, 2 last, 3 number -/
abbrev s_look_at_set : Stmt := topS 39
abbrev N_look_at_set : List Str := ["web", "some", "last", "number"]
theorem sc_look_at_set : FnScope N_look_at_set ["web", "some"] (defScope s_look_at_set) := ⟨rfl, rfl, rfl, by decide +kernel, rfl, by decide +kernel, by decide +kernel⟩
def sp_look_at_set (K : PySem.W.Frag) (C : Addr) : Sp := fun vs H Q _ => ∃ (a l : Addr) (n : Nat) (ts : List Tie) (ns : List Nat), vs = [.ref a, .ref l] ∧ WebAt K C H a n ts ∧ SqL K H l (nvs ns) ∧ ns.Pairwise (· < ·) ∧ (∀ k ∈ ns, k < ts.length) ∧ Q .non H
theorem ok_look_at_set (F : Df K mg "look_at_set" ["web", "some"] s_look_at_set) (T : Bt mg) (Wc : WebC K C) : Gd P w K mg base 1 "look_at_set" ["web", "some"] (sp_look_at_set K C) := by
  refine F.gd sc_look_at_set (fun vs H Q E h => ?_) (fun f cdv A outer s H vs Q E hr h => ?_)
  · obtain ⟨a, l, n, ts, ns, rfl, _⟩ := h
    rfl
  · obtain ⟨a, l, n, ts, ns, rfl, hw, hl, hs, hm, q⟩ := h
    refine ⟨_, (pss_cons (ps_set (i := 2) sc_look_at_set.nd rfl (Or.inl rfl) (pe_un un_neg pe_int))
      (pss_one (ps_for PassesOwn.never rfl (w_piL K (pv 1)) (pg_name (i := 3) sc_look_at_set.nd rfl (Or.inl rfl))
        (pss_cons (ps_if (PW.pt (pw_or (pt_cmpR op_le (pv 3) (pv 2) (nomark _)) (pw_or1 (pt_cmpR op_ge (pv 3) (pe_callB (w_len K) (by rfl) T.len PySem.boot_len (pa_cons (w_fld K (pv 0)) pa_nil)) (nomark _)))))
          (pss_one ps_never)
          pss_nil)
        (pss_one (ps_set (i := 2) sc_look_at_set.nd rfl (Or.inl rfl) (pv 3))))))), ?_⟩
    refine q_pu (pu_neg (i := 1) pu_c) ?_
    refine s_forL (pu_var rfl) hl (fun i σ' H' => ∃ (z : Int) (v3 : Option V), σ' = [some (.ref a), some (.ref l), some (.int z), v3] ∧ H' = H ∧ ∀ (j : Nat), j ∈ ns.drop i → z < (j : Int))
      ⟨-1, none, rfl, rfl, fun j _ => by omega⟩ (fun i σ' H' _ ⟨_, _, _, e, _⟩ => by rw [e]; exact hl) ?_ ?_
    · rintro i x σ' H' hx ⟨z, v3, rfl, rfl, hz⟩
      obtain ⟨k, hki, rfl⟩ := nvs_of hx
      have hkm := hm k (List.mem_of_getElem? hki)
      have hd : ns.drop i = k :: ns.drop (i + 1) := by
        obtain ⟨hlt, e⟩ := List.getElem?_eq_some_iff.mp hki
        rw [List.drop_eq_getElem_cons hlt, e]
      have hzk := hz k (by rw [hd]; exact List.mem_cons_self)
      refine q_when (b := false) ((pt_orP (pt_test (pu_I0 (pu_var rfl) (pu_var rfl))) fun _ => pt_test (pu_I0 (pu_var rfl) (pu_lenT Wc hw (pu_var rfl)))).is ?_) (fun h => by cases h) (fun _ => ?_)
      · rw [decide_eq_false (show ¬ (k : Int) ≤ z by omega), decide_eq_false (show ¬ (ts.length : Int) ≤ (k : Int) by omega)]
        rfl
      · refine s_pu (pu_var rfl) ⟨k, _, rfl, rfl, fun j hj => ?_⟩
        have h1 : (ns.drop i).Pairwise (· < ·) := hs.sublist (List.drop_sublist i ns)
        rw [hd] at h1
        have := (List.pairwise_cons.mp h1).1 j hj
        omega
    · rintro σ' H' ⟨z, v3, rfl, rfl, _⟩
      exact q
/-! 0 web*, 1 some, 2 place*, 3 number -/
abbrev s_is_even : Stmt := topS 40
abbrev N_is_even : List Str := ["web", "some", "place", "number"]
theorem sc_is_even : FnScope N_is_even ["web", "some"] (defScope s_is_even) := ⟨rfl, rfl, rfl, by decide +kernel, rfl, by decide +kernel, by decide +kernel⟩
/-- a set of loops -/
def Loops (ts : List Tie) (is : List Nat) : Prop := is.Pairwise (· < ·) ∧ ∀ k ∈ is, k < ts.length ∧ (tieAt ts k).1 = (tieAt ts k).2
def sp_is_even (K : PySem.W.Frag) (C : Addr) : Sp := fun vs H Q _ => ∃ (a l : Addr) (n : Nat) (ts : List Tie) (is : List Nat), vs = [.ref a, .ref l] ∧ WebAt K C H a n ts ∧ H l = some (.lst (nvs is)) ∧ Loops ts is ∧ ∀ H2, Same H H2 → Q (.bl true) H2
theorem gv_cntT {σ : St} {H : Hp} {ta tb : TE} {r : Addr} {e : Tie} {x : Nat} (hp : PairAt K H r e) (ha : Pu ta σ H (.ref r)) (hb : Pu tb σ H (.int (x : Int))) : Gv (tBMT (rCntT K) ta (tCons tb tNil)) σ H (.int ((if e.1 = x then 1 else 0) + (if e.2 = x then 1 else 0))) := fun H1 s Q q => by
  obtain ⟨o, h1, h2⟩ := hp.mono s
  refine ha H1 s _ ⟨⟨r, o, _, rfl, h1, h2⟩, hb H1 s _ ⟨r, [(e.1 : Int), (e.2 : Int)], (x : Int), rfl, rfl, Same.seqT s hp.sq, ?_⟩⟩
  have h := q H1 (Same.refl _)
  rw [count_two]
  have e1 : (if (e.1 : Int) = (x : Int) then (1 : Int) else 0) = if e.1 = x then 1 else 0 := by
    by_cases c : e.1 = x
    · rw [if_pos c, if_pos (by omega)]
    · rw [if_neg c, if_neg (by omega)]
  have e2 : (if (e.2 : Int) = (x : Int) then (1 : Int) else 0) = if e.2 = x then 1 else 0 := by
    by_cases c : e.2 = x
    · rw [if_pos c, if_pos (by omega)]
    · rw [if_neg c, if_neg (by omega)]
  rw [e1, e2]
  exact h
theorem ok_is_even (F : Df K mg "is_even" ["web", "some"] s_is_even) (T : Bt mg) (Wc : WebC K C) (G_look_at_set : Gd P w K mg base 1 "look_at_set" ["web", "some"] (sp_look_at_set K C)) : Gd P w K mg base 2 "is_even" ["web", "some"] (sp_is_even K C) := by
  refine F.gd sc_is_even (fun vs H Q E h => ?_) (fun f cdv A outer s H vs Q E hr h => ?_)
  · obtain ⟨a, l, n, ts, is, rfl, _⟩ := h
    rfl
  · obtain ⟨a, l, n, ts, is, rfl, hw, hl, hL, q⟩ := h
    have hr_look_at_set := hr
    refine ⟨_, (pss_cons (ps_expr (pe_gd G_look_at_set hr_look_at_set (by rfl) (pa_cons (pv 0) (pa_cons (pv 1) pa_nil))))
      (pss_cons (ps_for PassesOwn.never rfl (pi_range1 rfl T.range (pa_cons (w_fld K (pv 0)) pa_nil)) (pg_name (i := 2) sc_is_even.nd rfl (Or.inr rfl))
        (pss_one (ps_if (pt_cmpR op_eq (pe_op op_mod (pe_callB (w_sum K rfl) (by rfl) T.sum (by decide +kernel) (pa_cons (pe_lc (own := [("number", 3)]) (g := gName 3) (by rfl) sc_is_even.nd (w_piL K (pv 1)) (blkOk_by (own := [("number", 3)]) (N := N_is_even) (sc := defScope s_is_even) (by decide +kernel)) (fun _ _ _ _ _ => (pg_name (i := 3) sc_is_even.nd rfl (Or.inl rfl))) (fun _ _ _ _ _ => pts_nil) (fun _ _ _ _ _ => (pe_bmT PySem.F.plainAttrs_tuple PySem.F.slot_tuple_count PySem.F.type_tuple_count (w_cntT K hr) (pe_ix (w_ixT K) (w_fld K (pv 0)) (pv 3) (fun _ _ => rfl)) (pa_cons (pv 2) pa_nil)))) pa_nil)) pe_int) pe_int (nomark _))
          (pss_one (ps_ret pe_bl))
          pss_nil)))
      (pss_one (ps_ret pe_bl)))), ?_⟩
    have hlen : is.length ≤ ts.length := nodup_len _ is (hL.1.imp fun h => Nat.ne_of_lt h) fun k hk => (hL.2 k hk).1
    have h40 := hw.ok.len
    have h20 := hw.ok.most
    refine q_gdDrop (pa1 (pu_var rfl) (pa1 (pu_var rfl) pa0)) ⟨a, l, n, ts, is, rfl, hw, SqL.of hl, hL.1, fun k hk => (hL.2 k hk).1, ?_⟩
    refine q_forR (n := n) (pa1 (pu_many Wc hw (pu_var rfl)) pa0) (by omega) (fun i σ' H' => ∃ (v2 : Option V), σ' = [some (.ref a), some (.ref l), v2, none] ∧ Same H H') ⟨none, rfl, Same.refl _⟩ ?_ ?_
    · rintro i σ' H' hi ⟨v2, rfl, s2⟩
      have hw2 := hw.mono s2
      have hl2 := s2 _ _ hl
      have hcmp : Nw (tLc (iList K (tVar 1)) (gName 3) tYes (tBMT (rCntT K) (tOp (rIxT K) (tFld K (tVar 0) "ties") (tVar 3)) (tCons (tVar 2) tNil)) [3]) [some (.ref a), some (.ref l), some (.int (i : Int)), none] H' (ivs (is.map fun k => (if (tieAt ts k).1 = i then 1 else 0) + (if (tieAt ts k).2 = i then 1 else 0))) := by
        refine (nw_lcL (K := K) (fun _ => true) (fun v => match v with | .int z => .int ((if (tieAt ts z.toNat).1 = i then 1 else 0) + (if (tieAt ts z.toNat).2 = i then 1 else 0)) | v => v) (Pu.ls (pu_var rfl) hl2) (by rw [nvs_len]; omega) (fun _ => rfl) (fun x hx => pt_yes.gt) (fun x hx _ => ?_)).is ?_
        · obtain ⟨k, hk, rfl⟩ := List.mem_map.mp hx
          obtain ⟨r, hpr, hp⟩ := pu_tie (tb := tVar 3) (σ := [some (.ref a), some (.ref l), some (.int (i : Int)), some (.int (k : Int))]) (ta := tVar 0) Wc hw2 (pu_var rfl) (pu_var rfl) (tieAt_get (hL.2 k hk).1)
          exact gv_cntT hpr hp (pu_var rfl)
        · rw [filter_all _ _ fun _ _ => rfl]
          show (is.map fun n : Nat => V.int (n : Int)).map _ = (is.map _).map V.int
          rw [List.map_map, List.map_map]
          rfl
      refine s_whenG (gt_test (gv_eqI (gv_I (gv_sum hcmp.ls) pu_c.gv (by decide)) pu_c.gv)) (fun hb => ?_) (fun _ H3 s3 => ⟨_, rfl, s2.trans s3⟩)
      have he := sum_even (is.map fun k => (if (tieAt ts k).1 = i then (1 : Int) else 0) + (if (tieAt ts k).2 = i then 1 else 0)) fun z hz => by
        obtain ⟨k, hk, rfl⟩ := List.mem_map.mp hz
        rw [(hL.2 k hk).2]
        by_cases c : (tieAt ts k).2 = i
        · rw [if_pos c]; rfl
        · rw [if_neg c]; rfl
      rw [he] at hb
      exact absurd hb (by decide)
    · rintro σ' H' ⟨v2, rfl, s2⟩
      exact s_ret pu_c (q H' s2)
/-! 0 web, 1 some, 2 rest, 3 found, 4 ring*, 5 number -/
abbrev s_even_flow : Stmt := topS 41
abbrev N_even_flow : List Str := ["web", "some", "rest", "found", "ring", "number"]
theorem sc_even_flow : FnScope N_even_flow ["web", "some"] (defScope s_even_flow) := ⟨rfl, rfl, rfl, by decide +kernel, rfl, by decide +kernel, by decide +kernel⟩
def sp_even_flow (K : PySem.W.Frag) (C : Addr) : Sp := fun vs H Q _ => ∃ (a l : Addr) (n : Nat) (ts : List Tie) (is : List Nat), vs = [.ref a, .ref l] ∧ WebAt K C H a n ts ∧ H l = some (.lst (nvs is)) ∧ Loops ts is ∧
  ∀ fl r H2, fl.length = ts.length → (∀ k, k < ts.length → fl[k]? = some (if k ∈ is then 1 else 0)) → H r = none → Same H H2 → H2 r = some (.lst (ivs fl)) → Q (.ref r) H2
theorem ok_even_flow (F : Df K mg "even_flow" ["web", "some"] s_even_flow) (T : Bt mg) (Wc : WebC K C) (G_is_even : Gd P w K mg base 2 "is_even" ["web", "some"] (sp_is_even K C)) (G_ring_by : Gd P w K mg base 2 "ring_by" ["web", "some", "tie"] (sp_ring_by K C))
    (G_added : Gd P w K mg base 1 "added" ["one", "two"] (sp_added K)) : Gd P w K mg base 3 "even_flow" ["web", "some"] (sp_even_flow K C) := by
  refine F.gd sc_even_flow (fun vs H Q E h => ?_) (fun f cdv A outer s H vs Q E hr h => ?_)
  · obtain ⟨a, l, n, ts, is, rfl, _⟩ := h
    rfl
  · obtain ⟨a, l, n, ts, is, rfl, hw, hl, hL, q⟩ := h
    have hr_is_even := hr
    have hr_ring_by := hr
    have hr_added := hr.mono (j := 1) (by decide)
    refine ⟨_, (pss_cons (ps_if (pt_not (pt_val (pe_gd G_is_even hr_is_even (by rfl) (pa_cons (pv 0) (pa_cons (pv 1) pa_nil)))))
        (pss_one ps_never)
        pss_nil)
      (pss_cons (ps_set (i := 2) sc_even_flow.nd rfl (Or.inl rfl) (pe_callTy (w_listOf K) (by rfl) T.list (by decide +kernel) (pa_cons (pv 1) pa_nil)))
      (pss_cons (ps_set (i := 3) sc_even_flow.nd rfl (Or.inl rfl) (pe_op op_rep (pe_lst (pa_cons pe_int pa_nil)) (pe_callB (w_len K) (by rfl) T.len PySem.boot_len (pa_cons (w_fld K (pv 0)) pa_nil))))
      (pss_cons (ps_while PassesOwn.never (pt_cmpR op_gt (pe_callB (w_len K) (by rfl) T.len PySem.boot_len (pa_cons (pv 2) pa_nil)) pe_int (nomark _))
        (pss_cons (ps_set (i := 4) sc_even_flow.nd rfl (Or.inr rfl) (pe_gd G_ring_by hr_ring_by (by rfl) (pa_cons (pv 0) (pa_cons (pv 2) (pa_cons (pe_ix (w_ixL K) (pv 2) pe_int (fun _ _ => rfl)) pa_nil)))))
        (pss_cons (ps_set (i := 3) sc_even_flow.nd rfl (Or.inl rfl) (pe_gd G_added hr_added (by rfl) (pa_cons (pv 3) (pa_cons (pv 4) pa_nil))))
        (pss_one (ps_setLc (i := 2) (own := [("number", 5)]) (g := gName 5)  rfl sc_even_flow.nd rfl rfl (sw_true rfl rfl rfl (by decide +kernel)) (w_piL K (pv 2)) (blkOk_by (own := [("number", 5)]) (N := N_even_flow) (sc := defScope s_even_flow) (by decide +kernel)) (fun _ _ _ _ _ => (pg_name (i := 5) sc_even_flow.nd rfl (Or.inl rfl))) (fun _ _ _ _ _ => pts_one (pt_cmpR op_eq (pe_ix (w_ixL K) (pv 4) (pv 5) (fun _ _ => rfl)) pe_int (nomark _))) (fun _ _ _ _ _ => (pv 5)))))))
      (pss_one (ps_ret (pv 3))))))), ?_⟩
    have hnd : is.Nodup := hL.1.imp fun h => Nat.ne_of_lt h
    have hlen : is.length ≤ ts.length := nodup_len _ is hnd fun k hk => (hL.2 k hk).1
    have h40 := hw.ok.len
    refine q_whenG (b := false) ((gt_not (gt_B (gv_gd (sp := sp_is_even K C) (v := .bl true) (pa1 (pu_var rfl) (pa1 (pu_var rfl) pa0)) fun H1 s1 Q2 q2 => ⟨a, l, n, ts, is, rfl, hw.mono s1, s1 _ _ hl, hL, q2⟩))).is rfl) (fun hc => by cases hc) (fun _ H1 s1 => ?_)
    refine q_nw (nw_list (K := K) (Pu.ls (pu_var rfl) (s1 _ _ hl))) fun ro H2 f2 s2 e2 => ?_
    have s12 := s1.trans s2
    refine q_nw (nw_rep (pu_lenT Wc (hw.mono s12) (pu_var rfl)) (by omega)) fun fo H3 f3 s3 e3 => ?_
    have s13 := s12.trans s3
    refine q_while (fun m σ' H' => ∃ (j : Nat) (fl : List Int) (ro fo : Addr) (v4 v5 : Option V), σ' = [some (.ref a), some (.ref l), some (.ref ro), some (.ref fo), v4, none] ∧ Same H H' ∧ H ro = none ∧ H fo = none ∧ H' ro = some (.lst (nvs (is.drop j))) ∧ H' fo = some (.lst (ivs fl)) ∧ j ≤ is.length ∧
        fl.length = ts.length ∧ (∀ k, k < ts.length → fl[k]? = some (if k ∈ is.take j then 1 else 0)) ∧ m = is.length - j) is.length
      ⟨0, _, ro, fo, none, none, rfl, s13, s1.free f2, s12.free f3, s3 _ _ e2, e3, Nat.zero_le _, List.length_replicate, fun k hk => by simp [hk], rfl⟩ ?_
    rintro m σ' H' ⟨j, fl, ro, fo, v4, v5, rfl, s4, fr, ff, e4, e5, hj, hfl, hv, rfl⟩
    refine ⟨_, pt_test (pu_I0 (pu_lenN (SqL.of e4) (pu_var rfl)) pu_c), fun hb => ?_, fun hb => ?_⟩
    · have hlt : j < is.length := by
        have := of_decide_eq_true hb
        rw [List.length_drop] at this
        omega
      obtain ⟨t, htj⟩ : ∃ t, is[j]? = some t := ⟨_, List.getElem?_eq_getElem hlt⟩
      have hd : is.drop j = t :: is.drop (j + 1) := by
        obtain ⟨hlt, e⟩ := List.getElem?_eq_some_iff.mp htj
        rw [List.drop_eq_getElem_cons hlt, e]
      have htm : t ∈ is := List.mem_of_getElem? htj
      obtain ⟨htl, hte⟩ := hL.2 t htm
      have hdm : ∀ k ∈ is.drop j, k ∈ is := fun k hk => List.mem_of_mem_drop hk
      have hdl : (is.drop j).length ≤ 1000 := by rw [List.length_drop]; omega
      refine q_gd (pa1 (pu_var rfl) (pa1 (pu_var rfl) (pa1 (pu_ixN (SqL.of e4) (pu_var rfl) (pu_c (v := .int ((0 : Nat) : Int))) (by rw [hd]; rfl)) pa0)))
        ⟨a, ro, n, t, ts, is.drop j, rfl, hw.mono s4, e4, hdl, fun k hk => (hL.2 k (hdm k hk)).1, htl, by rw [hte]; exact Rch.refl _ _, fun rg gr H5 R hz f5 s5 e6 => ?_⟩
      have s45 := s4.trans s5
      have e5' := s5 _ _ e5
      refine q_gd (pa1 (pu_var rfl) (pa1 (pu_var rfl) pa0)) ⟨fo, gr, fl, rg, rfl, SqL.of e5', SqL.of e6, by rw [hfl, R.len], by omega, fun fo2 H6 f6 s6 e7 => ?_⟩
      have s46 := s45.trans s6
      have e4' := s6 _ _ (s5 _ _ e4)
      have e6' := s6 _ _ e6
      refine s_nw (nw_lcN (K := K) (fun k => decide (rg.getD k 0 = 0)) (Pu.ls (pu_var rfl) e4') (by omega) (fun _ => rfl) (fun k hk => (pt_test (pu_eqI (pu_ixI (SqL.of e6') (pu_var rfl) (pu_var rfl) (get_getD (by rw [R.len]; exact (hL.2 k (hdm k hk)).1))) pu_c)).gt) (fun k _ _ => (pu_var rfl).gv)) fun ro2 H7 f7 s7 e8 => ?_
      have hnt : ∀ k, k < ts.length → k ≠ t → rg[k]? = some 0 := hz hte
      have hfil : (is.drop j).filter (fun k => decide (rg.getD k 0 = 0)) = is.drop (j + 1) := by
        rw [hd]
        have h1 : rg.getD t 0 = 1 := getD_of R.one
        rw [List.filter_cons_of_neg (by rw [h1]; decide)]
        refine List.filter_eq_self.mpr fun k hk => ?_
        have hk2 : k ∈ is := List.mem_of_mem_drop hk
        have hkt : k ≠ t := by
          have h2 : (is.drop j).Nodup := hnd.sublist (List.drop_sublist j is)
          rw [hd] at h2
          exact fun z => (List.nodup_cons.mp h2).1 (z ▸ hk)
        rw [getD_of (hnt k (hL.2 k hk2).1 hkt)]
        rfl
      rw [hfil] at e8
      refine ⟨is.length - (j + 1), by omega, j + 1, addL fl rg, ro2, fo2, _, none, rfl, s46.trans s7, s46.free f7, s45.free f6, e8, s7 _ _ e7, hlt, by rw [addL_len]; exact hfl, fun k hk => ?_, rfl⟩
      have hvk := hv k hk
      by_cases hkt : k = t
      · subst hkt
        rw [addL_get hvk R.one]
        have h1 : k ∉ is.take j := nd_take hnd htj (Nat.le_refl _)
        have h2 : k ∈ is.take (j + 1) := by rw [take_next htj]; exact List.mem_append_right _ (List.mem_singleton.mpr rfl)
        rw [if_neg h1, if_pos h2]
        rfl
      · rw [addL_get hvk (hnt k hk hkt)]
        have h2 : k ∈ is.take (j + 1) ↔ k ∈ is.take j := by
          rw [take_next htj, List.mem_append, List.mem_singleton]
          exact ⟨fun z => z.resolve_right hkt, .inl⟩
        by_cases c : k ∈ is.take j
        · rw [if_pos c, if_pos (h2.mpr c)]
          rfl
        · rw [if_neg c, if_neg fun z => c (h2.mp z)]
          rfl
    · have hj2 : j = is.length := by
        have := of_decide_eq_false hb
        rw [List.length_drop] at this
        omega
      subst hj2
      refine s_ret (pu_var rfl) (q fl fo H' hfl (fun k hk => ?_) ff s4 e5)
      have := hv k hk
      rw [List.take_length] at this
      exact this
end
end Bz

set_option Elab.async false
set_option linter.all false
set_option maxRecDepth 100000
set_option maxHeartbeats 4000000
namespace Bz
open PySem PySem.Spec L2
section
variable {P : Program} {w : World} {K : PySem.W.Frag} {mg : Str → Option Value} {base : Heap} {C : Addr}
/-! 0 k -/
abbrev s_look_at_rest : Stmt := topS 44
abbrev N_look_at_rest : List Str := ["k"]
theorem sc_look_at_rest : FnScope N_look_at_rest ["k"] (defScope s_look_at_rest) := ⟨rfl, rfl, rfl, by decide +kernel, rfl, by decide +kernel, by decide +kernel⟩
def sp_look_at_rest : Sp := fun vs H Q _ => vs = [.int 3] ∧ Q .non H
theorem ok_look_at_rest (F : Df K mg "look_at_rest" ["k"] s_look_at_rest) (T : Bt mg) : Gd P w K mg base 1 "look_at_rest" ["k"] sp_look_at_rest := by
  refine F.gd sc_look_at_rest (fun vs H Q E h => ?_) (fun f cdv A outer s H vs Q E hr h => ?_)
  · obtain ⟨rfl, _⟩ := h
    rfl
  · obtain ⟨rfl, q⟩ := h
    refine ⟨_, (pss_one (ps_if (PW.pt (pw_or (pt_cmpR op_lt (pv 0) pe_int (nomark _)) (pw_or1 (pt_cmpR op_gt (pv 0) (pe_mi T.MOST_REST) (nomark _)))))
        (pss_one ps_never)
        pss_nil)), ?_⟩
    exact s_when (b := false) ((pt_orP (pt_test (pu_I0 (pu_var rfl) pu_c)) fun _ => pt_test (pu_I0 (pu_var rfl) pu_c)).is (by decide)) (fun h => by cases h) (fun _ => q)
/-! 0 numbers, 1 many -/
abbrev s_look_at_count : Stmt := topS 45
abbrev N_look_at_count : List Str := ["numbers", "many"]
theorem sc_look_at_count : FnScope N_look_at_count ["numbers", "many"] (defScope s_look_at_count) := ⟨rfl, rfl, rfl, by decide +kernel, rfl, by decide +kernel, by decide +kernel⟩
def sp_look_at_count (K : PySem.W.Frag) : Sp := fun vs H Q _ => ∃ (l : Addr) (xs : List V) (m : Nat), vs = [.ref l, .int (m : Int)] ∧ SqL K H l xs ∧ xs.length = m ∧ Q .non H
theorem ok_look_at_count (F : Df K mg "look_at_count" ["numbers", "many"] s_look_at_count) (T : Bt mg) : Gd P w K mg base 1 "look_at_count" ["numbers", "many"] (sp_look_at_count K) := by
  refine F.gd sc_look_at_count (fun vs H Q E h => ?_) (fun f cdv A outer s H vs Q E hr h => ?_)
  · obtain ⟨l, xs, m, rfl, _⟩ := h
    rfl
  · obtain ⟨l, xs, m, rfl, hl, hm, q⟩ := h
    refine ⟨_, (pss_one (ps_if (pt_cmpR op_ne (pe_callB (w_len K) (by rfl) T.len PySem.boot_len (pa_cons (pv 0) pa_nil)) (pv 1) (nomark _))
        (pss_one ps_never)
        pss_nil)), ?_⟩
    exact s_when (b := false) ((pt_test (pu_neI (pu_len hl (pu_var rfl)) (pu_var rfl))).is (by rw [hm]; simp)) (fun h => by cases h) (fun _ => q)
/-! 0 amounts, 1 k*, 2 amount -/
abbrev s_rests_of : Stmt := topS 46
abbrev N_rests_of : List Str := ["amounts", "k", "amount"]
theorem sc_rests_of : FnScope N_rests_of ["amounts", "k"] (defScope s_rests_of) := ⟨rfl, rfl, rfl, by decide +kernel, rfl, by decide +kernel, by decide +kernel⟩
def sp_rests_of (K : PySem.W.Frag) : Sp := fun vs H Q _ => ∃ (l : Addr) (a : List Int), vs = [.ref l, .int 3] ∧ SqL K H l (ivs a) ∧ a.length ≤ 1000 ∧ ∀ r H2, H r = none → Same H H2 → H2 r = some (.lst (ivs (a.map fun x => x % 3))) → Q (.ref r) H2
theorem ok_rests_of (F : Df K mg "rests_of" ["amounts", "k"] s_rests_of) (T : Bt mg) (G_look_at_rest : Gd P w K mg base 1 "look_at_rest" ["k"] sp_look_at_rest) : Gd P w K mg base 2 "rests_of" ["amounts", "k"] (sp_rests_of K) := by
  refine F.gd sc_rests_of (fun vs H Q E h => ?_) (fun f cdv A outer s H vs Q E hr h => ?_)
  · obtain ⟨l, a, rfl, _⟩ := h
    rfl
  · obtain ⟨l, a, rfl, ha, hz, q⟩ := h
    have hr_look_at_rest := hr
    refine ⟨_, (pss_cons (ps_expr (pe_gd G_look_at_rest hr_look_at_rest (by rfl) (pa_cons (pv 1) pa_nil)))
      (pss_one (ps_ret (pe_lc (own := [("amount", 2)]) (g := gName 2) (by rfl) sc_rests_of.nd (w_piL K (pv 0)) (blkOk_by (own := [("amount", 2)]) (N := N_rests_of) (sc := defScope s_rests_of) (by decide +kernel)) (fun _ _ _ _ _ => (pg_name (i := 2) sc_rests_of.nd rfl (Or.inl rfl))) (fun _ _ _ _ _ => pts_nil) (fun _ _ _ _ _ => (pe_op op_mod (pv 2) (pv 1))))))), ?_⟩
    refine q_gdDrop (pa1 (pu_var rfl) pa0) ⟨rfl, ?_⟩
    refine s_retN ((nw_lcI (K := K) (fun _ => true) (fun x => .int (x % 3)) (pu_var rfl) ha (by omega) (fun _ => rfl) (fun k _ => pt_yes.gt) (fun k _ _ => (pu_I (pu_var rfl) (pu_var rfl) (by decide)).gv)).is (ys := ivs (a.map fun x => x % 3)) ?_) q
    rw [filter_all _ _ fun _ _ => rfl]
    show _ = (a.map _).map V.int
    rw [List.map_map]
    rfl
/-! 0 web, 1 amounts, 2 gains, 3 one, 4 two, 5 amount -/
abbrev s_gains_of : Stmt := topS 47
abbrev N_gains_of : List Str := ["web", "amounts", "gains", "one", "two", "amount"]
theorem sc_gains_of : FnScope N_gains_of ["web", "amounts"] (defScope s_gains_of) := ⟨rfl, rfl, rfl, by decide +kernel, rfl, by decide +kernel, by decide +kernel⟩
def sp_gains_of (K : PySem.W.Frag) (C : Addr) : Sp := fun vs H Q _ => ∃ (a l : Addr) (n : Nat) (ts : List Tie) (as : List Int), vs = [.ref a, .ref l] ∧ WebAt K C H a n ts ∧ SqL K H l (ivs as) ∧ as.length = ts.length ∧
  ∀ g r H2, g.length = n → (∀ x, x < n → g[x]? = some (gain ts as x)) → H r = none → Same H H2 → H2 r = some (.lst (ivs g)) → Q (.ref r) H2
theorem ok_gains_of (F : Df K mg "gains_of" ["web", "amounts"] s_gains_of) (T : Bt mg) (Wc : WebC K C) : Gd P w K mg base 1 "gains_of" ["web", "amounts"] (sp_gains_of K C) := by
  refine F.gd sc_gains_of (fun vs H Q E h => ?_) (fun f cdv A outer s H vs Q E hr h => ?_)
  · obtain ⟨a, l, n, ts, as, rfl, _⟩ := h
    rfl
  · obtain ⟨a, l, n, ts, as, rfl, hw, hl, hlen, q⟩ := h
    refine ⟨_, (pss_cons (ps_set (i := 2) sc_gains_of.nd rfl (Or.inl rfl) (pe_op op_rep (pe_lst (pa_cons pe_int pa_nil)) (w_fld K (pv 0))))
      (pss_cons (ps_for PassesOwn.never rfl (w_zipTL K T.zip (pa_cons (w_fld K (pv 0)) (pa_cons (pv 1) pa_nil))) (w_pgTup K rfl (pgs_cons (w_pgTup K rfl (pgs_cons (pg_name (i := 3) sc_gains_of.nd rfl (Or.inl rfl)) (pgs_cons (pg_name (i := 4) sc_gains_of.nd rfl (Or.inl rfl)) pgs_nil))) (pgs_cons (pg_name (i := 5) sc_gains_of.nd rfl (Or.inl rfl)) pgs_nil)))
        (pss_cons (ps_augS (pv 2) (pv 3) (w_getL K) (pv 5) ip_sub set_list)
        (pss_one (ps_augS (pv 2) (pv 4) (w_getL K) (pv 5) ip_add set_list))))
      (pss_one (ps_ret (pv 2))))), ?_⟩
    have hV := hw.ok
    have h20 := hV.most
    refine q_nw (nw_rep (pu_many Wc hw (pu_var rfl)) (by omega)) fun go H1 f1 s1 e1 => ?_
    refine q_forZ Wc hw s1 (pu_var rfl) (pu_var rfl) hl hlen (fun i σ' H' => ∃ (g : List Int) (v3 v4 v5 : Option V), σ' = [some (.ref a), some (.ref l), some (.ref go), v3, v4, v5] ∧ Same H H' ∧ H' go = some (.lst (ivs g)) ∧ Gains ts as n i g)
      ⟨_, none, none, none, rfl, s1, e1, Gains.start ts as n⟩ (fun i σ' H' _ ⟨_, _, _, _, _, s, _⟩ => s) ?_ ?_
    · rintro i e x σ' H' H2 he hx ⟨g, v3, v4, v5, rfl, s2, e2, R⟩ s3
      have s4 := s2.trans s3
      have e3 := s3 _ _ e2
      have ee := tieAt_of he
      have hv := hV.at he
      have g1 : g[e.1]? = some (g.getD e.1 0) := get_getD (by rw [R.1]; exact hv.1)
      have g2 : (g.set e.1 (g.getD e.1 0 - x))[e.2]? = some ((g.set e.1 (g.getD e.1 0 - x)).getD e.2 0) := get_getD (by rw [List.length_set, R.1]; exact hv.2)
      refine q_augL (pu_var rfl) e3 (pu_var rfl) (ivs_get g1) (pu_var rfl) ?_
      rw [ivs_set]
      refine s_augL (pu_var rfl) upd_same (pu_var rfl) (ivs_get g2) (pu_var rfl) ?_
      rw [ivs_set, upd_upd]
      refine ⟨_, _, _, _, rfl, Same.mut s4 f1, upd_same, ?_⟩
      have R2 := R.step (c := g.getD e.1 0) (d := (g.set e.1 (g.getD e.1 0 - x)).getD e.2 0) hlen hx (by rw [ee]; exact hv) (by rw [ee]; exact g1) (by rw [ee]; exact g2)
      rw [ee] at R2
      exact R2
    · rintro σ' H' ⟨g, v3, v4, v5, rfl, s2, e2, R⟩
      exact s_ret (pu_var rfl) (q g go H' R.1 (R.all hlen) f1 s2 e2)
/-! 0 web, 1 rests, 2 k, 3 rest, 4 gain -/
abbrev s_is_rest_flow : Stmt := topS 48
abbrev N_is_rest_flow : List Str := ["web", "rests", "k", "rest", "gain"]
theorem sc_is_rest_flow : FnScope N_is_rest_flow ["web", "rests", "k"] (defScope s_is_rest_flow) := ⟨rfl, rfl, rfl, by decide +kernel, rfl, by decide +kernel, by decide +kernel⟩
/-- rests of a flow by 3 -/
structure RestFlow (ts : List Tie) (n : Nat) (as : List Int) : Prop where
  len : as.length = ts.length
  rng : ∀ a ∈ as, 0 ≤ a ∧ a < 3
  g : ∀ x, x < n → gain ts as x % 3 = 0
def sp_is_rest_flow (K : PySem.W.Frag) (C : Addr) : Sp := fun vs H Q _ => ∃ (a l : Addr) (n : Nat) (ts : List Tie) (as : List Int), vs = [.ref a, .ref l, .int 3] ∧ WebAt K C H a n ts ∧ SqL K H l (ivs as) ∧ RestFlow ts n as ∧ ∀ H2, Same H H2 → Q (.bl true) H2
theorem ok_is_rest_flow (F : Df K mg "is_rest_flow" ["web", "rests", "k"] s_is_rest_flow) (T : Bt mg) (Wc : WebC K C) (G_look_at_rest : Gd P w K mg base 1 "look_at_rest" ["k"] sp_look_at_rest) (G_look_at_count : Gd P w K mg base 1 "look_at_count" ["numbers", "many"] (sp_look_at_count K))
    (G_gains_of : Gd P w K mg base 1 "gains_of" ["web", "amounts"] (sp_gains_of K C)) : Gd P w K mg base 2 "is_rest_flow" ["web", "rests", "k"] (sp_is_rest_flow K C) := by
  refine F.gd sc_is_rest_flow (fun vs H Q E h => ?_) (fun f cdv A outer s H vs Q E hr h => ?_)
  · obtain ⟨a, l, n, ts, as, rfl, _⟩ := h
    rfl
  · obtain ⟨a, l, n, ts, as, rfl, hw, hl, hR, q⟩ := h
    have hr_look_at_rest := hr
    have hr_look_at_count := hr
    have hr_gains_of := hr
    refine ⟨_, (pss_cons (ps_expr (pe_gd G_look_at_rest hr_look_at_rest (by rfl) (pa_cons (pv 2) pa_nil)))
      (pss_cons (ps_expr (pe_gd G_look_at_count hr_look_at_count (by rfl) (pa_cons (pv 1) (pa_cons (pe_callB (w_len K) (by rfl) T.len PySem.boot_len (pa_cons (w_fld K (pv 0)) pa_nil)) pa_nil))))
      (pss_cons (ps_for PassesOwn.never rfl (w_piL K (pv 1)) (pg_name (i := 3) sc_is_rest_flow.nd rfl (Or.inl rfl))
        (pss_one (ps_if (PW.pt (pw_or (pt_cmpR op_lt (pv 3) pe_int (nomark _)) (pw_or1 (pt_cmpR op_ge (pv 3) (pv 2) (nomark _)))))
          (pss_one (ps_ret pe_bl))
          pss_nil)))
      (pss_cons (ps_for PassesOwn.never rfl (w_piL K (pe_gd G_gains_of hr_gains_of (by rfl) (pa_cons (pv 0) (pa_cons (pv 1) pa_nil)))) (pg_name (i := 4) sc_is_rest_flow.nd rfl (Or.inl rfl))
        (pss_one (ps_if (pt_cmpR op_ne (pe_op op_mod (pv 4) (pv 2)) pe_int (nomark _))
          (pss_one (ps_ret pe_bl))
          pss_nil)))
      (pss_one (ps_ret pe_bl)))))), ?_⟩
    refine q_gdDrop (pa1 (pu_var rfl) pa0) ⟨rfl, ?_⟩
    refine q_gdDrop (pa1 (pu_var rfl) (pa1 (pu_lenT Wc hw (pu_var rfl)) pa0)) ⟨l, ivs as, ts.length, rfl, hl, by rw [ivs_len]; exact hR.len, ?_⟩
    refine q_forL (pu_var rfl) hl (fun i σ' H' => ∃ (v3 : Option V), σ' = [some (.ref a), some (.ref l), some (.int 3), v3, none] ∧ H' = H) ⟨none, rfl, rfl⟩ (fun i σ' H' _ ⟨_, _, e⟩ => by rw [e]; exact hl) ?_ ?_
    · rintro i x σ' H' hx ⟨v3, rfl, rfl⟩
      obtain ⟨z, hz, rfl⟩ := ivs_of hx
      have hzr := hR.rng z (List.mem_of_getElem? hz)
      refine s_when (b := false) ((pt_orP (pt_test (pu_I0 (pu_var rfl) pu_c)) fun _ => pt_test (pu_I0 (pu_var rfl) (pu_var rfl))).is ?_) (fun h => by cases h) (fun _ => ⟨_, rfl, rfl⟩)
      rw [decide_eq_false (show ¬ z < 0 by omega), decide_eq_false (show ¬ (3 : Int) ≤ z by omega)]
      rfl
    · rintro σ' H' ⟨v3, rfl, rfl⟩
      refine q_forLs (xs := ivs ((List.range n).map fun x => gain ts as x)) (fun H1 s1 Q2 k => ?_) fun go H1 s1 e1 => ?_
      · refine (pa1 (pu_var (i := 0) rfl) (pa1 (pu_var (i := 1) rfl) pa0)) H1 s1 _ ⟨a, l, n, ts, as, rfl, hw.mono s1, s1.seq hl, hR.len, fun g r H2 hg hgx f2 s2 e2 => ?_⟩
        refine k r H2 s2 ?_
        have eg : g = (List.range n).map fun x => gain ts as x := by
          refine List.ext_getElem? fun x => ?_
          by_cases hx : x < n
          · rw [hgx x hx, List.getElem?_map, List.getElem?_range hx]
            rfl
          · rw [List.getElem?_eq_none_iff.mpr (by omega), List.getElem?_eq_none_iff.mpr (by rw [List.length_map, List.length_range]; omega)]
        rw [← eg]
        exact e2
      · refine ⟨fun i σ' H2 => ∃ (v4 : Option V), σ' = [some (.ref a), some (.ref l), some (.int 3), v3, v4] ∧ Same H' H2 ∧ H2 go = some (.lst (ivs ((List.range n).map fun x => gain ts as x))), ⟨none, rfl, s1, e1⟩, fun i σ' H2 _ ⟨_, _, _, e⟩ => e, ?_, ?_⟩
        · rintro i x σ' H2 hx ⟨v4, rfl, s2, e2⟩
          obtain ⟨z, hz, rfl⟩ := ivs_of hx
          obtain ⟨y, hy, rfl⟩ := List.mem_map.mp (List.mem_of_getElem? hz)
          refine s_when (b := false) ((pt_test (pu_neI (pu_I (pu_var rfl) (pu_var rfl) (by decide)) pu_c)).is ?_) (fun h => by cases h) (fun _ => ⟨_, rfl, s2, e2⟩)
          rw [hR.g y (List.mem_range.mp hy)]
          rfl
        · rintro σ' H2 ⟨v4, rfl, s2, e2⟩
          exact s_ret pu_c (q H2 s2)
end
end Bz

set_option Elab.async false
set_option linter.all false
set_option maxHeartbeats 4000000
namespace Bz
/-! ### the places hung to the forest, from the first on -/
structure HCore (ts : List Tie) (F : List Nat) (n : Nat) (S : List Nat) (G : List Ent) : Prop where
  nd : S.Nodup
  lt : ∀ y ∈ S, y < n
  pn : (G.map (·.1)).Nodup
  ps : ∀ l ∈ G, l.1 ∈ S ∧ l.2.1 ∈ S ∧ l.2.2 ∈ F ∧ (((tieAt ts l.2.2).1 = l.1 ∧ (tieAt ts l.2.2).2 = l.2.1) ∨ ((tieAt ts l.2.2).2 = l.1 ∧ (tieAt ts l.2.2).1 = l.2.1))
  ord : ∀ (i j : Nat) (l m : Ent), i ≤ j → G[i]? = some l → G[j]? = some m → l.2.1 ≠ m.1
  root : ∀ x y, x ∈ S → y ∈ S → x ∉ G.map (·.1) → y ∉ G.map (·.1) → Rch (sub ts F) x y → x = y
def HSh (ts : List Tie) (F S : List Nat) (ex : Nat → Prop) : Prop := ∀ y ∈ S, ¬ ex y → ∀ k ∈ F, Shut S (tieAt ts k) y
theorem HCore.start (ts : List Tie) (F : List Nat) (n : Nat) : HCore ts F n [] [] :=
  ⟨List.Pairwise.nil, fun y hy => absurd hy List.not_mem_nil, List.Pairwise.nil, fun y hy => absurd hy List.not_mem_nil, fun i j l m _ h => by simp at h, fun x y hx => absurd hx List.not_mem_nil⟩
theorem snoc_get {α : Type} {l : List α} {x y : α} {i : Nat} (h : (l ++ [x])[i]? = some y) : (i < l.length ∧ l[i]? = some y) ∨ (i = l.length ∧ y = x) := by
  by_cases hi : i < l.length
  · rw [List.getElem?_append_left hi] at h
    exact .inl ⟨hi, h⟩
  · rw [List.getElem?_append_right (Nat.le_of_not_lt hi)] at h
    have h0 : i - l.length = 0 := by
      have := (List.getElem?_eq_some_iff.mp h).1
      simp at this
      omega
    rw [h0] at h
    exact .inr ⟨by omega, (Option.some.inj h).symm⟩
theorem HCore.add {ts : List Tie} {F S : List Nat} {n x y k : Nat} {G : List Ent} (R : HCore ts F n S G) (hx : x ∈ S) (hy : y ∉ S) (hyn : y < n) (hk : k ∈ F) (hj : ((tieAt ts k).1 = y ∧ (tieAt ts k).2 = x) ∨ ((tieAt ts k).2 = y ∧ (tieAt ts k).1 = x)) :
    HCore ts F n (S ++ [y]) (G ++ [(y, x, k)]) := by
  have up : ∀ z ∈ S, z ∈ S ++ [y] := fun z hz => List.mem_append_left _ hz
  have hyG : y ∉ G.map (·.1) := fun h => by
    obtain ⟨l, hl, e⟩ := List.mem_map.mp h
    exact hy (e ▸ (R.ps l hl).1)
  refine ⟨nodup_snoc R.nd hy, fun z hz => ?_, ?_, fun l hl => ?_, fun i j l m hij hi hj2 => ?_, fun a b ha hb na nb hr => ?_⟩
  · rcases List.mem_append.mp hz with q | q
    · exact R.lt z q
    · rw [List.mem_singleton.mp q]; exact hyn
  · rw [List.map_append]
    exact nodup_snoc R.pn hyG
  · rcases List.mem_append.mp hl with q | q
    · obtain ⟨a, b, c⟩ := R.ps l q
      exact ⟨up _ a, up _ b, c⟩
    · rw [List.mem_singleton.mp q]
      exact ⟨List.mem_append_right _ (List.mem_singleton.mpr rfl), up _ hx, hk, hj⟩
  · rcases snoc_get hj2 with ⟨h1, h2⟩ | ⟨h1, h2⟩
    · rcases snoc_get hi with ⟨h3, h4⟩ | ⟨h3, h4⟩
      · exact R.ord i j l m hij h4 h2
      · omega
    · subst h2
      rcases snoc_get hi with ⟨h3, h4⟩ | ⟨h3, h4⟩
      · intro e
        have e' : l.2.1 = y := e
        exact hy (by rw [← e']; exact (R.ps l (List.mem_of_getElem? h4)).2.1)
      · subst h4
        intro e
        have e' : x = y := e
        exact hy (by rw [← e']; exact hx)
  · rw [List.map_append] at na nb
    have aS : a ∈ S := (List.mem_append.mp ha).resolve_right fun q => na (List.mem_append_right _ (by rw [List.mem_singleton.mp q]; exact List.mem_singleton.mpr rfl))
    have bS : b ∈ S := (List.mem_append.mp hb).resolve_right fun q => nb (List.mem_append_right _ (by rw [List.mem_singleton.mp q]; exact List.mem_singleton.mpr rfl))
    exact R.root a b aS bS (fun q => na (List.mem_append_left _ q)) (fun q => nb (List.mem_append_left _ q)) hr
theorem HSh.cl {ts : List Tie} {F S : List Nat} (h : HSh ts F S fun _ => False) : Cl (sub ts F) fun y => y ∈ S := fun e he => by
  obtain ⟨k, hk, rfl⟩ := mem_sub.mp he
  exact ⟨fun q => (h _ q id k hk).1 rfl, fun q => (h _ q id k hk).2 rfl⟩
theorem HCore.rootAdd {ts : List Tie} {F S : List Nat} {n y : Nat} {G : List Ent} (R : HCore ts F n S G) (hc : HSh ts F S fun _ => False) (hy : y ∉ S) (hyn : y < n) : HCore ts F n (S ++ [y]) G := by
  have up : ∀ z ∈ S, z ∈ S ++ [y] := fun z hz => List.mem_append_left _ hz
  refine ⟨nodup_snoc R.nd hy, fun z hz => ?_, R.pn, fun l hl => ?_, R.ord, fun a b ha hb na nb hr => ?_⟩
  · rcases List.mem_append.mp hz with q | q
    · exact R.lt z q
    · rw [List.mem_singleton.mp q]; exact hyn
  · obtain ⟨a, b, c⟩ := R.ps l hl
    exact ⟨up _ a, up _ b, c⟩
  · rcases List.mem_append.mp ha with q | q
    · rcases List.mem_append.mp hb with r | r
      · exact R.root a b q r na nb hr
      · rw [List.mem_singleton.mp r] at hr
        exact absurd (hr _ hc.cl q) hy
    · rcases List.mem_append.mp hb with r | r
      · rw [List.mem_singleton.mp q] at hr
        exact absurd (hr.symm _ hc.cl r) hy
      · rw [List.mem_singleton.mp q, List.mem_singleton.mp r]
theorem HSh.mono {ts : List Tie} {F S : List Nat} {ex ex' : Nat → Prop} {y : Nat} (h : HSh ts F S ex) (he : ∀ z, ex z → ex' z) (hy : ex' y) : HSh ts F (S ++ [y]) ex' := fun z hz nz k hk => by
  rcases List.mem_append.mp hz with q | q
  · exact (h z q (fun w => nz (he z w)) k hk).mono fun a ha => List.mem_append_left _ ha
  · rw [List.mem_singleton.mp q] at nz
    exact absurd hy nz
/-- what hung tells -/
structure Hung (ts : List Tie) (F : List Nat) (n : Nat) (G : List Ent) : Prop where
  pn : (G.map (·.1)).Nodup
  ps : ∀ l ∈ G, l.1 < n ∧ l.2.1 < n ∧ l.2.2 ∈ F ∧ (((tieAt ts l.2.2).1 = l.1 ∧ (tieAt ts l.2.2).2 = l.2.1) ∨ ((tieAt ts l.2.2).2 = l.1 ∧ (tieAt ts l.2.2).1 = l.2.1))
  ord : ∀ (i j : Nat) (l m : Ent), i ≤ j → G[i]? = some l → G[j]? = some m → l.2.1 ≠ m.1
  root : ∀ x y, x < n → y < n → x ∉ G.map (·.1) → y ∉ G.map (·.1) → Rch (sub ts F) x y → x = y
theorem HCore.hung {ts : List Tie} {F S : List Nat} {n : Nat} {G : List Ent} (R : HCore ts F n S G) (h : ∀ y, y < n → y ∈ S) : Hung ts F n G :=
  ⟨R.pn, fun l hl => by
    obtain ⟨a, b, c⟩ := R.ps l hl
    exact ⟨R.lt _ a, R.lt _ b, c⟩, R.ord, fun x y hx hy a b r => R.root x y (h x hx) (h y hy) a b r⟩
theorem Hung.len {ts : List Tie} {F : List Nat} {n : Nat} {G : List Ent} (R : Hung ts F n G) : G.length ≤ n := by
  have := nodup_len n (G.map (·.1)) R.pn fun x hx => by
    obtain ⟨l, hl, rfl⟩ := List.mem_map.mp hx
    exact (R.ps l hl).1
  rw [List.length_map] at this
  exact this
end Bz

set_option Elab.async false
set_option linter.all false
set_option maxHeartbeats 4000000
namespace Bz
/-! ### sums over sets of places -/
def tot (X : Nat → Bool) (g : Nat → Int) : Nat → Int
  | 0 => 0
  | n + 1 => tot X g n + if X n = true then g n else 0
def cut (X : Nat → Bool) : List Tie → List Int → Int
  | e :: ts, a :: as => (if X e.2 = true then a else 0) - (if X e.1 = true then a else 0) + cut X ts as
  | [], _ => 0
  | _ :: _, [] => 0
theorem tot_congr {X : Nat → Bool} {f g : Nat → Int} : ∀ {n : Nat}, (∀ x, x < n → X x = true → f x = g x) → tot X f n = tot X g n
  | 0, _ => rfl
  | n + 1, h => by
    show tot X f n + _ = tot X g n + _
    rw [tot_congr fun x hx => h x (Nat.lt_succ_of_lt hx)]
    by_cases c : X n = true
    · rw [if_pos c, if_pos c, h n (Nat.lt_succ_self n) c]
    · rw [if_neg c, if_neg c]
theorem tot_zero {X : Nat → Bool} {g : Nat → Int} : ∀ {n : Nat}, (∀ x, x < n → X x = true → g x = 0) → tot X g n = 0
  | 0, _ => rfl
  | n + 1, h => by
    show tot X g n + _ = 0
    rw [tot_zero fun x hx => h x (Nat.lt_succ_of_lt hx)]
    by_cases c : X n = true
    · rw [if_pos c, h n (Nat.lt_succ_self n) c]
      rfl
    · rw [if_neg c]
      rfl
theorem tot_one {X : Nat → Bool} {g : Nat → Int} {y : Nat} (hX : X y = true) : ∀ {n : Nat}, y < n → (∀ x, x < n → X x = true → x ≠ y → g x = 0) → tot X g n = g y
  | 0, h, _ => absurd h (Nat.not_lt_zero _)
  | n + 1, h, hz => by
    show tot X g n + _ = g y
    by_cases e : y = n
    · subst e
      rw [tot_zero fun x hx c => hz x (Nat.lt_succ_of_lt hx) c (Nat.ne_of_lt hx), if_pos hX]
      exact Int.zero_add _
    · rw [tot_one hX (by omega) fun x hx c => hz x (Nat.lt_succ_of_lt hx) c]
      by_cases c : X n = true
      · rw [if_pos c, hz n (Nat.lt_succ_self n) c (fun z => e z.symm)]
        exact Int.add_zero _
      · rw [if_neg c]
        exact Int.add_zero _
theorem tot_add {X : Nat → Bool} {f g : Nat → Int} : ∀ n : Nat, tot X (fun x => f x + g x) n = tot X f n + tot X g n
  | 0 => rfl
  | n + 1 => by
    show tot X (fun x => f x + g x) n + _ = tot X f n + _ + (tot X g n + _)
    rw [tot_add n]
    by_cases c : X n = true
    · rw [if_pos c, if_pos c, if_pos c]; show _ + _ + (f n + g n) = _; omega
    · rw [if_neg c, if_neg c, if_neg c]; omega
theorem tot_neg {X : Nat → Bool} {g : Nat → Int} : ∀ n : Nat, tot X (fun x => - g x) n = - tot X g n
  | 0 => rfl
  | n + 1 => by
    show tot X (fun x => - g x) n + _ = - (tot X g n + _)
    rw [tot_neg n]
    by_cases c : X n = true
    · rw [if_pos c, if_pos c]; show _ + - g n = _; omega
    · rw [if_neg c, if_neg c]; omega
theorem tot_ind {X : Nat → Bool} {y : Nat} {a : Int} : ∀ {n : Nat}, y < n → tot X (fun x => ind (y = x) a) n = if X y = true then a else 0
  | 0, h => absurd h (Nat.not_lt_zero _)
  | n + 1, h => by
    by_cases c : X y = true
    · have e1 := tot_one (X := X) (g := fun x => ind (y = x) a) (y := y) c h fun x _ _ hx => if_neg (fun z : y = x => hx z.symm)
      rw [if_pos c, e1]
      exact if_pos rfl
    · have e1 := tot_zero (X := X) (g := fun x => ind (y = x) a) (n := n + 1) fun x _ hx => if_neg (fun z : y = x => c (by rw [z]; exact hx))
      rw [if_neg c, e1]
theorem tot_mod {X : Nat → Bool} {g : Nat → Int} {m : Int} : ∀ {n : Nat}, (∀ x, x < n → X x = true → g x % m = 0) → tot X g n % m = 0
  | 0, _ => by show (0 : Int) % m = 0; simp
  | n + 1, h => by
    show (tot X g n + _) % m = 0
    have ih := tot_mod fun x hx => h x (Nat.lt_succ_of_lt hx)
    by_cases c : X n = true
    · rw [if_pos c, Int.add_emod, ih, h n (Nat.lt_succ_self n) c]
      simp
    · rw [if_neg c, Int.add_zero, ih]
/-- what comes to the places of a set together, by the ties that cross -/
theorem tot_gain {X : Nat → Bool} {n : Nat} : ∀ {ts : List Tie} {as : List Int}, (∀ e ∈ ts, e.1 < n ∧ e.2 < n) → tot X (gain ts as) n = cut X ts as
  | [], as, _ => tot_zero fun x _ _ => by cases as <;> rfl
  | _ :: _, [], _ => tot_zero fun x _ _ => rfl
  | e :: ts, a :: as, h => by
    have h1 := h e List.mem_cons_self
    have ih := tot_gain (X := X) (as := as) fun g hg => h g (List.mem_cons_of_mem _ hg)
    have e1 : tot X (gain (e :: ts) (a :: as)) n = tot X (fun x => (ind (e.2 = x) a + - ind (e.1 = x) a) + gain ts as x) n := tot_congr fun x _ _ => by
      show ind (e.2 = x) a - ind (e.1 = x) a + gain ts as x = _
      omega
    rw [e1, tot_add, tot_add, tot_neg, tot_ind h1.2, tot_ind h1.1, ih]
    show _ = (if X e.2 = true then a else 0) - (if X e.1 = true then a else 0) + cut X ts as
    omega
theorem cut_closed {X : Nat → Bool} : ∀ {ts : List Tie} {as : List Int}, (∀ e ∈ ts, X e.1 = X e.2) → cut X ts as = 0
  | [], as, _ => by cases as <;> rfl
  | _ :: _, [], _ => rfl
  | e :: ts, a :: as, h => by
    show (if X e.2 = true then a else 0) - (if X e.1 = true then a else 0) + cut X ts as = 0
    rw [cut_closed fun g hg => h g (List.mem_cons_of_mem _ hg), h e List.mem_cons_self]
    omega
theorem cut_nil {X : Nat → Bool} : ∀ {ts : List Tie} {as : List Int}, (∀ j, j < ts.length → X (tieAt ts j).1 = X (tieAt ts j).2 ∨ as[j]? = some 0) → cut X ts as = 0
  | [], as, _ => by cases as <;> rfl
  | _ :: _, [], _ => rfl
  | g :: ts, b :: as, h => by
    show (if X g.2 = true then b else 0) - (if X g.1 = true then b else 0) + cut X ts as = 0
    rw [cut_nil (ts := ts) (as := as) fun j hj => h (j + 1) (by show j + 1 < ts.length + 1; omega)]
    rcases h 0 (by show 0 < ts.length + 1; omega) with q | q
    · have q2 : X g.1 = X g.2 := q
      rw [q2]; omega
    · have q2 : b = 0 := Option.some.inj q
      subst q2
      split <;> split <;> rfl
/-- just the tie k crosses with an amount -/
theorem cut_one {X : Nat → Bool} : ∀ {ts : List Tie} {as : List Int} {k : Nat} {c : Int}, as[k]? = some c → k < ts.length → (∀ j, j < ts.length → j ≠ k → X (tieAt ts j).1 = X (tieAt ts j).2 ∨ as[j]? = some 0) →
    cut X ts as = (if X (tieAt ts k).2 = true then c else 0) - (if X (tieAt ts k).1 = true then c else 0)
  | [], _, _, _, _, h, _ => absurd h (Nat.not_lt_zero _)
  | _ :: _, [], k, _, h, _, _ => by simp at h
  | e :: ts, a :: as, 0, c, h, _, hz => by
    have ec : a = c := Option.some.inj h
    subst ec
    show (if X e.2 = true then a else 0) - (if X e.1 = true then a else 0) + cut X ts as = (if X e.2 = true then a else 0) - (if X e.1 = true then a else 0)
    have h0 : cut X ts as = 0 := cut_nil fun j hj => hz (j + 1) (by show j + 1 < ts.length + 1; omega) (by omega)
    rw [h0]
    omega
  | e :: ts, a :: as, k + 1, c, h, hk, hz => by
    have ih := cut_one (X := X) (ts := ts) (as := as) (k := k) (c := c) h (by have : k + 1 < ts.length + 1 := hk; omega) fun j hj hjk => hz (j + 1) (by show j + 1 < ts.length + 1; omega) (by omega)
    show (if X e.2 = true then a else 0) - (if X e.1 = true then a else 0) + cut X ts as = _
    have h0 : (if X e.2 = true then a else 0) - (if X e.1 = true then a else 0) = 0 := by
      rcases hz 0 (by show 0 < ts.length + 1; omega) (by omega) with q | q
      · have q2 : X e.1 = X e.2 := q
        rw [q2]; omega
      · have q2 : a = 0 := Option.some.inj q
        subst q2
        split <;> split <;> rfl
    rw [h0, ih]
    exact Int.zero_add _
/-! ### the amounts at the forest, from the last place on -/
structure Fil (ts : List Tie) (F : List Nat) (n : Nat) (G : List Ent) (as0 : List Int) (j : Nat) (as g : List Int) : Prop where
  len : as.length = ts.length
  gl : g.length = n
  free : ∀ k, k < ts.length → k ∉ F → as[k]? = as0[k]?
  zero : ∀ (i : Nat) (l : Ent), i < j → G[i]? = some l → as[l.2.2]? = some 0
  open' : ∀ x, x < n → (∀ (i : Nat) (l : Ent), j ≤ i → G[i]? = some l → l.1 ≠ x) → g[x]? = some (gain ts as x)
  done : ∀ (i : Nat) (l : Ent), j ≤ i → G[i]? = some l → gain ts as l.1 = 0
theorem Fil.start {ts : List Tie} {F : List Nat} {n : Nat} {G : List Ent} {as g : List Int} (h1 : as.length = ts.length) (h2 : g.length = n) (hz : ∀ k ∈ F, as[k]? = some 0) (hg : ∀ x, x < n → g[x]? = some (gain ts as x)) (H : Hung ts F n G) : Fil ts F n G as G.length as g :=
  ⟨h1, h2, fun _ _ _ => rfl, fun i l _ hl => hz _ (H.ps l (List.mem_of_getElem? hl)).2.2.1, fun x hx _ => hg x hx, fun i l hi hl => by
    have := (List.getElem?_eq_some_iff.mp hl).1
    omega⟩
theorem nd_get {L : List Nat} (h : L.Nodup) {i j x : Nat} (hi : L[i]? = some x) (hj : L[j]? = some x) : i = j := by
  rcases Nat.lt_trichotomy i j with q | q | q
  · exact absurd (List.mem_of_getElem? (l := L.take j) (i := i) (by rw [List.getElem?_take, if_pos q]; exact hi)) (nd_take h hj (Nat.le_refl _))
  · exact q
  · exact absurd (List.mem_of_getElem? (l := L.take i) (i := j) (by rw [List.getElem?_take, if_pos q]; exact hj)) (nd_take h hi (Nat.le_refl _))
theorem Fil.step {ts : List Tie} {F : List Nat} {n : Nat} {G : List Ent} {as0 as g : List Int} {j : Nat} {l : Ent} (R : Fil ts F n G as0 (j + 1) as g) (H : Hung ts F n G) (hF : ∀ k ∈ F, k < ts.length) (hl : G[j]? = some l) :
    ∃ c d, g[l.1]? = some c ∧ g[l.2.1]? = some d ∧ l.1 ≠ l.2.1 ∧ Fil ts F n G as0 j (as.set l.2.2 (if (tieAt ts l.2.2).1 = l.1 then c else -c)) (g.set l.2.1 (d + c)) := by
  obtain ⟨p1, p2, p3, p4⟩ := H.ps l (List.mem_of_getElem? hl)
  have hne : l.1 ≠ l.2.1 := fun z => H.ord j j l l (Nat.le_refl _) hl hl z.symm
  have keys : ∀ (i : Nat) (m : Ent), G[i]? = some m → m.1 = l.1 → i = j := fun i m hm e =>
    nd_get H.pn (x := l.1) (by rw [List.getElem?_map, hm]; show some m.1 = _; rw [e]) (by rw [List.getElem?_map, hl]; rfl)
  have o1 : ∀ (i : Nat) (m : Ent), j + 1 ≤ i → G[i]? = some m → m.1 ≠ l.1 := fun i m hi hm e => by
    have := keys i m hm e
    omega
  have o2 : ∀ (i : Nat) (m : Ent), j + 1 ≤ i → G[i]? = some m → m.1 ≠ l.2.1 := fun i m hi hm e => H.ord j i l m (by omega) hl hm e.symm
  have hc := R.open' l.1 p1 o1
  have hd := R.open' l.2.1 p2 o2
  have hz : as[l.2.2]? = some 0 := R.zero j l (Nat.lt_succ_self j) hl
  have hkl := hF _ p3
  have gs : ∀ x, gain ts (as.set l.2.2 (if (tieAt ts l.2.2).1 = l.1 then gain ts as l.1 else - gain ts as l.1)) x = gain ts as x + ind (l.2.1 = x) (gain ts as l.1) - ind (l.1 = x) (gain ts as l.1) := fun x => by
    rw [gain_set ts as l.2.2 0 _ x hz hkl]
    rcases p4 with ⟨q1, q2⟩ | ⟨q1, q2⟩
    · rw [q1, q2, if_pos rfl, Int.sub_zero]
    · rw [q1, q2, if_neg (fun z => hne z.symm), Int.sub_zero, ind_neg, ind_neg]
      omega
  refine ⟨_, _, hc, hd, hne, by rw [List.length_set]; exact R.len, by rw [List.length_set]; exact R.gl, fun k hk hkF => ?_, fun i m hi hm => ?_, fun x hx hno => ?_, fun i m hi hm => ?_⟩
  · rw [List.getElem?_set_ne (fun z : l.2.2 = k => hkF (by rw [← z]; exact p3))]
    exact R.free k hk hkF
  · have hm0 := R.zero i m (by omega) hm
    rw [List.getElem?_set_ne ?_]
    · exact hm0
    · intro z
      have q := (H.ps m (List.mem_of_getElem? hm)).2.2.2
      rw [← z] at q
      have n1 : m.1 ≠ l.1 := fun e => by have := keys i m hm e; omega
      have n2 : m.2.1 ≠ l.1 := H.ord i j m l (by omega) hm hl
      rcases p4 with ⟨a, b⟩ | ⟨a, b⟩ <;> rcases q with ⟨c, d⟩ | ⟨c, d⟩
      · exact n1 (c.symm.trans a)
      · exact n2 (d.symm.trans a)
      · exact n2 (d.symm.trans a)
      · exact n1 (c.symm.trans a)
  · have hxl : l.1 ≠ x := hno j l (Nat.le_refl _) hl
    have hgx := R.open' x hx fun i m hi hm => hno i m (by omega) hm
    rw [gs]
    have e1 : ind (l.1 = x) (gain ts as l.1) = 0 := if_neg hxl
    rw [e1]
    by_cases e : l.2.1 = x
    · subst e
      rw [List.getElem?_set_self (by rw [R.gl]; exact hx)]
      have e2 : ind (l.2.1 = l.2.1) (gain ts as l.1) = gain ts as l.1 := if_pos rfl
      rw [e2]
      congr 1
      omega
    · rw [List.getElem?_set_ne e, hgx]
      have e2 : ind (l.2.1 = x) (gain ts as l.1) = 0 := if_neg e
      rw [e2]
      congr 1
      omega
  · rw [gs]
    by_cases e : i = j
    · subst e
      have em : l = m := Option.some.inj (hl.symm.trans hm)
      subst em
      have e1 : ind (l.1 = l.1) (gain ts as l.1) = gain ts as l.1 := if_pos rfl
      have e2 : ind (l.2.1 = l.1) (gain ts as l.1) = 0 := if_neg (fun z => hne z.symm)
      rw [e1, e2]
      omega
    · have n1 : ¬ l.1 = m.1 := fun z => o1 i m (by omega) hm z.symm
      have n2 : ¬ l.2.1 = m.1 := fun z => o2 i m (by omega) hm z.symm
      have e1 : ind (l.1 = m.1) (gain ts as l.1) = 0 := if_neg n1
      have e2 : ind (l.2.1 = m.1) (gain ts as l.1) = 0 := if_neg n2
      rw [e1, e2, R.done i m (by omega) hm]
      rfl
/-- at the end nothing is gained -/
theorem Fil.all {ts : List Tie} {F : List Nat} {n : Nat} {G : List Ent} {as0 as g : List Int} (R : Fil ts F n G as0 0 as g) (H : Hung ts F n G) (hF : Forest ts F) (hv : ∀ e ∈ ts, e.1 < n ∧ e.2 < n) : ∀ y, y < n → gain ts as y = 0 := by
  intro y hy
  have inG : ∀ z, z ∈ G.map (·.1) → gain ts as z = 0 := fun z hz => by
    obtain ⟨l, hl, rfl⟩ := List.mem_map.mp hz
    obtain ⟨i, hi⟩ := List.mem_iff_getElem?.mp hl
    exact R.done i l (Nat.zero_le _) hi
  by_cases c : y ∈ G.map (·.1)
  · exact inG y c
  · classical
    have hX : ∀ e ∈ ts, (decide (Rch (sub ts F) y e.1) : Bool) = decide (Rch (sub ts F) y e.2) := fun e he => by
      have r := hF.span e he
      exact decide_eq_decide.mpr ⟨fun h => h.trans r, fun h => h.trans r.symm⟩
    have h1 := tot_gain (X := fun z => decide (Rch (sub ts F) y z)) (as := as) hv
    rw [cut_closed hX] at h1
    rw [tot_one (y := y) (decide_eq_true (Rch.refl _ _)) hy] at h1
    · exact h1
    · intro x hx hxX hne
      by_cases d : x ∈ G.map (·.1)
      · exact inG x d
      · exact absurd (H.root y x hy hx c d (of_decide_eq_true hxX)).symm hne
/-! ### rests by 3 -/
theorem gain_rest (m : Int) : ∀ (ts : List Tie) (as : List Int) (x : Nat), gain ts (as.map fun a => a % m) x % m = gain ts as x % m
  | [], as, x => by cases as <;> rfl
  | _ :: _, [], _ => rfl
  | e :: ts, a :: as, x => by
    have ih := gain_rest m ts as x
    show (ind (e.2 = x) (a % m) - ind (e.1 = x) (a % m) + gain ts (as.map fun a => a % m) x) % m = (ind (e.2 = x) a - ind (e.1 = x) a + gain ts as x) % m
    have h1 : ∀ (p : Prop) [Decidable p], ind p (a % m) % m = ind p a % m := fun p _ => by
      unfold ind
      split
      · exact Int.emod_emod_of_dvd a (Int.dvd_refl m)
      · rfl
    rw [Int.add_emod, ih, Int.sub_emod, h1, h1, ← Int.sub_emod, ← Int.add_emod]
theorem Forest.uniq {ts : List Tie} {F G : List Nat} (a : Forest ts F) (b : Forest ts G) : F = G :=
  rising_ext a.rise b.rise fun k => ⟨fun h => (b.mem k (a.lt k h)).mpr ((a.mem k (a.lt k h)).mp h), fun h => (a.mem k (b.lt k h)).mpr ((b.mem k (b.lt k h)).mp h)⟩
end Bz

set_option Elab.async false
set_option linter.all false
set_option maxRecDepth 100000
set_option maxHeartbeats 400000
namespace Bz
open PySem PySem.Spec L2
section
variable {P : Program} {w : World} {K : PySem.W.Frag} {mg : Str → Option Value} {base : Heap} {C : Addr}
/-! ### lists of triples -/
def Tri (K : PySem.W.Frag) (H : Hp) (rs : List Addr) (G : List Ent) : Prop := rs.length = G.length ∧ ∀ (i : Nat) (r : Addr) (l : Ent), rs[i]? = some r → G[i]? = some l → SqT K H r [.int (l.1 : Int), .int (l.2.1 : Int), .int (l.2.2 : Int)]
theorem Tri.mono {H H' : Hp} {rs : List Addr} {G : List Ent} (s : Same H H') (h : Tri K H rs G) : Tri K H' rs G := ⟨h.1, fun i r l a b => Same.seqT s (h.2 i r l a b)⟩
theorem Tri.upd {H : Hp} {rs : List Addr} {G : List Ent} {p : Addr} {o : HO} (hp : Mut (H p)) (h : Tri K H rs G) : Tri K (upd H p o) rs G := ⟨h.1, fun i r l a b => mut_seqT hp (h.2 i r l a b)⟩
theorem Tri.snoc {H : Hp} {rs : List Addr} {G : List Ent} {r : Addr} {l : Ent} (h : Tri K H rs G) (hr : SqT K H r [.int (l.1 : Int), .int (l.2.1 : Int), .int (l.2.2 : Int)]) : Tri K H (rs ++ [r]) (G ++ [l]) := by
  refine ⟨by rw [List.length_append, List.length_append, h.1]; rfl, fun i q m a b => ?_⟩
  rcases snoc_get a with ⟨h1, h2⟩ | ⟨h1, h2⟩
  · rcases snoc_get b with ⟨h3, h4⟩ | ⟨h3, h4⟩
    · exact h.2 i q m h2 h4
    · have := h.1
      omega
  · rcases snoc_get b with ⟨h3, h4⟩ | ⟨h3, h4⟩
    · have := h.1
      omega
    · rw [h2, h4]
      exact hr
section
variable {σ : St} {H H' : Hp} {ta tb tc te : TE} {v : V} {l r : Addr} {D : Ends} {tz tu : TS} {xs : List V} {e : Tie}
theorem q_popL {i : Nat} (ha : Pu ta σ H (.ref l)) (hl : H l = some (.lst (xs ++ [v]))) (q : tz D (σ.set i (some v)) (upd H l (.lst xs))) : tSeq (tAsg (tBM0 K "list" rPop ta) (gName i)) tz D σ H :=
  ha.at ⟨.inl ⟨rfl, _, SqL.of hl⟩, l, xs ++ [v], v, rfl, rfl, hl, by simp, by rw [List.dropLast_concat]; exact q⟩
/-- l.append((.., ..)) -/
theorem s_appT {l : Addr} {vs : List V} {tr : TA} (ha : Pu ta σ H (.ref l)) (hl : H l = some (.lst xs)) (hv : PuA tr σ H vs) (hz : vs.length ≤ 1000) (hx : xs.length < 100000) (k : ∀ r, H r = none → l ≠ r → D.nx σ (upd (upd H r (.tup vs)) l (.lst (xs ++ [.ref r])))) :
    tDrop (tBM K "list" rAppend ta (tCons (tTup tr) tNil)) D σ H :=
  ha.at ⟨.inl ⟨rfl, _, SqL.of hl⟩, hv.at ⟨small_le (by omega), fun r hr => ⟨l, xs, .ref r, rfl, rfl, by rw [upd_ne (ne_of_none hl hr)]; exact hl, small_lt hx, k r hr (ne_of_none hl hr)⟩⟩⟩
theorem q_appT {l : Addr} {vs : List V} {tr : TA} (ha : Pu ta σ H (.ref l)) (hl : H l = some (.lst xs)) (hv : PuA tr σ H vs) (hz : vs.length ≤ 1000) (hx : xs.length < 100000) (k : ∀ r, H r = none → l ≠ r → tz D σ (upd (upd H r (.tup vs)) l (.lst (xs ++ [.ref r])))) :
    tSeq (tDrop (tBM K "list" rAppend ta (tCons (tTup tr) tNil))) tz D σ H := s_appT (D := { D with nx := tz D }) ha hl hv hz hx k
/-- for one, two in [e, (e[1], e[0])] -/
theorem s_forTwo {j1 j2 : Nat} (hA : Pu ta σ H (.ref r)) (hp : PairAt K H r e) (hb : Pu tb σ H (.int (e.2 : Int))) (hc : Pu tc σ H (.int (e.1 : Int))) (Pv : Addr → Addr → Nat → St → Hp → Prop)
    (h0 : ∀ a q H1, Same H H1 → H a = none → H1 a = some (.lst [.ref r, .ref q]) → SqT K H1 q [.int (e.2 : Int), .int (e.1 : Int)] → Pv a q 0 σ H1)
    (hl : ∀ a q i σ' H', Pv a q i σ' H' → H' a = some (.lst [.ref r, .ref q]) ∧ SqT K H' r [.int (e.1 : Int), .int (e.2 : Int)] ∧ SqT K H' q [.int (e.2 : Int), .int (e.1 : Int)])
    (h1 : ∀ a q σ' H', Pv a q 0 σ' H' → tu { D with nx := Pv a q 1, ct := Pv a q 1, bk := D.nx } ((σ'.set j1 (some (.int (e.1 : Int)))).set j2 (some (.int (e.2 : Int)))) H')
    (h2 : ∀ a q σ' H', Pv a q 1 σ' H' → tu { D with nx := Pv a q 2, ct := Pv a q 2, bk := D.nx } ((σ'.set j1 (some (.int (e.2 : Int)))).set j2 (some (.int (e.1 : Int)))) H')
    (hd : ∀ a q σ' H', Pv a q 2 σ' H' → D.nx σ' H') : tFor (iList K (tLst (tCons ta (tCons (tTup (tCons tb (tCons tc tNil))) tNil)))) (gTup K 2 (gCons (gName j1) (gCons (gName j2) gNil))) tu D σ H := by
  have key : ∀ Q : VK, (∀ q, H q = none → Q (.ref q) (upd H q (.tup [.int (e.2 : Int), .int (e.1 : Int)]))) → tTup (tCons tb (tCons tc tNil)) σ H Q := fun Q k => (pa1 hb (pa1 hc pa0)).at ⟨by show 2 ≤ sizeLine; decide, k⟩
  refine hA.at (key _ fun q hq => ⟨by show 2 ≤ sizeLine; decide, fun a ha => ?_⟩)
  have s1 : Same H (upd H q (.tup [.int (e.2 : Int), .int (e.1 : Int)])) := same_new hq
  have s2 := s1.trans (same_new (o := .lst [.ref r, .ref q]) ha)
  have hq2 : SqT K (upd (upd H q (.tup [.int (e.2 : Int), .int (e.1 : Int)])) a (.lst [.ref r, .ref q])) q [.int (e.2 : Int), .int (e.1 : Int)] := Same.seqT (same_new ha) (SqT.of upd_same)
  refine ⟨a, rfl, ⟨_, SqL.of upd_same⟩, for_list (K := K) (a := a) (xs := [.ref r, .ref q]) (Pv a q) (h0 a q _ s2 (s1.free ha) upd_same hq2) (fun i σ' H' _ p => SqL.of (hl a q i σ' H' p).1) (fun i x σ' H' hx p => ?_) (hd a q)⟩
  obtain ⟨_, g2, g3⟩ := hl a q i σ' H' p
  match i, hx, p with
  | 0, hx, p =>
    have ex : x = .ref r := (Option.some.inj hx).symm
    subst ex
    exact ⟨r, _, rfl, g2, rfl, _, _, rfl, _, _, rfl, rfl, h1 a q σ' H' p⟩
  | 1, hx, p =>
    have ex : x = .ref q := (Option.some.inj hx).symm
    subst ex
    exact ⟨q, _, rfl, g3, rfl, _, _, rfl, _, _, rfl, rfl, h2 a q σ' H' p⟩
  | i + 2, hx, p => simp at hx
end
/-! 0 web, 1 taken, 2 seen, 3 found, 4 first, 5 ahead, 6 place, 7 tie, 8 one, 9 two -/
abbrev s_hung : Stmt := topS 49
abbrev N_hung : List Str := ["web", "taken", "seen", "found", "first", "ahead", "place", "tie", "one", "two"]
theorem sc_hung : FnScope N_hung ["web"] (defScope s_hung) := ⟨rfl, rfl, rfl, by decide +kernel, rfl, by decide +kernel, by decide +kernel⟩
abbrev ys (S : List Nat) : List (Nat × V) := S.map fun y => (y, V.bl true)
theorem ys_keys (S : List Nat) : (ys S).map (·.1) = S := by
  show (S.map fun y => (y, V.bl true)).map (·.1) = S
  rw [List.map_map]
  exact List.map_id'' (fun _ => rfl) S
theorem ys_snoc (S : List Nat) (y : Nat) : ys S ++ [(y, V.bl true)] = ys (S ++ [y]) := by
  show S.map _ ++ [(y, V.bl true)] = (S ++ [y]).map _
  rw [List.map_append]
  rfl
/-- what stands on the heap while the places are hung -/
structure HSt (K : PySem.W.Frag) (ts : List Tie) (F : List Nat) (n : Nat) (H0 : Hp) (d fo ao : Addr) (S : List Nat) (G : List Ent) (Ah : List Nat) (f m : Nat) (ex : Nat → Prop) (H' : Hp) : Prop where
  s : Same H0 H'
  hd : H' d = some (.dK (dk (ys S)))
  hf : ∃ rs, H' fo = some (.lst (rvs rs)) ∧ Tri K H' rs G
  ha : H' ao = some (.lst (nvs Ah))
  core : HCore ts F n S G
  sh : HSh ts F S fun y => y ∈ Ah ∨ ex y
  as : ∀ y ∈ Ah, y ∈ S
  lo : ∀ y, y < f → y ∈ S
  m : (n - S.length) + Ah.length = m
  gl : G.length ≤ S.length
theorem HSt.mono {ts : List Tie} {F : List Nat} {n : Nat} {H0 H1 H2 : Hp} {d fo ao : Addr} {S : List Nat} {G : List Ent} {Ah : List Nat} {f m : Nat} {ex : Nat → Prop} (R : HSt K ts F n H0 d fo ao S G Ah f m ex H1) (s : Same H1 H2) : HSt K ts F n H0 d fo ao S G Ah f m ex H2 := by
  obtain ⟨rs, h1, h2⟩ := R.hf
  exact ⟨R.s.trans s, s _ _ R.hd, ⟨rs, s _ _ h1, h2.mono s⟩, s _ _ R.ha, R.core, R.sh, R.as, R.lo, R.m, R.gl⟩
theorem hung_in {ts : List Tie} {F S : List Nat} {G : List Ent} {Ah : List Nat} {n i x k u1 u2 m : Nat} {H H9 : Hp} {a to d fo ao r b q : Addr} {D : Ends} (nda : d ≠ ao) (nfa : fo ≠ ao) (ntf : to ≠ fo) (nta : to ≠ ao) (fd : H d = none) (fa : H ao = none) (ff : H fo = none) (hkF : k ∈ F) (hv : (tieAt ts k).1 < n ∧ (tieAt ts k).2 < n) (h20 : n ≤ 20) (hmn : m ≤ n + 1)
    (hb : H9 b = some (.lst [.ref r, .ref q])) (nbf : b ≠ fo) (nba : b ≠ ao) (hr9 : SqT K H9 r [.int ((tieAt ts k).1 : Int), .int ((tieAt ts k).2 : Int)]) (hq9 : SqT K H9 q [.int ((tieAt ts k).2 : Int), .int ((tieAt ts k).1 : Int)]) (et9 : H9 to = some (.lst (nvs F)))
    (hx9 : x ∈ S) (hu : ((tieAt ts k).1 = u1 ∧ (tieAt ts k).2 = u2) ∨ ((tieAt ts k).2 = u1 ∧ (tieAt ts k).1 = u2)) (R9 : HSt K ts F n H d fo ao S G Ah (i + 1) (m - 1) (fun y => y = x) H9)
    (kk : ∀ S2 G2 Ah2 H10, (∀ y ∈ S, y ∈ S2) → H10 b = some (.lst [.ref r, .ref q]) → SqT K H10 r [.int ((tieAt ts k).1 : Int), .int ((tieAt ts k).2 : Int)] → SqT K H10 q [.int ((tieAt ts k).2 : Int), .int ((tieAt ts k).1 : Int)] → H10 to = some (.lst (nvs F)) → HSt K ts F n H d fo ao S2 G2 Ah2 (i + 1) (m - 1) (fun y => y = x) H10 → (u1 = x → u2 ∈ S2) →
      D.nx [some (.ref a), some (.ref to), some (.ref d), some (.ref fo), some (.int (i : Int)), some (.ref ao), some (.int (x : Int)), some (.int (k : Int)), some (.int (u1 : Int)), some (.int (u2 : Int))] H10) :
    (tIfS (tAnd (tTest (tOp rEq (tVar 8) (tVar 6))) (tB (tDNotIn (tVar 9) (tVar 2)))) (tSeq (sDPut (tVar 2) (tVar 9) (tC (.bl true))) (tSeq (tDrop (tBM K "list" rAppend (tVar 5) (tCons (tVar 9) tNil))) (tDrop (tBM K "list" rAppend (tVar 3) (tCons (tTup (tCons (tVar 9) (tCons (tVar 6) (tCons (tVar 7) tNil)))) tNil))))) tNext)
      D [some (.ref a), some (.ref to), some (.ref d), some (.ref fo), some (.int (i : Int)), some (.ref ao), some (.int (x : Int)), some (.int (k : Int)), some (.int (u1 : Int)), some (.int (u2 : Int))] H9 := by
  have pin := pu_dnin (ta := tVar 9) (tb := tVar 2) (σ := [some (.ref a), some (.ref to), some (.ref d), some (.ref fo), some (.int (i : Int)), some (.ref ao), some (.int (x : Int)), some (.int (k : Int)), some (.int (u1 : Int)), some (.int (u2 : Int))]) R9.hd (pu_var rfl) (pu_var rfl)
  rw [ys_keys] at pin
  refine s_when (pt_andP (pt_test (pu_eqN (pu_var rfl) (pu_var rfl))) fun _ => pt_B pin) (fun hc => ?_) (fun hc => ?_)
  · have hc2 : u1 = x ∧ u2 ∉ S := by simpa using hc
    obtain ⟨hux, hn⟩ := hc2
    have hu2 : u2 < n := by 
      rcases hu with ⟨_, q⟩ | ⟨_, q⟩
      · rw [← q]; exact hv.2
      · rw [← q]; exact hv.1
    have hSl : S.length ≤ n := nodup_len n S R9.core.nd R9.core.lt
    have Rn := R9.core.add hx9 hn hu2 hkF (by
      rcases hu with ⟨q1, q2⟩ | ⟨q1, q2⟩
      · exact .inr ⟨q2, q1.trans hux⟩
      · exact .inl ⟨q2, q1.trans hux⟩)
    have hSl2 : (S ++ [u2]).length ≤ n := nodup_len n _ Rn.nd Rn.lt
    rw [List.length_append] at hSl2
    have hSl3 : S.length + 1 ≤ n := hSl2
    have hAl : Ah.length ≤ 100 := by
      have h1 := R9.m
      omega
    obtain ⟨rs, hf, htr⟩ := R9.hf
    have ndf : d ≠ fo := ne_of R9.hd hf (by intro z; cases z)
    have ndb : d ≠ b := ne_of R9.hd hb (by intro z; cases z)
    have hmd : Mut (H9 d) := by rw [R9.hd]; trivial
    refine q_dput R9.hd (by rw [ys_keys]; exact hn) (by rw [List.length_map]; omega) pu_c (pu_var rfl) (pu_var rfl) ?_
    rw [ys_snoc]
    have ha2 : upd H9 d (.dK (dk (ys (S ++ [u2])))) ao = some (.lst (nvs Ah)) := by rw [upd_ne nda.symm]; exact R9.ha
    have hma : Mut (upd H9 d (.dK (dk (ys (S ++ [u2])))) ao) := by rw [ha2]; trivial
    refine q_app (pu_var rfl) ha2 (pu_var rfl) (by rw [nvs_len]; omega) ?_
    have e3 : nvs Ah ++ [V.int (u2 : Int)] = nvs (Ah ++ [u2]) := by rw [nvs_app]; rfl
    rw [e3]
    have hf2 : upd (upd H9 d (.dK (dk (ys (S ++ [u2]))))) ao (.lst (nvs (Ah ++ [u2]))) fo = some (.lst (rvs rs)) := by rw [upd_ne nfa, upd_ne ndf.symm]; exact hf
    have hmf : Mut (upd (upd H9 d (.dK (dk (ys (S ++ [u2]))))) ao (.lst (nvs (Ah ++ [u2]))) fo) := by rw [hf2]; trivial
    refine s_appT (pu_var rfl) hf2 (pa1 (pu_var rfl) (pa1 (pu_var rfl) (pa1 (pu_var rfl) pa0))) (by show 3 ≤ 1000; decide) (by
      rw [rvs_len, htr.1]
      have := R9.gl
      omega) fun r2 hr2 nr2 => ?_
    have sN : ∀ {o : HO}, Same (upd (upd H9 d (.dK (dk (ys (S ++ [u2]))))) ao (.lst (nvs (Ah ++ [u2])))) (upd (upd (upd H9 d (.dK (dk (ys (S ++ [u2]))))) ao (.lst (nvs (Ah ++ [u2])))) r2 o) := same_new hr2
    have hmf2 : Mut (upd (upd (upd H9 d (.dK (dk (ys (S ++ [u2]))))) ao (.lst (nvs (Ah ++ [u2])))) r2 (.tup [.int (u2 : Int), .int (x : Int), .int (k : Int)]) fo) := by rw [sN _ _ hf2]; trivial
    have up : ∀ {z : Addr} {xs : List V}, SqT K H9 z xs → SqT K (upd (upd (upd (upd H9 d (.dK (dk (ys (S ++ [u2]))))) ao (.lst (nvs (Ah ++ [u2])))) r2 (.tup [.int (u2 : Int), .int (x : Int), .int (k : Int)])) fo (.lst (rvs rs ++ [.ref r2]))) z xs := fun h => mut_seqT hmf2 (Same.seqT sN (mut_seqT hma (mut_seqT hmd h)))
    refine kk (S ++ [u2]) (G ++ [(u2, x, k)]) (Ah ++ [u2]) _ (fun y hy => List.mem_append_left _ hy) ?_ (up hr9) (up hq9) ?_ ?_ (fun _ => List.mem_append_right _ (List.mem_singleton.mpr rfl))
    · rw [upd_ne nbf]
      exact sN _ _ (by rw [upd_ne nba, upd_ne ndb.symm]; exact hb)
    · rw [upd_ne ntf]
      exact sN _ _ (by rw [upd_ne nta, upd_ne (ne_of R9.hd et9 (by intro z; cases z)).symm]; exact et9)
    · refine ⟨Same.mut ((Same.mut (Same.mut R9.s fd) fa).trans sN) ff, ?_, ⟨rs ++ [r2], ?_, ?_⟩, ?_, Rn, ?_, ?_, fun y hy => List.mem_append_left _ (R9.lo y hy), ?_, ?_⟩
      · rw [upd_ne ndf]
        exact sN _ _ (by rw [upd_ne nda, upd_same])
      · rw [upd_same]
        show some (HO.lst (rs.map V.ref ++ [V.ref r2])) = some (HO.lst ((rs ++ [r2]).map V.ref))
        rw [List.map_append]
        rfl
      · refine Tri.snoc ?_ ?_
        · exact Tri.upd hmf2 (Tri.mono sN (Tri.upd hma (Tri.upd hmd htr)))
        · exact mut_seqT hmf2 (SqT.of upd_same)
      · rw [upd_ne nfa.symm]
        exact sN _ _ upd_same
      · exact R9.sh.mono (ex' := fun y => y ∈ Ah ++ [u2] ∨ y = x) (fun z h => h.elim (fun h => .inl (List.mem_append_left _ h)) .inr) (.inl (List.mem_append_right _ (List.mem_singleton.mpr rfl)))
      · intro y hy
        rcases List.mem_append.mp hy with z | z
        · exact List.mem_append_left _ (R9.as y z)
        · exact List.mem_append_right _ z
      · have := R9.m
        rw [List.length_append, List.length_append]
        show n - (S.length + 1) + (Ah.length + 1) = m - 1
        omega
      · rw [List.length_append, List.length_append]
        exact Nat.add_le_add_right R9.gl 1
  · refine kk S G Ah H9 (fun y hy => hy) hb hr9 hq9 et9 R9 fun hux => ?_
    have : ¬ (u1 = x ∧ u2 ∉ S) := by simpa using hc
    exact Classical.byContradiction fun z => this ⟨hux, z⟩
theorem hung_two {ts : List Tie} {F S : List Nat} {G : List Ent} {Ah : List Nat} {n i x k m j : Nat} {H H8 : Hp} {a to d fo ao : Addr} {v8 v9 : Option V} {D : Ends} (Wc : WebC K C) (hw : WebAt K C H a n ts) (nda : d ≠ ao) (nfa : fo ≠ ao) (ntf : to ≠ fo) (nta : to ≠ ao) (fd : H d = none) (fa : H ao = none) (ff : H fo = none) (hkF : k ∈ F) (hkl : k < ts.length) (h20 : n ≤ 20) (hmn : m ≤ n + 1)
    (et : H8 to = some (.lst (nvs F))) (hxS : x ∈ S) (R : HSt K ts F n H d fo ao S G Ah (i + 1) (m - 1) (fun y => y = x) H8) (sx : ∀ k ∈ F.take j, Shut S (tieAt ts k) x)
    (kk : ∀ S G Ah v8 v9 H', H' to = some (.lst (nvs F)) → x ∈ S → HSt K ts F n H d fo ao S G Ah (i + 1) (m - 1) (fun y => y = x) H' → (∀ k ∈ F.take j, Shut S (tieAt ts k) x) → Shut S (tieAt ts k) x → D.nx [some (.ref a), some (.ref to), some (.ref d), some (.ref fo), some (.int (i : Int)), some (.ref ao), some (.int (x : Int)), some (.int (k : Int)), v8, v9] H') :
    (tFor (iList K (tLst (tCons (tOp (rIxT K) (tFld K (tVar 0) "ties") (tVar 7)) (tCons (tTup (tCons (tOp (rIxT K) (tOp (rIxT K) (tFld K (tVar 0) "ties") (tVar 7)) (tC (.int 1))) (tCons (tOp (rIxT K) (tOp (rIxT K) (tFld K (tVar 0) "ties") (tVar 7)) (tC (.int 0))) tNil))) tNil)))) (gTup K 2 (gCons (gName 8) (gCons (gName 9) gNil)))
      (tIfS (tAnd (tTest (tOp rEq (tVar 8) (tVar 6))) (tB (tDNotIn (tVar 9) (tVar 2)))) (tSeq (sDPut (tVar 2) (tVar 9) (tC (.bl true))) (tSeq (tDrop (tBM K "list" rAppend (tVar 5) (tCons (tVar 9) tNil))) (tDrop (tBM K "list" rAppend (tVar 3) (tCons (tTup (tCons (tVar 9) (tCons (tVar 6) (tCons (tVar 7) tNil)))) tNil))))) tNext))
      D [some (.ref a), some (.ref to), some (.ref d), some (.ref fo), some (.int (i : Int)), some (.ref ao), some (.int (x : Int)), some (.int (k : Int)), v8, v9] H8 := by
  have hv := hw.ok.ends _ (tieAt_mem hkl)
  have hwn := hw.mono R.s
  obtain ⟨r, hpr, hp⟩ := pu_tie (tb := tVar 7) (σ := [some (.ref a), some (.ref to), some (.ref d), some (.ref fo), some (.int (i : Int)), some (.ref ao), some (.int (x : Int)), some (.int (k : Int)), v8, v9]) (ta := tVar 0) Wc hwn (pu_var rfl) (pu_var rfl) (tieAt_get hkl)
  refine s_forTwo (e := tieAt ts k) hp hpr (pu_end1 hpr hp) (pu_end0 hpr hp) (fun b q z σ' H' => ∃ (S : List Nat) (G : List Ent) (Ah : List Nat) (v8 v9 : Option V), σ' = [some (.ref a), some (.ref to), some (.ref d), some (.ref fo), some (.int (i : Int)), some (.ref ao), some (.int (x : Int)), some (.int (k : Int)), v8, v9] ∧ H' to = some (.lst (nvs F)) ∧ x ∈ S ∧ HSt K ts F n H d fo ao S G Ah (i + 1) (m - 1) (fun y => y = x) H' ∧
      (∀ k ∈ F.take j, Shut S (tieAt ts k) x) ∧ b ≠ fo ∧ b ≠ ao ∧ H' b = some (.lst [.ref r, .ref q]) ∧ SqT K H' r [.int ((tieAt ts k).1 : Int), .int ((tieAt ts k).2 : Int)] ∧ SqT K H' q [.int ((tieAt ts k).2 : Int), .int ((tieAt ts k).1 : Int)] ∧ (1 ≤ z → (tieAt ts k).1 = x → (tieAt ts k).2 ∈ S) ∧ (2 ≤ z → (tieAt ts k).2 = x → (tieAt ts k).1 ∈ S)) ?_ ?_ ?_ ?_ ?_
  · intro b q H9 s9 fb hb hq9
    have nbf : b ≠ fo := fun z => by
      obtain ⟨_, h, _⟩ := R.hf
      rw [z, h] at fb
      cases fb
    have nba : b ≠ ao := fun z => by rw [z, R.ha] at fb; cases fb
    exact ⟨S, G, Ah, _, _, rfl, s9 _ _ et, hxS, R.mono s9, sx, nbf, nba, hb, Same.seqT s9 hpr.sq, hq9, fun h => absurd h (by omega), fun h => absurd h (by omega)⟩
  · rintro b q z σ' H' ⟨_, _, _, _, _, _, _, _, _, _, _, _, h1, h2, h3, _⟩
    exact ⟨h1, h2, h3⟩
  · rintro b q σ' H9 ⟨S, G, Ah, v8, v9, rfl, et9, hx9, R9, sx9, nbf, nba, hb, hr9, hq9, _, _⟩
    refine hung_in nda nfa ntf nta fd fa ff hkF hv h20 hmn hb nbf nba hr9 hq9 et9 hx9 (.inl ⟨rfl, rfl⟩) R9 fun S2 G2 Ah2 H10 hS hb2 hr2 hq2 et2 Rx hsh => ?_
    exact ⟨S2, G2, Ah2, _, _, rfl, et2, hS _ hx9, Rx, fun k hk => (sx9 k hk).mono hS, nbf, nba, hb2, hr2, hq2, fun _ => hsh, fun h => absurd h (by omega)⟩
  · rintro b q σ' H9 ⟨S, G, Ah, v8, v9, rfl, et9, hx9, R9, sx9, nbf, nba, hb, hr9, hq9, g1, _⟩
    refine hung_in nda nfa ntf nta fd fa ff hkF hv h20 hmn hb nbf nba hr9 hq9 et9 hx9 (.inr ⟨rfl, rfl⟩) R9 fun S2 G2 Ah2 H10 hS hb2 hr2 hq2 et2 Rx hsh => ?_
    exact ⟨S2, G2, Ah2, _, _, rfl, et2, hS _ hx9, Rx, fun k hk => (sx9 k hk).mono hS, nbf, nba, hb2, hr2, hq2, fun _ h => hS _ (g1 (Nat.le_refl 1) h), fun _ => hsh⟩
  · rintro b q σ' H9 ⟨S, G, Ah, v8, v9, rfl, et9, hx9, R9, sx9, nbf, nba, hb, hr9, hq9, g1, g2⟩
    exact kk S G Ah _ _ H9 et9 hx9 R9 sx9 ⟨g1 (by decide), g2 (by decide)⟩
def sp_hung (K : PySem.W.Frag) (C : Addr) : Sp := fun vs H Q _ => ∃ (a : Addr) (n : Nat) (ts : List Tie), vs = [.ref a] ∧ WebAt K C H a n ts ∧ ∀ F G r rs H2, Forest ts F → Hung ts F n G → H r = none → Same H H2 → H2 r = some (.lst (rvs rs)) → Tri K H2 rs G → Q (.ref r) H2
theorem ok_hung (F : Df K mg "hung" ["web"] s_hung) (T : Bt mg) (Wc : WebC K C) (G_forest : Gd P w K mg base 1 "forest" ["web"] (sp_forest K C)) : Gd P w K mg base 2 "hung" ["web"] (sp_hung K C) := by
  refine F.gd sc_hung (fun vs H Q E h => ?_) (fun f cdv A outer s H vs Q E hr h => ?_)
  · obtain ⟨a, n, ts, rfl, _⟩ := h
    rfl
  · obtain ⟨a, n, ts, rfl, hw, q⟩ := h
    have hr_forest := hr
    refine ⟨_, (pss_cons (ps_set (i := 1) sc_hung.nd rfl (Or.inl rfl) (pe_gd G_forest hr_forest (by rfl) (pa_cons (pv 0) pa_nil)))
      (pss_cons (ps_set (i := 2) sc_hung.nd rfl (Or.inl rfl) pe_dnewK)
      (pss_cons (ps_set (i := 3) sc_hung.nd rfl (Or.inl rfl) (pe_lst pa_nil))
      (pss_cons (ps_for PassesOwn.never rfl (pi_range1 rfl T.range (pa_cons (w_fld K (pv 0)) pa_nil)) (pg_name (i := 4) sc_hung.nd rfl (Or.inl rfl))
        (pss_cons (ps_if (pt_cmp (pc_din (hu_of hr) (pv 4) (pv 2)))
          (pss_one ps_continue)
          pss_nil)
        (pss_cons (ps_dput (hu_of hr) (pv 2) (pv 4) pe_bl rfl)
        (pss_cons (ps_set (i := 5) sc_hung.nd rfl (Or.inl rfl) (pe_lst (pa_cons (pv 4) pa_nil)))
        (pss_one (ps_while PassesOwn.never (pt_cmpR op_gt (pe_callB (w_len K) (by rfl) T.len PySem.boot_len (pa_cons (pv 5) pa_nil)) pe_int (nomark _))
          (pss_cons (ps_set (i := 6) sc_hung.nd rfl (Or.inl rfl) (w_bm0 K PySem.F.plainAttrs_list PySem.F.slot_list_pop PySem.F.type_list_pop mt_pop (pv 5)))
          (pss_one (ps_for PassesOwn.never rfl (w_piL K (pv 1)) (pg_name (i := 7) sc_hung.nd rfl (Or.inl rfl))
            (pss_one (ps_for PassesOwn.never rfl (w_piL K (pe_lst (pa_cons (pe_ix (w_ixT K) (w_fld K (pv 0)) (pv 7) (fun _ _ => rfl)) (pa_cons (pe_tup (pa_cons (pe_ix (w_ixT K) (pe_ix (w_ixT K) (w_fld K (pv 0)) (pv 7) (fun _ _ => rfl)) pe_int (fun _ _ => rfl)) (pa_cons (pe_ix (w_ixT K) (pe_ix (w_ixT K) (w_fld K (pv 0)) (pv 7) (fun _ _ => rfl)) pe_int (fun _ _ => rfl)) pa_nil))) pa_nil)))) (w_pgTup K rfl (pgs_cons (pg_name (i := 8) sc_hung.nd rfl (Or.inl rfl)) (pgs_cons (pg_name (i := 9) sc_hung.nd rfl (Or.inl rfl)) pgs_nil)))
              (pss_one (ps_if (PW.pt (pw_and (pt_cmpR op_eq (pv 8) (pv 6) (nomark _)) (pw_and1 (pt_cmp (pc_dnotin (hu_of hr) (pv 9) (pv 2))))))
                (pss_cons (ps_dput (hu_of hr) (pv 2) (pv 9) pe_bl rfl)
                (pss_cons (ps_expr (w_bm K PySem.F.plainAttrs_list PySem.F.slot_list_append PySem.F.type_list_append mt_append (pv 5) (pa_cons (pv 9) pa_nil)))
                (pss_one (ps_expr (w_bm K PySem.F.plainAttrs_list PySem.F.slot_list_append PySem.F.type_list_append mt_append (pv 3) (pa_cons (pe_tup (pa_cons (pv 9) (pa_cons (pv 6) (pa_cons (pv 7) pa_nil)))) pa_nil))))))
                pss_nil)))))))))))))
      (pss_one (ps_ret (pv 3))))))), ?_⟩
    have hV := hw.ok
    have h20 := hV.most
    refine q_gd (pa1 (pu_var rfl) pa0) ⟨a, n, ts, rfl, hw, fun F to H1 hF f1 s1 e1 => ?_⟩
    refine fun d hd => ?_
    have s2 := s1.trans (same_new (o := .dK []) hd)
    refine q_nw (nw_lst pa0 (by decide)) fun fo H3 f3 s3 e3 => ?_
    have s13 := s2.trans s3
    have fd : H d = none := s1.free hd
    have ff : H fo = none := s2.free f3
    have et : H3 to = some (.lst (nvs F)) := s3 _ _ (same_new hd _ _ e1)
    have ed : H3 d = some (.dK (dk (ys []))) := s3 _ _ upd_same
    have ntf : to ≠ fo := ne_of_none (same_new (o := .dK []) hd _ _ e1) f3
    refine q_forR (n := n) (pa1 (pu_many Wc (hw.mono s13) (pu_var rfl)) pa0) (by omega)
      (fun i σ' H' => ∃ (S : List Nat) (G : List Ent) (rs : List Addr) (v4 v5 v6 v7 v8 v9 : Option V), σ' = [some (.ref a), some (.ref to), some (.ref d), some (.ref fo), v4, v5, v6, v7, v8, v9] ∧ Same H H' ∧ H' to = some (.lst (nvs F)) ∧ H' d = some (.dK (dk (ys S))) ∧ H' fo = some (.lst (rvs rs)) ∧ Tri K H' rs G ∧ HCore ts F n S G ∧
        HSh ts F S (fun _ => False) ∧ (∀ y, y < i → y ∈ S) ∧ G.length ≤ S.length)
      ⟨[], [], [], none, none, none, none, none, none, rfl, s13, et, ed, e3, ⟨rfl, fun i r l a => by simp at a⟩, HCore.start ts F n, fun y hy => absurd hy List.not_mem_nil, fun y hy => absurd hy (Nat.not_lt_zero _), Nat.le_refl _⟩ ?_ ?_
    · rintro i σ' H' hi ⟨S, G, rs, v4, v5, v6, v7, v8, v9, rfl, s4, et, ed, ef, tr, R, sh, lo, gl⟩
      have pin := pu_din (ta := tVar 4) (tb := tVar 2) (σ := [some (.ref a), some (.ref to), some (.ref d), some (.ref fo), some (.int (i : Int)), v5, v6, v7, v8, v9]) ed (pu_var rfl) (pu_var rfl)
      rw [ys_keys] at pin
      refine q_when (pt_B pin) (fun hb => ?_) (fun hb => ?_)
      · have hiS : i ∈ S := of_decide_eq_true hb
        exact ⟨S, G, rs, _, _, _, _, _, _, rfl, s4, et, ed, ef, tr, R, sh, fun y hy => by
          by_cases c : y = i
          · rw [c]; exact hiS
          · exact lo y (by omega), gl⟩
      · have hiS : i ∉ S := of_decide_eq_false hb
        have hSl : S.length ≤ n := nodup_len n S R.nd R.lt
        refine q_dput ed (by rw [ys_keys]; exact hiS) (by rw [List.length_map]; omega) pu_c (pu_var rfl) (pu_var rfl) ?_
        rw [ys_snoc]
        have hmd : Mut (H' d) := by rw [ed]; trivial
        have ndf : d ≠ fo := ne_of ed ef (by intro z; cases z)
        have ndt : d ≠ to := ne_of ed et (by intro z; cases z)
        have s5 : Same H (upd H' d (.dK (dk (ys (S ++ [i]))))) := Same.mut s4 fd
        have et5 : upd H' d (.dK (dk (ys (S ++ [i])))) to = some (.lst (nvs F)) := by rw [upd_ne ndt.symm]; exact et
        have ed5 : upd H' d (.dK (dk (ys (S ++ [i])))) d = some (.dK (dk (ys (S ++ [i])))) := upd_same
        have ef5 : upd H' d (.dK (dk (ys (S ++ [i])))) fo = some (.lst (rvs rs)) := by rw [upd_ne ndf.symm]; exact ef
        have tr5 : Tri K (upd H' d (.dK (dk (ys (S ++ [i]))))) rs G := tr.upd hmd
        have R5 := R.rootAdd sh hiS hi
        have sh5 : HSh ts F (S ++ [i]) (fun y => y ∈ [i] ∨ False) := sh.mono (ex' := fun y => y ∈ [i] ∨ False) (fun z h => h.elim) (.inl (List.mem_singleton.mpr rfl))
        generalize upd H' d (.dK (dk (ys (S ++ [i])))) = H5 at s5 et5 ed5 ef5 tr5 ⊢
        refine q_nw (nw_lst (pa1 (pu_var rfl) pa0) (by show 1 ≤ 100000; decide)) fun ao H6 f6 s6 e6 => ?_
        have fa : H ao = none := s5.free f6
        have nfa : fo ≠ ao := ne_of_none ef5 f6
        have nta : to ≠ ao := ne_of_none et5 f6
        have nda : d ≠ ao := ne_of_none ed5 f6
        refine s_while (fun m σ' H' => ∃ (S : List Nat) (G : List Ent) (Ah : List Nat) (v6 v7 v8 v9 : Option V), σ' = [some (.ref a), some (.ref to), some (.ref d), some (.ref fo), some (.int (i : Int)), some (.ref ao), v6, v7, v8, v9] ∧ H' to = some (.lst (nvs F)) ∧ m ≤ n + 1 ∧ HSt K ts F n H d fo ao S G Ah (i + 1) m (fun _ => False) H') (n - (S ++ [i]).length + 1)
          ⟨S ++ [i], G, [i], _, _, _, _, rfl, s6 _ _ et5, by omega, s5.trans s6, s6 _ _ ed5, ⟨rs, s6 _ _ ef5, tr5.mono s6⟩, e6, R5, sh5, fun y hy => List.mem_append_right _ hy, fun y hy => by
            by_cases c : y = i
            · rw [c]; exact List.mem_append_right _ (List.mem_singleton.mpr rfl)
            · exact List.mem_append_left _ (lo y (by omega)), rfl, by rw [List.length_append]; exact Nat.le_trans gl (Nat.le_add_right _ _)⟩ ?_
        rintro m σ' H' ⟨S, G, Ah, v6, v7, v8, v9, rfl, et, hmn, R⟩
        refine ⟨_, pt_test (pu_I0 (pu_lenN (SqL.of R.ha) (pu_var rfl)) pu_c), fun hb => ?_, fun hb => ?_⟩
        · obtain ⟨A2, x, rfl⟩ : ∃ A2 x, Ah = A2 ++ [x] := by
            rcases List.eq_nil_or_concat Ah with e | ⟨l, b, e⟩
            · subst e; exact absurd (of_decide_eq_true hb) (by simp)
            · exact ⟨l, b, by rw [e, List.concat_eq_append]⟩
          have hxS : x ∈ S := R.as x (List.mem_append_right _ (List.mem_singleton.mpr rfl))
          have ha' := R.ha
          rw [nvs_app] at ha'
          refine q_popL (K := K) (pu_var rfl) ha' ?_
          have hma : Mut (H' ao) := by rw [ha']; trivial
          have R2 : HSt K ts F n H d fo ao S G A2 (i + 1) (m - 1) (fun y => y = x) (upd H' ao (.lst (nvs A2))) := by
            obtain ⟨rs, h1, h2⟩ := R.hf
            refine ⟨Same.mut R.s fa, by rw [upd_ne nda]; exact R.hd, ⟨rs, by rw [upd_ne nfa]; exact h1, h2.upd hma⟩, upd_same, R.core, fun y hy he k hk => R.sh y hy (fun z => he ?_) k hk, fun y hy => R.as y (List.mem_append_left _ hy), R.lo, ?_, R.gl⟩
            · rcases z with z | z
              · rcases List.mem_append.mp z with z | z
                · exact .inl z
                · exact .inr (List.mem_singleton.mp z)
              · exact z.elim
            · have := R.m
              rw [List.length_append] at this
              have : n - S.length + (A2.length + 1) = m := this
              omega
          have hm0 : 0 < m := by
            have := R.m
            rw [List.length_append] at this
            have : n - S.length + (A2.length + 1) = m := this
            omega
          have et2 : upd H' ao (.lst (nvs A2)) to = some (.lst (nvs F)) := by rw [upd_ne nta]; exact et
          generalize upd H' ao (.lst (nvs A2)) = H7 at R2 et2 ⊢
          refine s_forL (pu_var rfl) (SqL.of et2) (fun j σ' H' => ∃ (S : List Nat) (G : List Ent) (Ah : List Nat) (v7 v8 v9 : Option V), σ' = [some (.ref a), some (.ref to), some (.ref d), some (.ref fo), some (.int (i : Int)), some (.ref ao), some (.int (x : Int)), v7, v8, v9] ∧ H' to = some (.lst (nvs F)) ∧ x ∈ S ∧ HSt K ts F n H d fo ao S G Ah (i + 1) (m - 1) (fun y => y = x) H' ∧ ∀ k ∈ F.take j, Shut S (tieAt ts k) x)
            ⟨S, G, A2, _, _, _, rfl, et2, hxS, R2, fun k hk => by simp at hk⟩ (fun j σ' H' _ ⟨_, _, _, _, _, _, _, e, _⟩ => SqL.of e) ?_ ?_
          · rintro j xv σ' H8 hxj ⟨S, G, Ah, v7, v8, v9, rfl, et, hxS, R, sx⟩
            obtain ⟨k, hkj, rfl⟩ := nvs_of hxj
            have hkF : k ∈ F := List.mem_of_getElem? hkj
            have hkl := hF.lt k hkF
            refine hung_two Wc hw nda nfa ntf nta fd fa ff hkF hkl h20 hmn et hxS R sx fun S G Ah v8 v9 H9 et9 hx9 R9 sx9 shk => ?_
            refine ⟨S, G, Ah, _, _, _, rfl, et9, hx9, R9, fun k2 hk2 => ?_⟩
            rw [take_next hkj] at hk2
            rcases List.mem_append.mp hk2 with z | z
            · exact sx9 k2 z
            · rw [List.mem_singleton.mp z]
              exact shk
          · rintro σ' H8 ⟨S, G, Ah, v7, v8, v9, rfl, et, hxS, R, sx⟩
            rw [nvs_len, List.take_length] at sx
            refine ⟨m - 1, by omega, S, G, Ah, _, _, _, _, rfl, et, by omega, R.s, R.hd, R.hf, R.ha, R.core, fun y hy he k hk => ?_, R.as, R.lo, R.m, R.gl⟩
            by_cases c : y = x
            · rw [c]; exact sx k hk
            · exact R.sh y hy (fun z => z.elim (fun z => he (.inl z)) c) k hk
        · have hA0 : Ah = [] := by
            cases Ah with
            | nil => rfl
            | cons x W2 => exact absurd (of_decide_eq_false hb) (by simp)
          subst hA0
          obtain ⟨rs, h1, h2⟩ := R.hf
          exact ⟨S, G, rs, _, _, _, _, _, _, rfl, R.s, et, R.hd, h1, h2, R.core, fun y hy he k hk => R.sh y hy (fun z => z.elim (fun z => absurd z List.not_mem_nil) he) k hk, R.lo, R.gl⟩
    · rintro σ' H' ⟨S, G, rs, v4, v5, v6, v7, v8, v9, rfl, s4, et, ed, ef, tr, R, sh, lo, gl⟩
      exact s_ret (pu_var rfl) (q F G fo rs H' hF (R.hung lo) ff s4 ef tr)
end
end Bz

set_option Elab.async false
set_option linter.all false
set_option maxRecDepth 100000
set_option maxHeartbeats 400000
namespace Bz
open PySem PySem.Spec L2
/-- the numbers vs put at the places ks of a list of length m -/
def put : List Int → List Nat → List Int → List Int
  | l, k :: ks, v :: vs => put (l.set k v) ks vs
  | l, _, _ => l
theorem put_len : ∀ (ks : List Nat) (vs l : List Int), (put l ks vs).length = l.length
  | [], vs, l => by cases vs <;> rfl
  | _ :: _, [], _ => rfl
  | k :: ks, v :: vs, l => by
    show (put (l.set k v) ks vs).length = _
    rw [put_len ks vs, List.length_set]
theorem put_not : ∀ {ks : List Nat} {vs l : List Int} {j : Nat}, j ∉ ks → (put l ks vs)[j]? = l[j]?
  | [], vs, l, _, _ => by cases vs <;> rfl
  | _ :: _, [], _, _, _ => rfl
  | k :: ks, v :: vs, l, j, h => by
    show (put (l.set k v) ks vs)[j]? = _
    rw [put_not (fun q => h (List.mem_cons_of_mem _ q)), List.getElem?_set_ne (fun z : k = j => h (by rw [z]; exact List.mem_cons_self))]
theorem put_at : ∀ {ks : List Nat} {vs l : List Int} {i k : Nat} {v : Int}, ks.Nodup → ks[i]? = some k → vs[i]? = some v → k < l.length → (put l ks vs)[k]? = some v
  | [], _, _, _, _, _, _, h, _, _ => by simp at h
  | _ :: _, [], _, _, _, _, _, _, h, _ => by simp at h
  | q :: ks, u :: vs, l, 0, k, v, hn, h1, h2, hk => by
    have e1 : q = k := Option.some.inj h1
    have e2 : u = v := Option.some.inj h2
    subst e1 e2
    show (put (l.set q u) ks vs)[q]? = _
    rw [put_not (List.nodup_cons.mp hn).1, List.getElem?_set_self hk]
  | q :: ks, u :: vs, l, i + 1, k, v, hn, h1, h2, hk => by
    show (put (l.set q u) ks vs)[k]? = _
    exact put_at (ks := ks) (vs := vs) (i := i) (List.nodup_cons.mp hn).2 h1 h2 (by rw [List.length_set]; exact hk)
theorem put_snoc : ∀ {ks : List Nat} {vs l : List Int} {k : Nat} {v : Int}, ks.length = vs.length → put l (ks ++ [k]) (vs ++ [v]) = (put l ks vs).set k v
  | [], [], _, _, _, _ => rfl
  | [], _ :: _, _, _, _, h => by simp at h
  | _ :: _, [], _, _, _, h => by simp at h
  | q :: ks, u :: vs, l, k, v, h => put_snoc (ks := ks) (vs := vs) (by simpa using h)
section
variable {P : Program} {w : World} {K : PySem.W.Frag} {mg : Str → Option Value} {base : Heap} {C : Addr}
section
variable {σ : St} {H : Hp} {D : Ends} {tz tu : TS} {g : TG} {sp sp2 : Sp} {tr ta : TA} {vs : List V}
theorem q_forRevGd (h : PuA tr σ H vs) (k : sp vs H (fun v H1 => ∃ (a : Addr) (xs : List V), [v] = [V.ref a] ∧ SqL K H1 a xs ∧ Fo (Itv K a xs.length) g tu { D with nx := tz D } σ H1) E0) : tSeq (tFor (iRev K (tCons (tGd sp tr) tNil)) g tu) tz D σ H := h.at k
theorem s_retGd2 (h : PuA tr σ H vs) (k : sp vs H (fun v H1 => ta σ H1 fun us H2 => sp2 (v :: us) H2 D.rt E0) E0) : tRet (tGd sp2 (tCons (tGd sp tr) ta)) D σ H := h.at k
end
/-! 0 web, 1 some, 2 amounts, 3 found, 4 tie, 5 amount -/
abbrev s_spread : Stmt := topS 61
abbrev N_spread : List Str := ["web", "some", "amounts", "found", "tie", "amount"]
theorem sc_spread : FnScope N_spread ["web", "some", "amounts"] (defScope s_spread) := ⟨rfl, rfl, rfl, by decide +kernel, rfl, by decide +kernel, by decide +kernel⟩
def sp_spread (K : PySem.W.Frag) (C : Addr) : Sp := fun vs H Q _ => ∃ (a l m : Addr) (n : Nat) (ts : List Tie) (ks : List Nat) (as : List Int), vs = [.ref a, .ref l, .ref m] ∧ WebAt K C H a n ts ∧ SqL K H l (nvs ks) ∧ SqL K H m (ivs as) ∧ ks.length = as.length ∧ (∀ k ∈ ks, k < ts.length) ∧
  ∀ r H2, H r = none → Same H H2 → H2 r = some (.lst (ivs (put (List.replicate ts.length 0) ks as))) → Q (.ref r) H2
theorem ok_spread (F : Df K mg "spread" ["web", "some", "amounts"] s_spread) (T : Bt mg) (Wc : WebC K C) : Gd P w K mg base 1 "spread" ["web", "some", "amounts"] (sp_spread K C) := by
  refine F.gd sc_spread (fun vs H Q E h => ?_) (fun f cdv A outer s H vs Q E hr h => ?_)
  · obtain ⟨a, l, m, n, ts, ks, as, rfl, _⟩ := h
    rfl
  · obtain ⟨a, l, m, n, ts, ks, as, rfl, hw, hk, ha, hlen, hkl, q⟩ := h
    refine ⟨_, (pss_cons (ps_set (i := 3) sc_spread.nd rfl (Or.inl rfl) (pe_op op_rep (pe_lst (pa_cons pe_int pa_nil)) (pe_callB (w_len K) (by rfl) T.len PySem.boot_len (pa_cons (w_fld K (pv 0)) pa_nil))))
      (pss_cons (ps_for PassesOwn.never rfl (w_zip K T.zip (pa_cons (pv 1) (pa_cons (pv 2) pa_nil))) (w_pgTup K rfl (pgs_cons (pg_name (i := 4) sc_spread.nd rfl (Or.inl rfl)) (pgs_cons (pg_name (i := 5) sc_spread.nd rfl (Or.inl rfl)) pgs_nil)))
        (pss_one (ps_asg (pv 5) (pg_sub (pv 3) (pv 4) set_list))))
      (pss_one (ps_ret (pv 3))))), ?_⟩
    have h40 := hw.ok.len
    refine q_nw (nw_rep (pu_lenT Wc hw (pu_var rfl)) (by omega)) fun fo H1 f1 s1 e1 => ?_
    refine q_forZL (H0 := H) s1 (pu_var rfl) hk (pu_var rfl) ha (by rw [nvs_len, ivs_len]; exact hlen) (fun i σ' H' => ∃ (v4 v5 : Option V), σ' = [some (.ref a), some (.ref l), some (.ref m), some (.ref fo), v4, v5] ∧ Same H H' ∧ H' fo = some (.lst (ivs (put (List.replicate ts.length 0) (ks.take i) (as.take i)))))
      ⟨none, none, rfl, s1, e1⟩ (fun i σ' H' _ ⟨_, _, _, s, _⟩ => s) ?_ ?_
    · rintro i x y σ' H' H2 hx hy ⟨v4, v5, rfl, s2, e2⟩ s3
      obtain ⟨k, hki, rfl⟩ := nvs_of hx
      obtain ⟨c, hci, rfl⟩ := ivs_of hy
      have e3 := s3 _ _ e2
      refine s_setL (pu_var rfl) (pu_var rfl) e3 (pu_var rfl) (by rw [ivs_len, put_len, List.length_replicate]; exact hkl k (List.mem_of_getElem? hki)) ?_
      refine ⟨_, _, rfl, Same.mut (s2.trans s3) f1, ?_⟩
      rw [upd_same, ivs_set, take_next hki, take_next hci, put_snoc (by rw [List.length_take, List.length_take, hlen])]
    · rintro σ' H' ⟨v4, v5, rfl, s2, e2⟩
      rw [nvs_len, List.take_length, hlen, List.take_length] at e2
      exact s_ret (pu_var rfl) (q fo H' f1 s2 e2)
/-! 0 web, 1 values, 2 free, 3 amounts, 4 tie, 5 value, 6 gains, 7 place, 8 other -/
abbrev s_filled_whole : Stmt := topS 50
abbrev N_filled_whole : List Str := ["web", "values", "free", "amounts", "tie", "value", "gains", "place", "other"]
theorem sc_filled_whole : FnScope N_filled_whole ["web", "values"] (defScope s_filled_whole) := ⟨rfl, rfl, rfl, by decide +kernel, rfl, by decide +kernel, by decide +kernel⟩
/-- a flow with some amounts at the free ties -/
structure Whole (ts : List Tie) (n : Nat) (F : List Nat) (vs as : List Int) : Prop where
  len : as.length = ts.length
  g : ∀ x, x < n → gain ts as x = 0
  fr : ∀ (i k : Nat) (v : Int), (free ts F)[i]? = some k → vs[i]? = some v → as[k]? = some v
def sp_filled_whole (K : PySem.W.Frag) (C : Addr) : Sp := fun vs H Q _ => ∃ (a l : Addr) (n : Nat) (ts : List Tie) (F : List Nat) (us : List Int), vs = [.ref a, .ref l] ∧ WebAt K C H a n ts ∧ SqL K H l (ivs us) ∧ Forest ts F ∧ us.length = (free ts F).length ∧
  ∀ as r H2, Whole ts n F us as → H r = none → Same H H2 → H2 r = some (.lst (ivs as)) → Q (.ref r) H2
theorem ok_filled_whole (F : Df K mg "filled_whole" ["web", "values"] s_filled_whole) (T : Bt mg) (Wc : WebC K C) (G_free_ties : Gd P w K mg base 2 "free_ties" ["web"] (sp_free_ties K C)) (G_look_at_count : Gd P w K mg base 1 "look_at_count" ["numbers", "many"] (sp_look_at_count K))
    (G_gains_of : Gd P w K mg base 1 "gains_of" ["web", "amounts"] (sp_gains_of K C)) (G_hung : Gd P w K mg base 2 "hung" ["web"] (sp_hung K C)) : Gd P w K mg base 3 "filled_whole" ["web", "values"] (sp_filled_whole K C) := by
  refine F.gd sc_filled_whole (fun vs H Q E h => ?_) (fun f cdv A outer s H vs Q E hr h => ?_)
  · obtain ⟨a, l, n, ts, F, us, rfl, _⟩ := h
    rfl
  · obtain ⟨a, l, n, ts, F, us, rfl, hw, hl, hF, hlen, q⟩ := h
    have hr_free_ties := hr
    have hr_look_at_count := hr.mono (j := 1) (by decide)
    have hr_gains_of := hr.mono (j := 1) (by decide)
    have hr_hung := hr
    refine ⟨_, (pss_cons (ps_set (i := 2) sc_filled_whole.nd rfl (Or.inl rfl) (pe_gd G_free_ties hr_free_ties (by rfl) (pa_cons (pv 0) pa_nil)))
      (pss_cons (ps_expr (pe_gd G_look_at_count hr_look_at_count (by rfl) (pa_cons (pv 1) (pa_cons (pe_callB (w_len K) (by rfl) T.len PySem.boot_len (pa_cons (pv 2) pa_nil)) pa_nil))))
      (pss_cons (ps_set (i := 3) sc_filled_whole.nd rfl (Or.inl rfl) (pe_op op_rep (pe_lst (pa_cons pe_int pa_nil)) (pe_callB (w_len K) (by rfl) T.len PySem.boot_len (pa_cons (w_fld K (pv 0)) pa_nil))))
      (pss_cons (ps_for PassesOwn.never rfl (w_zip K T.zip (pa_cons (pv 2) (pa_cons (pv 1) pa_nil))) (w_pgTup K rfl (pgs_cons (pg_name (i := 4) sc_filled_whole.nd rfl (Or.inl rfl)) (pgs_cons (pg_name (i := 5) sc_filled_whole.nd rfl (Or.inl rfl)) pgs_nil)))
        (pss_one (ps_asg (pv 5) (pg_sub (pv 3) (pv 4) set_list))))
      (pss_cons (ps_set (i := 6) sc_filled_whole.nd rfl (Or.inl rfl) (pe_gd G_gains_of hr_gains_of (by rfl) (pa_cons (pv 0) (pa_cons (pv 3) pa_nil))))
      (pss_cons (ps_for PassesOwn.never rfl (w_reversed K T.reversed (pa_cons (pe_gd G_hung hr_hung (by rfl) (pa_cons (pv 0) pa_nil)) pa_nil)) (w_pgTup K rfl (pgs_cons (pg_name (i := 7) sc_filled_whole.nd rfl (Or.inl rfl)) (pgs_cons (pg_name (i := 8) sc_filled_whole.nd rfl (Or.inl rfl)) (pgs_cons (pg_name (i := 4) sc_filled_whole.nd rfl (Or.inl rfl)) pgs_nil))))
        (pss_cons (ps_asg (pe_ix (w_ixL K) (pv 6) (pv 7) (fun _ _ => rfl)) (pg_sub (pv 3) (pv 4) set_list))
        (pss_cons (ps_if (pt_cmpR op_ne (pe_ix (w_ixT K) (pe_ix (w_ixT K) (w_fld K (pv 0)) (pv 4) (fun _ _ => rfl)) pe_int (fun _ _ => rfl)) (pv 7) (nomark _))
          (pss_one (ps_asg (pe_un un_neg (pe_ix (w_ixL K) (pv 6) (pv 7) (fun _ _ => rfl))) (pg_sub (pv 3) (pv 4) set_list)))
          pss_nil)
        (pss_one (ps_augS (pv 6) (pv 8) (w_getL K) (pe_ix (w_ixL K) (pv 6) (pv 7) (fun _ _ => rfl)) ip_add set_list)))))
      (pss_one (ps_ret (pv 3))))))))), ?_⟩
    have hV := hw.ok
    have h40 := hV.len
    refine q_gd (pa1 (pu_var rfl) pa0) ⟨a, n, ts, rfl, hw, fun F2 fo H1 hF2 f1 s1 e1 => ?_⟩
    have eF := hF2.uniq hF
    subst eF
    refine q_gdDrop (pa1 (pu_var rfl) (pa1 (pu_lenN (SqL.of e1) (pu_var rfl)) pa0)) ⟨l, ivs us, _, rfl, s1.seq hl, by rw [ivs_len]; exact hlen, ?_⟩
    refine q_nw (nw_rep (pu_lenT Wc (hw.mono s1) (pu_var rfl)) (by omega)) fun ao H2 f2 s2 e2 => ?_
    have s12 := s1.trans s2
    have fa : H ao = none := s1.free f2
    have fn : (free ts F2).Nodup := (free_rising ts F2).imp fun h => Nat.ne_of_lt h
    have fl : ∀ k ∈ free ts F2, k < ts.length := fun k hk => (mem_free.mp hk).1
    refine q_forZL (H0 := H1) s2 (pu_var rfl) (SqL.of e1) (pu_var rfl) (s1.seq hl) (by rw [nvs_len, ivs_len]; exact hlen.symm) (fun i σ' H' => ∃ (v4 v5 : Option V), σ' = [some (.ref a), some (.ref l), some (.ref fo), some (.ref ao), v4, v5, none, none, none] ∧ Same H1 H' ∧ H' ao = some (.lst (ivs (put (List.replicate ts.length 0) ((free ts F2).take i) (us.take i)))))
      ⟨none, none, rfl, s2, e2⟩ (fun i σ' H' _ ⟨_, _, _, s, _⟩ => s) ?_ ?_
    · rintro i x y σ' H' H3 hx hy ⟨v4, v5, rfl, s2, e2⟩ s3
      obtain ⟨k, hki, rfl⟩ := nvs_of hx
      obtain ⟨c, hci, rfl⟩ := ivs_of hy
      have e3 := s3 _ _ e2
      refine s_setL (pu_var rfl) (pu_var rfl) e3 (pu_var rfl) (by rw [ivs_len, put_len, List.length_replicate]; exact fl k (List.mem_of_getElem? hki)) ?_
      refine ⟨_, _, rfl, Same.mut (s2.trans s3) f2, ?_⟩
      rw [upd_same, ivs_set, take_next hki, take_next hci, put_snoc (by rw [List.length_take, List.length_take, hlen])]
    · rintro σ' H3 ⟨v4, v5, rfl, s3, e3⟩
      rw [nvs_len, List.take_length, ← hlen, List.take_length] at e3
      have hpl : (put (List.replicate ts.length 0) (free ts F2) us).length = ts.length := by rw [put_len, List.length_replicate]
      have hpz : ∀ k ∈ F2, (put (List.replicate ts.length 0) (free ts F2) us)[k]? = some 0 := fun k hk => by
        rw [put_not (fun q => (mem_free.mp q).2 hk), List.getElem?_replicate, if_pos (hF.lt k hk)]
      have hpf : ∀ (i k : Nat) (v : Int), (free ts F2)[i]? = some k → us[i]? = some v → (put (List.replicate ts.length 0) (free ts F2) us)[k]? = some v := fun i k v h1 h2 => put_at fn h1 h2 (by rw [List.length_replicate]; exact fl k (List.mem_of_getElem? h1))
      generalize put (List.replicate ts.length 0) (free ts F2) us = as0 at e3 hpl hpz hpf
      have s13 := s1.trans s3
      refine q_gd (pa1 (pu_var rfl) (pa1 (pu_var rfl) pa0)) ⟨a, ao, n, ts, as0, rfl, hw.mono s13, SqL.of e3, hpl, fun g go H4 hgl hg f4 s4 e4 => ?_⟩
      have s14 := s13.trans s4
      have nag : ao ≠ go := ne_of_none e3 f4
      have fg : H go = none := s13.free f4
      have e5 : H4 ao = some (.lst (ivs as0)) := s4 _ _ e3
      refine q_forRevGd (pa1 (pu_var rfl) pa0) ⟨a, n, ts, rfl, hw.mono s14, fun F3 G ho rs H5 hF3 hH f5 s5 e6 tr => ?_⟩
      have eF := hF3.uniq hF
      subst eF
      refine ⟨ho, rvs rs, rfl, SqL.of e6, ?_⟩
      have s15 := s14.trans s5
      have nah : ao ≠ ho := ne_of_none e5 f5
      have ngh : go ≠ ho := ne_of_none e4 f5
      have hlr : (rvs rs).length = G.length := by rw [rvs_len, tr.1]
      refine for_it (walk_rev (K := K) (a := ho) (xs := rvs rs)) (fun i σ' H' => ∃ (as g : List Int) (v4 v7 v8 : Option V), σ' = [some (.ref a), some (.ref l), some (.ref fo), some (.ref ao), v4, v5, some (.ref go), v7, v8] ∧ Same H H' ∧ H' ao = some (.lst (ivs as)) ∧ H' go = some (.lst (ivs g)) ∧ H' ho = some (.lst (rvs rs)) ∧ Tri K H' rs G ∧ Fil ts F3 n G as0 (G.length - i) as g)
        ⟨as0, g, v4, none, none, rfl, s15, s5 _ _ e5, s5 _ _ e4, e6, tr, by rw [Nat.sub_zero]; exact Fil.start hpl hgl hpz hg hH⟩ (fun i σ' H' _ ⟨_, _, _, _, _, _, _, _, _, e, _⟩ => SqL.of e) ?_ ?_
      · rintro i x σ' Hx H' hi ⟨as, g, v4, v7, v8, rfl, s6, ea, eg, eh, tr, R⟩ ⟨eH, hx⟩
        subst eH
        obtain ⟨r, hr2, rfl⟩ := rvs_of hx
        rw [hlr] at hi hr2
        obtain ⟨j, hj⟩ : ∃ j, G.length - i = j + 1 := ⟨G.length - i - 1, by omega⟩
        have hj2 : G.length - 1 - i = j := by omega
        have hj3 : G.length - (i + 1) = j := by omega
        rw [hj2] at hr2
        rw [hj] at R
        have hjl : j < G.length := by omega
        have hl2 : G[j]? = some G[j] := List.getElem?_eq_getElem hjl
        obtain ⟨c, d, hc, hd, hne, R2⟩ := R.step hH hF3.lt hl2
        obtain ⟨p1, p2, p3, p4⟩ := hH.ps _ (List.mem_of_getElem? hl2)
        have hsq := tr.2 j r _ hr2 hl2
        generalize G[j] = ll at *
        have hkl := hF3.lt _ p3
        have hma : Mut (H' ao) := by rw [ea]; trivial
        have hmg : Mut (H' go) := by rw [eg]; trivial
        have hkas : ll.2.2 < (ivs as).length := by rw [ivs_len, R.len]; exact hkl
        refine ⟨r, _, rfl, hsq, rfl, _, _, rfl, _, _, rfl, _, _, rfl, rfl, ?_⟩
        refine q_setL (pu_ixI (SqL.of eg) (pu_var rfl) (pu_var rfl) hc) (pu_var rfl) ea (pu_var rfl) hkas ?_
        have eg2 : ∀ {o : HO}, upd H' ao o go = some (.lst (ivs g)) := by intro o; rw [upd_ne nag.symm]; exact eg
        have s7 : ∀ {o : HO}, Same H (upd H' ao o) := Same.mut s6 fa
        refine q_when (pt_test (pu_neN (pu_tie0 Wc (hw.mono s7) (pu_var rfl) (pu_var rfl) (tieAt_get hkl)) (pu_var rfl))) (fun hb => ?_) (fun hb => ?_)
        · have hb2 : ¬ (tieAt ts ll.2.2).1 = ll.1 := by simpa using hb
          rw [if_neg hb2] at R2
          refine s_setL (pu_neg (i := c) (pu_ixI (SqL.of eg2) (pu_var rfl) (pu_var rfl) hc)) (pu_var rfl) upd_same (pu_var rfl) (by rw [List.length_set]; exact hkas) ?_
          rw [upd_upd, List.set_set, ivs_set]
          refine s_augL (pu_var rfl) eg2 (pu_var rfl) (ivs_get hd) (pu_ixI (SqL.of eg2) (pu_var rfl) (pu_var rfl) hc) ?_
          have hmg2 : Mut (upd H' ao (.lst (ivs (as.set ll.2.2 (-c)))) go) := by rw [eg2]; trivial
          refine ⟨_, _, _, _, _, rfl, Same.mut s7 fg, by rw [upd_ne nag, upd_same], by rw [upd_same, ivs_set], by rw [upd_ne ngh.symm, upd_ne nah.symm]; exact eh, (tr.upd hma).upd hmg2, ?_⟩
          rw [hj3]
          exact R2
        · have hb2 : (tieAt ts ll.2.2).1 = ll.1 := by simpa using hb
          rw [if_pos hb2] at R2
          rw [ivs_set]
          refine s_augL (pu_var rfl) eg2 (pu_var rfl) (ivs_get hd) (pu_ixI (SqL.of eg2) (pu_var rfl) (pu_var rfl) hc) ?_
          have hmg2 : Mut (upd H' ao (.lst (ivs (as.set ll.2.2 c))) go) := by rw [eg2]; trivial
          refine ⟨_, _, _, _, _, rfl, Same.mut s7 fg, by rw [upd_ne nag, upd_same], by rw [upd_same, ivs_set], by rw [upd_ne ngh.symm, upd_ne nah.symm]; exact eh, (tr.upd hma).upd hmg2, ?_⟩
          rw [hj3]
          exact R2
      · rintro σ' H6 ⟨as, g, v4, v7, v8, rfl, s6, ea, eg, eh, tr, R⟩
        rw [hlr, Nat.sub_self] at R
        refine s_ret (pu_var rfl) (q as ao H6 ⟨R.len, R.all hH hF3 hV.ends, fun i k v h1 h2 => ?_⟩ fa s6 ea)
        have hk := mem_free.mp (List.mem_of_getElem? h1)
        rw [R.free k hk.1 hk.2]
        exact hpf i k v h1 h2
/-! 0 web, 1 values, 2 k -/
abbrev s_filled : Stmt := topS 51
abbrev N_filled : List Str := ["web", "values", "k"]
theorem sc_filled : FnScope N_filled ["web", "values", "k"] (defScope s_filled) := ⟨rfl, rfl, rfl, by decide +kernel, rfl, by decide +kernel, by decide +kernel⟩
def sp_filled (K : PySem.W.Frag) (C : Addr) : Sp := fun vs H Q _ => ∃ (a l : Addr) (n : Nat) (ts : List Tie) (F : List Nat) (us : List Int), vs = [.ref a, .ref l, .int 3] ∧ WebAt K C H a n ts ∧ SqL K H l (ivs us) ∧ Forest ts F ∧ us.length = (free ts F).length ∧
  ∀ as r H2, RestFlow ts n as → (∀ (i k : Nat) (v : Int), (free ts F)[i]? = some k → us[i]? = some v → as[k]? = some (v % 3)) → H r = none → Same H H2 → H2 r = some (.lst (ivs as)) → Q (.ref r) H2
theorem ok_filled (F : Df K mg "filled" ["web", "values", "k"] s_filled) (T : Bt mg) (Wc : WebC K C) (G_look_at_rest : Gd P w K mg base 1 "look_at_rest" ["k"] sp_look_at_rest) (G_rests_of : Gd P w K mg base 2 "rests_of" ["amounts", "k"] (sp_rests_of K))
    (G_filled_whole : Gd P w K mg base 3 "filled_whole" ["web", "values"] (sp_filled_whole K C)) : Gd P w K mg base 4 "filled" ["web", "values", "k"] (sp_filled K C) := by
  refine F.gd sc_filled (fun vs H Q E h => ?_) (fun f cdv A outer s H vs Q E hr h => ?_)
  · obtain ⟨a, l, n, ts, F, us, rfl, _⟩ := h
    rfl
  · obtain ⟨a, l, n, ts, F, us, rfl, hw, hl, hF, hlen, q⟩ := h
    have hr_look_at_rest := hr.mono (j := 1) (by decide)
    have hr_rests_of := hr.mono (j := 2) (by decide)
    have hr_filled_whole := hr
    refine ⟨_, (pss_cons (ps_expr (pe_gd G_look_at_rest hr_look_at_rest (by rfl) (pa_cons (pv 2) pa_nil)))
      (pss_one (ps_ret (pe_gd G_rests_of hr_rests_of (by rfl) (pa_cons (pe_gd G_filled_whole hr_filled_whole (by rfl) (pa_cons (pv 0) (pa_cons (pv 1) pa_nil))) (pa_cons (pv 2) pa_nil)))))), ?_⟩
    have h40 := hw.ok.len
    refine q_gdDrop (pa1 (pu_var rfl) pa0) ⟨rfl, ?_⟩
    refine s_retGd2 (pa1 (pu_var rfl) (pa1 (pu_var rfl) pa0)) ⟨a, l, n, ts, F, us, rfl, hw, hl, hF, hlen, fun as r H2 hW f2 s2 e2 => ?_⟩
    refine (pa1 (pu_var rfl) pa0).at ⟨r, as, rfl, SqL.of e2, by rw [hW.len]; omega, fun r3 H3 f3 s3 e3 => ?_⟩
    refine q (as.map fun x => x % 3) r3 H3 ⟨by rw [List.length_map]; exact hW.len, fun b hb => ?_, fun x hx => ?_⟩ (fun i k v h1 h2 => ?_) (s2.free f3) (s2.trans s3) e3
    · obtain ⟨c, _, rfl⟩ := List.mem_map.mp hb
      omega
    · rw [gain_rest, hW.g x hx]
      rfl
    · rw [List.getElem?_map, hW.fr i k v h1 h2]
      rfl
end
end Bz

set_option Elab.async false
set_option linter.all false
set_option maxHeartbeats 400000
namespace Bz
/-! ### flows between bounds -/
/-- another place, a tie, its sign, how much -/
abbrev W4 := Nat × Nat × Int × Int
/-- one step over a tie from p to y: sign s, room r -/
structure OkWay (ts : List Tie) (as lo hi : List Int) (p y t : Nat) (s r : Int) : Prop where
  lt : t < ts.length
  or : (s = 1 ∧ (tieAt ts t).1 = p ∧ (tieAt ts t).2 = y ∧ as.getD t 0 < hi.getD t 0 ∧ r = hi.getD t 0 - as.getD t 0) ∨ (s = -1 ∧ (tieAt ts t).2 = p ∧ (tieAt ts t).1 = y ∧ lo.getD t 0 < as.getD t 0 ∧ r = as.getD t 0 - lo.getD t 0)
theorem OkWay.pos {ts : List Tie} {as lo hi : List Int} {p y t : Nat} {s r : Int} (h : OkWay ts as lo hi p y t s r) : 0 < r := by
  rcases h.or with ⟨_, _, _, a, b⟩ | ⟨_, _, _, a, b⟩ <;> omega
/-- all ways of a place stand in W -/
def AllWays (ts : List Tie) (as lo hi : List Int) (p k : Nat) (W : List W4) : Prop := ∀ t, t < k → ((tieAt ts t).1 = p → as.getD t 0 < hi.getD t 0 → ∃ l ∈ W, l.1 = (tieAt ts t).2) ∧ ((tieAt ts t).2 = p → lo.getD t 0 < as.getD t 0 → ∃ l ∈ W, l.1 = (tieAt ts t).1)
/-- R is shut at the place p -/
def ShW (ts : List Tie) (as lo hi : List Int) (R : List Nat) (p : Nat) : Prop := ∀ t, t < ts.length → ((tieAt ts t).1 = p → as.getD t 0 < hi.getD t 0 → (tieAt ts t).2 ∈ R) ∧ ((tieAt ts t).2 = p → lo.getD t 0 < as.getD t 0 → (tieAt ts t).1 ∈ R)
theorem ShW.mono {ts : List Tie} {as lo hi : List Int} {R S : List Nat} {p : Nat} (h : ShW ts as lo hi R p) (s : ∀ y ∈ R, y ∈ S) : ShW ts as lo hi S p := fun t ht => ⟨fun a b => s _ ((h t ht).1 a b), fun a b => s _ ((h t ht).2 a b)⟩
/-- an entry of the search -/
abbrev En := Nat × Option W4
structure SR (ts : List Tie) (as lo hi : List Int) (n : Nat) (L : List En) : Prop where
  nd : (L.map (·.1)).Nodup
  lt : ∀ y ∈ L.map (·.1), y < n
  pa : ∀ (i y p t : Nat) (s r : Int), L[i]? = some (y, some (p, t, s, r)) → p ∈ (L.map (·.1)).take i ∧ OkWay ts as lo hi p y t s r
  ro : ∀ (i y : Nat), L[i]? = some (y, none) → 0 < gain ts as y
theorem SR.start (ts : List Tie) (as lo hi : List Int) (n : Nat) : SR ts as lo hi n [] := ⟨List.Pairwise.nil, fun y h => absurd h List.not_mem_nil, fun i y p t s r h => by simp at h, fun i y h => by simp at h⟩
theorem SR.root {ts : List Tie} {as lo hi : List Int} {n y : Nat} {L : List En} (R : SR ts as lo hi n L) (hy : y ∉ L.map (·.1)) (hyn : y < n) (hg : 0 < gain ts as y) : SR ts as lo hi n (L ++ [(y, none)]) := by
  refine ⟨by rw [List.map_append]; exact nodup_snoc R.nd hy, fun z hz => ?_, fun i z p t s r h => ?_, fun i z h => ?_⟩
  · rw [List.map_append] at hz
    rcases List.mem_append.mp hz with q | q
    · exact R.lt z q
    · rw [List.mem_singleton.mp q]; exact hyn
  · rcases snoc_get h with ⟨h1, h2⟩ | ⟨h1, h2⟩
    · obtain ⟨a, b⟩ := R.pa i z p t s r h2
      refine ⟨?_, b⟩
      rw [List.map_append, List.take_append_of_le_length (by rw [List.length_map]; omega)]
      exact a
    · cases h2
  · rcases snoc_get h with ⟨h1, h2⟩ | ⟨h1, h2⟩
    · exact R.ro i z h2
    · cases h2
      exact hg
theorem SR.step {ts : List Tie} {as lo hi : List Int} {n y p t : Nat} {s r : Int} {L : List En} (R : SR ts as lo hi n L) (hp : p ∈ L.map (·.1)) (hy : y ∉ L.map (·.1)) (hyn : y < n) (hw : OkWay ts as lo hi p y t s r) : SR ts as lo hi n (L ++ [(y, some (p, t, s, r))]) := by
  refine ⟨by rw [List.map_append]; exact nodup_snoc R.nd hy, fun z hz => ?_, fun i z p2 t2 s2 r2 h => ?_, fun i z h => ?_⟩
  · rw [List.map_append] at hz
    rcases List.mem_append.mp hz with q | q
    · exact R.lt z q
    · rw [List.mem_singleton.mp q]; exact hyn
  · rw [List.map_append]
    rcases snoc_get h with ⟨h1, h2⟩ | ⟨h1, h2⟩
    · obtain ⟨a, b⟩ := R.pa i z p2 t2 s2 r2 h2
      rw [List.take_append_of_le_length (by rw [List.length_map]; omega)]
      exact ⟨a, b⟩
    · cases h2
      rw [h1, List.take_append_of_le_length (by rw [List.length_map]; omega), List.take_of_length_le (by rw [List.length_map]; omega)]
      exact ⟨hp, hw⟩
  · rcases snoc_get h with ⟨h1, h2⟩ | ⟨h1, h2⟩
    · exact R.ro i z h2
    · cases h2
theorem cut_le {X : Nat → Bool} : ∀ {ts : List Tie} {as : List Int}, as.length = ts.length → (∀ j, j < ts.length → (X (tieAt ts j).1 = true → X (tieAt ts j).2 = false → 0 ≤ as.getD j 0) ∧ (X (tieAt ts j).2 = true → X (tieAt ts j).1 = false → as.getD j 0 ≤ 0)) → cut X ts as ≤ 0
  | [], as, _, _ => by cases as <;> exact Int.le_refl _
  | _ :: _, [], _, _ => Int.le_refl _
  | e :: ts, a :: as, hl, h => by
    show (if X e.2 = true then a else 0) - (if X e.1 = true then a else 0) + cut X ts as ≤ 0
    have ih := cut_le (X := X) (ts := ts) (as := as) (by simpa using hl) fun j hj => h (j + 1) (by show j + 1 < ts.length + 1; omega)
    obtain ⟨h1, h2⟩ := h 0 (by show 0 < ts.length + 1; omega)
    have h1' : X e.1 = true → X e.2 = false → 0 ≤ a := h1
    have h2' : X e.2 = true → X e.1 = false → a ≤ 0 := h2
    cases c1 : X e.1 <;> cases c2 : X e.2
    · simp; exact ih
    · have := h2' c2 c1
      simp
      omega
    · have := h1' c1 c2
      simp
      omega
    · simp; exact ih
theorem tot_nonneg {X : Nat → Bool} {g : Nat → Int} : ∀ {n : Nat}, (∀ x, x < n → X x = true → 0 ≤ g x) → 0 ≤ tot X g n
  | 0, _ => Int.le_refl _
  | n + 1, h => by
    show 0 ≤ tot X g n + _
    have ih := tot_nonneg fun x hx => h x (Nat.lt_succ_of_lt hx)
    by_cases c : X n = true
    · rw [if_pos c]
      have := h n (Nat.lt_succ_self n) c
      omega
    · rw [if_neg c]
      omega
theorem tot_pos {X : Nat → Bool} {g : Nat → Int} {y : Nat} (hX : X y = true) (hy : 0 < g y) : ∀ {n : Nat}, y < n → (∀ x, x < n → X x = true → 0 ≤ g x) → 0 < tot X g n
  | 0, h, _ => absurd h (Nat.not_lt_zero _)
  | n + 1, h, hz => by
    show 0 < tot X g n + _
    by_cases e : y = n
    · subst e
      rw [if_pos hX]
      have := tot_nonneg (X := X) (g := g) (n := y) fun x hx => hz x (Nat.lt_succ_of_lt hx)
      omega
    · have ih := tot_pos hX hy (n := n) (by omega) fun x hx => hz x (Nat.lt_succ_of_lt hx)
      by_cases c : X n = true
      · rw [if_pos c]
        have := hz n (Nat.lt_succ_self n) c
        omega
      · rw [if_neg c]
        omega
structure Bnd (ts : List Tie) (as lo hi : List Int) : Prop where
  la : as.length = ts.length
  ll : lo.length = ts.length
  lh : hi.length = ts.length
  b : ∀ t, t < ts.length → lo.getD t 0 ≤ as.getD t 0 ∧ as.getD t 0 ≤ hi.getD t 0 ∧ lo.getD t 0 ≤ 0 ∧ 0 ≤ hi.getD t 0 ∧ (hi.getD t 0 - as.getD t 0) % 3 = 0 ∧ (as.getD t 0 - lo.getD t 0) % 3 = 0
/-- no shut set: some place that lacks is reached -/
theorem never_shut {ts : List Tie} {as lo hi : List Int} {n y : Nat} {R : List Nat} (B : Bnd ts as lo hi) (hv : ∀ e ∈ ts, e.1 < n ∧ e.2 < n) (hsh : ∀ p ∈ R, ShW ts as lo hi R p) (hpos : ∀ x, x < n → 0 < gain ts as x → x ∈ R) (hy : y < n) (hg : 0 < gain ts as y) : ∃ z ∈ R, gain ts as z < 0 := by
  refine Classical.byContradiction fun hno => ?_
  have hno2 : ∀ z ∈ R, 0 ≤ gain ts as z := fun z hz => by
    refine Classical.byContradiction fun q => hno ⟨z, hz, by omega⟩
  have h1 := tot_gain (X := fun z => decide (z ∈ R)) (as := as) hv
  have h2 := tot_pos (X := fun z => decide (z ∈ R)) (g := gain ts as) (y := y) (decide_eq_true (hpos y hy hg)) hg hy fun x _ hx => hno2 x (of_decide_eq_true hx)
  have h3 := cut_le (X := fun z => decide (z ∈ R)) B.la fun t ht => by
    obtain ⟨b1, b2, b3, b4, _⟩ := B.b t ht
    constructor
    · intro c1 c2
      have a1 : (tieAt ts t).1 ∈ R := of_decide_eq_true c1
      have a2 : (tieAt ts t).2 ∉ R := of_decide_eq_false c2
      have : ¬ as.getD t 0 < hi.getD t 0 := fun q => a2 ((hsh _ a1 t ht).1 rfl q)
      omega
    · intro c1 c2
      have a1 : (tieAt ts t).2 ∈ R := of_decide_eq_true c1
      have a2 : (tieAt ts t).1 ∉ R := of_decide_eq_false c2
      have : ¬ lo.getD t 0 < as.getD t 0 := fun q => a2 ((hsh _ a1 t ht).2 rfl q)
      omega
  omega
/-- ways back from y to x, the last one first -/
def Bk (ts : List Tie) (as lo hi : List Int) : Nat → List W4 → Nat → Prop
  | y, [], x => y = x
  | y, l :: ws, x => OkWay ts as lo hi l.1 y l.2.1 l.2.2.1 l.2.2.2 ∧ Bk ts as lo hi l.1 ws x
theorem Bk.snoc {ts : List Tie} {as lo hi : List Int} {x : Nat} {l : W4} : ∀ {ws : List W4} {y : Nat}, Bk ts as lo hi y ws x → OkWay ts as lo hi l.1 x l.2.1 l.2.2.1 l.2.2.2 → Bk ts as lo hi y (ws ++ [l]) l.1
  | [], y, h, hw => by
    have e : y = x := h
    subst e
    exact ⟨hw, rfl⟩
  | m :: ws, y, h, hw => ⟨h.1, Bk.snoc (ws := ws) h.2 hw⟩
/-- going back to where it begins -/
structure Bck (ts : List Tie) (as lo hi : List Int) (L : List En) (y q : Nat) (ws : List W4) (c : Nat) : Prop where
  at' : ∃ o, L[q]? = some (c, o)
  bk : Bk ts as lo hi y ws c
  nd : (ws.map (·.2.1)).Nodup
  far : ∀ l ∈ ws, ∃ e, ((tieAt ts l.2.1).1 = e ∨ (tieAt ts l.2.1).2 = e) ∧ e ∉ (L.map (·.1)).take (q + 1)
theorem Bck.start {ts : List Tie} {as lo hi : List Int} {L : List En} {y q : Nat} {o : Option W4} (h : L[q]? = some (y, o)) : Bck ts as lo hi L y q [] y := ⟨⟨o, h⟩, rfl, List.Pairwise.nil, fun l h => absurd h List.not_mem_nil⟩
theorem Bck.step {ts : List Tie} {as lo hi : List Int} {n : Nat} {L : List En} {y q c : Nat} {ws : List W4} {l : W4} (B : Bck ts as lo hi L y q ws c) (S : SR ts as lo hi n L) (hl : L[q]? = some (c, some l)) :
    ∃ q', q' < q ∧ OkWay ts as lo hi l.1 c l.2.1 l.2.2.1 l.2.2.2 ∧ Bck ts as lo hi L y q' (ws ++ [l]) l.1 := by
  obtain ⟨p, t, s, r⟩ := l
  obtain ⟨hp, hw⟩ := S.pa q c p t s r hl
  obtain ⟨q', hq', ep⟩ := pos_of hp
  have hkc : (L.map (·.1))[q]? = some c := by rw [List.getElem?_map, hl]; rfl
  have hends : ∀ e, ((tieAt ts t).1 = e ∨ (tieAt ts t).2 = e) → e = p ∨ e = c := fun e he => by
    rcases hw.or with ⟨_, a, b, _⟩ | ⟨_, a, b, _⟩ <;> rcases he with q | q
    · exact .inl (q.symm.trans a)
    · exact .inr (q.symm.trans b)
    · exact .inr (q.symm.trans b)
    · exact .inl (q.symm.trans a)
  refine ⟨q', hq', hw, ?_, B.bk.snoc hw, ?_, fun m hm => ?_⟩
  · rw [List.getElem?_map] at ep
    cases z : L[q']? with
    | none => rw [z] at ep; cases ep
    | some u =>
      rw [z] at ep
      have : u.1 = p := Option.some.inj ep
      exact ⟨u.2, by rw [← this]⟩
  · rw [List.map_append]
    refine nodup_snoc B.nd fun h => ?_
    obtain ⟨m, hm, em⟩ := List.mem_map.mp h
    have em2 : m.2.1 = t := em
    obtain ⟨e, he, hne⟩ := B.far m hm
    rw [em2] at he
    refine hne ?_
    have inc : c ∈ (L.map (·.1)).take (q + 1) := List.mem_of_getElem? (i := q) (by rw [List.getElem?_take, if_pos (Nat.lt_succ_self q)]; exact hkc)
    have inp : p ∈ (L.map (·.1)).take (q + 1) := by
      have := List.mem_of_getElem? (l := (L.map (·.1)).take (q + 1)) (i := q') (a := p) (by rw [List.getElem?_take, if_pos (by omega)]; exact ep)
      exact this
    rcases hends e he with z | z
    · rw [z]; exact inp
    · rw [z]; exact inc
  · rcases List.mem_append.mp hm with z | z
    · obtain ⟨e, he, hne⟩ := B.far m z
      refine ⟨e, he, fun w => hne ?_⟩
      have : (L.map (·.1)).take (q' + 1) = ((L.map (·.1)).take (q + 1)).take (q' + 1) := by rw [List.take_take, Nat.min_eq_left (by omega)]
      rw [this] at w
      exact List.mem_of_mem_take w
    · rw [List.mem_singleton.mp z]
      refine ⟨c, ?_, nd_take S.nd hkc (by omega)⟩
      rcases hw.or with ⟨_, a, b, _⟩ | ⟨_, a, b, _⟩
      · exact .inr b
      · exact .inl b
/-! ### more is sent -/
structure Aug (ts : List Tie) (as lo hi : List Int) (y x : Nat) (c : Int) (ws : List W4) (i : Nat) (cur : Nat) (bs : List Int) : Prop where
  b : Bnd ts bs lo hi
  same : ∀ t, t ∉ (ws.take i).map (·.2.1) → bs.getD t 0 = as.getD t 0
  g : ∀ z, gain ts bs z = gain ts as z + ind (y = z) c - ind (cur = z) c
  rest : Bk ts as lo hi cur (ws.drop i) x
theorem Aug.start {ts : List Tie} {as lo hi : List Int} {y x : Nat} {c : Int} {ws : List W4} (B : Bnd ts as lo hi) (h : Bk ts as lo hi y ws x) : Aug ts as lo hi y x c ws 0 y as :=
  ⟨B, fun _ _ => rfl, fun z => by omega, h⟩
theorem getD_set {l : List Int} {k t : Nat} {v : Int} (hk : k < l.length) : (l.set k v).getD t 0 = if k = t then v else l.getD t 0 := by
  by_cases e : k = t
  · subst e
    rw [if_pos rfl]
    exact getD_of (List.getElem?_set_self hk)
  · rw [if_neg e, List.getD_eq_getElem?_getD, List.getElem?_set_ne e, ← List.getD_eq_getElem?_getD]
theorem Aug.step {ts : List Tie} {as lo hi bs : List Int} {y x i cur : Nat} {c : Int} {ws : List W4} {l : W4} (R : Aug ts as lo hi y x c ws i cur bs) (hn : (ws.map (·.2.1)).Nodup) (hl : ws[i]? = some l) (hc : 0 ≤ c ∧ c % 3 = 0 ∧ ∀ l ∈ ws, c ≤ l.2.2.2) :
    bs[l.2.1]? = some (bs.getD l.2.1 0) ∧ Aug ts as lo hi y x c ws (i + 1) l.1 (bs.set l.2.1 (bs.getD l.2.1 0 + l.2.2.1 * c)) := by
  obtain ⟨hlt, e⟩ := List.getElem?_eq_some_iff.mp hl
  have hd : ws.drop i = l :: ws.drop (i + 1) := by rw [List.drop_eq_getElem_cons hlt, e]
  have hr := R.rest
  rw [hd] at hr
  obtain ⟨hw, hr⟩ := hr
  have htb : l.2.1 < bs.length := by rw [R.b.la]; exact hw.lt
  have hm : l ∈ ws := List.mem_of_getElem? hl
  have hcl := hc.2.2 l hm
  have hnot : l.2.1 ∉ (ws.take i).map (·.2.1) := by
    rw [List.map_take]
    exact nd_take hn (by rw [List.getElem?_map, hl]; rfl) (Nat.le_refl i)
  have hs := R.same _ hnot
  have hg0 : bs[l.2.1]? = some (bs.getD l.2.1 0) := get_getD htb
  have tk : ws.take (i + 1) = ws.take i ++ [l] := by rw [List.take_add_one, hl]; rfl
  refine ⟨hg0, ⟨by rw [List.length_set]; exact R.b.la, R.b.ll, R.b.lh, fun t ht => ?_⟩, fun t ht => ?_, fun z => ?_, hr⟩
  · have b0 := R.b.b t ht
    rw [getD_set htb]
    by_cases q : l.2.1 = t
    · rw [if_pos q]
      subst q
      rw [hs] at b0 ⊢
      obtain ⟨c0, c3, _⟩ := hc
      rcases hw.or with ⟨e1, _, _, e2, e3⟩ | ⟨e1, _, _, e2, e3⟩
      · rw [e1, Int.one_mul]
        omega
      · rw [e1, show (-1 : Int) * c = -c by omega]
        omega
    · rw [if_neg q]
      exact b0
  · rw [tk, List.map_append] at ht
    have n1 : ¬ l.2.1 = t := fun q => ht (List.mem_append_right _ (by rw [← q]; exact List.mem_singleton.mpr rfl))
    rw [getD_set htb, if_neg n1]
    exact R.same t fun q => ht (List.mem_append_left _ q)
  · rw [gain_set ts bs l.2.1 _ _ z hg0 hw.lt, R.g z]
    rcases hw.or with ⟨e1, a1, a2, _⟩ | ⟨e1, a1, a2, _⟩
    · rw [e1, a1, a2, Int.one_mul, show bs.getD l.2.1 0 + c - bs.getD l.2.1 0 = c by omega]
      omega
    · rw [e1, a1, a2, show bs.getD l.2.1 0 + -1 * c - bs.getD l.2.1 0 = -c by omega, ind_neg, ind_neg]
      omega
/-! ### what falls -/
def posT (g : Nat → Int) : Nat → Nat
  | 0 => 0
  | n + 1 => posT g n + (g n).toNat
theorem posT_le {f g : Nat → Int} : ∀ {n : Nat}, (∀ x, x < n → (f x).toNat ≤ (g x).toNat) → posT f n ≤ posT g n
  | 0, _ => Nat.le_refl _
  | n + 1, h => Nat.add_le_add (posT_le fun x hx => h x (Nat.lt_succ_of_lt hx)) (h n (Nat.lt_succ_self n))
theorem posT_lt {f g : Nat → Int} {y : Nat} (hy : (f y).toNat < (g y).toNat) : ∀ {n : Nat}, y < n → (∀ x, x < n → (f x).toNat ≤ (g x).toNat) → posT f n < posT g n
  | 0, h, _ => absurd h (Nat.not_lt_zero _)
  | n + 1, h, hl => by
    by_cases e : y = n
    · subst e
      exact Nat.add_lt_add_of_le_of_lt (posT_le fun x hx => hl x (Nat.lt_succ_of_lt hx)) hy
    · exact Nat.add_lt_add_of_lt_of_le (posT_lt hy (by omega) fun x hx => hl x (Nat.lt_succ_of_lt hx)) (hl n (Nat.lt_succ_self n))
/-- where no place gains, none lacks -/
theorem none_lacks {ts : List Tie} {as : List Int} {n : Nat} (hv : ∀ e ∈ ts, e.1 < n ∧ e.2 < n) (h : ∀ x, x < n → gain ts as x ≤ 0) : ∀ x, x < n → gain ts as x = 0 := by
  intro x hx
  refine Classical.byContradiction fun hne => ?_
  have h1 := tot_gain (X := fun _ => true) (as := as) hv
  rw [cut_closed fun _ _ => rfl] at h1
  have h2 := tot_pos (X := fun _ => true) (g := fun x => - gain ts as x) (y := x) rfl (by have := h x hx; show 0 < - gain ts as x; omega) hx fun z hz _ => by
    have := h z hz
    show 0 ≤ - gain ts as z
    omega
  rw [tot_neg, h1] at h2
  omega
end Bz

set_option Elab.async false
set_option linter.all false
set_option maxRecDepth 100000
set_option maxHeartbeats 1000000
namespace Bz
open PySem PySem.Spec L2
section
variable {P : Program} {w : World} {K : PySem.W.Frag} {mg : Str → Option Value} {base : Heap} {C : Addr}
/-! ### lists of ways -/
def qv (l : W4) : List V := [.int (l.1 : Int), .int (l.2.1 : Int), .int l.2.2.1, .int l.2.2.2]
def Qua (K : PySem.W.Frag) (H : Hp) (rs : List Addr) (W : List W4) : Prop := rs.length = W.length ∧ ∀ (i : Nat) (r : Addr) (l : W4), rs[i]? = some r → W[i]? = some l → SqT K H r (qv l)
theorem Qua.mono {H H' : Hp} {rs : List Addr} {W : List W4} (s : Same H H') (h : Qua K H rs W) : Qua K H' rs W := ⟨h.1, fun i r l a b => Same.seqT s (h.2 i r l a b)⟩
theorem Qua.upd {H : Hp} {rs : List Addr} {W : List W4} {p : Addr} {o : HO} (hp : Mut (H p)) (h : Qua K H rs W) : Qua K (upd H p o) rs W := ⟨h.1, fun i r l a b => mut_seqT hp (h.2 i r l a b)⟩
theorem Qua.snoc {H : Hp} {rs : List Addr} {W : List W4} {r : Addr} {l : W4} (h : Qua K H rs W) (hr : SqT K H r (qv l)) : Qua K H (rs ++ [r]) (W ++ [l]) := by
  refine ⟨by rw [List.length_append, List.length_append, h.1]; rfl, fun i q m a b => ?_⟩
  rcases snoc_get a with ⟨h1, h2⟩ | ⟨h1, h2⟩
  · rcases snoc_get b with ⟨h3, h4⟩ | ⟨h3, h4⟩
    · exact h.2 i q m h2 h4
    · have := h.1
      omega
  · rcases snoc_get b with ⟨h3, h4⟩ | ⟨h3, h4⟩
    · have := h.1
      omega
    · rw [h2, h4]
      exact hr
theorem rvs_snoc (rs : List Addr) (r : Addr) : rvs rs ++ [.ref r] = rvs (rs ++ [r]) := by
  show rs.map V.ref ++ [V.ref r] = (rs ++ [r]).map V.ref
  rw [List.map_append]
  rfl
/-- entries of a search in a dict -/
def EnV (K : PySem.W.Frag) (H : Hp) (v : V) : Option W4 → Prop
  | none => v = .non
  | some l => ∃ r, v = .ref r ∧ SqT K H r (qv l)
theorem EnV.mono {H H' : Hp} {v : V} (s : Same H H') : ∀ {o : Option W4}, EnV K H v o → EnV K H' v o
  | none, h => h
  | some _, ⟨r, e, h⟩ => ⟨r, e, Same.seqT s h⟩
theorem EnV.upd {H : Hp} {v : V} {p : Addr} {x : HO} (hp : Mut (H p)) : ∀ {o : Option W4}, EnV K H v o → EnV K (upd H p x) v o
  | none, h => h
  | some _, ⟨r, e, h⟩ => ⟨r, e, mut_seqT hp h⟩
def EnB (K : PySem.W.Frag) (H : Hp) (M : List (Nat × V)) (L : List En) : Prop := M.length = L.length ∧ ∀ (i : Nat) (p : Nat × V) (l : En), M[i]? = some p → L[i]? = some l → p.1 = l.1 ∧ EnV K H p.2 l.2
theorem EnB.keys {H : Hp} {M : List (Nat × V)} {L : List En} (h : EnB K H M L) : M.map (·.1) = L.map (·.1) := by
  refine List.ext_getElem? fun i => ?_
  rw [List.getElem?_map, List.getElem?_map]
  cases e : M[i]? with
  | none =>
    have h1 := List.getElem?_eq_none_iff.mp e
    rw [List.getElem?_eq_none_iff.mpr (by rw [← h.1]; exact h1)]
    rfl
  | some p =>
    have hlt := (List.getElem?_eq_some_iff.mp e).1
    have hl : L[i]? = some (L[i]'(by rw [← h.1]; exact hlt)) := List.getElem?_eq_getElem _
    rw [hl]
    show some p.1 = some _
    rw [(h.2 i p _ e hl).1]
theorem EnB.mono {H H' : Hp} {M : List (Nat × V)} {L : List En} (s : Same H H') (h : EnB K H M L) : EnB K H' M L := ⟨h.1, fun i p l a b => ⟨(h.2 i p l a b).1, (h.2 i p l a b).2.mono s⟩⟩
theorem EnB.upd {H : Hp} {M : List (Nat × V)} {L : List En} {p : Addr} {x : HO} (hp : Mut (H p)) (h : EnB K H M L) : EnB K (upd H p x) M L := ⟨h.1, fun i p l a b => ⟨(h.2 i p l a b).1, (h.2 i p l a b).2.upd hp⟩⟩
theorem EnB.snoc {H : Hp} {M : List (Nat × V)} {L : List En} {k : Nat} {v : V} {o : Option W4} (h : EnB K H M L) (hr : EnV K H v o) : EnB K H (M ++ [(k, v)]) (L ++ [(k, o)]) := by
  refine ⟨by rw [List.length_append, List.length_append, h.1]; rfl, fun i q m a b => ?_⟩
  rcases snoc_get a with ⟨h1, h2⟩ | ⟨h1, h2⟩
  · rcases snoc_get b with ⟨h3, h4⟩ | ⟨h3, h4⟩
    · exact h.2 i q m h2 h4
    · have := h.1
      omega
  · rcases snoc_get b with ⟨h3, h4⟩ | ⟨h3, h4⟩
    · have := h.1
      omega
    · rw [h2, h4]
      exact ⟨rfl, hr⟩
section
variable {σ : St} {H : Hp} {D : Ends} {tz tu tw : TS} {g : TG} {sp : Sp} {tr : TA} {vs : List V} {t : TT} {b : Bool}
theorem q_whenP (Pv : Hp → Prop) (h : PuT t σ H b) (h1 : b = true → (∀ H', Pv H' → tz D σ H') → tu { D with nx := tz D } σ H) (h2 : b = false → Pv H) (h3 : ∀ H', Pv H' → tz D σ H') : tSeq (tIfS t tu tNext) tz D σ H :=
  q_when h (fun e => h1 e h3) (fun e => h3 H (h2 e))
theorem s_forGd (h : PuA tr σ H vs) (k : sp vs H (fun v H1 => ∃ (a : Addr), v = .ref a ∧ (∃ xs, SqL K H1 a xs) ∧ Fo (Itl K a) g tu D σ H1) E0) : tFor (iList K (tGd sp tr)) g tu D σ H := h.at k
theorem q_forGd (h : PuA tr σ H vs) (k : sp vs H (fun v H1 => ∃ (a : Addr), v = .ref a ∧ (∃ xs, SqL K H1 a xs) ∧ Fo (Itl K a) g tu { D with nx := tz D } σ H1) E0) : tSeq (tFor (iList K (tGd sp tr)) g tu) tz D σ H := h.at k
theorem s_retT (h : PuA tr σ H vs) (hz : vs.length ≤ 1000) (k : ∀ r, H r = none → D.rt (.ref r) (upd H r (.tup vs))) : tRet (tTup tr) D σ H := h.at ⟨small_le (by omega), k⟩
end
/-! 0 web, 1 lows, 2 highs, 3 low, 4 high -/
abbrev s_look_at_bounds : Stmt := topS 53
abbrev N_look_at_bounds : List Str := ["web", "lows", "highs", "low", "high"]
theorem sc_look_at_bounds : FnScope N_look_at_bounds ["web", "lows", "highs"] (defScope s_look_at_bounds) := ⟨rfl, rfl, rfl, by decide +kernel, rfl, by decide +kernel, by decide +kernel⟩
def sp_look_at_bounds (K : PySem.W.Frag) (C : Addr) : Sp := fun vs H Q _ => ∃ (a l m : Addr) (n : Nat) (ts : List Tie) (lo hi : List Int), vs = [.ref a, .ref l, .ref m] ∧ WebAt K C H a n ts ∧ SqL K H l (ivs lo) ∧ SqL K H m (ivs hi) ∧ lo.length = ts.length ∧ hi.length = ts.length ∧
  (∀ t, t < ts.length → lo.getD t 0 ≤ hi.getD t 0) ∧ ∀ H2, Same H H2 → Q .non H2
theorem ok_look_at_bounds (F : Df K mg "look_at_bounds" ["web", "lows", "highs"] s_look_at_bounds) (T : Bt mg) (Wc : WebC K C) (G_look_at_count : Gd P w K mg base 1 "look_at_count" ["numbers", "many"] (sp_look_at_count K)) : Gd P w K mg base 2 "look_at_bounds" ["web", "lows", "highs"] (sp_look_at_bounds K C) := by
  refine F.gd sc_look_at_bounds (fun vs H Q E h => ?_) (fun f cdv A outer s H vs Q E hr h => ?_)
  · obtain ⟨a, l, m, n, ts, lo, hi, rfl, _⟩ := h
    rfl
  · obtain ⟨a, l, m, n, ts, lo, hi, rfl, hw, hl, hm, h1, h2, hb, q⟩ := h
    have hr_look_at_count := hr
    refine ⟨_, (pss_cons (ps_expr (pe_gd G_look_at_count hr_look_at_count (by rfl) (pa_cons (pv 1) (pa_cons (pe_callB (w_len K) (by rfl) T.len PySem.boot_len (pa_cons (w_fld K (pv 0)) pa_nil)) pa_nil))))
      (pss_cons (ps_expr (pe_gd G_look_at_count hr_look_at_count (by rfl) (pa_cons (pv 2) (pa_cons (pe_callB (w_len K) (by rfl) T.len PySem.boot_len (pa_cons (w_fld K (pv 0)) pa_nil)) pa_nil))))
      (pss_one (ps_for PassesOwn.never rfl (w_zip K T.zip (pa_cons (pv 1) (pa_cons (pv 2) pa_nil))) (w_pgTup K rfl (pgs_cons (pg_name (i := 3) sc_look_at_bounds.nd rfl (Or.inl rfl)) (pgs_cons (pg_name (i := 4) sc_look_at_bounds.nd rfl (Or.inl rfl)) pgs_nil)))
        (pss_one (ps_if (pt_cmpR op_gt (pv 3) (pv 4) (nomark _))
          (pss_one ps_never)
          pss_nil)))))), ?_⟩
    refine q_gdDrop (pa1 (pu_var rfl) (pa1 (pu_lenT Wc hw (pu_var rfl)) pa0)) ⟨l, ivs lo, _, rfl, hl, by rw [ivs_len]; exact h1, ?_⟩
    refine q_gdDrop (pa1 (pu_var rfl) (pa1 (pu_lenT Wc hw (pu_var rfl)) pa0)) ⟨m, ivs hi, _, rfl, hm, by rw [ivs_len]; exact h2, ?_⟩
    refine s_forZL (H0 := H) (Same.refl H) (pu_var rfl) hl (pu_var rfl) hm (by rw [ivs_len, ivs_len, h1, h2]) (fun i σ' H' => ∃ (v3 v4 : Option V), σ' = [some (.ref a), some (.ref l), some (.ref m), v3, v4] ∧ Same H H') ⟨none, none, rfl, Same.refl H⟩ (fun i σ' H' _ ⟨_, _, _, s⟩ => s) ?_ ?_
    · rintro i x y σ' H' H2 hx hy ⟨v3, v4, rfl, s2⟩ s3
      obtain ⟨c, hc, rfl⟩ := ivs_of hx
      obtain ⟨d, hd, rfl⟩ := ivs_of hy
      have hi' := (List.getElem?_eq_some_iff.mp hc).1
      have := hb i (by omega)
      rw [getD_of hc, getD_of hd] at this
      refine s_when (b := false) ((pt_test (pu_I0 (pu_var rfl) (pu_var rfl))).is (decide_eq_false (by omega))) (fun h => by cases h) (fun _ => ⟨_, _, rfl, s2.trans s3⟩)
    · rintro σ' H' ⟨v3, v4, rfl, s⟩
      exact q H' s
/-! 0 web, 1 amounts, 2 lows, 3 highs, 4 place, 5 found, 6 tie, 7 one, 8 two -/
abbrev s_ways_on : Stmt := topS 54
abbrev N_ways_on : List Str := ["web", "amounts", "lows", "highs", "place", "found", "tie", "one", "two"]
theorem sc_ways_on : FnScope N_ways_on ["web", "amounts", "lows", "highs", "place"] (defScope s_ways_on) := ⟨rfl, rfl, rfl, by decide +kernel, rfl, by decide +kernel, by decide +kernel⟩
def sp_ways_on (K : PySem.W.Frag) (C : Addr) : Sp := fun vs H Q _ => ∃ (a al l m : Addr) (n p : Nat) (ts : List Tie) (as lo hi : List Int), vs = [.ref a, .ref al, .ref l, .ref m, .int (p : Int)] ∧ WebAt K C H a n ts ∧ SqL K H al (ivs as) ∧ SqL K H l (ivs lo) ∧ SqL K H m (ivs hi) ∧ Bnd ts as lo hi ∧
  ∀ W rs r H2, (∀ l ∈ W, OkWay ts as lo hi p l.1 l.2.1 l.2.2.1 l.2.2.2) → AllWays ts as lo hi p ts.length W → W.length ≤ 100 → H r = none → Same H H2 → H2 r = some (.lst (rvs rs)) → Qua K H2 rs W → Q (.ref r) H2
theorem AllWays.mono {ts : List Tie} {as lo hi : List Int} {p k : Nat} {W V' : List W4} (h : AllWays ts as lo hi p k W) (s : ∀ l ∈ W, l ∈ V') : AllWays ts as lo hi p k V' := fun t ht => ⟨fun a b => by
  obtain ⟨l, hl, e⟩ := (h t ht).1 a b
  exact ⟨l, s l hl, e⟩, fun a b => by
  obtain ⟨l, hl, e⟩ := (h t ht).2 a b
  exact ⟨l, s l hl, e⟩⟩
theorem ok_ways_on (F : Df K mg "ways_on" ["web", "amounts", "lows", "highs", "place"] s_ways_on) (T : Bt mg) (Wc : WebC K C) : Gd P w K mg base 1 "ways_on" ["web", "amounts", "lows", "highs", "place"] (sp_ways_on K C) := by
  refine F.gd sc_ways_on (fun vs H Q E h => ?_) (fun f cdv A outer s H vs Q E hr h => ?_)
  · obtain ⟨a, al, l, m, n, p, ts, as, lo, hi, rfl, _⟩ := h
    rfl
  · obtain ⟨a, al, l, m, n, p, ts, as, lo, hi, rfl, hw, ha, hl, hm, B, q⟩ := h
    refine ⟨_, (pss_cons (ps_set (i := 5) sc_ways_on.nd rfl (Or.inl rfl) (pe_lst pa_nil))
      (pss_cons (ps_for PassesOwn.never rfl (w_enumT K T.enumerate (pa_cons (w_fld K (pv 0)) pa_nil)) (w_pgTup K rfl (pgs_cons (pg_name (i := 6) sc_ways_on.nd rfl (Or.inl rfl)) (pgs_cons (w_pgTup K rfl (pgs_cons (pg_name (i := 7) sc_ways_on.nd rfl (Or.inl rfl)) (pgs_cons (pg_name (i := 8) sc_ways_on.nd rfl (Or.inl rfl)) pgs_nil))) pgs_nil)))
        (pss_cons (ps_if (PW.pt (pw_and (pt_cmpR op_eq (pv 7) (pv 4) (nomark _)) (pw_and1 (pt_cmpR op_lt (pe_ix (w_ixL K) (pv 1) (pv 6) (fun _ _ => rfl)) (pe_ix (w_ixL K) (pv 3) (pv 6) (fun _ _ => rfl)) (nomark _)))))
          (pss_one (ps_expr (w_bm K PySem.F.plainAttrs_list PySem.F.slot_list_append PySem.F.type_list_append mt_append (pv 5) (pa_cons (pe_tup (pa_cons (pv 8) (pa_cons (pv 6) (pa_cons pe_int (pa_cons (pe_op op_sub (pe_ix (w_ixL K) (pv 3) (pv 6) (fun _ _ => rfl)) (pe_ix (w_ixL K) (pv 1) (pv 6) (fun _ _ => rfl))) pa_nil))))) pa_nil))))
          pss_nil)
        (pss_one (ps_if (PW.pt (pw_and (pt_cmpR op_eq (pv 8) (pv 4) (nomark _)) (pw_and1 (pt_cmpR op_gt (pe_ix (w_ixL K) (pv 1) (pv 6) (fun _ _ => rfl)) (pe_ix (w_ixL K) (pv 2) (pv 6) (fun _ _ => rfl)) (nomark _)))))
          (pss_one (ps_expr (w_bm K PySem.F.plainAttrs_list PySem.F.slot_list_append PySem.F.type_list_append mt_append (pv 5) (pa_cons (pe_tup (pa_cons (pv 7) (pa_cons (pv 6) (pa_cons (pe_un un_neg pe_int) (pa_cons (pe_op op_sub (pe_ix (w_ixL K) (pv 1) (pv 6) (fun _ _ => rfl)) (pe_ix (w_ixL K) (pv 2) (pv 6) (fun _ _ => rfl))) pa_nil))))) pa_nil))))
          pss_nil))))
      (pss_one (ps_ret (pv 5))))), ?_⟩
    have h40 := hw.ok.len
    refine q_nw (nw_lst pa0 (by decide)) fun fo H1 f1 s1 e1 => ?_
    refine q_forE Wc hw s1 (pu_var rfl) (fun i σ' H' => ∃ (W : List W4) (rs : List Addr) (v6 v7 v8 : Option V), σ' = [some (.ref a), some (.ref al), some (.ref l), some (.ref m), some (.int (p : Int)), some (.ref fo), v6, v7, v8] ∧ Same H H' ∧ H' fo = some (.lst (rvs rs)) ∧ Qua K H' rs W ∧
        (∀ l ∈ W, OkWay ts as lo hi p l.1 l.2.1 l.2.2.1 l.2.2.2) ∧ AllWays ts as lo hi p i W ∧ W.length ≤ 2 * i)
      ⟨[], [], none, none, none, rfl, s1, e1, ⟨rfl, fun i r l a => by simp at a⟩, fun l hl => absurd hl List.not_mem_nil, fun t ht => absurd ht (Nat.not_lt_zero _), Nat.le_refl _⟩ (fun i σ' H' _ ⟨_, _, _, _, _, _, s, _⟩ => s) ?_ ?_
    · rintro i e σ' H' H2 he ⟨W, rs, v6, v7, v8, rfl, s2, e2, Qu, ok, al', hlen⟩ s3
      have ee := tieAt_of he
      have hi' : i < ts.length := (List.getElem?_eq_some_iff.mp he).1
      have ga : as[i]? = some (as.getD i 0) := get_getD (by rw [B.la]; exact hi')
      have gl : lo[i]? = some (lo.getD i 0) := get_getD (by rw [B.ll]; exact hi')
      have gh : hi[i]? = some (hi.getD i 0) := get_getD (by rw [B.lh]; exact hi')
      refine q_whenP (fun H3 => ∃ (W : List W4) (rs : List Addr), Same H H3 ∧ H3 fo = some (.lst (rvs rs)) ∧ Qua K H3 rs W ∧ (∀ l ∈ W, OkWay ts as lo hi p l.1 l.2.1 l.2.2.1 l.2.2.2) ∧ AllWays ts as lo hi p i W ∧ (e.1 = p → as.getD i 0 < hi.getD i 0 → ∃ l ∈ W, l.1 = e.2) ∧ W.length ≤ 2 * i + 1)
        (pt_andP (pt_test (pu_eqN (pu_var rfl) (pu_var rfl))) fun _ => pt_test (pu_I0 (pu_ixI ((s2.trans s3).seq ha) (pu_var rfl) (pu_var rfl) ga) (pu_ixI ((s2.trans s3).seq hm) (pu_var rfl) (pu_var rfl) gh))) (fun hb k => ?_) (fun hb => ?_) ?_
      · have hb2 : e.1 = p ∧ as.getD i 0 < hi.getD i 0 := by simpa using hb
        have s4 := s2.trans s3
        refine s_appT (pu_var rfl) (s3 _ _ e2) (pa1 (pu_var rfl) (pa1 (pu_var rfl) (pa1 pu_c (pa1 (pu_I0 (pu_ixI (s4.seq hm) (pu_var rfl) (pu_var rfl) gh) (pu_ixI (s4.seq ha) (pu_var rfl) (pu_var rfl) ga)) pa0)))) (by show 4 ≤ 1000; decide) (by rw [rvs_len, Qu.1]; omega) fun r hr nr => ?_
        have hm2 : Mut (upd H2 r (.tup [.int (e.2 : Int), .int (i : Int), .int 1, .int (hi.getD i 0 - as.getD i 0)]) fo) := by rw [upd_ne nr, s3 _ _ e2]; trivial
        have hok : OkWay ts as lo hi p e.2 i 1 (hi.getD i 0 - as.getD i 0) := ⟨hi', .inl ⟨rfl, by rw [ee]; exact hb2.1, by rw [ee], hb2.2, rfl⟩⟩
        refine k _ ⟨W ++ [(e.2, i, 1, hi.getD i 0 - as.getD i 0)], rs ++ [r], Same.mut (s4.trans (same_new hr)) f1, ?_, ?_, fun x hx => ?_, al'.mono fun x hx => List.mem_append_left _ hx, fun _ _ => ⟨_, List.mem_append_right _ (List.mem_singleton.mpr rfl), rfl⟩, ?_⟩
        · rw [upd_same, rvs_snoc]
        · exact ((Qu.mono (s3.trans (same_new hr))).upd hm2).snoc (mut_seqT hm2 (SqT.of upd_same))
        · rcases List.mem_append.mp hx with z | z
          · exact ok x z
          · rw [List.mem_singleton.mp z]; exact hok
        · rw [List.length_append]
          show W.length + 1 ≤ _
          omega
      · have hb2 : ¬ (e.1 = p ∧ as.getD i 0 < hi.getD i 0) := by simpa using hb
        exact ⟨W, rs, s2.trans s3, s3 _ _ e2, Qu.mono s3, ok, al', fun a b => absurd ⟨a, b⟩ hb2, by omega⟩
      · rintro H3 ⟨W, rs, s4, e4, Qu, ok, al', fst, hlen⟩
        refine s_when (pt_andP (pt_test (pu_eqN (pu_var rfl) (pu_var rfl))) fun _ => pt_test (pu_I0 (pu_ixI (s4.seq ha) (pu_var rfl) (pu_var rfl) ga) (pu_ixI (s4.seq hl) (pu_var rfl) (pu_var rfl) gl))) (fun hb => ?_) (fun hb => ?_)
        · have hb2 : e.2 = p ∧ lo.getD i 0 < as.getD i 0 := by simpa using hb
          refine s_appT (pu_var rfl) e4 (pa1 (pu_var rfl) (pa1 (pu_var rfl) (pa1 (pu_neg (i := 1) pu_c) (pa1 (pu_I0 (pu_ixI (s4.seq ha) (pu_var rfl) (pu_var rfl) ga) (pu_ixI (s4.seq hl) (pu_var rfl) (pu_var rfl) gl)) pa0)))) (by show 4 ≤ 1000; decide) (by rw [rvs_len, Qu.1]; omega) fun r hr nr => ?_
          have hm2 : Mut (upd H3 r (.tup [.int (e.1 : Int), .int (i : Int), .int (-1), .int (as.getD i 0 - lo.getD i 0)]) fo) := by rw [upd_ne nr, e4]; trivial
          have hok : OkWay ts as lo hi p e.1 i (-1) (as.getD i 0 - lo.getD i 0) := ⟨hi', .inr ⟨rfl, by rw [ee]; exact hb2.1, by rw [ee], hb2.2, rfl⟩⟩
          refine ⟨W ++ [(e.1, i, -1, as.getD i 0 - lo.getD i 0)], rs ++ [r], _, _, _, rfl, Same.mut (s4.trans (same_new hr)) f1, ?_, ?_, fun x hx => ?_, fun t ht => ?_, ?_⟩
          · rw [upd_same, rvs_snoc]
          · exact ((Qu.mono (same_new hr)).upd hm2).snoc (mut_seqT hm2 (SqT.of upd_same))
          · rcases List.mem_append.mp hx with z | z
            · exact ok x z
            · rw [List.mem_singleton.mp z]; exact hok
          · by_cases c : t = i
            · subst c
              rw [ee]
              refine ⟨fun a b => ?_, fun a b => ⟨_, List.mem_append_right _ (List.mem_singleton.mpr rfl), rfl⟩⟩
              obtain ⟨l, hl, e⟩ := fst a b
              exact ⟨l, List.mem_append_left _ hl, e⟩
            · exact (al'.mono fun x hx => List.mem_append_left _ hx) t (by omega)
          · rw [List.length_append]
            show W.length + 1 ≤ _
            omega
        · have hb2 : ¬ (e.2 = p ∧ lo.getD i 0 < as.getD i 0) := by simpa using hb
          refine ⟨W, rs, _, _, _, rfl, s4, e4, Qu, ok, fun t ht => ?_, by omega⟩
          by_cases c : t = i
          · subst c
            rw [ee]
            exact ⟨fst, fun a b => absurd ⟨a, b⟩ hb2⟩
          · exact al' t (by omega)
    · rintro σ' H' ⟨W, rs, v6, v7, v8, rfl, s2, e2, Qu, ok, al', hlen⟩
      exact s_ret (pu_var rfl) (q W rs fo H' ok al' (by omega) f1 s2 e2 Qu)
end
end Bz

set_option Elab.async false
set_option linter.all false
set_option maxRecDepth 100000
set_option maxHeartbeats 1000000
namespace Bz
open PySem PySem.Spec L2
section
variable {P : Program} {w : World} {K : PySem.W.Frag} {mg : Str → Option Value} {base : Heap} {C : Addr}
/-! 0 web, 1 amounts, 2 lows, 3 highs, 4 gains, 5 found, 6 row, 7 place, 8 k, 9 other, 10 tie, 11 sign, 12 room -/
abbrev s_reached_from : Stmt := topS 55
abbrev N_reached_from : List Str := ["web", "amounts", "lows", "highs", "gains", "found", "row", "place", "k", "other", "tie", "sign", "room"]
theorem sc_reached_from : FnScope N_reached_from ["web", "amounts", "lows", "highs", "gains"] (defScope s_reached_from) := ⟨rfl, rfl, rfl, by decide +kernel, rfl, by decide +kernel, by decide +kernel⟩
/-- a search on the heap -/
structure RSt (K : PySem.W.Frag) (ts : List Tie) (as lo hi : List Int) (n : Nat) (H0 : Hp) (d ro : Addr) (L : List En) (M : List (Nat × V)) (H' : Hp) : Prop where
  s : Same H0 H'
  hd : H' d = some (.dK (dk M))
  hr : H' ro = some (.lst (nvs (L.map (·.1))))
  en : EnB K H' M L
  sr : SR ts as lo hi n L
theorem RSt.len {ts : List Tie} {as lo hi : List Int} {n : Nat} {H0 H' : Hp} {d ro : Addr} {L : List En} {M : List (Nat × V)} (R : RSt K ts as lo hi n H0 d ro L M H') : L.length ≤ n := by
  have := nodup_len n _ R.sr.nd R.sr.lt
  rw [List.length_map] at this
  exact this
theorem RSt.mono {ts : List Tie} {as lo hi : List Int} {n : Nat} {H0 H' H2 : Hp} {d ro : Addr} {L : List En} {M : List (Nat × V)} (R : RSt K ts as lo hi n H0 d ro L M H') (s : Same H' H2) : RSt K ts as lo hi n H0 d ro L M H2 :=
  ⟨R.s.trans s, s _ _ R.hd, s _ _ R.hr, R.en.mono s, R.sr⟩
def sp_reached_from (K : PySem.W.Frag) (C : Addr) : Sp := fun vs H Q _ => ∃ (a al l m gl : Addr) (n : Nat) (ts : List Tie) (as lo hi g : List Int), vs = [.ref a, .ref al, .ref l, .ref m, .ref gl] ∧ WebAt K C H a n ts ∧ SqL K H al (ivs as) ∧ SqL K H l (ivs lo) ∧ SqL K H m (ivs hi) ∧ SqL K H gl (ivs g) ∧ Bnd ts as lo hi ∧
  g.length = n ∧ (∀ x, x < n → g[x]? = some (gain ts as x)) ∧
  ∀ L M d ro r H2, (∀ x, x < n → 0 < gain ts as x → x ∈ L.map (·.1)) → (∀ p ∈ L.map (·.1), ShW ts as lo hi (L.map (·.1)) p) → RSt K ts as lo hi n H d ro L M H2 → H d = none → H ro = none → SqT K H2 r [.ref d, .ref ro] → Q (.ref r) H2
theorem ok_reached_from (F : Df K mg "reached_from" ["web", "amounts", "lows", "highs", "gains"] s_reached_from) (T : Bt mg) (Wc : WebC K C) (G_ways_on : Gd P w K mg base 1 "ways_on" ["web", "amounts", "lows", "highs", "place"] (sp_ways_on K C)) : Gd P w K mg base 2 "reached_from" ["web", "amounts", "lows", "highs", "gains"] (sp_reached_from K C) := by
  refine F.gd sc_reached_from (fun vs H Q E h => ?_) (fun f cdv A outer s H vs Q E hr h => ?_)
  · obtain ⟨a, al, l, m, gl, n, ts, as, lo, hi, g, rfl, _⟩ := h
    rfl
  · obtain ⟨a, al, l, m, gl, n, ts, as, lo, hi, g, rfl, hw, ha, hl, hm, hg, B, hgl, hgx, q⟩ := h
    have hr_ways_on := hr
    refine ⟨_, (pss_cons (ps_set (i := 5) sc_reached_from.nd rfl (Or.inl rfl) pe_dnewK)
      (pss_cons (ps_set (i := 6) sc_reached_from.nd rfl (Or.inl rfl) (pe_lst pa_nil))
      (pss_cons (ps_for PassesOwn.never rfl (pi_range1 rfl T.range (pa_cons (w_fld K (pv 0)) pa_nil)) (pg_name (i := 7) sc_reached_from.nd rfl (Or.inl rfl))
        (pss_one (ps_if (pt_cmpR op_gt (pe_ix (w_ixL K) (pv 4) (pv 7) (fun _ _ => rfl)) pe_int (nomark _))
          (pss_cons (ps_dput (hu_of hr) (pv 5) (pv 7) pe_non rfl)
          (pss_one (ps_expr (w_bm K PySem.F.plainAttrs_list PySem.F.slot_list_append PySem.F.type_list_append mt_append (pv 6) (pa_cons (pv 7) pa_nil)))))
          pss_nil)))
      (pss_cons (ps_set (i := 8) sc_reached_from.nd rfl (Or.inl rfl) pe_int)
      (pss_cons (ps_while PassesOwn.never (pt_cmpR op_lt (pv 8) (pe_callB (w_len K) (by rfl) T.len PySem.boot_len (pa_cons (pv 6) pa_nil)) (nomark _))
        (pss_cons (ps_for PassesOwn.never rfl (w_piL K (pe_gd G_ways_on hr_ways_on (by rfl) (pa_cons (pv 0) (pa_cons (pv 1) (pa_cons (pv 2) (pa_cons (pv 3) (pa_cons (pe_ix (w_ixL K) (pv 6) (pv 8) (fun _ _ => rfl)) pa_nil))))))) (w_pgTup K rfl (pgs_cons (pg_name (i := 9) sc_reached_from.nd rfl (Or.inl rfl)) (pgs_cons (pg_name (i := 10) sc_reached_from.nd rfl (Or.inl rfl)) (pgs_cons (pg_name (i := 11) sc_reached_from.nd rfl (Or.inl rfl)) (pgs_cons (pg_name (i := 12) sc_reached_from.nd rfl (Or.inl rfl)) pgs_nil)))))
          (pss_one (ps_if (pt_cmp (pc_dnotin (hu_of hr) (pv 9) (pv 5)))
            (pss_cons (ps_dput (hu_of hr) (pv 5) (pv 9) (pe_tup (pa_cons (pe_ix (w_ixL K) (pv 6) (pv 8) (fun _ _ => rfl)) (pa_cons (pv 10) (pa_cons (pv 11) (pa_cons (pv 12) pa_nil))))) rfl)
            (pss_one (ps_expr (w_bm K PySem.F.plainAttrs_list PySem.F.slot_list_append PySem.F.type_list_append mt_append (pv 6) (pa_cons (pv 9) pa_nil)))))
            pss_nil)))
        (pss_one (ps_aug (i := 8) sc_reached_from.nd rfl (Or.inl rfl) pe_int ip_add))))
      (pss_one (ps_ret (pe_tup (pa_cons (pv 5) (pa_cons (pv 6) pa_nil)))))))))), ?_⟩
    have hV := hw.ok
    have h20 := hV.most
    refine fun d hd => ?_
    have s1 : Same H (upd H d (.dK [])) := same_new hd
    refine q_nw (nw_lst pa0 (by decide)) fun ro H2 f2 s2 e2 => ?_
    have fr : H ro = none := s1.free f2
    have s12 := s1.trans s2
    have ndr : d ≠ ro := ne_of_none (upd_same (H := H) (a := d) (o := .dK [])) f2
    refine q_forR (n := n) (pa1 (pu_many Wc (hw.mono s12) (pu_var rfl)) pa0) (by omega)
      (fun i σ' H' => ∃ (L : List En) (M : List (Nat × V)) (v7 : Option V), σ' = [some (.ref a), some (.ref al), some (.ref l), some (.ref m), some (.ref gl), some (.ref d), some (.ref ro), v7, none, none, none, none, none] ∧ RSt K ts as lo hi n H d ro L M H' ∧ (∀ x, x < i → 0 < gain ts as x → x ∈ L.map (·.1)) ∧ (∀ y ∈ L.map (·.1), y < i))
      ⟨[], [], none, rfl, ⟨s12, s2 _ _ upd_same, e2, ⟨rfl, fun i p l a => by simp at a⟩, SR.start ts as lo hi n⟩, fun x hx => absurd hx (Nat.not_lt_zero _), fun y hy => absurd hy List.not_mem_nil⟩ ?_ ?_
    · rintro i σ' H' hi' ⟨L, M, v7, rfl, R, up, dn⟩
      have hLl := R.len
      refine s_when (pt_test (pu_I0 (pu_ixI (R.s.seq hg) (pu_var rfl) (pu_var rfl) (hgx i hi')) pu_c)) (fun hb => ?_) (fun hb => ?_)
      · have hpos : 0 < gain ts as i := of_decide_eq_true hb
        have hin : i ∉ L.map (·.1) := fun z => absurd (dn i z) (Nat.lt_irrefl i)
        refine q_dput R.hd (by rw [R.en.keys]; exact hin) (by rw [R.en.1]; omega) pu_c (pu_var rfl) (pu_var rfl) ?_
        have hmd : Mut (H' d) := by rw [R.hd]; trivial
        have er : upd H' d (.dK (dk (M ++ [(i, .non)]))) ro = some (.lst (nvs (L.map (·.1)))) := by rw [upd_ne ndr.symm]; exact R.hr
        have hmr : Mut (upd H' d (.dK (dk (M ++ [(i, .non)]))) ro) := by rw [er]; trivial
        refine s_app (pu_var rfl) er (pu_var rfl) (by rw [nvs_len, List.length_map]; omega) ?_
        refine ⟨L ++ [(i, none)], M ++ [(i, .non)], _, rfl, ⟨Same.mut (Same.mut R.s hd) fr, by rw [upd_ne ndr, upd_same], ?_, ((R.en.upd hmd).upd hmr).snoc (v := .non) (o := none) (by show V.non = V.non; rfl), R.sr.root hin hi' hpos⟩, fun x hx hp => ?_, fun y hy => ?_⟩
        · rw [upd_same, List.map_append, nvs_app]
          rfl
        · rw [List.map_append]
          by_cases c : x = i
          · rw [c]; exact List.mem_append_right _ (List.mem_singleton.mpr rfl)
          · exact List.mem_append_left _ (up x (by omega) hp)
        · rw [List.map_append] at hy
          rcases List.mem_append.mp hy with z | z
          · exact Nat.lt_succ_of_lt (dn y z)
          · rw [List.mem_singleton.mp z]; exact Nat.lt_succ_self i
      · have hpos : ¬ 0 < gain ts as i := of_decide_eq_false hb
        refine ⟨L, M, _, rfl, R, fun x hx hp => ?_, fun y hy => Nat.lt_succ_of_lt (dn y hy)⟩
        by_cases c : x = i
        · rw [c] at hp; exact absurd hp hpos
        · exact up x (by omega) hp
    · rintro σ' H3 ⟨L, M, v7, rfl, R, up, dn⟩
      refine q_pu pu_c ?_
      refine q_while (fun m' σ' H' => ∃ (L : List En) (M : List (Nat × V)) (k : Nat) (v9 v10 v11 v12 : Option V), σ' = [some (.ref a), some (.ref al), some (.ref l), some (.ref m), some (.ref gl), some (.ref d), some (.ref ro), v7, some (.int (k : Int)), v9, v10, v11, v12] ∧ RSt K ts as lo hi n H d ro L M H' ∧
          (∀ x, x < n → 0 < gain ts as x → x ∈ L.map (·.1)) ∧ k ≤ L.length ∧ (∀ j p, j < k → (L.map (·.1))[j]? = some p → ShW ts as lo hi (L.map (·.1)) p) ∧ m' = n - k) n
        ⟨L, M, 0, _, _, _, _, rfl, R, up, Nat.zero_le _, fun j p hj => absurd hj (Nat.not_lt_zero _), rfl⟩ ?_
      clear up dn R
      rintro m' σ' H4 ⟨L, M, k, v9, v10, v11, v12, rfl, R, up, hk, sh, rfl⟩
      have hlen := pu_lenN (σ := [some (.ref a), some (.ref al), some (.ref l), some (.ref m), some (.ref gl), some (.ref d), some (.ref ro), v7, some (.int (k : Int)), v9, v10, v11, v12]) (ta := tVar 6) (SqL.of R.hr) (K := K) (pu_var rfl)
      refine ⟨_, pt_test (pu_I0 (pu_var rfl) hlen), fun hb => ?_, fun hb => ?_⟩
      · have hk2 : k < L.length := by
          have := of_decide_eq_true hb
          rw [List.length_map] at this
          omega
        have hkn : k < n := Nat.lt_of_lt_of_le hk2 R.len
        obtain ⟨p, hp⟩ : ∃ p, (L.map (·.1))[k]? = some p := ⟨_, List.getElem?_eq_getElem (by rw [List.length_map]; exact hk2)⟩
        have hpm : p ∈ L.map (·.1) := List.mem_of_getElem? hp
        refine q_forGd (pa1 (pu_var rfl) (pa1 (pu_var rfl) (pa1 (pu_var rfl) (pa1 (pu_var rfl) (pa1 (pu_ixN (SqL.of R.hr) (pu_var rfl) (pu_var rfl) hp) pa0))))) ⟨a, al, l, m, n, p, ts, as, lo, hi, rfl, hw.mono R.s, R.s.seq ha, R.s.seq hl, R.s.seq hm, B, fun W rs wo H5 okW allW hWl f5 s5 e5 Qu => ?_⟩
        have nrw : ro ≠ wo := ne_of_none R.hr f5
        refine ⟨wo, rfl, ⟨_, SqL.of e5⟩, for_list (K := K) (a := wo) (xs := rvs rs) (fun i σ' H' => ∃ (L2 : List En) (M : List (Nat × V)) (v9 v10 v11 v12 : Option V), σ' = [some (.ref a), some (.ref al), some (.ref l), some (.ref m), some (.ref gl), some (.ref d), some (.ref ro), v7, some (.int (k : Int)), v9, v10, v11, v12] ∧ RSt K ts as lo hi n H d ro L2 M H' ∧
            H' wo = some (.lst (rvs rs)) ∧ Qua K H' rs W ∧ (∃ X, L2.map (·.1) = L.map (·.1) ++ X) ∧ (∀ l ∈ W.take i, l.1 ∈ L2.map (·.1)))
          ⟨L, M, _, _, _, _, rfl, R.mono s5, e5, Qu, ⟨[], (List.append_nil _).symm⟩, fun l hl => by simp at hl⟩ (fun i σ' H' _ ⟨_, _, _, _, _, _, _, _, e, _⟩ => SqL.of e) ?_ ?_⟩
        · rintro i xv σ' H6 hx ⟨L2, M2, v9, v10, v11, v12, rfl, R2, e6, Qu2, ⟨X, hX⟩, inn⟩
          obtain ⟨r, hri, rfl⟩ := rvs_of hx
          have hiW : i < W.length := by rw [← Qu2.1]; exact (List.getElem?_eq_some_iff.mp hri).1
          have hWi : W[i]? = some W[i] := List.getElem?_eq_getElem hiW
          have hsq := Qu2.2 i r _ hri hWi
          have hok := okW _ (List.mem_of_getElem? hWi)
          generalize W[i] = ll at *
          refine ⟨r, _, rfl, hsq, rfl, _, _, rfl, _, _, rfl, _, _, rfl, _, _, rfl, rfl, ?_⟩
          have hp2 : (L2.map (·.1))[k]? = some p := by rw [hX, List.getElem?_append_left (by rw [List.length_map]; exact hk2)]; exact hp
          have pin := pu_dnin (ta := tVar 9) (tb := tVar 5) (σ := [some (.ref a), some (.ref al), some (.ref l), some (.ref m), some (.ref gl), some (.ref d), some (.ref ro), v7, some (.int (k : Int)), some (.int (ll.1 : Int)), some (.int (ll.2.1 : Int)), some (.int ll.2.2.1), some (.int ll.2.2.2)]) R2.hd (pu_var rfl) (pu_var rfl)
          rw [R2.en.keys] at pin
          have tk : W.take (i + 1) = W.take i ++ [ll] := take_next hWi
          have hLl := R2.len
          refine s_when (pt_B pin) (fun hc => ?_) (fun hc => ?_)
          · have hno : ll.1 ∉ L2.map (·.1) := by simpa using hc
            have hyn : ll.1 < n := by
              have hv := hV.ends _ (tieAt_mem hok.lt)
              rcases hok.or with ⟨_, _, b, _⟩ | ⟨_, _, b, _⟩
              · rw [← b]; exact hv.2
              · rw [← b]; exact hv.1
            refine q_dputT R2.hd (by rw [R2.en.keys]; exact hno) (by rw [R2.en.1]; omega) (pa1 (pu_ixN (SqL.of R2.hr) (pu_var rfl) (pu_var rfl) hp2) (pa1 (pu_var rfl) (pa1 (pu_var rfl) (pa1 (pu_var rfl) pa0)))) (by show 4 ≤ 1000; decide) (pu_var rfl) (pu_var rfl) fun r2 hr2 ndr2 => ?_
            have s6 : ∀ {o : HO}, Same H6 (upd H6 r2 o) := same_new hr2
            have nrr : ro ≠ r2 := ne_of_none R2.hr hr2
            have hmd : Mut (upd H6 r2 (.tup [.int (p : Int), .int (ll.2.1 : Int), .int ll.2.2.1, .int ll.2.2.2]) d) := by rw [s6 _ _ R2.hd]; trivial
            have er : upd (upd H6 r2 (.tup [.int (p : Int), .int (ll.2.1 : Int), .int ll.2.2.1, .int ll.2.2.2])) d (.dK (dk (M2 ++ [(ll.1, .ref r2)]))) ro = some (.lst (nvs (L2.map (·.1)))) := by rw [upd_ne ndr.symm]; exact s6 _ _ R2.hr
            have hmr : Mut (upd (upd H6 r2 (.tup [.int (p : Int), .int (ll.2.1 : Int), .int ll.2.2.1, .int ll.2.2.2])) d (.dK (dk (M2 ++ [(ll.1, .ref r2)]))) ro) := by rw [er]; trivial
            refine s_app (pu_var rfl) er (pu_var rfl) (by rw [nvs_len, List.length_map]; omega) ?_
            have ndw : d ≠ wo := ne_of R2.hd e6 (by intro z; cases z)
            refine ⟨L2 ++ [(ll.1, some (p, ll.2.1, ll.2.2.1, ll.2.2.2))], M2 ++ [(ll.1, .ref r2)], _, _, _, _, rfl, ⟨Same.mut (Same.mut (R2.s.trans s6) hd) fr, by rw [upd_ne ndr, upd_same], ?_, ?_, R2.sr.step (by rw [hX]; exact List.mem_append_left _ hpm) hno hyn hok⟩, ?_, ?_, ⟨X ++ [ll.1], ?_⟩, fun x hx => ?_⟩
            · rw [upd_same, List.map_append, nvs_app]
              rfl
            · refine EnB.snoc (EnB.upd hmr (EnB.upd hmd (R2.en.mono s6))) ⟨r2, rfl, mut_seqT hmr (mut_seqT hmd (SqT.of upd_same))⟩
            · rw [upd_ne nrw.symm, upd_ne ndw.symm]
              exact s6 _ _ e6
            · exact Qua.upd hmr (Qua.upd hmd (Qu2.mono s6))
            · rw [List.map_append, hX, List.append_assoc]
              rfl
            · rw [tk] at hx
              rw [List.map_append]
              rcases List.mem_append.mp hx with z | z
              · exact List.mem_append_left _ (inn x z)
              · rw [List.mem_singleton.mp z]; exact List.mem_append_right _ (List.mem_singleton.mpr rfl)
          · have hin : ll.1 ∈ L2.map (·.1) := by simpa using hc
            refine ⟨L2, M2, _, _, _, _, rfl, R2, e6, Qu2, ⟨X, hX⟩, fun x hx => ?_⟩
            rw [tk] at hx
            rcases List.mem_append.mp hx with z | z
            · exact inn x z
            · rw [List.mem_singleton.mp z]; exact hin
        · rintro σ' H6 ⟨L2, M2, v9, v10, v11, v12, rfl, R2, e6, Qu2, ⟨X, hX⟩, inn⟩
          rw [rvs_len, Qu2.1, List.take_length] at inn
          refine s_aug rfl pu_c ?_
          have hsub : ∀ y ∈ L.map (·.1), y ∈ L2.map (·.1) := fun y hy => by rw [hX]; exact List.mem_append_left _ hy
          have hl2 : L.length ≤ L2.length := by
            have h9 := congrArg List.length hX
            rw [List.length_append, List.length_map, List.length_map] at h9
            omega
          refine ⟨n - (k + 1), by omega, L2, M2, k + 1, _, _, _, _, rfl, R2, fun x hx hp => hsub x (up x hx hp), by omega, fun j p2 hj hp2 => ?_, rfl⟩
          by_cases c : j = k
          · subst c
            have e9 : p2 = p := by
              rw [hX, List.getElem?_append_left (by rw [List.length_map]; exact hk2), hp] at hp2
              exact (Option.some.inj hp2).symm
            subst e9
            exact fun t ht => ⟨fun a b => by
              obtain ⟨l, hl, e⟩ := (allW t ht).1 a b
              rw [← e]; exact inn l hl, fun a b => by
              obtain ⟨l, hl, e⟩ := (allW t ht).2 a b
              rw [← e]; exact inn l hl⟩
          · rw [hX, List.getElem?_append_left (by rw [List.length_map]; omega)] at hp2
            exact (sh j p2 (by omega) hp2).mono hsub
      · have hk2 : k = L.length := by
          have := of_decide_eq_false hb
          rw [List.length_map] at this
          omega
        refine s_retT (pa1 (pu_var rfl) (pa1 (pu_var rfl) pa0)) (by show 2 ≤ 1000; decide) fun r hr => ?_
        refine q L M d ro r _ up (fun p hp => ?_) (R.mono (same_new hr)) hd fr (SqT.of upd_same)
        obtain ⟨j, hj⟩ := List.mem_iff_getElem?.mp hp
        refine sh j p ?_ hj
        have := (List.getElem?_eq_some_iff.mp hj).1
        rw [List.length_map] at this
        omega
/-! 0 found, 1 place, 2 row -/
abbrev s_row_to : Stmt := topS 56
abbrev N_row_to : List Str := ["found", "place", "row"]
theorem sc_row_to : FnScope N_row_to ["found", "place"] (defScope s_row_to) := ⟨rfl, rfl, rfl, by decide +kernel, rfl, by decide +kernel, by decide +kernel⟩
def sp_row_to (K : PySem.W.Frag) : Sp := fun vs H Q _ => ∃ (d : Addr) (n y : Nat) (ts : List Tie) (as lo hi : List Int) (L : List En) (M : List (Nat × V)), vs = [.ref d, .int (y : Int)] ∧ H d = some (.dK (dk M)) ∧ EnB K H M L ∧ SR ts as lo hi n L ∧ y ∈ L.map (·.1) ∧ L.length ≤ 1000 ∧
  ∀ ws x rs ro r H2, Bk ts as lo hi y ws x → (ws.map (·.2.1)).Nodup → x < n → 0 < gain ts as x → ws.length ≤ L.length → H ro = none → Same H H2 → H2 ro = some (.lst (rvs rs)) → Qua K H2 rs ws → SqT K H2 r [.ref ro, .int (x : Int)] → Q (.ref r) H2
theorem ok_row_to (F : Df K mg "row_to" ["found", "place"] s_row_to) (T : Bt mg) : Gd P w K mg base 1 "row_to" ["found", "place"] (sp_row_to K) := by
  refine F.gd sc_row_to (fun vs H Q E h => ?_) (fun f cdv A outer s H vs Q E hr h => ?_)
  · obtain ⟨d, n, y, ts, as, lo, hi, L, M, rfl, _⟩ := h
    rfl
  · obtain ⟨d, n, y, ts, as, lo, hi, L, M, rfl, hd, en, S, hy, hz, q⟩ := h
    refine ⟨_, (pss_cons (ps_set (i := 2) sc_row_to.nd rfl (Or.inl rfl) (pe_lst pa_nil))
      (pss_cons (ps_while PassesOwn.never (pt_cmpR op_notN (pe_dget (hu_of hr) (pv 0) (pv 1) (fun _ _ => rfl)) pe_non (nomark _))
        (pss_cons (ps_expr (w_bm K PySem.F.plainAttrs_list PySem.F.slot_list_append PySem.F.type_list_append mt_append (pv 2) (pa_cons (pe_dget (hu_of hr) (pv 0) (pv 1) (fun _ _ => rfl)) pa_nil)))
        (pss_one (ps_set (i := 1) sc_row_to.nd rfl (Or.inl rfl) (pe_ix (w_ixT K) (pe_dget (hu_of hr) (pv 0) (pv 1) (fun _ _ => rfl)) pe_int (fun _ _ => rfl))))))
      (pss_one (ps_ret (pe_tup (pa_cons (pv 2) (pa_cons (pv 1) pa_nil))))))), ?_⟩
    refine q_nw (nw_lst pa0 (by decide)) fun ro H1 f1 s1 e1 => ?_
    obtain ⟨q0, hq0⟩ := List.mem_iff_getElem?.mp hy
    have hq1 := (List.getElem?_eq_some_iff.mp hq0).1
    rw [List.length_map] at hq1
    have hq2 : L[q0]? = some (y, L[q0].2) := by
      rw [List.getElem?_eq_getElem hq1]
      rw [List.getElem?_map, List.getElem?_eq_getElem hq1] at hq0
      have e9 : L[q0].1 = y := Option.some.inj hq0
      rw [← e9]
    refine q_while (fun m σ' H' => ∃ (ws : List W4) (c : Nat) (rs : List Addr), σ' = [some (.ref d), some (.int (c : Int)), some (.ref ro)] ∧ Same H H' ∧ H' ro = some (.lst (rvs rs)) ∧ Qua K H' rs ws ∧ Bck ts as lo hi L y m ws c ∧ ws.length + m ≤ L.length) q0
      ⟨[], y, [], rfl, s1, e1, ⟨rfl, fun i r l a => by simp at a⟩, Bck.start hq2, by show 0 + q0 ≤ _; omega⟩ ?_
    rintro m σ' H2 ⟨ws, c, rs, rfl, s2, e2, Qu, B, hlen⟩
    obtain ⟨o, ho⟩ := B.at'
    have hml := (List.getElem?_eq_some_iff.mp ho).1
    have hMm : M[m]? = some (M[m]'(by rw [en.1]; exact hml)) := List.getElem?_eq_getElem _
    obtain ⟨g1, g2⟩ := en.2 m _ _ hMm ho
    have hent : M[m]? = some (c, (M[m]'(by rw [en.1]; exact hml)).2) := by
      rw [hMm]
      have : (M[m]'(by rw [en.1]; exact hml)).1 = c := g1
      rw [← this]
    have hlk := look_at (by rw [en.keys]; exact S.nd) hent
    cases o with
    | none =>
      have ev : (M[m]'(by rw [en.1]; exact hml)).2 = .non := g2
      rw [ev] at hlk
      refine ⟨_, pt_test (pu_notN (pu_dget (s2 _ _ hd) hlk (pu_var rfl) (pu_var rfl))), fun hc => by simp at hc, fun _ => ?_⟩
      refine s_retT (pa1 (pu_var rfl) (pa1 (pu_var rfl) pa0)) (by show 2 ≤ 1000; decide) fun r hr => ?_
      exact q ws c rs ro r _ B.bk B.nd (S.lt c (List.mem_map.mpr ⟨_, List.mem_of_getElem? ho, rfl⟩)) (S.ro m c ho) (by omega) f1 (s2.trans (same_new hr)) (same_new hr _ _ e2) (Qu.mono (same_new hr)) (SqT.of upd_same)
    | some ll =>
      obtain ⟨r, ev, hsq⟩ := g2
      rw [ev] at hlk
      refine ⟨_, pt_test (pu_notN (pu_dget (s2 _ _ hd) hlk (pu_var rfl) (pu_var rfl))), fun _ => ?_, fun hc => by simp at hc⟩
      refine q_app (pu_var rfl) e2 (pu_dget (s2 _ _ hd) hlk (pu_var rfl) (pu_var rfl)) (by rw [rvs_len, Qu.1]; omega) ?_
      have hmr : Mut (H2 ro) := by rw [e2]; trivial
      have ndr : d ≠ ro := ne_of (s2 _ _ hd) e2 (by intro z; cases z)
      have ed : upd H2 ro (.lst (rvs rs ++ [.ref r])) d = some (.dK (dk M)) := by rw [upd_ne ndr]; exact s2 _ _ hd
      have hsq2 := mut_seqT (o := .lst (rvs rs ++ [.ref r])) hmr (Same.seqT s2 hsq)
      refine s_pu (pu_ixT hsq2 (pu_dget ed hlk (pu_var rfl) (pu_var rfl)) pu_c (atI_nat (j := 0) rfl)) ?_
      obtain ⟨q', hq', hw, B2⟩ := B.step S ho
      refine ⟨q', hq', ws ++ [ll], ll.1, rs ++ [r], rfl, Same.mut s2 f1, by rw [upd_same, rvs_snoc], (Qu.upd hmr).snoc hsq2, B2, ?_⟩
      rw [List.length_append]
      show ws.length + 1 + q' ≤ _
      omega
end
end Bz

set_option Elab.async false
set_option linter.all false
set_option maxRecDepth 100000
set_option maxHeartbeats 1000000
namespace Bz
open PySem PySem.Spec L2
section
variable {P : Program} {w : World} {K : PySem.W.Frag} {mg : Str → Option Value} {base : Heap} {C : Addr}
section
variable {σ : St} {H : Hp} {D : Ends} {tz tu tw : TS} {g : TG} {sp sp2 : Sp} {tr ta : TA} {te tb : TE} {vs : List V} {a : Addr} {b : Bool} {ns : List Int}
theorem pu_max {m : Int} (h : SqL K H a (ivs ns)) (hm : m ∈ ns) (hz : ∀ y ∈ ns, y ≤ m) (ha : Pu te σ H (.ref a)) : Pu (tCB (rMax K) (tCons te tNil)) σ H (.int m) :=
  pu_cb (pa1 ha pa0) fun H1 e Q q => ⟨a, ns, rfl, e.seq h, List.length_pos_of_mem hm, fun m2 h1 h2 => by
    have e9 : m2 = m := Int.le_antisymm (hz m2 h1) (h2 m hm)
    rw [e9]
    exact q⟩
theorem gv_min {m : Int} (h : Ls te σ H (ivs ns)) (hm : m ∈ ns) (hz : ∀ y ∈ ns, m ≤ y) : Gv (tCB (rMin K) (tCons te tNil)) σ H (.int m) := fun H1 e Q q =>
  h H1 e _ fun p H2 e2 hp => ⟨p, ns, rfl, SqL.of hp, List.length_pos_of_mem hm, fun m2 h1 h2 => by
    have e9 : m2 = m := Int.le_antisymm (h2 m hm) (hz m2 h1)
    rw [e9]
    exact q H2 e2⟩
theorem max_of : ∀ (l : List Int), l ≠ [] → ∃ m ∈ l, ∀ y ∈ l, y ≤ m
  | [], h => absurd rfl h
  | [x], _ => ⟨x, List.mem_cons_self, fun y hy => by rw [List.mem_singleton.mp hy]; exact Int.le_refl _⟩
  | x :: z :: l, _ => by
    obtain ⟨m, hm, h⟩ := max_of (z :: l) (by simp)
    by_cases c : x ≤ m
    · exact ⟨m, List.mem_cons_of_mem _ hm, fun y hy => by
        rcases List.mem_cons.mp hy with q | q
        · rw [q]; exact c
        · exact h y q⟩
    · exact ⟨x, List.mem_cons_self, fun y hy => by
        rcases List.mem_cons.mp hy with q | q
        · rw [q]; exact Int.le_refl _
        · have := h y q
          omega⟩
theorem min_of : ∀ (l : List Int), l ≠ [] → ∃ m ∈ l, ∀ y ∈ l, m ≤ y
  | [], h => absurd rfl h
  | [x], _ => ⟨x, List.mem_cons_self, fun y hy => by rw [List.mem_singleton.mp hy]; exact Int.le_refl _⟩
  | x :: z :: l, _ => by
    obtain ⟨m, hm, h⟩ := min_of (z :: l) (by simp)
    by_cases c : m ≤ x
    · exact ⟨m, List.mem_cons_of_mem _ hm, fun y hy => by
        rcases List.mem_cons.mp hy with q | q
        · rw [q]; exact c
        · exact h y q⟩
    · exact ⟨x, List.mem_cons_self, fun y hy => by
        rcases List.mem_cons.mp hy with q | q
        · rw [q]; exact Int.le_refl _
        · have := h y q
          omega⟩
/-- i, j = a call that makes a pair -/
theorem q_gdT {i j : Nat} (h : PuA tr σ H vs) (k : sp vs H (fun v H1 => gTup K 2 (gCons (gName i) (gCons (gName j) gNil)) v σ H1 fun σ' H' => tz D σ' H') E0) :
    tSeq (tAsg (tGd sp tr) (gTup K 2 (gCons (gName i) (gCons (gName j) gNil)))) tz D σ H := h.at k
theorem nw_listP {xs : List V} (h : SqL K H a xs) (ha : Pu te σ H (.ref a)) : Nw (tCB (rListOf K) (tCons te tNil)) σ H xs := fun H1 e Q q => ha H1 e _ ⟨a, xs, rfl, .inl (e.seq h), fun l hl => q l _ hl (same_new hl) upd_same⟩
/-- over a list of ways -/
theorem nw_lcQ {tl : TE} {j : Nat} {ws : List Nat} {rs : List Addr} {W : List W4} (f : W4 → V) (h : Pu tl σ H (.ref a)) (hx : SqL K H a (rvs rs)) (hq : Qua K H rs W) (hz : W.length ≤ 10000) (hw : ∀ x, wipe ((wipe σ ws).set j (some x)) ws = wipe σ ws)
    (he : ∀ r l, SqT K H r (qv l) → Pu te ((wipe σ ws).set j (some (.ref r))) H (f l)) : Nw (tLc (iList K tl) (gName j) tYes te ws) σ H (W.map f) := fun H1 e1 Q q => h H1 e1 _ ⟨a, rfl, ⟨_, e1.seq hx⟩, fun Dl hD =>
  lc_list (xs := rvs rs) (fun i H' => Same H1 H' ∧ H' Dl = some (.lst ((W.take i).map f))) ⟨same_new hD, upd_same⟩ (fun i H' _ p => (e1.trans p.1).seq hx) (fun i x H' hi p => ⟨hw x, by
    obtain ⟨r, hr, rfl⟩ := rvs_of hi
    have hlt : i < W.length := by rw [← hq.1]; exact (List.getElem?_eq_some_iff.mp hr).1
    have hg : W[i]? = some W[i] := List.getElem?_eq_getElem hlt
    have hpe := hq.2 i r _ hr hg
    rw [take_next hg]
    refine iteT (B := Same H1 H' ∧ H' Dl = some (.lst ((W.take i ++ [W[i]]).map f))) ((he r _ hpe) H' (e1.trans p.1) _ ⟨_, p.2, by rw [List.length_map]; exact small_lt (Nat.lt_of_le_of_lt (List.length_take_le _ _) (by omega)), Same.mut p.1 hD, ?_⟩)
    rw [upd_same, List.map_append]
    rfl⟩) (fun H' p => q Dl H' hD p.1 (by
      have p2 := p.2
      rw [rvs_len, hq.1, List.take_length] at p2
      exact p2))⟩
end
/-! 0 web, 1 lows, 2 highs, 3 amounts, 4 gains*, 5 found*, 6 order, 7 lacking, 8 row, 9 first, 10 much, 11 way, 12 place -/
abbrev s_between : Stmt := topS 57
abbrev N_between : List Str := ["web", "lows", "highs", "amounts", "gains", "found", "order", "lacking", "row", "first", "much", "way", "place"]
theorem sc_between : FnScope N_between ["web", "lows", "highs"] (defScope s_between) := ⟨rfl, rfl, rfl, by decide +kernel, rfl, by decide +kernel, by decide +kernel⟩
/-- bounds around a flow by 3 -/
structure BndIn (ts : List Tie) (n : Nat) (lo hi : List Int) : Prop where
  b : Bnd ts lo lo hi
  g : ∀ x, x < n → gain ts lo x % 3 = 0
/-- the flow between them -/
structure BndOut (ts : List Tie) (n : Nat) (lo hi as : List Int) : Prop where
  b : Bnd ts as lo hi
  g : ∀ x, x < n → gain ts as x = 0
def sp_between (K : PySem.W.Frag) (C : Addr) : Sp := fun vs H Q _ => ∃ (a l m : Addr) (n : Nat) (ts : List Tie) (lo hi : List Int), vs = [.ref a, .ref l, .ref m] ∧ WebAt K C H a n ts ∧ SqL K H l (ivs lo) ∧ SqL K H m (ivs hi) ∧ BndIn ts n lo hi ∧
  ∀ as x ao r H2, BndOut ts n lo hi as → H ao = none → Same H H2 → H2 ao = some (.lst (ivs as)) → SqT K H2 r [x, .ref ao] → Q (.ref r) H2
theorem ok_between (F : Df K mg "between" ["web", "lows", "highs"] s_between) (T : Bt mg) (Wc : WebC K C) (G_look_at_bounds : Gd P w K mg base 2 "look_at_bounds" ["web", "lows", "highs"] (sp_look_at_bounds K C)) (G_gains_of : Gd P w K mg base 1 "gains_of" ["web", "amounts"] (sp_gains_of K C))
    (G_reached_from : Gd P w K mg base 2 "reached_from" ["web", "amounts", "lows", "highs", "gains"] (sp_reached_from K C)) (G_row_to : Gd P w K mg base 1 "row_to" ["found", "place"] (sp_row_to K)) : Gd P w K mg base 3 "between" ["web", "lows", "highs"] (sp_between K C) := by
  refine F.gd sc_between (fun vs H Q E h => ?_) (fun f cdv A outer s H vs Q E hr h => ?_)
  · obtain ⟨a, l, m, n, ts, lo, hi, rfl, _⟩ := h
    rfl
  · obtain ⟨a, l, m, n, ts, lo, hi, rfl, hw, hl, hm, BI, q⟩ := h
    have hr_look_at_bounds := hr
    have hr_gains_of := hr.mono (j := 1) (by decide)
    have hr_reached_from := hr
    have hr_row_to := hr.mono (j := 1) (by decide)
    refine ⟨_, (pss_cons (ps_expr (pe_gd G_look_at_bounds hr_look_at_bounds (by rfl) (pa_cons (pv 0) (pa_cons (pv 1) (pa_cons (pv 2) pa_nil)))))
      (pss_cons (ps_set (i := 3) sc_between.nd rfl (Or.inl rfl) (pe_callTy (w_listOf K) (by rfl) T.list (by decide +kernel) (pa_cons (pv 1) pa_nil)))
      (pss_cons (ps_set (i := 4) sc_between.nd rfl (Or.inr rfl) (pe_gd G_gains_of hr_gains_of (by rfl) (pa_cons (pv 0) (pa_cons (pv 3) pa_nil))))
      (pss_cons (ps_while PassesOwn.never (pt_cmpR op_gt (pe_callB (w_max K rfl) (by rfl) T.max (by decide +kernel) (pa_cons (pv 4) pa_nil)) pe_int (nomark _))
        (pss_cons (ps_asg (pe_gd G_reached_from hr_reached_from (by rfl) (pa_cons (pv 0) (pa_cons (pv 3) (pa_cons (pv 1) (pa_cons (pv 2) (pa_cons (pv 4) pa_nil)))))) (w_pgTup K rfl (pgs_cons (pg_name (i := 5) sc_between.nd rfl (Or.inr rfl)) (pgs_cons (pg_name (i := 6) sc_between.nd rfl (Or.inl rfl)) pgs_nil))))
        (pss_cons (ps_setLc (i := 7) (own := [("place", 12)]) (g := gName 12)  rfl sc_between.nd rfl rfl (sw_true rfl rfl rfl (by decide +kernel)) (w_piL K (pv 6)) (blkOk_by (own := [("place", 12)]) (N := N_between) (sc := defScope s_between) (by decide +kernel)) (fun _ _ _ _ _ => (pg_name (i := 12) sc_between.nd rfl (Or.inl rfl))) (fun _ _ _ _ _ => pts_one (pt_cmpR op_lt (pe_ix (w_ixL K) (pv 4) (pv 12) (fun _ _ => rfl)) pe_int (nomark _))) (fun _ _ _ _ _ => (pv 12)))
        (pss_cons (ps_if (pt_cmpR op_eq (pe_callB (w_len K) (by rfl) T.len PySem.boot_len (pa_cons (pv 7) pa_nil)) pe_int (nomark _))
          (pss_one (ps_ret (pe_tup (pa_cons pe_str (pa_cons (pe_lc (own := [("place", 12)]) (g := gName 12) (by rfl) sc_between.nd (pi_range1 rfl T.range (pa_cons (w_fld K (pv 0)) pa_nil)) (blkOk_by (own := [("place", 12)]) (N := N_between) (sc := defScope s_between) (by decide +kernel)) (fun _ _ _ _ _ => (pg_name (i := 12) sc_between.nd rfl (Or.inl rfl))) (fun _ _ _ _ _ => pts_one (pt_cmp (pc_dnotin (hu_of hr) (pv 12) (pv 5)))) (fun _ _ _ _ _ => (pv 12))) pa_nil)))))
          pss_nil)
        (pss_cons (ps_asg (pe_gd G_row_to hr_row_to (by rfl) (pa_cons (pv 5) (pa_cons (pe_ix (w_ixL K) (pv 7) pe_int (fun _ _ => rfl)) pa_nil))) (w_pgTup K rfl (pgs_cons (pg_name (i := 8) sc_between.nd rfl (Or.inl rfl)) (pgs_cons (pg_name (i := 9) sc_between.nd rfl (Or.inl rfl)) pgs_nil))))
        (pss_cons (ps_set (i := 10) sc_between.nd rfl (Or.inl rfl) (pe_callB (w_min K rfl) (by rfl) T.min (by decide +kernel) (pa_cons (pe_op op_cat (pe_lst (pa_cons (pe_ix (w_ixL K) (pv 4) (pv 9) (fun _ _ => rfl)) (pa_cons (pe_un un_neg (pe_ix (w_ixL K) (pv 4) (pe_ix (w_ixL K) (pv 7) pe_int (fun _ _ => rfl)) (fun _ _ => rfl))) pa_nil))) (pe_lc (own := [("way", 11)]) (g := gName 11) (by rfl) sc_between.nd (w_piL K (pv 8)) (blkOk_by (own := [("way", 11)]) (N := N_between) (sc := defScope s_between) (by decide +kernel)) (fun _ _ _ _ _ => (pg_name (i := 11) sc_between.nd rfl (Or.inl rfl))) (fun _ _ _ _ _ => pts_nil) (fun _ _ _ _ _ => (pe_ix (w_ixT K) (pv 11) pe_int (fun _ _ => rfl))))) pa_nil)))
        (pss_cons (ps_for PassesOwn.never rfl (w_piL K (pv 8)) (pg_name (i := 11) sc_between.nd rfl (Or.inl rfl))
          (pss_one (ps_augS (pv 3) (pe_ix (w_ixT K) (pv 11) pe_int (fun _ _ => rfl)) (w_getL K) (pe_op op_mul (pe_ix (w_ixT K) (pv 11) pe_int (fun _ _ => rfl)) (pv 10)) ip_add set_list)))
        (pss_cons (ps_augS (pv 4) (pv 9) (w_getL K) (pv 10) ip_sub set_list)
        (pss_one (ps_augS (pv 4) (pe_ix (w_ixL K) (pv 7) pe_int (fun _ _ => rfl)) (w_getL K) (pv 10) ip_add set_list))))))))))
      (pss_one (ps_ret (pe_tup (pa_cons pe_str (pa_cons (pv 3) pa_nil))))))))), ?_⟩
    have hV := hw.ok
    have h20 := hV.most
    have h40 := hV.len
    have B0 := BI.b
    refine q_gdDrop (pa1 (pu_var rfl) (pa1 (pu_var rfl) (pa1 (pu_var rfl) pa0))) ⟨a, l, m, n, ts, lo, hi, rfl, hw, hl, hm, B0.ll, B0.lh, fun t ht => by
      have := B0.b t ht
      omega, fun H1 s1 => ?_⟩
    refine q_nw (nw_listP (s1.seq hl) (pu_var rfl)) fun ao H2 f2 s2 e2 => ?_
    have s12 := s1.trans s2
    have fa : H ao = none := s1.free f2
    refine q_gd (pa1 (pu_var rfl) (pa1 (pu_var rfl) pa0)) ⟨a, ao, n, ts, lo, rfl, hw.mono s12, SqL.of e2, B0.ll, fun g go H3 hgl hgx f3 s3 e3 => ?_⟩
    have nag : ao ≠ go := ne_of_none e2 f3
    have fg : H go = none := s12.free f3
    refine q_while (fun m' σ' H' => ∃ (as g : List Int) (v5 v6 v7 v8 v9 v10 v11 : Option V), σ' = [some (.ref a), some (.ref l), some (.ref m), some (.ref ao), some (.ref go), v5, v6, v7, v8, v9, v10, v11, none] ∧ Same H H' ∧ H' ao = some (.lst (ivs as)) ∧ H' go = some (.lst (ivs g)) ∧
        g.length = n ∧ (∀ x, x < n → g[x]? = some (gain ts as x)) ∧ Bnd ts as lo hi ∧ (∀ x, x < n → gain ts as x % 3 = 0) ∧ m' = posT (gain ts as) n) (posT (gain ts lo) n)
      ⟨lo, g, none, none, none, none, none, none, none, rfl, s12.trans s3, s3 _ _ e2, e3, hgl, hgx, B0, BI.g, rfl⟩ ?_
    clear e2 e3 hgl hgx
    rintro m' σ' H4 ⟨as, g, v5, v6, v7, v8, v9, v10, v11, rfl, s4, ea, eg, hgl, hgx, B, hg3, rfl⟩
    obtain ⟨mx, hmx, hmz⟩ := max_of g (by
      intro z
      rw [z] at hgl
      have := hV.pos
      simp at hgl
      omega)
    refine ⟨_, pt_test (pu_I0 (pu_max (SqL.of eg) hmx hmz (pu_var rfl)) pu_c), fun hb => ?_, fun hb => ?_⟩
    · have hb2 : 0 < mx := of_decide_eq_true hb
      obtain ⟨x0, hx0⟩ := List.mem_iff_getElem?.mp hmx
      have hx0n : x0 < n := by
        have := (List.getElem?_eq_some_iff.mp hx0).1
        omega
      have hpos : 0 < gain ts as x0 := by
        rw [hgx x0 hx0n] at hx0
        rw [Option.some.inj hx0]
        exact hb2
      refine q_gdT (pa1 (pu_var rfl) (pa1 (pu_var rfl) (pa1 (pu_var rfl) (pa1 (pu_var rfl) (pa1 (pu_var rfl) pa0))))) ⟨a, ao, l, m, go, n, ts, as, lo, hi, g, rfl, hw.mono s4, SqL.of ea, s4.seq hl, s4.seq hm, SqL.of eg, B, hgl, hgx, fun L M d ro r H5 up sh R fd fr hs => ?_⟩
      refine ⟨r, _, rfl, hs, rfl, _, _, rfl, _, _, rfl, rfl, ?_⟩
      have s5 := R.s
      have hLn := R.len
      have ea5 := s5 _ _ ea
      have eg5 := s5 _ _ eg
      obtain ⟨z0, hz0, hz0n⟩ := never_shut B hV.ends sh up hx0n hpos
      have kn : ∀ k ∈ L.map (·.1), g[k]? = some (gain ts as k) := fun k hk => hgx k (R.sr.lt k hk)
      refine q_nw (nw_lcN (K := K) (fun k => decide (gain ts as k < 0)) (Pu.ls (pu_var rfl) R.hr) (by rw [List.length_map]; omega) (fun _ => rfl) (fun k hk => (pt_test (pu_I0 (pu_ixI (SqL.of eg5) (pu_var rfl) (pu_var rfl) (kn k hk)) pu_c)).gt) (fun k _ _ => (pu_var rfl).gv)) fun lk H6 f6 s6 e6 => ?_
      obtain ⟨y, ys', hys⟩ : ∃ y ys', (L.map (·.1)).filter (fun k => decide (gain ts as k < 0)) = y :: ys' := by
        cases z : (L.map (·.1)).filter (fun k => decide (gain ts as k < 0)) with
        | nil =>
          have : z0 ∈ (L.map (·.1)).filter (fun k => decide (gain ts as k < 0)) := List.mem_filter.mpr ⟨hz0, decide_eq_true hz0n⟩
          rw [z] at this
          exact absurd this List.not_mem_nil
        | cons y ys' => exact ⟨y, ys', rfl⟩
      rw [hys] at e6
      have hym : y ∈ (L.map (·.1)).filter (fun k => decide (gain ts as k < 0)) := by rw [hys]; exact List.mem_cons_self
      obtain ⟨hyL, hyd⟩ := List.mem_filter.mp hym
      have hyneg : gain ts as y < 0 := of_decide_eq_true hyd
      have hyn := R.sr.lt y hyL
      refine q_when (b := false) ((pt_test (pu_eqI (pu_lenN (SqL.of e6) (pu_var rfl)) pu_c)).is (by
        rw [List.length_cons]
        exact decide_eq_false (by omega))) (fun h => by cases h) (fun _ => ?_)
      have pk : ∀ {σ : St} {H' : Hp}, Same H6 H' → σ[7]? = some (some (.ref lk)) → Pu (tOp (rIxL K) (tVar 7) (tC (.int 0))) σ H' (.int (y : Int)) := fun s h => pu_ixN (i := 0) (SqL.of (s _ _ e6)) (pu_var h) pu_c rfl
      refine q_gdT (pa1 (pu_var rfl) (pa1 (pk (Same.refl _) rfl) pa0)) ⟨d, n, y, ts, as, lo, hi, L, M, rfl, s6 _ _ R.hd, R.en.mono s6, R.sr, hyL, by omega, fun ws x rs wo r2 H7 bk nd hxn hxpos hwl f7 s7 e7 Qu hs2 => ?_⟩
      refine ⟨r2, _, rfl, hs2, rfl, _, _, rfl, _, _, rfl, rfl, ?_⟩
      have s57 := s6.trans s7
      have ea7 := s57 _ _ ea5
      have eg7 := s57 _ _ eg5
      have e67 := s7 _ _ e6
      have hxy : x ≠ y := fun z => by rw [z] at hxpos; omega
      have pf : ∀ {σ : St} {H' : Hp} {g : List Int} {c : Int}, H' go = some (.lst (ivs g)) → g[x]? = some c → σ[4]? = some (some (.ref go)) → σ[9]? = some (some (.int (x : Int))) → Pu (tOp (rIxL K) (tVar 4) (tVar 9)) σ H' (.int c) := fun e h h4 h9 => pu_ixI (SqL.of e) (pu_var h4) (pu_var h9) h
      obtain ⟨c, hcm, hcz⟩ := min_of (gain ts as x :: (- gain ts as y) :: ws.map (·.2.2.2)) (by simp)
      have hcx : c ≤ gain ts as x := hcz _ List.mem_cons_self
      have hcy : c ≤ - gain ts as y := hcz _ (List.mem_cons_of_mem _ List.mem_cons_self)
      have hcw : ∀ l ∈ ws, c ≤ l.2.2.2 := fun l hl => hcz _ (List.mem_cons_of_mem _ (List.mem_cons_of_mem _ (List.mem_map.mpr ⟨l, hl, rfl⟩)))
      have allw : ∀ (ws : List W4) (y : Nat), Bk ts as lo hi y ws x → ∀ l ∈ ws, (0 < l.2.2.2 ∧ l.2.2.2 % 3 = 0) ∧ (l.2.2.1 = 1 ∨ l.2.2.1 = -1) := by
        intro ws
        induction ws with
        | nil => intro y _ l hl; exact absurd hl List.not_mem_nil
        | cons m ws ih =>
          intro y hb l hl
          rcases List.mem_cons.mp hl with z | z
          · subst z
            obtain ⟨hw1, _⟩ := hb
            have := B.b _ hw1.lt
            rcases hw1.or with ⟨e1, _, _, _, e3⟩ | ⟨e1, _, _, _, e3⟩
            · exact ⟨⟨hw1.pos, by rw [e3]; exact this.2.2.2.2.1⟩, .inl e1⟩
            · exact ⟨⟨hw1.pos, by rw [e3]; exact this.2.2.2.2.2⟩, .inr e1⟩
          · exact ih m.1 hb.2 l z
      have hc : 0 < c ∧ c % 3 = 0 := by
        rcases List.mem_cons.mp hcm with z | z
        · rw [z]; exact ⟨hxpos, hg3 x hxn⟩
        · rcases List.mem_cons.mp z with z | z
          · have := hg3 y hyn
            rw [z]
            omega
          · obtain ⟨l, hl, e⟩ := List.mem_map.mp z
            rw [← e]
            exact (allw ws y bk l hl).1
      have lsl : Ls (tOp rCat (tLst (tCons (tOp (rIxL K) (tVar 4) (tVar 9)) (tCons (tUn (rU fun i => .int (-i)) (tOp (rIxL K) (tVar 4) (tOp (rIxL K) (tVar 7) (tC (.int 0))))) tNil))) (tLc (iList K (tVar 8)) (gName 11) tYes (tOp (rIxT K) (tVar 11) (tC (.int 3))) [11])) [some (V.ref a), some (V.ref l), some (V.ref m), some (V.ref ao), some (V.ref go), some (V.ref d), some (V.ref ro), some (V.ref lk), some (V.ref wo), some (V.int (x : Int)), v10, v11, none] H7
          (ivs (gain ts as x :: (- gain ts as y) :: ws.map (·.2.2.2))) := by
        refine ((nw_cat (xs := [.int (gain ts as x), .int (- gain ts as y)]) (ys := ws.map fun l => V.int l.2.2.2) (nw_lst (pa1 (pf eg7 (hgx x hxn) rfl rfl) (pa1 (pu_neg (i := gain ts as y) (pu_ixI (SqL.of eg7) (pu_var rfl) (pk s7 rfl) (hgx y hyn))) pa0)) (by show 2 ≤ 100000; decide)).ls ?_ ?_).ls).is ?_
        · exact (nw_lcQ (fun l => V.int l.2.2.2) (pu_var rfl) (SqL.of e7) Qu (by omega) (fun _ => rfl) (fun r l h => pu_ixT h (pu_var rfl) pu_c (atI_nat (j := 3) rfl))).ls
        · rw [List.length_map]
          show 2 + _ ≤ _
          omega
        · show _ = V.int _ :: V.int _ :: ((ws.map (·.2.2.2)).map V.int)
          rw [List.map_map]
          rfl
      refine q_gv (gv_min lsl hcm hcz) fun H8 s8 => ?_
      have e78 := s8 _ _ e7
      have e68 := s8 _ _ e67
      have ea8 := s8 _ _ ea7
      have eg8 := s8 _ _ eg7
      have s08 : Same H H8 := ((s4.trans s5).trans s57).trans s8
      have naw : ao ≠ wo := ne_of_none (s6 _ _ ea5) f7
      have nal : ao ≠ lk := ne_of_none ea5 f6
      have ngl : go ≠ lk := ne_of_none eg5 f6
      have Qu8 := Qu.mono s8
      refine q_forL (pu_var rfl) (SqL.of e78) (fun i σ' H' => ∃ (bs : List Int) (cur : Nat) (v11 : Option V), σ' = [some (.ref a), some (.ref l), some (.ref m), some (.ref ao), some (.ref go), some (.ref d), some (.ref ro), some (.ref lk), some (.ref wo), some (.int (x : Int)), some (.int c), v11, none] ∧ Same H H' ∧ H' ao = some (.lst (ivs bs)) ∧
          H' go = some (.lst (ivs g)) ∧ H' wo = some (.lst (rvs rs)) ∧ H' lk = some (.lst (nvs (y :: ys'))) ∧ Qua K H' rs ws ∧ Aug ts as lo hi y x c ws i cur bs)
        ⟨as, y, _, rfl, s08, ea8, eg8, e78, e68, Qu8, Aug.start B bk⟩ (fun i σ' H' _ ⟨_, _, _, _, _, _, _, e, _⟩ => SqL.of e) ?_ ?_
      · rintro i xv σ' H9 hxi ⟨bs, cur, v11, rfl, s9, ea9, eg9, ew9, el9, Qu9, R9⟩
        obtain ⟨r3, hr3, rfl⟩ := rvs_of hxi
        have hiW : i < ws.length := by rw [← Qu9.1]; exact (List.getElem?_eq_some_iff.mp hr3).1
        have hWi : ws[i]? = some ws[i] := List.getElem?_eq_getElem hiW
        have hsq := Qu9.2 i r3 _ hr3 hWi
        generalize ws[i] = ll at *
        obtain ⟨hb3, R10⟩ := R9.step nd hWi ⟨by omega, hc.2, hcw⟩
        refine s_augL (pu_var rfl) ea9 (pu_ixT hsq (pu_var rfl) pu_c (atI_nat (j := 1) rfl)) (ivs_get hb3) (pu_I (pu_ixT hsq (pu_var rfl) pu_c (atI_nat (j := 2) rfl)) (pu_var rfl) ?_) ?_
        · refine .inl ?_
          rcases (allw ws y bk ll (List.mem_of_getElem? hWi)).2 with z | z <;> rw [z] <;> decide
        · rw [ivs_set]
          have hma : Mut (H9 ao) := by rw [ea9]; trivial
          exact ⟨_, _, _, rfl, Same.mut s9 fa, upd_same, by rw [upd_ne nag.symm]; exact eg9, by rw [upd_ne naw.symm]; exact ew9, by rw [upd_ne nal.symm]; exact el9, Qu9.upd hma, R10⟩
      · rintro σ' H9 ⟨bs, cur, v11, rfl, s9, ea9, eg9, ew9, el9, Qu9, R9⟩
        rw [rvs_len, Qu9.1] at R9
        have ecur : cur = x := by
          have := R9.rest
          rw [List.drop_length] at this
          exact this
        subst ecur
        have gx := hgx cur hxn
        have gy := hgx y hyn
        have gl : cur < g.length := by omega
        refine q_augL (pu_var rfl) eg9 (pu_var rfl) (ivs_get gx) (pu_var rfl) ?_
        rw [ivs_set]
        have el10 : upd H9 go (.lst (ivs (g.set cur (gain ts as cur - c)))) lk = some (.lst (nvs (y :: ys'))) := by rw [upd_ne ngl.symm]; exact el9
        refine s_augL (pu_var rfl) upd_same (pu_ixN (i := 0) (SqL.of el10) (pu_var rfl) pu_c rfl) (ivs_get (by rw [List.getElem?_set_ne hxy]; exact gy)) (pu_var rfl) ?_
        rw [upd_upd, ivs_set]
        have gb : ∀ z, z < n → ((g.set cur (gain ts as cur - c)).set y (gain ts as y + c))[z]? = some (gain ts bs z) := fun z hz => by
          rw [R9.g z]
          by_cases c1 : y = z
          · subst c1
            have i1 : ind (y = y) c = c := if_pos rfl
            have i2 : ind (cur = y) c = 0 := if_neg hxy
            rw [List.getElem?_set_self (by rw [List.length_set]; omega), i1, i2, Int.sub_zero]
          · rw [List.getElem?_set_ne c1]
            have i1 : ind (y = z) c = 0 := if_neg c1
            rw [i1]
            by_cases c2 : cur = z
            · subst c2
              have i2 : ind (cur = cur) c = c := if_pos rfl
              rw [List.getElem?_set_self gl, i2, Int.add_zero]
            · have i2 : ind (cur = z) c = 0 := if_neg c2
              rw [List.getElem?_set_ne c2, hgx z hz, i2, Int.add_zero, Int.sub_zero]
        refine ⟨posT (gain ts bs) n, ?_, bs, _, _, _, _, _, _, _, _, rfl, Same.mut s9 fg, by rw [upd_ne nag]; exact ea9, upd_same, by rw [List.length_set, List.length_set]; exact hgl, gb, R9.b, fun z hz => ?_, rfl⟩
        · refine posT_lt (y := cur) ?_ hxn fun z hz => ?_
          · rw [R9.g cur]
            have i1 : ind (y = cur) c = 0 := if_neg fun z => hxy z.symm
            have i2 : ind (cur = cur) c = c := if_pos rfl
            rw [i1, i2]
            omega
          · rw [R9.g z]
            by_cases c1 : y = z
            · subst c1
              have i1 : ind (y = y) c = c := if_pos rfl
              have i2 : ind (cur = y) c = 0 := if_neg hxy
              rw [i1, i2]
              omega
            · have i1 : ind (y = z) c = 0 := if_neg c1
              rw [i1]
              have i2 : 0 ≤ ind (cur = z) c := by
                unfold ind
                split <;> omega
              omega
        · rw [R9.g z]
          have := hg3 z hz
          unfold ind
          split <;> split <;> omega
    · have hle : ∀ x, x < n → gain ts as x ≤ 0 := fun x hx => by
        have h1 := hmz _ (List.mem_of_getElem? (hgx x hx))
        have h2 : ¬ 0 < mx := of_decide_eq_false hb
        omega
      have pstr : ∀ {σ : St} {H : Hp} {z : Str}, Pu (tC (.str z)) σ H (.str z) := pu_c
      refine s_retT (pa1 pstr (pa1 (pu_var rfl) pa0)) (by show 2 ≤ 1000; decide) fun r hr => ?_
      exact q as _ ao r _ ⟨B, none_lacks hV.ends hle⟩ fa (s4.trans (same_new hr)) (same_new hr _ _ ea) (SqT.of upd_same)
/-! 0 web, 1 rests, 2 k*, 3 lows, 4 rest -/
abbrev s_lifted : Stmt := topS 59
abbrev N_lifted : List Str := ["web", "rests", "k", "lows", "rest"]
theorem sc_lifted : FnScope N_lifted ["web", "rests", "k"] (defScope s_lifted) := ⟨rfl, rfl, rfl, by decide +kernel, rfl, by decide +kernel, by decide +kernel⟩
/-- a flow within 3 with these rests -/
structure Lift (ts : List Tie) (n : Nat) (rs as : List Int) : Prop where
  len : as.length = ts.length
  g : ∀ x, x < n → gain ts as x = 0
  b : ∀ (k : Nat) (r : Int), rs[k]? = some r → ∃ c, as[k]? = some c ∧ -3 < c ∧ c < 3 ∧ (r ≠ 0 → c ≠ 0)
def lows (rs : List Int) : List Int := rs.map fun r => if 0 < r then r - 3 else 0
theorem lows_bnd {ts : List Tie} {n : Nat} {rs : List Int} (R : RestFlow ts n rs) : BndIn ts n (lows rs) rs := by
  have hl : (lows rs).length = ts.length := by rw [← R.len]; exact List.length_map _
  have at' : ∀ t, t < ts.length → (lows rs).getD t 0 = (if 0 < rs.getD t 0 then rs.getD t 0 - 3 else 0) ∧ 0 ≤ rs.getD t 0 ∧ rs.getD t 0 < 3 := fun t ht => by
    have h1 := get_getD (a := rs) (k := t) (by rw [R.len]; exact ht)
    have h2 := R.rng _ (List.mem_of_getElem? h1)
    refine ⟨?_, h2⟩
    refine getD_of ?_
    show (rs.map _)[t]? = _
    rw [List.getElem?_map, h1]
    rfl
  have md : ∀ r : Int, 0 ≤ r ∧ r < 3 → (if 0 < r then r - 3 else 0) % 3 = r % 3 := fun r h => by
    split <;> omega
  refine ⟨⟨hl, hl, R.len, fun t ht => ?_⟩, fun x hx => ?_⟩
  · obtain ⟨a, b, c⟩ := at' t ht
    rw [a]
    split <;> omega
  · have e : (lows rs).map (fun a => a % 3) = rs.map fun a => a % 3 := by
      show (rs.map _).map _ = _
      rw [List.map_map]
      refine List.map_congr_left fun r hr => md r (R.rng r hr)
    rw [← gain_rest 3 ts (lows rs), e, gain_rest]
    exact R.g x hx
theorem lift_of {ts : List Tie} {n : Nat} {rs as : List Int} (R : RestFlow ts n rs) (B : BndOut ts n (lows rs) rs as) : Lift ts n rs as := by
  refine ⟨B.b.la, B.g, fun k r hk => ?_⟩
  have hkl : k < ts.length := by rw [← R.len]; exact (List.getElem?_eq_some_iff.mp hk).1
  have h1 := R.rng _ (List.mem_of_getElem? hk)
  have hb := B.b.b k hkl
  have e1 : (lows rs).getD k 0 = if 0 < r then r - 3 else 0 := getD_of (by
    show (rs.map _)[k]? = _
    rw [List.getElem?_map, hk]
    rfl)
  rw [getD_of hk, e1] at hb
  refine ⟨_, get_getD (by rw [B.b.la]; exact hkl), ?_⟩
  by_cases c : 0 < r
  · rw [if_pos c] at hb
    omega
  · rw [if_neg c] at hb
    omega
def sp_lifted (K : PySem.W.Frag) (C : Addr) : Sp := fun vs H Q _ => ∃ (a l : Addr) (n : Nat) (ts : List Tie) (rs : List Int), vs = [.ref a, .ref l, .int 3] ∧ WebAt K C H a n ts ∧ SqL K H l (ivs rs) ∧ RestFlow ts n rs ∧
  ∀ as r H2, Lift ts n rs as → H r = none → Same H H2 → H2 r = some (.lst (ivs as)) → Q (.ref r) H2
section
variable {σ : St} {H : Hp} {D : Ends} {sp : Sp} {tr : TA} {te : TE} {vs : List V}
theorem s_retGdIx (h : PuA tr σ H vs) (k : sp vs H (fun v H1 => te σ H1 fun i H2 => rIxT K v i H2 D.rt) E0) : tRet (tOp (rIxT K) (tGd sp tr) te) D σ H := h.at k
end
theorem ok_lifted (F : Df K mg "lifted" ["web", "rests", "k"] s_lifted) (T : Bt mg) (Wc : WebC K C) (G_is_rest_flow : Gd P w K mg base 2 "is_rest_flow" ["web", "rests", "k"] (sp_is_rest_flow K C)) (G_between : Gd P w K mg base 3 "between" ["web", "lows", "highs"] (sp_between K C)) : Gd P w K mg base 4 "lifted" ["web", "rests", "k"] (sp_lifted K C) := by
  refine F.gd sc_lifted (fun vs H Q E h => ?_) (fun f cdv A outer s H vs Q E hr h => ?_)
  · obtain ⟨a, l, n, ts, rs, rfl, _⟩ := h
    rfl
  · obtain ⟨a, l, n, ts, rs, rfl, hw, hl, R, q⟩ := h
    have hr_is_rest_flow := hr.mono (j := 2) (by decide)
    have hr_between := hr
    refine ⟨_, (pss_cons (ps_if (pt_not (pt_val (pe_gd G_is_rest_flow hr_is_rest_flow (by rfl) (pa_cons (pv 0) (pa_cons (pv 1) (pa_cons (pv 2) pa_nil))))))
        (pss_one ps_never)
        pss_nil)
      (pss_cons (ps_setLc (i := 3) (own := [("rest", 4)]) (g := gName 4)  rfl sc_lifted.nd rfl rfl (sw_true rfl rfl rfl (by decide +kernel)) (w_piL K (pv 1)) (blkOk_by (own := [("rest", 4)]) (N := N_lifted) (sc := defScope s_lifted) (by decide +kernel)) (fun _ _ _ _ _ => (pg_name (i := 4) sc_lifted.nd rfl (Or.inl rfl))) (fun _ _ _ _ _ => pts_nil) (fun _ _ _ _ _ => (pe_ifExp (pt_cmpR op_gt (pv 4) pe_int (nomark _)) (pe_op op_sub (pv 4) (pv 2)) pe_int)))
      (pss_one (ps_ret (pe_ix (w_ixT K) (pe_gd G_between hr_between (by rfl) (pa_cons (pv 0) (pa_cons (pv 3) (pa_cons (pv 1) pa_nil)))) pe_int (fun _ _ => rfl)))))), ?_⟩
    have h40 := hw.ok.len
    refine q_whenG (b := false) ((gt_not (b := true) (gt_test (gv_gd (pa1 (pu_var rfl) (pa1 (pu_var rfl) (pa1 (pu_var rfl) pa0))) fun H1 e Q2 k => ⟨a, l, n, ts, rs, rfl, hw.mono e, e.seq hl, R, fun H2 e2 => k H2 e2⟩)))) (fun h => by cases h) (fun _ H1 s1 => ?_)
    refine q_nw (xs := ivs (lows rs)) ((nw_lcI (K := K) (fun _ => true) (fun r => .int (if 0 < r then r - 3 else 0)) (pu_var rfl) (s1.seq hl) (by rw [R.len]; omega) (fun _ => rfl) (fun k _ => pt_yes.gt) (fun k _ _ => (pu_if (pt_test (pu_I0 (pu_var rfl) pu_c)) (fun h => ?_) (fun h => ?_)).gv)).is ?_) fun lo H2 f2 s2 e2 => ?_
    · exact (pu_I0 (pu_var rfl) (pu_var rfl)).is (by rw [if_pos (of_decide_eq_true h)])
    · exact pu_c.is (by rw [if_neg (of_decide_eq_false h)])
    · rw [filter_all _ _ fun _ _ => rfl]
      show _ = (rs.map _).map V.int
      rw [List.map_map]
      rfl
    · have s12 := s1.trans s2
      refine s_retGdIx (pa1 (pu_var rfl) (pa1 (pu_var rfl) (pa1 (pu_var rfl) pa0))) ⟨a, lo, l, n, ts, lows rs, rs, rfl, hw.mono s12, SqL.of e2, s12.seq hl, lows_bnd R, fun as x ao r H3 B fa s3 e3 hs => ?_⟩
      exact ⟨r, _, 1, _, rfl, rfl, hs, atI_nat (j := 1) rfl, q as ao H3 (lift_of R B) (s12.free fa) (s12.trans s3) e3⟩
end
end Bz

set_option Elab.async false
set_option linter.all false
set_option maxHeartbeats 400000
namespace Bz
/-! ### rungs of one place -/
structure Rg where
  ln : List Nat
  ev : List Nat
  p : Nat
  sd : List Nat
def leftL (n : Nat) (had : List Nat) : List Nat := (List.range n).filter fun x => !decide (x ∈ had)
theorem mem_leftL {n : Nat} {had : List Nat} {x : Nat} : x ∈ leftL n had ↔ x < n ∧ x ∉ had := by
  unfold leftL
  rw [List.mem_filter, List.mem_range]
  simp
theorem leftL_len (n : Nat) (had : List Nat) : (leftL n had).length ≤ n := by
  have := List.length_filter_le (fun x => !decide (x ∈ had)) (List.range n)
  rw [List.length_range] at this
  exact this
structure RgOk (ts : List Tie) (n : Nat) (had : List Nat) (r : Rg) : Prop where
  p_lt : r.p < n
  p_new : r.p ∉ had
  ln : ∃ c, 1 ≤ c ∧ c ≤ 2 ∧ r.ln = (btw ts [r.p] had).take c
  ev_up : r.ev.Pairwise (· < ·)
  ev : ∀ k ∈ r.ev, k < ts.length ∧ tieAt ts k = (r.p, r.p)
  sd_up : r.sd.Pairwise (· < ·)
  sd_p : r.p ∈ r.sd
  sd_in : ∀ x ∈ r.sd, x < n ∧ x ∉ had
  sd_one : r.ln = [] → r.sd = [r.p]
  cmp : r.ln = [] → ∀ y ∈ had, ¬ Rch ts r.p y
def LadOk (ts : List Tie) (n : Nat) : List Nat → List Rg → Prop
  | _, [] => True
  | had, r :: L => RgOk ts n had r ∧ LadOk ts n (had ++ [r.p]) L
def othersL (n : Nat) (had sd : List Nat) : List Nat := (leftL n had).filter fun x => !decide (x ∈ sd)
theorem mem_othersL {n : Nat} {had sd : List Nat} {x : Nat} : x ∈ othersL n had sd ↔ x < n ∧ x ∉ had ∧ x ∉ sd := by
  unfold othersL
  rw [List.mem_filter, mem_leftL]
  simp [and_assoc]
def rGood (ts : List Tie) (n : Nat) (had : List Nat) (r : Rg) : Bool := decide (r.ln = []) || (decide (r.ln.length = 2) || (decide (btw ts r.sd had = r.ln) && decide ((btw ts r.sd (othersL n had r.sd)).length = 1)))
def lGood (ts : List Tie) (n : Nat) : List Nat → List Rg → Bool
  | _, [] => true
  | had, r :: L => rGood ts n had r && lGood ts n (had ++ [r.p]) L
theorem RgOk.ln_mem {ts : List Tie} {n : Nat} {had : List Nat} {r : Rg} (R : RgOk ts n had r) {k : Nat} (h : k ∈ r.ln) : k < ts.length ∧ (((tieAt ts k).1 = r.p ∧ (tieAt ts k).2 ∈ had) ∨ ((tieAt ts k).1 ∈ had ∧ (tieAt ts k).2 = r.p)) := by
  obtain ⟨c, _, _, e⟩ := R.ln
  rw [e] at h
  obtain ⟨a, b⟩ := mem_btw.mp (List.mem_of_mem_take h)
  refine ⟨a, ?_⟩
  rcases b with ⟨x, y⟩ | ⟨x, y⟩
  · exact .inl ⟨List.mem_singleton.mp x, y⟩
  · exact .inr ⟨x, List.mem_singleton.mp y⟩
theorem RgOk.ln_up {ts : List Tie} {n : Nat} {had : List Nat} {r : Rg} (R : RgOk ts n had r) : r.ln.Pairwise (· < ·) := by
  obtain ⟨c, _, _, e⟩ := R.ln
  rw [e]
  exact (btw_rising ts _ _).sublist (List.take_sublist c _)
theorem RgOk.ln_len {ts : List Tie} {n : Nat} {had : List Nat} {r : Rg} (R : RgOk ts n had r) : r.ln.length ≤ 2 := by
  obtain ⟨c, _, h, e⟩ := R.ln
  rw [e, List.length_take]
  omega
/-- some place behind hangs together with this one just where there are links -/
theorem RgOk.near {ts : List Tie} {n : Nat} {had : List Nat} {r : Rg} (R : RgOk ts n had r) : r.ln ≠ [] ↔ ∃ y ∈ had, Rch ts r.p y := by
  constructor
  · intro h
    obtain ⟨k, hk⟩ := List.exists_mem_of_ne_nil _ h
    obtain ⟨a, b⟩ := R.ln_mem hk
    have t := Rch.tie (tieAt_mem a)
    rcases b with ⟨x, y⟩ | ⟨x, y⟩
    · exact ⟨_, y, by rw [← x]; exact t⟩
    · exact ⟨_, x, by rw [← y]; exact t.symm⟩
  · rintro ⟨y, hy, h⟩ e
    exact R.cmp e y hy h
end Bz

set_option Elab.async false
set_option linter.all false
set_option maxRecDepth 100000
set_option maxHeartbeats 1000000
namespace Bz
open PySem PySem.Spec L2
section
variable {P : Program} {w : World} {K : PySem.W.Frag} {mg : Str → Option Value} {base : Heap} {C : Addr}
section
variable {σ : St} {H : Hp} {D : Ends} {ta tb : TE} {tr ts' : TA} {sp : Sp}
/-- sorted(set(l)) -/
theorem nw_sortedSet {ns ms : List Nat} (ha : Ls ta σ H (nvs ns)) (hl : ns.length < 64) (hs : ms.Pairwise (· < ·)) (he : ∀ x, x ∈ ms ↔ x ∈ ns) : Nw (tCB (rSortedSet w) (tCons (tCB (rSetOf K w) (tCons ta tNil)) tNil)) σ H (nvs ms) := fun H1 e Q q =>
  ha H1 e _ fun p H2 e2 hp => ⟨p, ns.map fun n : Nat => (n : Int), rfl, by rw [nvs_iv] at hp; exact SqL.of hp, by rw [List.length_map]; omega, fun s c hs0 hc => ⟨s, _, c, rfl, upd_same, by rw [List.length_map] at hc; omega, fun ks r hk hm _ hr => by
    have s2 : Same H2 (upd H2 s (SetO w s (fun j => decide (j ∈ ns.map fun n : Nat => (n : Int))) c)) := same_new hs0
    have hpos : ∀ k ∈ ks, 0 ≤ k := fun k hk2 => by
      have := of_decide_eq_true ((hm k).mp hk2)
      obtain ⟨n, _, rfl⟩ := List.mem_map.mp this
      omega
    have e1 : ks.map Int.toNat = ms := by
      refine rising_ext ?_ hs fun x => ?_
      · refine List.pairwise_map.mpr ?_
        refine List.Pairwise.imp_of_mem ?_ hk
        intro a b ha hb hab
        have := hpos a ha
        have := hpos b hb
        omega
      · rw [he x]
        constructor
        · intro h
          obtain ⟨k, hk2, rfl⟩ := List.mem_map.mp h
          obtain ⟨n, hn, e⟩ := List.mem_map.mp (of_decide_eq_true ((hm k).mp hk2))
          rw [← e]
          exact hn
        · intro h
          exact List.mem_map.mpr ⟨(x : Int), (hm _).mpr (decide_eq_true (List.mem_map.mpr ⟨x, h, rfl⟩)), rfl⟩
    have e2' : ks.map V.int = nvs ms := by
      rw [← e1]
      show _ = (ks.map Int.toNat).map _
      rw [List.map_map]
      refine List.map_congr_left fun k hk2 => ?_
      have := hpos k hk2
      show V.int k = V.int ((k.toNat : Nat) : Int)
      congr 1
      omega
    rw [e2']
    exact q r _ (e2.free (s2.free hr)) (e2.trans (s2.trans (same_new hr))) upd_same⟩⟩
theorem pu_cntL {ns : List Nat} {x : Nat} {l : Addr} (h : SqL K H l (nvs ns)) (ha : Pu ta σ H (.ref l)) (hb : Pu tb σ H (.int (x : Int))) : Pu (tBM K "list" (rCntI K) ta (tCons tb tNil)) σ H (.int (ns.count x : Nat)) := fun H1 s Q q =>
  ha H1 s _ ⟨.inl ⟨rfl, _, s.seq h⟩, hb H1 s _ ⟨l, ns.map fun n : Nat => (n : Int), (x : Int), rfl, rfl, by
    have h9 := s.seq h
    rw [nvs_iv] at h9
    exact h9, by
    have e : ((ns.map fun n : Nat => (n : Int)).count (x : Int)) = ns.count x := by
      rw [List.count_eq_countP, List.count_eq_countP, List.countP_map]
      congr 1
      funext z
      show ((z : Int) == (x : Int)) = (z == x)
      by_cases c : z = x
      · subst c; simp
      · have : ¬ (z : Int) = (x : Int) := by omega
        rw [beq_eq_false_iff_ne.mpr this, beq_eq_false_iff_ne.mpr c]
    rw [e]
    exact q⟩⟩
theorem gdgd {sp2 : Sp} {tr2 : TA} {vs : List V} {Q : VK} (h : PuA tr σ H vs) (k : sp vs H (fun v H1 => tr2 σ H1 fun us H2 => sp2 (v :: us) H2 Q E0) E0) : tGd sp2 (tCons (tGd sp tr) tr2) σ H Q := h.at k
end
/-! 0 web, 1 even, 2 places, 3 ends, 4 place -/
abbrev s_even_good : Stmt := topS 31
abbrev N_even_good : List Str := ["web", "even", "places", "ends", "place"]
theorem sc_even_good : FnScope N_even_good ["web", "even", "places"] (defScope s_even_good) := ⟨rfl, rfl, rfl, by decide +kernel, rfl, by decide +kernel, by decide +kernel⟩
def sp_even_good (K : PySem.W.Frag) (C : Addr) : Sp := fun vs H Q _ => ∃ (a l m : Addr) (n p : Nat) (ts : List Tie) (is : List Nat), vs = [.ref a, .ref l, .ref m] ∧ WebAt K C H a n ts ∧ H l = some (.lst (nvs is)) ∧ H m = some (.lst (nvs [p])) ∧ p < n ∧ is.length ≤ 20 ∧
  (∀ k ∈ is, k < ts.length ∧ tieAt ts k = (p, p)) ∧ ∀ H2, Same H H2 → Q (.bl true) H2
theorem ok_even_good (F : Df K mg "even_good" ["web", "even", "places"] s_even_good) (T : Bt mg) (Wc : WebC K C) (G_ends_of : Gd P w K mg base 1 "ends_of" ["web", "some"] (sp_ends_of K C)) (G_reached : Gd P w K mg base 1 "reached" ["web", "place"] (sp_reached K C)) (G_web_of : Gd P w K mg base 3 "web_of" ["web", "some"] (sp_web_of K C)) :
    Gd P w K mg base 4 "even_good" ["web", "even", "places"] (sp_even_good K C) := by
  refine F.gd sc_even_good (fun vs H Q E h => ?_) (fun f cdv A outer s H vs Q E hr h => ?_)
  · obtain ⟨a, l, m, n, p, ts, is, rfl, _⟩ := h
    rfl
  · obtain ⟨a, l, m, n, p, ts, is, rfl, hw, hl, hm, hp, hlen, hev, q⟩ := h
    have hr_ends_of := hr.mono (j := 1) (by decide)
    have hr_reached := hr.mono (j := 1) (by decide)
    have hr_web_of := hr
    refine ⟨_, (pss_cons (ps_if (pt_cmpR op_eq (pe_callB (w_len K) (by rfl) T.len PySem.boot_len (pa_cons (pv 1) pa_nil)) pe_int (nomark _))
        (pss_one (ps_ret (pe_cmpR op_eq (pe_callB (w_len K) (by rfl) T.len PySem.boot_len (pa_cons (pv 2) pa_nil)) pe_int (nomark _))))
        pss_nil)
      (pss_cons (ps_set (i := 3) sc_even_good.nd rfl (Or.inl rfl) (pe_gd G_ends_of hr_ends_of (by rfl) (pa_cons (pv 0) (pa_cons (pv 1) pa_nil))))
      (pss_cons (ps_for PassesOwn.never rfl (pi_range1 rfl T.range (pa_cons (w_fld K (pv 0)) pa_nil)) (pg_name (i := 4) sc_even_good.nd rfl (Or.inl rfl))
        (pss_one (ps_if (pt_cmpR op_eq (pe_op op_mod (w_bm K PySem.F.plainAttrs_list PySem.F.slot_list_count PySem.F.type_list_count (w_cntL K) (pv 3) (pa_cons (pv 4) pa_nil)) pe_int) pe_int (nomark _))
          (pss_one (ps_ret pe_bl))
          pss_nil)))
      (pss_one (ps_ret (pe_and (pe_cmpR (w_eqD K hr) (pe_callB (w_sortedSet w rfl) (by rfl) T.sorted (by decide +kernel) (pa_cons (pe_callTy (w_setOf K w rfl) (by rfl) T.set (by decide +kernel) (pa_cons (pv 3) pa_nil)) pa_nil)) (pv 2) (nomark _)) (pe_one (pe_cmpR (w_eqD K hr) (pe_gd G_reached hr_reached (by rfl) (pa_cons (pe_gd G_web_of hr_web_of (by rfl) (pa_cons (pv 0) (pa_cons (pv 1) pa_nil))) (pa_cons (pe_ix (w_ixL K) (pv 2) pe_int (fun _ _ => rfl)) pa_nil))) (pv 2) (nomark _))))))))), ?_⟩
    have h20 := hw.ok.most
    refine q_when (pt_test (pu_eqI (pu_lenN (SqL.of hl) (pu_var rfl)) pu_c)) (fun hb => ?_) (fun hb => ?_)
    · exact s_ret ((pu_eqI (pu_lenN (SqL.of hm) (pu_var rfl)) pu_c).is (by rfl)) (q H (Same.refl H))
    · have hne : is ≠ [] := fun z => by
        rw [z] at hb
        exact absurd hb (by decide)
      have eE : endsL ts is = List.replicate (2 * is.length) p := endsL_loops fun k hk => (hev k hk).2
      have hpos : 0 < is.length := List.length_pos_iff.mpr hne
      have hmem : ∀ x, x ∈ [p] ↔ x ∈ endsL ts is := fun x => by
        rw [eE, List.mem_replicate, List.mem_singleton]
        exact ⟨fun h => ⟨by omega, h⟩, fun h => h.2⟩
      refine q_gd (pa1 (pu_var rfl) (pa1 (pu_var rfl) pa0)) ⟨a, l, n, ts, is, rfl, hw, SqL.of hl, fun k hk => (hev k hk).1, by omega, fun e1 H1 f1 s1 e1' => ?_⟩
      refine q_forR (n := n) (pa1 (pu_many Wc (hw.mono s1) (pu_var rfl)) pa0) (by omega) (fun i σ' H' => ∃ (v4 : Option V), σ' = [some (.ref a), some (.ref l), some (.ref m), some (.ref e1), v4] ∧ H' = H1) ⟨none, rfl, rfl⟩ ?_ ?_
      · rintro i σ' H' hi ⟨v4, rfl, rfl⟩
        refine s_when (b := false) ((pt_test (pu_eqI (pu_I (pu_cntL (SqL.of e1') (pu_var rfl) (pu_var rfl)) pu_c (by decide)) pu_c)).is ?_) (fun h => by cases h) (fun _ => ⟨_, rfl, rfl⟩)
        refine decide_eq_false ?_
        rw [eE, List.count_replicate]
        show ¬ ((if (p == i) = true then 2 * is.length else 0 : Nat) : Int) % 2 = 1
        split <;> omega
      · rintro σ' H' ⟨v4, rfl, rfl⟩
        have hm1 := s1 _ _ hm
        refine s_retG ((gv_andV (gv_eqL (nw_sortedSet (ms := [p]) (Pu.ls (pu_var rfl) e1') (by rw [endsL_len]; omega) (List.pairwise_singleton _ _) hmem).ls (Pu.ls (pu_var rfl) hm1)) fun _ => gv_eqL (ns := [p]) ?_ (Pu.ls (pu_var rfl) hm1)).is (by rw [decide_eq_true rfl]; rfl)) fun H2 s2 => q H2 (s1.trans s2)
        refine (fun H3 s3 Q3 k3 => ?_)
        have h23 := (hw.mono s1).mono s3
        refine gdgd (pa1 (pu_var rfl) (pa1 (pu_var rfl) pa0)) ⟨a, l, n, ts, is, rfl, h23, s3 _ _ (s1 _ _ hl), fun k hk => (hev k hk).1, by omega, fun x H4 f4 s4 w4 => ?_⟩
        refine (pa1 (pu_ixN (i := 0) (SqL.of (s4 _ _ (s3 _ _ hm1))) (pu_var rfl) pu_c rfl) pa0).at ⟨x, n, p, sub ts is, rfl, w4, hp, fun F r H5 f5 s5 hF hFm e5 => ?_⟩
        have eF : F = [p] := rising_ext hF (List.pairwise_singleton _ _) fun y => by
          rw [hFm, rch_loops (p := p), List.mem_singleton]
          intro e he
          obtain ⟨k, hk, rfl⟩ := mem_sub.mp he
          exact (hev k hk).2
        rw [eF] at e5
        exact k3 r H5 (s4.trans s5) e5
end
end Bz

set_option Elab.async false
set_option linter.all false
set_option maxRecDepth 100000
set_option maxHeartbeats 1000000
namespace Bz
open PySem PySem.Spec L2
section
variable {P : Program} {w : World} {K : PySem.W.Frag} {mg : Str → Option Value} {base : Heap} {C : Addr}
/-! ### rungs on the heap -/
structure RgAt (K : PySem.W.Frag) (H : Hp) (r l e q s : Addr) (g : Rg) : Prop where
  sq : SqT K H r [.ref l, .ref e, .ref q, .ref s]
  ln : H l = some (.lst (nvs g.ln))
  ev : H e = some (.lst (nvs g.ev))
  p : H q = some (.lst (nvs [g.p]))
  sd : H s = some (.lst (nvs g.sd))
theorem RgAt.mono {H H' : Hp} {r l e q s : Addr} {g : Rg} (S : Same H H') (h : RgAt K H r l e q s g) : RgAt K H' r l e q s g := ⟨Same.seqT S h.sq, S _ _ h.ln, S _ _ h.ev, S _ _ h.p, S _ _ h.sd⟩
def RgsAt (K : PySem.W.Frag) (H : Hp) (rs : List Addr) (L : List Rg) : Prop := rs.length = L.length ∧ ∀ (i : Nat) (r : Addr) (g : Rg), rs[i]? = some r → L[i]? = some g → ∃ l e q s, RgAt K H r l e q s g
theorem RgsAt.mono {H H' : Hp} {rs : List Addr} {L : List Rg} (S : Same H H') (h : RgsAt K H rs L) : RgsAt K H' rs L := ⟨h.1, fun i r g a b => by
  obtain ⟨l, e, q, s, z⟩ := h.2 i r g a b
  exact ⟨l, e, q, s, z.mono S⟩⟩
section
variable {σ : St} {H : Hp} {D : Ends} {ta tb te : TE} {tz : TS} {r l m : Addr} {v1 v2 v3 v4 : V} {k : Nat} {ns : List Nat}
theorem q_unp4 {i1 i2 i3 i4 : Nat} (ha : Pu te σ H (.ref r)) (hs : SqT K H r [v1, v2, v3, v4]) (q : tz D ((((σ.set i1 (some v1)).set i2 (some v2)).set i3 (some v3)).set i4 (some v4)) H) :
    tSeq (tAsg te (gTup K 4 (gCons (gName i1) (gCons (gName i2) (gCons (gName i3) (gCons (gName i4) gNil)))))) tz D σ H := ha.at ⟨r, _, rfl, hs, rfl, _, _, rfl, _, _, rfl, _, _, rfl, _, _, rfl, rfl, q⟩
theorem gv_nin12 (ha : Pu ta σ H (.int (k : Int))) : Gv (tOp (rIn K true) ta (tTup (tCons (tC (.int 1)) (tCons (tC (.int 2)) tNil)))) σ H (.bl (!decide (k ∈ [1, 2]))) := fun H1 e Q q =>
  ha H1 e _ ⟨by show 2 ≤ sizeLine; decide, fun p hp => ⟨p, nvs [1, 2], rfl, .inr (SqT.of upd_same), rfl, nvs_flat _, by
    show Q (.bl (!inV (.int (k : Int)) (nvs [1, 2]))) _
    rw [inV_nvs]
    exact q _ (same_new hp)⟩⟩
theorem pu_rising (hl : SqL K H l (nvs ns)) (hs : ns.Pairwise (· < ·)) (hm : ∀ x ∈ ns, x < k) (ha : Pu ta σ H (.ref l)) (hb : Pu tb σ H (.int (k : Int))) : Pu (tGd (sp_rising K) (tCons ta (tCons tb tNil))) σ H (.bl true) := fun H1 e Q q =>
  (pa1 ha (pa1 hb pa0)) H1 e _ ⟨l, k, ns, rfl, e.seq hl, hs, hm, q⟩
theorem ls_btw {a : Addr} {n : Nat} {ts : List Tie} {A B : List Nat} {tc : TE} (hw : WebAt K C H a n ts) (hA : SqL K H l (nvs A)) (hB : SqL K H m (nvs B)) (ha : Pu ta σ H (.ref a)) (hb : Pu tb σ H (.ref l)) (hc : Pu tc σ H (.ref m)) :
    Nw (tGd (sp_ties_between K C) (tCons ta (tCons tb (tCons tc tNil)))) σ H (nvs (btw ts A B)) := fun H1 e Q q =>
  (pa1 ha (pa1 hb (pa1 hc pa0))) H1 e _ ⟨a, l, m, n, ts, A, B, rfl, hw.mono e, e.seq hA, e.seq hB, fun r H2 f2 s2 e2 => q r H2 f2 s2 e2⟩
noncomputable def pieceL (ts : List Tie) (n p : Nat) : List Nat := (List.range n).filter fun y => @decide (Rch ts p y) (Classical.propDecidable _)
theorem mem_pieceL {ts : List Tie} {n p y : Nat} : y ∈ pieceL ts n p ↔ y < n ∧ Rch ts p y := by
  unfold pieceL
  rw [List.mem_filter, List.mem_range]
  exact ⟨fun h => ⟨h.1, @of_decide_eq_true _ (Classical.propDecidable _) h.2⟩, fun h => ⟨h.1, @decide_eq_true _ (Classical.propDecidable _) h.2⟩⟩
theorem pieceL_up (ts : List Tie) (n p : Nat) : (pieceL ts n p).Pairwise (· < ·) := List.Pairwise.filter _ List.pairwise_lt_range
theorem ls_piece {a : Addr} {n p : Nat} {ts : List Tie} (hw : WebAt K C H a n ts) (hp : p < n) (ha : Pu ta σ H (.ref a)) (hb : Pu tb σ H (.int (p : Int))) : Ls (tGd (sp_reached K C) (tCons ta (tCons tb tNil))) σ H (nvs (pieceL ts n p)) := fun H1 e Q q =>
  (pa1 ha (pa1 hb pa0)) H1 e _ ⟨a, n, p, ts, rfl, hw.mono e, hp, fun F r H2 f2 s2 hF hm e2 => q r H2 s2 (by
    have eF : F = pieceL ts n p := rising_ext hF (pieceL_up ts n p) fun y => by
      rw [hm, mem_pieceL]
      exact ⟨fun h => ⟨h.lt hw.ok.ends hp, h⟩, fun h => h.2⟩
    rw [← eF]
    exact e2)⟩
theorem isE_nvs (ns : List Nat) : (nvs ns).isEmpty = ns.isEmpty := by cases ns <;> rfl
end
/-! 0 web, 1 rung, 2 had*, 3 left, 4 links, 5 even, 6 places, 7 side*, 8 leading*, 9 others, 10 place, 11 tie -/
abbrev s_links_good : Stmt := topS 32
abbrev N_links_good : List Str := ["web", "rung", "had", "left", "links", "even", "places", "side", "leading", "others", "place", "tie"]
theorem sc_links_good : FnScope N_links_good ["web", "rung", "had", "left"] (defScope s_links_good) := ⟨rfl, rfl, rfl, by decide +kernel, rfl, by decide +kernel, by decide +kernel⟩
def sp_links_good (K : PySem.W.Frag) (C : Addr) : Sp := fun vs H Q _ => ∃ (a r h lf l e q s : Addr) (n : Nat) (ts : List Tie) (had : List Nat) (g : Rg), vs = [.ref a, .ref r, .ref h, .ref lf] ∧ WebAt K C H a n ts ∧ RgAt K H r l e q s g ∧ RgOk ts n had g ∧ H h = some (.lst (nvs had)) ∧ H lf = some (.lst (nvs (leftL n had))) ∧
  ∀ H2, Same H H2 → Q (.bl (rGood ts n had g)) H2
theorem ok_links_good (F : Df K mg "links_good" ["web", "rung", "had", "left"] s_links_good) (T : Bt mg) (Wc : WebC K C) (G_reached : Gd P w K mg base 1 "reached" ["web", "place"] (sp_reached K C)) (G_ties_between : Gd P w K mg base 1 "ties_between" ["web", "some", "others"] (sp_ties_between K C)) :
    Gd P w K mg base 2 "links_good" ["web", "rung", "had", "left"] (sp_links_good K C) := by
  refine F.gd sc_links_good (fun vs H Q E h => ?_) (fun f cdv A outer s H vs Q E hr h => ?_)
  · obtain ⟨a, r, h, lf, l, e, q, s, n, ts, had, g, rfl, _⟩ := h
    rfl
  · obtain ⟨a, r, h, lf, l, e, q, s, n, ts, had, g, rfl, hw, hR, ok, hh, hlf, kk⟩ := h
    have hr_reached := hr
    have hr_ties_between := hr
    refine ⟨_, (pss_cons (ps_asg (pv 1) (w_pgTup K rfl (pgs_cons (pg_name (i := 4) sc_links_good.nd rfl (Or.inl rfl)) (pgs_cons (pg_name (i := 5) sc_links_good.nd rfl (Or.inl rfl)) (pgs_cons (pg_name (i := 6) sc_links_good.nd rfl (Or.inl rfl)) (pgs_cons (pg_name (i := 7) sc_links_good.nd rfl (Or.inr rfl)) pgs_nil))))))
      (pss_cons (ps_if (pt_not (pt_truth (pe_lc (own := [("place", 10)]) (g := gName 10) (by rfl) sc_links_good.nd (w_piL K (pe_gd G_reached hr_reached (by rfl) (pa_cons (pv 0) (pa_cons (pe_ix (w_ixL K) (pv 6) pe_int (fun _ _ => rfl)) pa_nil)))) (blkOk_by (own := [("place", 10)]) (N := N_links_good) (sc := defScope s_links_good) (by decide +kernel)) (fun _ _ _ _ _ => (pg_name (i := 10) sc_links_good.nd rfl (Or.inl rfl))) (fun _ _ _ _ _ => pts_one (pt_cmpR (w_in K) (pv 10) (pv 2) (by rfl))) (fun _ _ _ _ _ => (pv 10))) (by intro _; rfl)))
        (pss_one (ps_ret (pe_and (pe_cmpR (w_eqD K hr) (pv 4) (pe_lst pa_nil) (nomark _)) (pe_one (pe_cmpR (w_eqD K hr) (pv 7) (pv 6) (nomark _))))))
        pss_nil)
      (pss_cons (ps_set (i := 8) sc_links_good.nd rfl (Or.inr rfl) (pe_gd G_ties_between hr_ties_between (by rfl) (pa_cons (pv 0) (pa_cons (pv 6) (pa_cons (pv 2) pa_nil)))))
      (pss_cons (ps_if (PW.pt (pw_or (pt_cmpR (w_nin K) (pe_callB (w_len K) (by rfl) T.len PySem.boot_len (pa_cons (pv 4) pa_nil)) (pe_tup (pa_cons pe_int (pa_cons pe_int pa_nil))) (by rfl)) (pw_or1 (pt_truth (pe_lc (own := [("tie", 11)]) (g := gName 11) (by rfl) sc_links_good.nd (w_piL K (pv 4)) (blkOk_by (own := [("tie", 11)]) (N := N_links_good) (sc := defScope s_links_good) (by decide +kernel)) (fun _ _ _ _ _ => (pg_name (i := 11) sc_links_good.nd rfl (Or.inl rfl))) (fun _ _ _ _ _ => pts_one (pt_cmpR (w_nin K) (pv 11) (pv 8) (by rfl))) (fun _ _ _ _ _ => (pv 11))) (by intro _; rfl)))))
        (pss_one (ps_ret pe_bl))
        pss_nil)
      (pss_cons (ps_if (pt_cmpR op_eq (pe_callB (w_len K) (by rfl) T.len PySem.boot_len (pa_cons (pv 4) pa_nil)) pe_int (nomark _))
        (pss_one (ps_ret pe_bl))
        pss_nil)
      (pss_cons (ps_setLc (i := 9) (own := [("place", 10)]) (g := gName 10)  rfl sc_links_good.nd rfl rfl (sw_true rfl rfl rfl (by decide +kernel)) (w_piL K (pv 3)) (blkOk_by (own := [("place", 10)]) (N := N_links_good) (sc := defScope s_links_good) (by decide +kernel)) (fun _ _ _ _ _ => (pg_name (i := 10) sc_links_good.nd rfl (Or.inl rfl))) (fun _ _ _ _ _ => pts_one (pt_cmpR (w_nin K) (pv 10) (pv 7) (by rfl))) (fun _ _ _ _ _ => (pv 10)))
      (pss_one (ps_ret (pe_and (pe_cmpR (w_eqD K hr) (pe_gd G_ties_between hr_ties_between (by rfl) (pa_cons (pv 0) (pa_cons (pv 7) (pa_cons (pv 2) pa_nil)))) (pv 4) (nomark _)) (pe_one (pe_cmpR op_eq (pe_callB (w_len K) (by rfl) T.len PySem.boot_len (pa_cons (pe_gd G_ties_between hr_ties_between (by rfl) (pa_cons (pv 0) (pa_cons (pv 7) (pa_cons (pv 9) pa_nil)))) pa_nil)) pe_int (nomark _)))))))))))), ?_⟩
    have h20 := hw.ok.most
    have h40 := hw.ok.len
    refine q_unp4 (pu_var rfl) hR.sq ?_
    have hln2 := ok.ln_len
    have near := ok.near
    refine q_whenG (gt_not (gt_list (nw_lcN (K := K) (fun y => decide (y ∈ had)) (ls_piece hw ok.p_lt (pu_var rfl) (pu_ixN (i := 0) (SqL.of hR.p) (pu_var rfl) pu_c rfl)) (by
      have := nodup_len n (pieceL ts n g.p) ((pieceL_up ts n g.p).imp fun h => Nat.ne_of_lt h) fun x hx => (mem_pieceL.mp hx).1
      omega) (fun _ => rfl) (fun k _ => (pt_test (pu_inL (SqL.of hh) (pu_var rfl) (pu_var rfl))).gt) (fun k _ _ => (pu_var rfl).gv)).ls)) (fun hb H1 s1 => ?_) (fun hb H1 s1 => ?_)
    · have hln : g.ln = [] := by
        refine Classical.byContradiction fun hne => ?_
        obtain ⟨y, hy, hr2⟩ := near.mp hne
        have hm : y ∈ (pieceL ts n g.p).filter fun y => decide (y ∈ had) := List.mem_filter.mpr ⟨mem_pieceL.mpr ⟨hr2.lt hw.ok.ends ok.p_lt, hr2⟩, decide_eq_true hy⟩
        rw [isE_nvs] at hb
        cases z : (pieceL ts n g.p).filter (fun y => decide (y ∈ had)) with
        | nil => rw [z] at hm; exact absurd hm List.not_mem_nil
        | cons x xs => rw [z] at hb; simp at hb
      have hsd := ok.sd_one hln
      have hR1 := hR.mono s1
      refine s_retG ((gv_andV (gv_eqL (Pu.ls (pu_var rfl) hR1.ln) ls_nil) fun _ => gv_eqL (Pu.ls (pu_var rfl) hR1.sd) (Pu.ls (pu_var rfl) hR1.p)).is ?_) fun H2 s2 => kk H2 (s1.trans s2)
      unfold rGood
      rw [decide_eq_true hln, decide_eq_true hsd]
      rfl
    · have hln : g.ln ≠ [] := by
        rw [isE_nvs] at hb
        cases z : (pieceL ts n g.p).filter (fun y => decide (y ∈ had)) with
        | nil => rw [z] at hb; exact absurd hb (by decide)
        | cons x xs =>
          have hm : x ∈ (pieceL ts n g.p).filter fun y => decide (y ∈ had) := by rw [z]; exact List.mem_cons_self
          obtain ⟨h1, h2⟩ := List.mem_filter.mp hm
          exact near.mpr ⟨x, of_decide_eq_true h2, (mem_pieceL.mp h1).2⟩
      have hln0 : 0 < g.ln.length := List.length_pos_iff.mpr hln
      have hR1 := hR.mono s1
      have hw1 := hw.mono s1
      refine q_nw (ls_btw hw1 (SqL.of hR1.p) (SqL.of (s1 _ _ hh)) (pu_var rfl) (pu_var rfl) (pu_var rfl)) fun le H2 f2 s2 e2 => ?_
      have hR2 := hR1.mono s2
      refine q_whenG (b := false) ((gt_or (gt_test (gv_nin12 (pu_lenN (SqL.of hR2.ln) (pu_var rfl)))) fun _ => gt_list (nw_lcN (K := K) (fun k => !decide (k ∈ btw ts [g.p] had)) (Pu.ls (pu_var rfl) hR2.ln) (by omega) (fun _ => rfl) (fun k _ => (pt_test (pu_ninL (SqL.of e2) (pu_var rfl) (pu_var rfl))).gt) (fun k _ _ => (pu_var rfl).gv)).ls).is ?_) (fun h => by cases h) (fun _ H3 s3 => ?_)
      · have e1 : (g.ln.length ∈ [1, 2]) := by
          have : g.ln.length = 1 ∨ g.ln.length = 2 := by omega
          rcases this with z | z <;> rw [z] <;> decide
        have e3 : g.ln.filter (fun k => !decide (k ∈ btw ts [g.p] had)) = [] := List.filter_eq_nil_iff.mpr fun k hk => by
          obtain ⟨c, _, _, e⟩ := ok.ln
          rw [e] at hk
          have := List.mem_of_mem_take hk
          simpa using this
        rw [decide_eq_true e1, e3]
        rfl
      · have s13 := (s1.trans s2).trans s3
        have hR3 := hR2.mono s3
        have hw3 := hw.mono s13
        refine q_when (pt_test (pu_eqI (pu_lenN (SqL.of hR3.ln) (pu_var rfl)) pu_c)) (fun hb2 => ?_) (fun hb2 => ?_)
        · refine s_ret (pu_c.is ?_) (kk H3 s13)
          have h2 : g.ln.length = 2 := by
            have := of_decide_eq_true hb2
            omega
          unfold rGood
          rw [decide_eq_true h2]
          simp
        · have h2 : ¬ g.ln.length = 2 := by
            have := of_decide_eq_false hb2
            omega
          have hlf3 := s13 _ _ hlf
          have h9 := leftL_len n had
          refine q_nw (nw_lcN (K := K) (fun y => !decide (y ∈ g.sd)) (Pu.ls (pu_var rfl) hlf3) (by omega) (fun _ => rfl) (fun k _ => (pt_test (pu_ninL (SqL.of hR3.sd) (pu_var rfl) (pu_var rfl))).gt) (fun k _ _ => (pu_var rfl).gv)) fun ot H4 f4 s4 e4 => ?_
          have s14 := s13.trans s4
          have hR4 := hR3.mono s4
          have hw4 := hw.mono s14
          have eo : (leftL n had).filter (fun y => !decide (y ∈ g.sd)) = othersL n had g.sd := rfl
          rw [eo] at e4
          refine s_retG ((gv_andV (gv_eqL (ls_btw hw4 (SqL.of hR4.sd) (SqL.of (s14 _ _ hh)) (pu_var rfl) (pu_var rfl) (pu_var rfl)).ls (Pu.ls (pu_var rfl) hR4.ln)) fun _ => gv_eqI (gv_len (ls_btw hw4 (SqL.of hR4.sd) (SqL.of e4) (pu_var rfl) (pu_var rfl) (pu_var rfl)).ls) pu_c.gv).is ?_) fun H5 s5 => kk H5 (s14.trans s5)
          unfold rGood
          rw [decide_eq_false hln, decide_eq_false h2, nvs_len, Bool.false_or, Bool.false_or]
          congr 2
          exact decide_eq_decide.mpr ⟨fun h => by omega, fun h => by omega⟩
end
end Bz

set_option Elab.async false
set_option linter.all false
set_option maxRecDepth 100000
set_option maxHeartbeats 1000000
namespace Bz
open PySem PySem.Spec L2
section
variable {P : Program} {w : World} {K : PySem.W.Frag} {mg : Str → Option Value} {base : Heap} {C : Addr}
/-! 0 web, 1 rung, 2 had*, 3 links, 4 even, 5 places, 6 side*, 7 left*, 8 place -/
abbrev s_rung_good : Stmt := topS 33
abbrev N_rung_good : List Str := ["web", "rung", "had", "links", "even", "places", "side", "left", "place"]
theorem sc_rung_good : FnScope N_rung_good ["web", "rung", "had"] (defScope s_rung_good) := ⟨rfl, rfl, rfl, by decide +kernel, rfl, by decide +kernel, by decide +kernel⟩
def sp_rung_good (K : PySem.W.Frag) (C : Addr) : Sp := fun vs H Q _ => ∃ (a r h l e q s : Addr) (n : Nat) (ts : List Tie) (had : List Nat) (g : Rg), vs = [.ref a, .ref r, .ref h] ∧ WebAt K C H a n ts ∧ ts.length ≤ 20 ∧ RgAt K H r l e q s g ∧ RgOk ts n had g ∧ H h = some (.lst (nvs had)) ∧
  ∀ H2, Same H H2 → Q (.bl (rGood ts n had g)) H2
theorem RgOk.ev_len {ts : List Tie} {n : Nat} {had : List Nat} {r : Rg} (R : RgOk ts n had r) : r.ev.length ≤ ts.length := nodup_len _ r.ev (R.ev_up.imp fun h => Nat.ne_of_lt h) fun k hk => (R.ev k hk).1
theorem RgOk.sd_len {ts : List Tie} {n : Nat} {had : List Nat} {r : Rg} (R : RgOk ts n had r) : r.sd.length ≤ n := nodup_len _ r.sd (R.sd_up.imp fun h => Nat.ne_of_lt h) fun k hk => (R.sd_in k hk).1
theorem ok_rung_good (F : Df K mg "rung_good" ["web", "rung", "had"] s_rung_good) (T : Bt mg) (Wc : WebC K C) (G_rising : Gd P w K mg base 1 "rising" ["numbers", "many"] (sp_rising K)) (G_even_good : Gd P w K mg base 4 "even_good" ["web", "even", "places"] (sp_even_good K C))
    (G_links_good : Gd P w K mg base 2 "links_good" ["web", "rung", "had", "left"] (sp_links_good K C)) : Gd P w K mg base 5 "rung_good" ["web", "rung", "had"] (sp_rung_good K C) := by
  refine F.gd sc_rung_good (fun vs H Q E h => ?_) (fun f cdv A outer s H vs Q E hr h => ?_)
  · obtain ⟨a, r, h, l, e, q, s, n, ts, had, g, rfl, _⟩ := h
    rfl
  · obtain ⟨a, r, h, l, e, q, s, n, ts, had, g, rfl, hw, h14, hR, ok, hh, kk⟩ := h
    have hr_rising := hr.mono (j := 1) (by decide)
    have hr_even_good := hr
    have hr_links_good := hr.mono (j := 2) (by decide)
    refine ⟨_, (pss_cons (ps_asg (pv 1) (w_pgTup K rfl (pgs_cons (pg_name (i := 3) sc_rung_good.nd rfl (Or.inl rfl)) (pgs_cons (pg_name (i := 4) sc_rung_good.nd rfl (Or.inl rfl)) (pgs_cons (pg_name (i := 5) sc_rung_good.nd rfl (Or.inl rfl)) (pgs_cons (pg_name (i := 6) sc_rung_good.nd rfl (Or.inr rfl)) pgs_nil))))))
      (pss_cons (ps_set (i := 7) sc_rung_good.nd rfl (Or.inr rfl) (pe_lc (own := [("place", 8)]) (g := gName 8) (by rfl) sc_rung_good.nd (pi_range1 rfl T.range (pa_cons (w_fld K (pv 0)) pa_nil)) (blkOk_by (own := [("place", 8)]) (N := N_rung_good) (sc := defScope s_rung_good) (by decide +kernel)) (fun _ _ _ _ _ => (pg_name (i := 8) sc_rung_good.nd rfl (Or.inl rfl))) (fun _ _ _ _ _ => pts_one (pt_cmpR (w_nin K) (pv 8) (pv 2) (by rfl))) (fun _ _ _ _ _ => (pv 8))))
      (pss_cons (ps_if (PW.pt (pw_or (pt_not (pt_val (pe_gd G_rising hr_rising (by rfl) (pa_cons (pv 3) (pa_cons (pe_callB (w_len K) (by rfl) T.len PySem.boot_len (pa_cons (w_fld K (pv 0)) pa_nil)) pa_nil))))) (pw_or1 (pt_not (pt_val (pe_gd G_rising hr_rising (by rfl) (pa_cons (pv 4) (pa_cons (pe_callB (w_len K) (by rfl) T.len PySem.boot_len (pa_cons (w_fld K (pv 0)) pa_nil)) pa_nil))))))))
        (pss_one (ps_ret pe_bl))
        pss_nil)
      (pss_cons (ps_if (PW.pt (pw_or (pt_not (pt_val (pe_gd G_rising hr_rising (by rfl) (pa_cons (pv 5) (pa_cons (w_fld K (pv 0)) pa_nil))))) (pw_or (pt_not (pt_val (pe_gd G_rising hr_rising (by rfl) (pa_cons (pv 6) (pa_cons (w_fld K (pv 0)) pa_nil))))) (pw_or1 (pt_cmpR op_eq (pe_callB (w_len K) (by rfl) T.len PySem.boot_len (pa_cons (pv 5) pa_nil)) pe_int (nomark _))))))
        (pss_one (ps_ret pe_bl))
        pss_nil)
      (pss_cons (ps_if (PW.pt (pw_or (pt_truth (pe_lc (own := [("place", 8)]) (g := gName 8) (by rfl) sc_rung_good.nd (w_piL K (pv 5)) (blkOk_by (own := [("place", 8)]) (N := N_rung_good) (sc := defScope s_rung_good) (by decide +kernel)) (fun _ _ _ _ _ => (pg_name (i := 8) sc_rung_good.nd rfl (Or.inl rfl))) (fun _ _ _ _ _ => pts_one (pt_cmpR (w_nin K) (pv 8) (pv 6) (by rfl))) (fun _ _ _ _ _ => (pv 8))) (by intro _; rfl)) (pw_or1 (pt_truth (pe_lc (own := [("place", 8)]) (g := gName 8) (by rfl) sc_rung_good.nd (w_piL K (pv 6)) (blkOk_by (own := [("place", 8)]) (N := N_rung_good) (sc := defScope s_rung_good) (by decide +kernel)) (fun _ _ _ _ _ => (pg_name (i := 8) sc_rung_good.nd rfl (Or.inl rfl))) (fun _ _ _ _ _ => pts_one (pt_cmpR (w_nin K) (pv 8) (pv 7) (by rfl))) (fun _ _ _ _ _ => (pv 8))) (by intro _; rfl)))))
        (pss_one (ps_ret pe_bl))
        pss_nil)
      (pss_one (ps_ret (pe_and (pe_gd G_even_good hr_even_good (by rfl) (pa_cons (pv 0) (pa_cons (pv 4) (pa_cons (pv 5) pa_nil)))) (pe_one (pe_gd G_links_good hr_links_good (by rfl) (pa_cons (pv 0) (pa_cons (pv 1) (pa_cons (pv 2) (pa_cons (pv 7) pa_nil)))))))))))))), ?_⟩
    have h20 := hw.ok.most
    refine q_unp4 (pu_var rfl) hR.sq ?_
    have hsl := ok.sd_len
    refine q_nw ((nw_lcR (n := n) (fun y => !decide (y ∈ had)) (fun y => .int (y : Int)) (pa1 (pu_many Wc hw (pu_var rfl)) pa0) (by omega) (fun _ => rfl) (fun k _ => (pt_test (pu_ninL (SqL.of hh) (pu_var rfl) (pu_var rfl))).gt) (fun k _ _ => (pu_var rfl).gv)).is (ys := nvs (leftL n had)) rfl) fun lf H1 f1 s1 e1 => ?_
    have hw1 := hw.mono s1
    have hR1 := hR.mono s1
    refine q_when (b := false) ((pt_orP (pt_notP (pt_test (pu_rising (SqL.of hR1.ln) ok.ln_up (fun x hx => (ok.ln_mem hx).1) (pu_var rfl) (pu_lenT Wc hw1 (pu_var rfl))))) fun _ => pt_notP (pt_test (pu_rising (SqL.of hR1.ev) ok.ev_up (fun x hx => (ok.ev x hx).1) (pu_var rfl) (pu_lenT Wc hw1 (pu_var rfl))))).is rfl) (fun h => by cases h) (fun _ => ?_)
    refine q_when (b := false) ((pt_orP (pt_notP (pt_test (pu_rising (SqL.of hR1.p) (List.pairwise_singleton _ _) (fun x hx => by rw [List.mem_singleton.mp hx]; exact ok.p_lt) (pu_var rfl) (pu_many Wc hw1 (pu_var rfl))))) fun _ => pt_orP (pt_notP (pt_test (pu_rising (SqL.of hR1.sd) ok.sd_up (fun x hx => (ok.sd_in x hx).1) (pu_var rfl) (pu_many Wc hw1 (pu_var rfl))))) fun _ => pt_test (pu_eqI (pu_lenN (SqL.of hR1.p) (pu_var rfl)) pu_c)).is (by rfl)) (fun h => by cases h) (fun _ => ?_)
    refine q_whenG (b := false) ((gt_or (gt_list (nw_lcN (K := K) (fun y => !decide (y ∈ g.sd)) (Pu.ls (pu_var rfl) hR1.p) (by show 1 ≤ 10000; decide) (fun _ => rfl) (fun k _ => (pt_test (pu_ninL (SqL.of hR1.sd) (pu_var rfl) (pu_var rfl))).gt) (fun k _ _ => (pu_var rfl).gv)).ls) fun _ =>
      gt_list (nw_lcN (K := K) (fun y => !decide (y ∈ leftL n had)) (Pu.ls (pu_var rfl) hR1.sd) (by omega) (fun _ => rfl) (fun k _ => (pt_test (pu_ninL (SqL.of e1) (pu_var rfl) (pu_var rfl))).gt) (fun k _ _ => (pu_var rfl).gv)).ls).is ?_) (fun h => by cases h) (fun _ H2 s2 => ?_)
    · have x1 : ([g.p]).filter (fun y => !decide (y ∈ g.sd)) = [] := List.filter_eq_nil_iff.mpr fun y hy => by
        rw [List.mem_singleton.mp hy, decide_eq_true ok.sd_p]
        decide
      have x2 : g.sd.filter (fun y => !decide (y ∈ leftL n had)) = [] := List.filter_eq_nil_iff.mpr fun y hy => by
        rw [decide_eq_true (mem_leftL.mpr (ok.sd_in y hy))]
        decide
      rw [x1, x2]
      rfl
    · have s12 := s1.trans s2
      have hw2 := hw.mono s12
      have hR2 := hR.mono s12
      have hel := ok.ev_len
      refine s_retG ((gv_andV (gv_gd (pa1 (pu_var rfl) (pa1 (pu_var rfl) (pa1 (pu_var rfl) pa0))) fun H3 s3 Q3 k3 => ⟨a, e, q, n, g.p, ts, g.ev, rfl, hw2.mono s3, (hR2.mono s3).ev, (hR2.mono s3).p, ok.p_lt, by omega, ok.ev, k3⟩) fun _ =>
        gv_gd (pa1 (pu_var rfl) (pa1 (pu_var rfl) (pa1 (pu_var rfl) (pa1 (pu_var rfl) pa0)))) fun H3 s3 Q3 k3 => ⟨a, r, h, lf, l, e, q, s, n, ts, had, g, rfl, hw2.mono s3, hR2.mono s3, ok, s3 _ _ (s12 _ _ hh), s3 _ _ (s2 _ _ e1), k3⟩).is (by rw [Bool.true_and])) fun H4 s4 => kk H4 (s12.trans s4)
/-! 0 web, 1 rungs, 2 had, 3 rung -/
abbrev s_is_ladder : Stmt := topS 34
abbrev N_is_ladder : List Str := ["web", "rungs", "had", "rung"]
theorem sc_is_ladder : FnScope N_is_ladder ["web", "rungs"] (defScope s_is_ladder) := ⟨rfl, rfl, rfl, by decide +kernel, rfl, by decide +kernel, by decide +kernel⟩
def sp_is_ladder (K : PySem.W.Frag) (C : Addr) : Sp := fun vs H Q _ => ∃ (a al : Addr) (n : Nat) (ts : List Tie) (rs : List Addr) (L : List Rg), vs = [.ref a, .ref al] ∧ WebAt K C H a n ts ∧ ts.length ≤ 20 ∧ H al = some (.lst (rvs rs)) ∧ RgsAt K H rs L ∧ LadOk ts n [] L ∧ L.length = n ∧
  ∀ H2, Same H H2 → Q (.bl (lGood ts n [] L)) H2
theorem ok_is_ladder (F : Df K mg "is_ladder" ["web", "rungs"] s_is_ladder) (T : Bt mg) (Wc : WebC K C) (G_rung_good : Gd P w K mg base 5 "rung_good" ["web", "rung", "had"] (sp_rung_good K C)) : Gd P w K mg base 6 "is_ladder" ["web", "rungs"] (sp_is_ladder K C) := by
  refine F.gd sc_is_ladder (fun vs H Q E h => ?_) (fun f cdv A outer s H vs Q E hr h => ?_)
  · obtain ⟨a, al, n, ts, rs, L, rfl, _⟩ := h
    rfl
  · obtain ⟨a, al, n, ts, rs, L, rfl, hw, h14, hal, hRs, hL, hLn, kk⟩ := h
    have hr_rung_good := hr
    refine ⟨_, (pss_cons (ps_set (i := 2) sc_is_ladder.nd rfl (Or.inl rfl) (pe_lst pa_nil))
      (pss_cons (ps_for PassesOwn.never rfl (w_piL K (pv 1)) (pg_name (i := 3) sc_is_ladder.nd rfl (Or.inl rfl))
        (pss_cons (ps_if (pt_not (pt_val (pe_gd G_rung_good hr_rung_good (by rfl) (pa_cons (pv 0) (pa_cons (pv 3) (pa_cons (pv 2) pa_nil))))))
          (pss_one (ps_ret pe_bl))
          pss_nil)
        (pss_one (ps_set (i := 2) sc_is_ladder.nd rfl (Or.inl rfl) (pe_op op_cat (pv 2) (pe_ix (w_ixT K) (pv 3) pe_int (fun _ _ => rfl)))))))
      (pss_one (ps_ret (pe_cmpR op_eq (pe_callB (w_len K) (by rfl) T.len PySem.boot_len (pa_cons (pv 2) pa_nil)) (w_fld K (pv 0)) (nomark _)))))), ?_⟩
    have h20 := hw.ok.most
    refine q_nw (nw_lst (vs := nvs []) pa0 (by decide)) fun h0 H1 f1 s1 e1 => ?_
    refine q_forL (pu_var rfl) (SqL.of (s1 _ _ hal)) (fun i σ' H' => ∃ (h : Addr) (had : List Nat) (v3 : Option V), σ' = [some (.ref a), some (.ref al), some (.ref h), v3] ∧ Same H H' ∧ H' h = some (.lst (nvs had)) ∧ had.length = i ∧ LadOk ts n had (L.drop i) ∧ lGood ts n [] L = lGood ts n had (L.drop i))
      ⟨h0, [], none, rfl, s1, e1, rfl, hL, rfl⟩ (fun i σ' H' _ ⟨_, _, _, _, s, _⟩ => SqL.of (s _ _ hal)) ?_ ?_
    · rintro i xv σ' H2 hx ⟨h, had, v3, rfl, s2, e2, hlen, hLd, hG⟩
      obtain ⟨r, hri, rfl⟩ := rvs_of hx
      have hiL : i < L.length := by rw [← hRs.1]; exact (List.getElem?_eq_some_iff.mp hri).1
      have hLi : L[i]? = some L[i] := List.getElem?_eq_getElem hiL
      obtain ⟨l, e, q, s', hR⟩ := hRs.2 i r _ hri hLi
      have hd : L.drop i = L[i] :: L.drop (i + 1) := List.drop_eq_getElem_cons hiL
      rw [hd] at hLd hG
      obtain ⟨ok, hLd⟩ := hLd
      generalize L[i] = g at *
      have hG2 : lGood ts n [] L = (rGood ts n had g && lGood ts n (had ++ [g.p]) (L.drop (i + 1))) := hG
      have hR2 := hR.mono s2
      refine q_whenG (gt_not (gt_test (gv_gd (pa1 (pu_var rfl) (pa1 (pu_var rfl) (pa1 (pu_var rfl) pa0))) fun H3 s3 Q3 k3 => ⟨a, r, h, l, e, q, s', n, ts, had, g, rfl, (hw.mono s2).mono s3, h14, hR2.mono s3, ok, s3 _ _ e2, k3⟩))) (fun hb H3 s3 => ?_) (fun hb H3 s3 => ?_)
      · have hbad : rGood ts n had g = false := by simpa using hb
        refine s_ret pu_c ?_
        have := kk H3 (s2.trans s3)
        rw [hG2, hbad, Bool.false_and] at this
        exact this
      · have hgood : rGood ts n had g = true := by simpa using hb
        have hR3 := hR2.mono s3
        have hlen2 : (nvs had).length + (nvs [g.p]).length ≤ 100000 := by
          rw [nvs_len, hlen]
          show i + 1 ≤ _
          omega
        refine s_nw (nw_cat (Pu.ls (pu_var rfl) (s3 _ _ e2)) (Pu.ls (pu_ixT hR3.sq (pu_var rfl) pu_c (atI_nat (j := 2) rfl)) hR3.p) hlen2) fun h2 H4 f4 s4 e4 => ?_
        refine ⟨h2, had ++ [g.p], _, rfl, (s2.trans s3).trans s4, by rw [nvs_app]; exact e4, by rw [List.length_append, hlen]; rfl, hLd, ?_⟩
        rw [hG2, hgood, Bool.true_and]
    · rintro σ' H2 ⟨h, had, v3, rfl, s2, e2, hlen, hLd, hG⟩
      rw [rvs_len, hRs.1] at hlen hG
      rw [List.drop_length] at hG
      refine s_ret ((pu_eqN (pu_lenN (SqL.of e2) (pu_var rfl)) (pu_many Wc (hw.mono s2) (pu_var rfl))).is ?_) (kk H2 s2)
      rw [hG, decide_eq_true (by rw [hlen, hLn])]
      rfl
/-! 0 rungs, 1 found, 2 links, 3 even, 4 places, 5 side -/
abbrev s_ties_of : Stmt := topS 62
abbrev N_ties_of : List Str := ["rungs", "found", "links", "even", "places", "side"]
theorem sc_ties_of : FnScope N_ties_of ["rungs"] (defScope s_ties_of) := ⟨rfl, rfl, rfl, by decide +kernel, rfl, by decide +kernel, by decide +kernel⟩
def spine (L : List Rg) : List Nat := L.flatMap fun g => g.ev ++ g.ln
theorem spine_snoc (L : List Rg) (g : Rg) : spine (L ++ [g]) = spine L ++ g.ev ++ g.ln := by
  unfold spine
  rw [List.flatMap_append, List.flatMap_cons, List.flatMap_nil, List.append_nil, List.append_assoc]
def sp_ties_of (K : PySem.W.Frag) : Sp := fun vs H Q _ => ∃ (al : Addr) (rs : List Addr) (L : List Rg), vs = [.ref al] ∧ H al = some (.lst (rvs rs)) ∧ RgsAt K H rs L ∧ (∀ i, i ≤ L.length → (spine (L.take i)).length ≤ 1000) ∧
  ∀ r H2, H r = none → Same H H2 → H2 r = some (.lst (nvs (spine L))) → Q (.ref r) H2
theorem ok_ties_of (F : Df K mg "ties_of" ["rungs"] s_ties_of) (T : Bt mg) : Gd P w K mg base 1 "ties_of" ["rungs"] (sp_ties_of K) := by
  refine F.gd sc_ties_of (fun vs H Q E h => ?_) (fun f cdv A outer s H vs Q E hr h => ?_)
  · obtain ⟨al, rs, L, rfl, _⟩ := h
    rfl
  · obtain ⟨al, rs, L, rfl, hal, hRs, hz, kk⟩ := h
    refine ⟨_, (pss_cons (ps_set (i := 1) sc_ties_of.nd rfl (Or.inl rfl) (pe_lst pa_nil))
      (pss_cons (ps_for PassesOwn.never rfl (w_piL K (pv 0)) (w_pgTup K rfl (pgs_cons (pg_name (i := 2) sc_ties_of.nd rfl (Or.inl rfl)) (pgs_cons (pg_name (i := 3) sc_ties_of.nd rfl (Or.inl rfl)) (pgs_cons (pg_name (i := 4) sc_ties_of.nd rfl (Or.inl rfl)) (pgs_cons (pg_name (i := 5) sc_ties_of.nd rfl (Or.inl rfl)) pgs_nil)))))
        (pss_one (ps_set (i := 1) sc_ties_of.nd rfl (Or.inl rfl) (pe_op op_cat (pe_op op_cat (pv 1) (pv 3)) (pv 2)))))
      (pss_one (ps_ret (pv 1))))), ?_⟩
    refine q_nw (nw_lst (vs := nvs []) pa0 (by decide)) fun h0 H1 f1 s1 e1 => ?_
    refine q_forL (pu_var rfl) (SqL.of (s1 _ _ hal)) (fun i σ' H' => ∃ (h : Addr) (v2 v3 v4 v5 : Option V), σ' = [some (.ref al), some (.ref h), v2, v3, v4, v5] ∧ Same H H' ∧ H h = none ∧ H' h = some (.lst (nvs (spine (L.take i)))))
      ⟨h0, none, none, none, none, rfl, s1, f1, e1⟩ (fun i σ' H' _ ⟨_, _, _, _, _, _, s, _⟩ => SqL.of (s _ _ hal)) ?_ ?_
    · rintro i xv σ' H2 hx ⟨h, v2, v3, v4, v5, rfl, s2, f2, e2⟩
      obtain ⟨r, hri, rfl⟩ := rvs_of hx
      have hiL : i < L.length := by rw [← hRs.1]; exact (List.getElem?_eq_some_iff.mp hri).1
      have hLi : L[i]? = some L[i] := List.getElem?_eq_getElem hiL
      obtain ⟨l, e, q, s', hR⟩ := hRs.2 i r _ hri hLi
      have hz2 := hz (i + 1) hiL
      rw [take_next hLi, spine_snoc, List.length_append, List.length_append] at hz2
      have hR2 := hR.mono s2
      refine ⟨r, _, rfl, hR2.sq, rfl, _, _, rfl, _, _, rfl, _, _, rfl, _, _, rfl, rfl, ?_⟩
      refine s_nw (nw_cat (nw_cat (Pu.ls (pu_var rfl) e2) (Pu.ls (pu_var rfl) hR2.ev) (by rw [nvs_len, nvs_len]; omega)).ls (Pu.ls (pu_var rfl) hR2.ln) (by rw [List.length_append, nvs_len, nvs_len, nvs_len]; omega)) fun h2 H3 f3 s3 e3 => ?_
      refine ⟨h2, _, _, _, _, rfl, s2.trans s3, s2.free f3, ?_⟩
      rw [e3, take_next hLi, spine_snoc, nvs_app, nvs_app]
    · rintro σ' H2 ⟨h, v2, v3, v4, v5, rfl, s2, f2, e2⟩
      rw [rvs_len, hRs.1, List.take_length] at e2
      exact s_ret (pu_var rfl) (kk h H2 f2 s2 e2)
end
end Bz

set_option Elab.async false
set_option linter.all false
set_option maxRecDepth 100000
set_option maxHeartbeats 400000
namespace Bz
/-! ### a good ladder leaves no bridge -/
def OneTie (ts : List Tie) (X : Nat → Bool) (k : Nat) : Prop := k < ts.length ∧ ∀ j, j < ts.length → (X (tieAt ts j).1 ≠ X (tieAt ts j).2 ↔ j = k)
/-- the sides' ties -/
theorem side_ties {ts : List Tie} {n : Nat} {had : List Nat} {r : Rg} {l m : Nat} (hv : ∀ e ∈ ts, e.1 < n ∧ e.2 < n) (R : RgOk ts n had r) (h1 : btw ts r.sd had = [l]) (h2 : btw ts r.sd (othersL n had r.sd) = [m]) :
    (∀ j, j < ts.length → ((decide ((tieAt ts j).1 ∈ r.sd) : Bool) ≠ decide ((tieAt ts j).2 ∈ r.sd) ↔ j = l ∨ j = m)) ∧ l ≠ m := by
  have ml : l ∈ btw ts r.sd had := by rw [h1]; exact List.mem_singleton.mpr rfl
  have mm : m ∈ btw ts r.sd (othersL n had r.sd) := by rw [h2]; exact List.mem_singleton.mpr rfl
  obtain ⟨_, l2⟩ := mem_btw.mp ml
  obtain ⟨_, m2⟩ := mem_btw.mp mm
  have nh : ∀ x, x ∈ had → x ∉ r.sd := fun x hx hs => (R.sd_in x hs).2 hx
  have no : ∀ x, x ∈ othersL n had r.sd → x ∉ r.sd := fun x hx => (mem_othersL.mp hx).2.2
  refine ⟨fun j hj => ⟨fun hne => ?_, fun h => ?_⟩, ?_⟩
  · have hb := hv _ (tieAt_mem hj)
    have go : ∀ y, y < n → y ∉ r.sd → y ∈ had ∨ y ∈ othersL n had r.sd := fun y hy hs => by
      by_cases c : y ∈ had
      · exact .inl c
      · exact .inr (mem_othersL.mpr ⟨hy, c, hs⟩)
    by_cases c1 : (tieAt ts j).1 ∈ r.sd
    · have c2 : (tieAt ts j).2 ∉ r.sd := fun c2 => hne (by rw [decide_eq_true c1, decide_eq_true c2])
      rcases go _ hb.2 c2 with z | z
      · left
        have : j ∈ btw ts r.sd had := mem_btw.mpr ⟨hj, .inl ⟨c1, z⟩⟩
        rw [h1] at this
        exact List.mem_singleton.mp this
      · right
        have : j ∈ btw ts r.sd (othersL n had r.sd) := mem_btw.mpr ⟨hj, .inl ⟨c1, z⟩⟩
        rw [h2] at this
        exact List.mem_singleton.mp this
    · have c2 : (tieAt ts j).2 ∈ r.sd := Classical.byContradiction fun c2 => hne (by rw [decide_eq_false c1, decide_eq_false c2])
      rcases go _ hb.1 c1 with z | z
      · left
        have : j ∈ btw ts r.sd had := mem_btw.mpr ⟨hj, .inr ⟨z, c2⟩⟩
        rw [h1] at this
        exact List.mem_singleton.mp this
      · right
        have : j ∈ btw ts r.sd (othersL n had r.sd) := mem_btw.mpr ⟨hj, .inr ⟨z, c2⟩⟩
        rw [h2] at this
        exact List.mem_singleton.mp this
  · rcases h with h | h
    · subst h
      rcases l2 with ⟨a, b⟩ | ⟨a, b⟩
      · rw [decide_eq_true a, decide_eq_false (nh _ b)]; decide
      · rw [decide_eq_false (nh _ a), decide_eq_true b]; decide
    · subst h
      rcases m2 with ⟨a, b⟩ | ⟨a, b⟩
      · rw [decide_eq_true a, decide_eq_false (no _ b)]; decide
      · rw [decide_eq_false (no _ a), decide_eq_true b]; decide
  · intro e
    subst e
    have nho : ∀ x, x ∈ had → x ∉ othersL n had r.sd := fun x hx ho => (mem_othersL.mp ho).2.1 hx
    rcases l2 with ⟨a, b⟩ | ⟨a, b⟩ <;> rcases m2 with ⟨c, d⟩ | ⟨c, d⟩
    · exact nho _ b d
    · exact nh _ b d
    · exact nh _ a c
    · exact nho _ a c
theorem rGood_cases {ts : List Tie} {n : Nat} {had : List Nat} {r : Rg} (h : rGood ts n had r = true) : r.ln = [] ∨ r.ln.length = 2 ∨ (btw ts r.sd had = r.ln ∧ ∃ m, btw ts r.sd (othersL n had r.sd) = [m]) := by
  unfold rGood at h
  simp only [Bool.or_eq_true, Bool.and_eq_true, decide_eq_true_eq] at h
  rcases h with h | h | ⟨h1, h2⟩
  · exact .inl h
  · exact .inr (.inl h)
  · refine .inr (.inr ⟨h1, ?_⟩)
    match hh : btw ts r.sd (othersL n had r.sd), h2 with
    | [m], _ => exact ⟨m, rfl⟩
    | [], h2 => simp at h2
    | _ :: _ :: _, h2 => simp at h2
theorem noCut {ts : List Tie} {n : Nat} (hv : ∀ e ∈ ts, e.1 < n ∧ e.2 < n) : ∀ (L : List Rg) (had : List Nat), LadOk ts n had L → lGood ts n had L = true → (∀ x, x < n → x ∉ had → x ∈ L.map (·.p)) →
    ∀ (X : Nat → Bool) (k : Nat), (∀ x, X x = true → x < n ∧ x ∉ had) → ¬ OneTie ts X k := by
  intro L
  induction L with
  | nil =>
    intro had _ _ hc X k hX ho
    have hf : ∀ x, X x = false := fun x => by
      cases c : X x with
      | false => rfl
      | true =>
        obtain ⟨a, b⟩ := hX x c
        exact absurd (hc x a b) List.not_mem_nil
    have := (ho.2 k ho.1).mpr rfl
    rw [hf, hf] at this
    exact this rfl
  | cons r L ih =>
    intro had hL hG hc X k hX ho
    obtain ⟨R, hL⟩ := hL
    have hG2 : (rGood ts n had r && lGood ts n (had ++ [r.p]) L) = true := hG
    obtain ⟨hg, hG3⟩ := Bool.and_eq_true_iff.mp hG2
    have hc2 : ∀ x, x < n → x ∉ had ++ [r.p] → x ∈ L.map (·.p) := fun x hx hn => by
      have h1 := hc x hx fun q => hn (List.mem_append_left _ q)
      rw [List.map_cons] at h1
      rcases List.mem_cons.mp h1 with z | z
      · exact absurd (List.mem_append_right _ (List.mem_singleton.mpr z)) hn
      · exact z
    have next : ∀ (Y : Nat → Bool) (j : Nat), (∀ x, Y x = true → x < n ∧ x ∉ had) → Y r.p = false → OneTie ts Y j → False := fun Y j hY hp ho2 =>
      ih (had ++ [r.p]) hL hG3 hc2 Y j (fun x hx => ⟨(hY x hx).1, fun q => by
        rcases List.mem_append.mp q with z | z
        · exact (hY x hx).2 z
        · rw [List.mem_singleton.mp z, hp] at hx
          cases hx⟩) ho2
    by_cases hp : X r.p = true
    · have offH : ∀ y, y ∈ had → X y = false := fun y hy => by
        cases c : X y with
        | false => rfl
        | true => exact absurd hy (hX y c).2
      have lk : ∀ l, l ∈ r.ln → l = k := fun l hl => by
        obtain ⟨a, b⟩ := R.ln_mem hl
        refine (ho.2 l a).mp ?_
        rcases b with ⟨x, y⟩ | ⟨x, y⟩
        · rw [x, hp, offH _ y]; decide
        · rw [y, hp, offH _ x]; decide
      rcases rGood_cases hg with h0 | h2 | ⟨h1, m, hm⟩
      · classical
        refine next (fun x => X x != decide (Rch ts r.p x)) k (fun x hx => ?_) ?_ ⟨ho.1, fun j hj => ?_⟩
        · by_cases c : X x = true
          · exact hX x c
          · have c2 : X x = false := by simpa using c
            have hx2 : (X x != decide (Rch ts r.p x)) = true := hx
            rw [c2] at hx2
            have hr : Rch ts r.p x := by simpa using hx2
            exact ⟨hr.lt hv R.p_lt, fun q => R.cmp h0 x q hr⟩
        · show (X r.p != decide (Rch ts r.p r.p)) = false
          rw [hp, decide_eq_true (Rch.refl ts r.p)]
          rfl
        · have t := Rch.tie (tieAt_mem hj)
          have e : (decide (Rch ts r.p (tieAt ts j).1) : Bool) = decide (Rch ts r.p (tieAt ts j).2) := decide_eq_decide.mpr ⟨fun h => h.trans t, fun h => h.trans t.symm⟩
          rw [← ho.2 j hj]
          show (X (tieAt ts j).1 != decide (Rch ts r.p (tieAt ts j).1)) ≠ (X (tieAt ts j).2 != decide (Rch ts r.p (tieAt ts j).2)) ↔ _
          rw [e]
          cases X (tieAt ts j).1 <;> cases X (tieAt ts j).2 <;> cases (decide (Rch ts r.p (tieAt ts j).2) : Bool) <;> simp
      · match hh : r.ln, h2 with
        | [a, b], _ =>
          have e1 := lk a (by rw [hh]; simp)
          have e2 := lk b (by rw [hh]; simp)
          have hu := R.ln_up
          rw [hh] at hu
          have := (List.pairwise_cons.mp hu).1 b (by simp)
          omega
      · by_cases hz : r.ln = []
        · rw [hz] at h1
          -- no links: the piece lies ahead
          classical
          refine next (fun x => X x != decide (Rch ts r.p x)) k (fun x hx => ?_) ?_ ⟨ho.1, fun j hj => ?_⟩
          · by_cases c : X x = true
            · exact hX x c
            · have c2 : X x = false := by simpa using c
              have hx2 : (X x != decide (Rch ts r.p x)) = true := hx
              rw [c2] at hx2
              have hr : Rch ts r.p x := by simpa using hx2
              exact ⟨hr.lt hv R.p_lt, fun q => R.cmp hz x q hr⟩
          · show (X r.p != decide (Rch ts r.p r.p)) = false
            rw [hp, decide_eq_true (Rch.refl ts r.p)]
            rfl
          · have t := Rch.tie (tieAt_mem hj)
            have e : (decide (Rch ts r.p (tieAt ts j).1) : Bool) = decide (Rch ts r.p (tieAt ts j).2) := decide_eq_decide.mpr ⟨fun h => h.trans t, fun h => h.trans t.symm⟩
            rw [← ho.2 j hj]
            show (X (tieAt ts j).1 != decide (Rch ts r.p (tieAt ts j).1)) ≠ (X (tieAt ts j).2 != decide (Rch ts r.p (tieAt ts j).2)) ↔ _
            rw [e]
            cases X (tieAt ts j).1 <;> cases X (tieAt ts j).2 <;> cases (decide (Rch ts r.p (tieAt ts j).2) : Bool) <;> simp
        · obtain ⟨l, hl⟩ := List.exists_mem_of_ne_nil _ hz
          have hone : r.ln = [l] := by
            match hh : r.ln, hl with
            | [a], hl => rw [List.mem_singleton.mp hl]
            | a :: b :: t, hl =>
              have e1 := lk a (by rw [hh]; simp)
              have e2 := lk b (by rw [hh]; simp)
              have hu := R.ln_up
              rw [hh] at hu
              have := (List.pairwise_cons.mp hu).1 b (by simp)
              omega
          rw [hone] at h1
          obtain ⟨hs, hlm⟩ := side_ties hv R h1 hm
          have hlk := lk l hl
          have hml : m < ts.length := (mem_btw.mp (by rw [hm]; exact List.mem_singleton.mpr rfl : m ∈ btw ts r.sd (othersL n had r.sd))).1
          refine next (fun x => X x != decide (x ∈ r.sd)) m (fun x hx => ?_) ?_ ⟨hml, fun j hj => ?_⟩
          · by_cases c : X x = true
            · exact hX x c
            · have c2 : X x = false := by simpa using c
              have hx2 : (X x != decide (x ∈ r.sd)) = true := hx
              rw [c2] at hx2
              exact R.sd_in x (by simpa using hx2)
          · show (X r.p != decide (r.p ∈ r.sd)) = false
            rw [hp, decide_eq_true R.sd_p]
            rfl
          · have a := ho.2 j hj
            have b := hs j hj
            show (X (tieAt ts j).1 != decide ((tieAt ts j).1 ∈ r.sd)) ≠ (X (tieAt ts j).2 != decide ((tieAt ts j).2 ∈ r.sd)) ↔ _
            rw [← hlk] at a
            by_cases c1 : j = l
            · have c2 : j ≠ m := fun z => hlm (c1.symm.trans z)
              have a2 := a.mpr c1
              have b2 := b.mpr (.inl c1)
              refine ⟨fun h => absurd ?_ h, fun h => absurd h c2⟩
              revert a2 b2
              cases X (tieAt ts j).1 <;> cases X (tieAt ts j).2 <;> cases (decide ((tieAt ts j).1 ∈ r.sd) : Bool) <;> cases (decide ((tieAt ts j).2 ∈ r.sd) : Bool) <;> simp
            · have a2 : X (tieAt ts j).1 = X (tieAt ts j).2 := Classical.byContradiction fun q => c1 (a.mp q)
              rw [a2]
              have b2 : (decide ((tieAt ts j).1 ∈ r.sd) : Bool) ≠ decide ((tieAt ts j).2 ∈ r.sd) ↔ j = m := b.trans ⟨fun h => h.resolve_left c1, .inr⟩
              rw [← b2]
              cases X (tieAt ts j).2 <;> cases (decide ((tieAt ts j).1 ∈ r.sd) : Bool) <;> cases (decide ((tieAt ts j).2 ∈ r.sd) : Bool) <;> simp
    · exact next X k hX (by simpa using hp) ho
/-- a good ladder: each tie's ends hang together without it -/
theorem no_bridge {ts : List Tie} {n : Nat} {L : List Rg} (hv : ∀ e ∈ ts, e.1 < n ∧ e.2 < n) (hL : LadOk ts n [] L) (hG : lGood ts n [] L = true) (hc : ∀ x, x < n → x ∈ L.map (·.p)) {k : Nat} (hk : k < ts.length) :
    Rch (sub ts ((List.range ts.length).filter fun j => !decide (j = k))) (tieAt ts k).1 (tieAt ts k).2 := by
  refine Classical.byContradiction fun hno => ?_
  have hb := hv _ (tieAt_mem hk)
  have hvs : ∀ e ∈ sub ts ((List.range ts.length).filter fun j => !decide (j = k)), e.1 < n ∧ e.2 < n := fun e he => by
    obtain ⟨j, hj, rfl⟩ := mem_sub.mp he
    exact hv _ (tieAt_mem (List.mem_range.mp (List.mem_filter.mp hj).1))
  classical
  refine noCut hv L [] hL hG (fun x hx _ => hc x hx) (fun x => decide (Rch (sub ts ((List.range ts.length).filter fun j => !decide (j = k))) (tieAt ts k).1 x)) k (fun x hx => ⟨(of_decide_eq_true hx).lt hvs hb.1, List.not_mem_nil⟩) ⟨hk, fun j hj => ?_⟩
  by_cases c : j = k
  · subst c
    refine ⟨fun _ => rfl, fun _ => ?_⟩
    show (decide _ : Bool) ≠ decide _
    rw [decide_eq_true (Rch.refl _ _), decide_eq_false hno]
    decide
  · refine ⟨fun h => absurd ?_ h, fun h => absurd h c⟩
    have t := Rch.tie (sub_mem (ts := ts) (is := (List.range ts.length).filter fun j => !decide (j = k)) (k := j) (List.mem_filter.mpr ⟨List.mem_range.mpr hj, by simpa using c⟩))
    exact decide_eq_decide.mpr ⟨fun h => h.trans t, fun h => h.trans t.symm⟩
end Bz

set_option Elab.async false
set_option linter.all false
set_option maxRecDepth 100000
set_option maxHeartbeats 400000
namespace Bz
/-! ### the spine -/
theorem LadOk.at {ts : List Tie} {n : Nat} : ∀ {L : List Rg} {had : List Nat} {i : Nat} {g : Rg}, LadOk ts n had L → L[i]? = some g → RgOk ts n (had ++ (L.take i).map (·.p)) g
  | [], _, _, _, _, h => by simp at h
  | r :: L, had, 0, g, hL, h => by
    have e : r = g := Option.some.inj h
    subst e
    show RgOk ts n (had ++ []) r
    rw [List.append_nil]
    exact hL.1
  | r :: L, had, i + 1, g, hL, h => by
    have := LadOk.at (L := L) (i := i) hL.2 h
    rw [List.append_assoc] at this
    exact this
theorem LadOk.take {ts : List Tie} {n : Nat} : ∀ {L : List Rg} {had : List Nat} {i : Nat}, LadOk ts n had L → LadOk ts n had (L.take i)
  | [], _, _, _ => by rw [List.take_nil]; trivial
  | _ :: _, _, 0, _ => trivial
  | r :: L, had, i + 1, h => ⟨h.1, LadOk.take (L := L) (i := i) h.2⟩
theorem lGood.at {ts : List Tie} {n : Nat} : ∀ {L : List Rg} {had : List Nat} {i : Nat} {g : Rg}, lGood ts n had L = true → L[i]? = some g → rGood ts n (had ++ (L.take i).map (·.p)) g = true
  | [], _, _, _, _, h => by simp at h
  | r :: L, had, 0, g, hL, h => by
    have e : r = g := Option.some.inj h
    subst e
    have hL2 : (rGood ts n had r && lGood ts n (had ++ [r.p]) L) = true := hL
    show rGood ts n (had ++ []) r = true
    rw [List.append_nil]
    exact (Bool.and_eq_true_iff.mp hL2).1
  | r :: L, had, i + 1, g, hL, h => by
    have hL2 : (rGood ts n had r && lGood ts n (had ++ [r.p]) L) = true := hL
    have := lGood.at (L := L) (i := i) (Bool.and_eq_true_iff.mp hL2).2 h
    rw [List.append_assoc] at this
    exact this
/-- a tie of a rung lies in its places and those behind, with an end at its place -/
theorem rung_tie {ts : List Tie} {n : Nat} {had : List Nat} {g : Rg} {k : Nat} (R : RgOk ts n had g) (h : k ∈ g.ev ++ g.ln) : k < ts.length ∧ (tieAt ts k).1 ∈ had ++ [g.p] ∧ (tieAt ts k).2 ∈ had ++ [g.p] ∧ ((tieAt ts k).1 = g.p ∨ (tieAt ts k).2 = g.p) := by
  have ip : g.p ∈ had ++ [g.p] := List.mem_append_right _ (List.mem_singleton.mpr rfl)
  rcases List.mem_append.mp h with z | z
  · obtain ⟨a, b⟩ := R.ev k z
    rw [b]
    exact ⟨a, ip, ip, .inl rfl⟩
  · obtain ⟨a, b⟩ := R.ln_mem z
    rcases b with ⟨x, y⟩ | ⟨x, y⟩
    · exact ⟨a, by rw [x]; exact ip, List.mem_append_left _ y, .inl x⟩
    · exact ⟨a, List.mem_append_left _ x, by rw [y]; exact ip, .inr y⟩
theorem spine_mem {ts : List Tie} {n : Nat} : ∀ {L : List Rg} {had : List Nat} {k : Nat}, LadOk ts n had L → k ∈ spine L → k < ts.length ∧ (tieAt ts k).1 ∈ had ++ L.map (·.p) ∧ (tieAt ts k).2 ∈ had ++ L.map (·.p) ∧ ((tieAt ts k).1 ∉ had ∨ (tieAt ts k).2 ∉ had)
  | [], _, _, _, h => absurd h List.not_mem_nil
  | r :: L, had, k, hL, h => by
    have h2 : k ∈ (r.ev ++ r.ln) ++ spine L := h
    rcases List.mem_append.mp h2 with z | z
    · obtain ⟨a, b, c, d⟩ := rung_tie hL.1 z
      have up : ∀ x, x ∈ had ++ [r.p] → x ∈ had ++ (r :: L).map (·.p) := fun x hx => by
        rcases List.mem_append.mp hx with q | q
        · exact List.mem_append_left _ q
        · exact List.mem_append_right _ (by rw [List.mem_singleton.mp q]; exact List.mem_cons_self)
      refine ⟨a, up _ b, up _ c, ?_⟩
      rcases d with d | d
      · exact .inl (by rw [d]; exact hL.1.p_new)
      · exact .inr (by rw [d]; exact hL.1.p_new)
    · obtain ⟨a, b, c, d⟩ := spine_mem hL.2 z
      have e : had ++ [r.p] ++ L.map (·.p) = had ++ (r :: L).map (·.p) := by rw [List.append_assoc]; rfl
      rw [e] at b c
      refine ⟨a, b, c, ?_⟩
      rcases d with d | d
      · exact .inl fun q => d (List.mem_append_left _ q)
      · exact .inr fun q => d (List.mem_append_left _ q)
theorem rung_nodup {ts : List Tie} {n : Nat} {had : List Nat} {g : Rg} (R : RgOk ts n had g) : (g.ev ++ g.ln).Nodup := by
  rw [List.nodup_append]
  refine ⟨R.ev_up.imp fun h => Nat.ne_of_lt h, R.ln_up.imp fun h => Nat.ne_of_lt h, fun a ha b hb e => ?_⟩
  subst e
  obtain ⟨_, h1⟩ := R.ev a ha
  obtain ⟨_, h2⟩ := R.ln_mem hb
  rw [h1] at h2
  rcases h2 with ⟨_, y⟩ | ⟨x, _⟩
  · exact R.p_new y
  · exact R.p_new x
theorem spine_nodup {ts : List Tie} {n : Nat} : ∀ {L : List Rg} {had : List Nat}, LadOk ts n had L → (spine L).Nodup
  | [], _, _ => List.Pairwise.nil
  | r :: L, had, hL => by
    show ((r.ev ++ r.ln) ++ spine L).Nodup
    rw [List.nodup_append]
    refine ⟨rung_nodup hL.1, spine_nodup hL.2, fun a ha b hb e => ?_⟩
    subst e
    obtain ⟨_, b1, b2, _⟩ := rung_tie hL.1 ha
    obtain ⟨_, _, _, d⟩ := spine_mem hL.2 hb
    rcases d with d | d
    · exact d b1
    · exact d b2
theorem spine_len {ts : List Tie} {n : Nat} {L : List Rg} {had : List Nat} (h : LadOk ts n had L) : (spine L).length ≤ ts.length := nodup_len _ _ (spine_nodup h) fun k hk => (spine_mem h hk).1
/-- the spine holds together what hangs together -/
theorem spine_span {ts : List Tie} {n : Nat} : ∀ {L : List Rg} {had sp : List Nat}, LadOk ts n had L → (∀ x ∈ had, ∀ y ∈ had, Rch ts x y → Rch (sub ts sp) x y) →
    ∀ x ∈ had ++ L.map (·.p), ∀ y ∈ had ++ L.map (·.p), Rch ts x y → Rch (sub ts (sp ++ spine L)) x y
  | [], had, sp, _, h, x, hx, y, hy, hr => by
    have e : had ++ ([] : List Rg).map (·.p) = had := List.append_nil _
    rw [e] at hx hy
    have e2 : sp ++ spine [] = sp := List.append_nil _
    rw [e2]
    exact h x hx y hy hr
  | r :: L, had, sp, hL, h, x, hx, y, hy, hr => by
    have e : had ++ (r :: L).map (·.p) = (had ++ [r.p]) ++ L.map (·.p) := by rw [List.append_assoc]; rfl
    have e2 : sp ++ spine (r :: L) = (sp ++ (r.ev ++ r.ln)) ++ spine L := by rw [List.append_assoc]; rfl
    rw [e] at hx hy
    rw [e2]
    refine spine_span hL.2 ?_ x hx y hy hr
    have mono : ∀ {u v : Nat}, Rch (sub ts sp) u v → Rch (sub ts (sp ++ (r.ev ++ r.ln))) u v := fun q => q.mono fun e he => by
      obtain ⟨k, hk, rfl⟩ := mem_sub.mp he
      exact sub_mem (List.mem_append_left _ hk)
    have toP : ∀ y ∈ had, Rch ts r.p y → Rch (sub ts (sp ++ (r.ev ++ r.ln))) r.p y := fun y hy hr => by
      have hne : r.ln ≠ [] := hL.1.near.mpr ⟨y, hy, hr⟩
      obtain ⟨k, hk⟩ := List.exists_mem_of_ne_nil _ hne
      obtain ⟨a, b⟩ := hL.1.ln_mem hk
      have t1 := Rch.tie (tieAt_mem a)
      have t2 : Rch (sub ts (sp ++ (r.ev ++ r.ln))) (tieAt ts k).1 (tieAt ts k).2 := Rch.tie (sub_mem (List.mem_append_right _ (List.mem_append_right _ hk)))
      rcases b with ⟨u, v⟩ | ⟨u, v⟩
      · rw [u] at t1 t2
        exact t2.trans (mono (h _ v y hy (t1.symm.trans hr)))
      · rw [v] at t1 t2
        exact t2.symm.trans (mono (h _ u y hy (t1.trans hr)))
    intro x hx y hy hr
    rcases List.mem_append.mp hx with p | p <;> rcases List.mem_append.mp hy with q | q
    · exact mono (h x p y q hr)
    · rw [List.mem_singleton.mp q] at hr ⊢
      exact (toP x p hr.symm).symm
    · rw [List.mem_singleton.mp p] at hr ⊢
      exact toP y q hr
    · rw [List.mem_singleton.mp p, List.mem_singleton.mp q]
      exact Rch.refl _ _
/-! ### amounts put in place -/
theorem gain_put {ts : List Tie} {x : Nat} : ∀ {ks : List Nat} {as l : List Int}, ks.Nodup → ks.length = as.length → (∀ k ∈ ks, k < ts.length ∧ l[k]? = some 0) → gain ts (put l ks as) x = gain ts l x + gain (sub ts ks) as x
  | [], [], l, _, _, _ => by
    show gain ts l x = gain ts l x + gain [] [] x
    have : gain [] [] x = 0 := rfl
    omega
  | [], _ :: _, _, _, h, _ => by simp at h
  | _ :: _, [], _, _, h, _ => by simp at h
  | k :: ks, a :: as, l, hn, hl, h => by
    obtain ⟨h1, h2⟩ := h k List.mem_cons_self
    have hn2 := List.nodup_cons.mp hn
    show gain ts (put (l.set k a) ks as) x = _
    rw [gain_put (ks := ks) (as := as) (l := l.set k a) hn2.2 (by simpa using hl) fun j hj => by
      obtain ⟨h3, h4⟩ := h j (List.mem_cons_of_mem _ hj)
      refine ⟨h3, ?_⟩
      rw [List.getElem?_set_ne (fun z : k = j => hn2.1 (by rw [z]; exact hj))]
      exact h4]
    rw [gain_set ts l k 0 a x h2 h1, Int.sub_zero]
    show _ = _ + (ind ((tieAt ts k).2 = x) a - ind ((tieAt ts k).1 = x) a + gain (sub ts ks) as x)
    omega
theorem put_mem : ∀ {ks : List Nat} {vs l : List Int} {a : Int}, a ∈ put l ks vs → a ∈ l ∨ a ∈ vs
  | [], vs, l, a, h => .inl (by cases vs <;> exact h)
  | _ :: _, [], _, _, h => .inl h
  | k :: ks, v :: vs, l, a, h => by
    have h2 : a ∈ put (l.set k v) ks vs := h
    rcases put_mem h2 with z | z
    · rcases List.mem_or_eq_of_mem_set z with q | q
      · exact .inl q
      · exact .inr (by rw [q]; exact List.mem_cons_self)
    · exact .inr (List.mem_cons_of_mem _ z)
theorem rep_zero {m k : Nat} (h : k < m) : (List.replicate m (0 : Int))[k]? = some 0 := by rw [List.getElem?_replicate, if_pos h]
theorem gain_put0 {ts : List Tie} {ks : List Nat} {as : List Int} (x : Nat) (hn : ks.Nodup) (hl : ks.length = as.length) (h : ∀ k ∈ ks, k < ts.length) : gain ts (put (List.replicate ts.length 0) ks as) x = gain (sub ts ks) as x := by
  rw [gain_put hn hl fun k hk => ⟨h k hk, rep_zero (h k hk)⟩, gain_rep]
  exact Int.zero_add _
/-! ### rests beside the spine -/
def orderL (ts : List Tie) (sp : List Nat) : List Nat := sp ++ (List.range ts.length).filter fun k => !decide (k ∈ sp)
theorem orderL_nodup {ts : List Tie} {sp : List Nat} (h : sp.Nodup) : (orderL ts sp).Nodup := by
  unfold orderL
  rw [List.nodup_append]
  refine ⟨h, List.nodup_range.filter _, fun a ha b hb e => ?_⟩
  subst e
  have := (List.mem_filter.mp hb).2
  rw [decide_eq_true ha] at this
  cases this
theorem mem_orderL {ts : List Tie} {sp : List Nat} {k : Nat} (hsp : ∀ k ∈ sp, k < ts.length) : k ∈ orderL ts sp ↔ k < ts.length := by
  unfold orderL
  rw [List.mem_append, List.mem_filter, List.mem_range]
  constructor
  · rintro (h | h)
    · exact hsp k h
    · exact h.1
  · intro h
    by_cases c : k ∈ sp
    · exact .inl c
    · exact .inr ⟨h, by rw [decide_eq_false c]; rfl⟩
/-- the state of thirds: behind the rung i all is well -/
structure TI (ts : List Tie) (n : Nat) (L : List Rg) (i : Nat) (fs : List Int) : Prop where
  rf : RestFlow ts n fs
  out : ∀ k, k < ts.length → k ∉ spine L → fs[k]? ≠ some 0
  lk : ∀ (j : Nat) (g : Rg) (k : Nat), i ≤ j → L[j]? = some g → k ∈ g.ln → fs[k]? ≠ some 0
theorem beside {ts : List Tie} {n : Nat} {L : List Rg} {F : List Nat} {us as : List Int} (hv : ∀ e ∈ ts, e.1 < n ∧ e.2 < n) (hL : LadOk ts n [] L) (hc : ∀ x, x < n → x ∈ L.map (·.p)) (hF : Forest (sub ts (orderL ts (spine L))) F)
    (R : RestFlow (sub ts (orderL ts (spine L))) n as) (hu : us.length = (free (sub ts (orderL ts (spine L))) F).length)
    (hus : ∀ (i k : Nat), (free (sub ts (orderL ts (spine L))) F)[i]? = some k → us[i]? = some (if (orderL ts (spine L)).getD k 0 ∈ spine L then 0 else 1))
    (hfr : ∀ (i k : Nat) (v : Int), (free (sub ts (orderL ts (spine L))) F)[i]? = some k → us[i]? = some v → as[k]? = some (v % 3)) : TI ts n L L.length (put (List.replicate ts.length 0) (orderL ts (spine L)) as) := by
  have hsp : ∀ k ∈ spine L, k < ts.length := fun k hk => (spine_mem hL hk).1
  have hno := orderL_nodup (ts := ts) (spine_nodup hL)
  have hlen : (orderL ts (spine L)).length = as.length := by rw [R.len, sub_len]
  have hmem : ∀ k ∈ orderL ts (spine L), k < ts.length := fun k hk => (mem_orderL hsp).mp hk
  refine ⟨⟨by rw [put_len, List.length_replicate], fun a ha => ?_, fun x hx => ?_⟩, fun k hk hks => ?_, fun j g k hj hg => ?_⟩
  · rcases put_mem ha with z | z
    · rw [(List.mem_replicate.mp z).2]; omega
    · exact R.rng a z
  · rw [gain_put0 x hno hlen hmem]
    exact R.g x hx
  · have hko : k ∈ orderL ts (spine L) := (mem_orderL hsp).mpr hk
    obtain ⟨j, hj⟩ := List.mem_iff_getElem?.mp hko
    have hjl := (List.getElem?_eq_some_iff.mp hj).1
    have hjs : (spine L).length ≤ j := by
      refine Nat.le_of_not_lt fun q => hks ?_
      unfold orderL at hj
      rw [List.getElem?_append_left q] at hj
      exact List.mem_of_getElem? hj
    have hjt : j < (sub ts (orderL ts (spine L))).length := by rw [sub_len]; exact hjl
    have ht : tieAt (sub ts (orderL ts (spine L))) j = tieAt ts k := tieAt_of (sub_get hj)
    have hb := hv _ (tieAt_mem hk)
    have hr : Rch (sub ts (spine L)) (tieAt ts k).1 (tieAt ts k).2 := by
      have := spine_span (had := []) (sp := []) hL (fun x hx => absurd hx List.not_mem_nil) _ (hc _ hb.1) _ (hc _ hb.2) (Rch.tie (tieAt_mem hk))
      exact this
    have hfree : j ∉ F := fun q => by
      refine (hF.mem j hjt).mp q ?_
      rw [ht]
      refine hr.mono fun e he => ?_
      obtain ⟨q2, hq2, rfl⟩ := mem_sub.mp he
      obtain ⟨i2, hi2⟩ := List.mem_iff_getElem?.mp hq2
      have hi3 := (List.getElem?_eq_some_iff.mp hi2).1
      refine (mem_take (by rw [sub_len]; omega)).mpr ⟨i2, by omega, ?_⟩
      refine tieAt_of (sub_get ?_)
      unfold orderL
      rw [List.getElem?_append_left hi3]
      exact hi2
    have hjf : j ∈ free (sub ts (orderL ts (spine L))) F := mem_free.mpr ⟨hjt, hfree⟩
    obtain ⟨i, hi⟩ := List.mem_iff_getElem?.mp hjf
    have h1 := hus i j hi
    have e1 : (orderL ts (spine L)).getD j 0 = k := by rw [List.getD_eq_getElem?_getD, hj]; rfl
    rw [e1, if_neg hks] at h1
    have h2 := hfr i j 1 hi h1
    rw [put_at hno hj h2 (by rw [List.length_replicate]; exact hk)]
    intro q
    have := Option.some.inj q
    exact absurd this (by decide)
  · have := (List.getElem?_eq_some_iff.mp hg).1
    omega
/-! ### the ring through a rung's two links -/
theorem cut_append {X : Nat → Bool} : ∀ {A B : List Tie} {as bs : List Int}, A.length = as.length → cut X (A ++ B) (as ++ bs) = cut X A as + cut X B bs
  | [], B, [], bs, _ => by
    show cut X B bs = cut X [] [] + _
    have : cut X [] [] = 0 := rfl
    omega
  | [], _, _ :: _, _, h => by simp at h
  | _ :: _, _, [], _, h => by simp at h
  | e :: A, B, a :: as, bs, h => by
    have ih := cut_append (X := X) (A := A) (B := B) (as := as) (bs := bs) (by simpa using h)
    show (if X e.2 = true then a else 0) - (if X e.1 = true then a else 0) + cut X (A ++ B) (as ++ bs) = (if X e.2 = true then a else 0) - (if X e.1 = true then a else 0) + cut X A as + cut X B bs
    rw [ih]
    omega
theorem two_links {ts : List Tie} {n : Nat} {had : List Nat} {g : Rg} {l1 l2 : Nat} {S : List Nat} {fl : List Int} (hv : ∀ e ∈ ts, e.1 < n ∧ e.2 < n) (R : RgOk ts n had g) (h : g.ln = [l1, l2]) (hS : ∀ k ∈ S, k < ts.length ∧ (tieAt ts k).1 ∈ had ∧ (tieAt ts k).2 ∈ had)
    (hlen : fl.length = (sub ts (S ++ g.ev ++ g.ln)).length) (hg : ∀ z, gain (sub ts (S ++ g.ev ++ g.ln)) fl z = 0) (h1 : fl[(S ++ g.ev).length + 1]? = some 1) : fl[(S ++ g.ev).length]? = some 1 ∨ fl[(S ++ g.ev).length]? = some (-1) := by
  have hl1 := R.ln_mem (k := l1) (by rw [h]; simp)
  have hl2 := R.ln_mem (k := l2) (by rw [h]; simp)
  rw [h] at hlen hg
  have hlen2 : fl.length = (S ++ g.ev).length + 2 := by
    rw [hlen, sub_len, List.length_append]
    rfl
  generalize hm : (S ++ g.ev).length = m at *
  have ha : fl[m]? = some (fl.getD m 0) := get_getD (by omega)
  have hfl : fl = fl.take m ++ [fl.getD m 0, 1] := by
    have e1 := List.take_append_drop m fl
    have e2 : fl.drop m = [fl.getD m 0, 1] := by
      refine List.ext_getElem? fun i => ?_
      rw [List.getElem?_drop]
      match i with
      | 0 => exact ha
      | 1 => exact h1
      | i + 2 => rw [List.getElem?_eq_none_iff.mpr (by omega)]; rfl
    rw [e2] at e1
    exact e1.symm
  have hvs : ∀ e ∈ sub ts (S ++ g.ev ++ [l1, l2]), e.1 < n ∧ e.2 < n := fun e he => by
    obtain ⟨k, hk, rfl⟩ := mem_sub.mp he
    refine hv _ (tieAt_mem ?_)
    rcases List.mem_append.mp hk with z | z
    · rcases List.mem_append.mp z with z | z
      · exact (hS k z).1
      · exact (R.ev k z).1
    · rcases List.mem_cons.mp z with z | z
      · rw [z]; exact hl1.1
      · rw [List.mem_singleton.mp z]; exact hl2.1
  have ht := tot_gain (X := fun z => decide (z = g.p)) (as := fl) hvs
  rw [tot_zero fun x _ _ => hg x] at ht
  have es : sub ts (S ++ g.ev ++ [l1, l2]) = sub ts (S ++ g.ev) ++ [tieAt ts l1, tieAt ts l2] := by
    show (S ++ g.ev ++ [l1, l2]).map _ = (S ++ g.ev).map _ ++ _
    rw [List.map_append]
    rfl
  have ec : cut (fun z => decide (z = g.p)) (sub ts (S ++ g.ev)) (fl.take m) = 0 := by
    refine cut_closed fun e he => ?_
    obtain ⟨k, hk, rfl⟩ := mem_sub.mp he
    rcases List.mem_append.mp hk with z | z
    · obtain ⟨_, a, b⟩ := hS k z
      have n1 : ¬ (tieAt ts k).1 = g.p := fun q => R.p_new (by rw [← q]; exact a)
      have n2 : ¬ (tieAt ts k).2 = g.p := fun q => R.p_new (by rw [← q]; exact b)
      rw [decide_eq_false n1, decide_eq_false n2]
    · rw [(R.ev k z).2]
  rw [hfl, es, cut_append (by rw [sub_len, hm, List.length_take]; omega), ec] at ht
  have side : ∀ l, (((tieAt ts l).1 = g.p ∧ (tieAt ts l).2 ∈ had) ∨ ((tieAt ts l).1 ∈ had ∧ (tieAt ts l).2 = g.p)) → ∀ a : Int, (if (decide ((tieAt ts l).2 = g.p) : Bool) = true then a else 0) - (if (decide ((tieAt ts l).1 = g.p) : Bool) = true then a else 0) = a ∨ (if (decide ((tieAt ts l).2 = g.p) : Bool) = true then a else 0) - (if (decide ((tieAt ts l).1 = g.p) : Bool) = true then a else 0) = -a := by
    intro l hl a
    rcases hl with ⟨u, v⟩ | ⟨u, v⟩
    · have n2 : ¬ (tieAt ts l).2 = g.p := fun q => R.p_new (by rw [← q]; exact v)
      rw [decide_eq_true u, decide_eq_false n2]
      right
      simp
    · have n1 : ¬ (tieAt ts l).1 = g.p := fun q => R.p_new (by rw [← q]; exact u)
      rw [decide_eq_true v, decide_eq_false n1]
      left
      simp
  have ht2 : (0 : Int) = 0 + ((if (decide ((tieAt ts l1).2 = g.p) : Bool) = true then fl.getD m 0 else 0) - (if (decide ((tieAt ts l1).1 = g.p) : Bool) = true then fl.getD m 0 else 0) + ((if (decide ((tieAt ts l2).2 = g.p) : Bool) = true then 1 else 0) - (if (decide ((tieAt ts l2).1 = g.p) : Bool) = true then 1 else 0) + 0)) := ht
  have q1 := side l1 hl1.2 (fl.getD m 0)
  have q2 := side l2 hl2.2 1
  rw [ha]
  rcases q1 with q1 | q1 <;> rcases q2 with q2 | q2 <;> rw [q1, q2] at ht2
  · exact .inr (congrArg some (by omega))
  · exact .inl (congrArg some (by omega))
  · exact .inl (congrArg some (by omega))
  · exact .inr (congrArg some (by omega))
/-! ### rests with a ring -/
def comb (c : Int) (rs gs : List Int) : List Int := List.zipWith (fun r a => (r + c * a) % 3) rs gs
theorem comb_len {c : Int} {rs gs : List Int} (h : rs.length = gs.length) : (comb c rs gs).length = rs.length := by
  unfold comb
  rw [List.length_zipWith, h, Nat.min_self]
theorem comb_get {c r a : Int} {rs gs : List Int} {k : Nat} (h1 : rs[k]? = some r) (h2 : gs[k]? = some a) : (comb c rs gs)[k]? = some ((r + c * a) % 3) := by
  unfold comb
  rw [List.getElem?_zipWith, h1, h2]
theorem gain_comb {c : Int} : ∀ {ts : List Tie} {rs gs : List Int} {x : Nat}, rs.length = ts.length → gs.length = ts.length → gain ts (comb c rs gs) x % 3 = (gain ts rs x + c * gain ts gs x) % 3
  | [], [], [], x, _, _ => by
    show (0 : Int) % 3 = (0 + c * 0) % 3
    rw [Int.mul_zero]
    rfl
  | [], _ :: _, _, _, h, _ => by simp at h
  | [], [], _ :: _, _, _, h => by simp at h
  | _ :: _, [], _, _, h, _ => by simp at h
  | _ :: _, _ :: _, [], _, _, h => by simp at h
  | e :: ts, r :: rs, a :: gs, x, h1, h2 => by
    have ih := gain_comb (c := c) (ts := ts) (rs := rs) (gs := gs) (x := x) (by simpa using h1) (by simpa using h2)
    show (ind (e.2 = x) ((r + c * a) % 3) - ind (e.1 = x) ((r + c * a) % 3) + gain ts (comb c rs gs) x) % 3 = (ind (e.2 = x) r - ind (e.1 = x) r + gain ts rs x + c * (ind (e.2 = x) a - ind (e.1 = x) a + gain ts gs x)) % 3
    have hi : ∀ (p : Prop) [Decidable p], ind p ((r + c * a) % 3) % 3 = (ind p r + c * ind p a) % 3 := fun p _ => by
      rw [← ind_mul, ← ind_add]
      unfold ind
      split
      · omega
      · rfl
    have e3 : ind (e.2 = x) r - ind (e.1 = x) r + gain ts rs x + c * (ind (e.2 = x) a - ind (e.1 = x) a + gain ts gs x) = (ind (e.2 = x) r + c * ind (e.2 = x) a) - (ind (e.1 = x) r + c * ind (e.1 = x) a) + (gain ts rs x + c * gain ts gs x) := by
      rw [Int.mul_add, Int.mul_sub]
      omega
    have h3 := hi (e.2 = x)
    have h4 := hi (e.1 = x)
    rw [e3]
    omega
theorem TI.rest {ts : List Tie} {n : Nat} {L : List Rg} {i : Nat} {fs : List Int} (T : TI ts n L i fs) {k : Nat} (hk : k < ts.length) : ∃ v, fs[k]? = some v ∧ 0 ≤ v ∧ v < 3 := by
  have h := get_getD (a := fs) (k := k) (by rw [T.rf.len]; exact hk)
  exact ⟨_, h, T.rf.rng _ (List.mem_of_getElem? h)⟩
/-- a single link isn't 0 -/
theorem TI.one {ts : List Tie} {n : Nat} {L : List Rg} {i : Nat} {fs : List Int} {g : Rg} {l m : Nat} (hv : ∀ e ∈ ts, e.1 < n ∧ e.2 < n) (hL : LadOk ts n [] L) (T : TI ts n L (i + 1) fs) (hg : L[i]? = some g)
    (h1 : btw ts g.sd ((L.take i).map (·.p)) = [l]) (h2 : btw ts g.sd (othersL n ((L.take i).map (·.p)) g.sd) = [m]) : fs[l]? ≠ some 0 := by
  have R : RgOk ts n ((L.take i).map (·.p)) g := hL.at hg
  obtain ⟨hs, hlm⟩ := side_ties hv R h1 h2
  obtain ⟨hml, hme⟩ := mem_btw.mp (by rw [h2]; exact List.mem_singleton.mpr rfl : m ∈ btw ts g.sd (othersL n ((L.take i).map (·.p)) g.sd))
  intro hz
  have hm0 : fs[m]? ≠ some 0 := by
    have offh : ∀ x, (x ∈ g.sd ∨ x ∈ othersL n ((L.take i).map (·.p)) g.sd) → x ∉ (L.take i).map (·.p) := fun x hx q => by
      rcases hx with z | z
      · exact (R.sd_in x z).2 q
      · exact (mem_othersL.mp z).2.1 q
    have ends : (tieAt ts m).1 ∉ (L.take i).map (·.p) ∧ (tieAt ts m).2 ∉ (L.take i).map (·.p) ∧ (tieAt ts m).1 ≠ (tieAt ts m).2 := by
      rcases hme with ⟨a, b⟩ | ⟨a, b⟩
      · exact ⟨offh _ (.inl a), offh _ (.inr b), fun e => (mem_othersL.mp b).2.2 (by rw [← e]; exact a)⟩
      · exact ⟨offh _ (.inr a), offh _ (.inl b), fun e => (mem_othersL.mp a).2.2 (by rw [e]; exact b)⟩
    by_cases c : m ∈ spine L
    · obtain ⟨g2, hg2, hm2⟩ := List.mem_flatMap.mp c
      obtain ⟨j, hj⟩ := List.mem_iff_getElem?.mp hg2
      have R2 : RgOk ts n ((L.take j).map (·.p)) g2 := hL.at hj
      rcases List.mem_append.mp hm2 with z | z
      · have := (R2.ev m z).2
        rw [this] at ends
        exact absurd rfl ends.2.2
      · refine T.lk j g2 m ?_ hj z
        refine Nat.lt_of_not_le fun hji => ?_
        have sub2 : ∀ x, x ∈ (L.take j).map (·.p) → x ∈ (L.take i).map (·.p) := fun x hx => by
          obtain ⟨u, hu, rfl⟩ := List.mem_map.mp hx
          have e : L.take j = (L.take i).take j := by rw [List.take_take, Nat.min_eq_left hji]
          rw [e] at hu
          exact List.mem_map.mpr ⟨u, List.mem_of_mem_take hu, rfl⟩
        rcases (R2.ln_mem z).2 with ⟨a, b⟩ | ⟨a, b⟩
        · exact ends.2.1 (sub2 _ b)
        · exact ends.1 (sub2 _ a)
    · exact T.out m hml c
  obtain ⟨v, hv1, hv2, hv3⟩ := T.rest hml
  have hc := cut_one (X := fun z => decide (z ∈ g.sd)) hv1 hml fun j hj hjm => by
    by_cases e : j = l
    · right; rw [e]; exact hz
    · left
      refine Classical.byContradiction fun q => ?_
      rcases (hs j hj).mp q with z | z
      · exact e z
      · exact hjm z
  have ht := tot_gain (X := fun z => decide (z ∈ g.sd)) (as := fs) hv
  have hmod := tot_mod (X := fun z => decide (z ∈ g.sd)) (g := gain ts fs) (m := 3) (n := n) fun x hx _ => T.rf.g x hx
  rw [ht, hc] at hmod
  have hd := (hs m hml).mpr (.inr rfl)
  have hv0 : v = 0 := by
    revert hmod hd
    cases (decide ((tieAt ts m).1 ∈ g.sd) : Bool) <;> cases (decide ((tieAt ts m).2 ∈ g.sd) : Bool)
    · simp
    · simp
      omega
    · simp
      omega
    · simp
  rw [hv0] at hv1
  exact hm0 hv1
/-- a link that is 0 is one of two -/
theorem TI.two {ts : List Tie} {n : Nat} {L : List Rg} {i : Nat} {fs : List Int} {g : Rg} {k : Nat} (hv : ∀ e ∈ ts, e.1 < n ∧ e.2 < n) (hL : LadOk ts n [] L) (hG : lGood ts n [] L = true) (T : TI ts n L (i + 1) fs) (hg : L[i]? = some g) (hk : k ∈ g.ln) (hz : fs[k]? = some 0) : ∃ l1 l2, g.ln = [l1, l2] := by
  have R : RgOk ts n ((L.take i).map (·.p)) g := hL.at hg
  have hr : rGood ts n ((L.take i).map (·.p)) g = true := lGood.at hG hg
  rcases rGood_cases hr with h | h | ⟨h1, m, h2⟩
  · rw [h] at hk; exact absurd hk List.not_mem_nil
  · match hh : g.ln, h with
    | [a, b], _ => exact ⟨a, b, rfl⟩
  · have h3 := R.ln_len
    match hh : g.ln, hk, h3 with
    | [a], hk, _ =>
      rw [hh] at h1
      have e := List.mem_singleton.mp hk
      subst e
      exact absurd hz (T.one hv hL hg h1 h2)
    | [a, b], _, _ => exact ⟨a, b, rfl⟩
/-- a ring through the rung i put to the rests -/
structure RingAt (ts : List Tie) (L : List Rg) (i : Nat) (l1 l2 : Nat) (gs : List Int) : Prop where
  len : gs.length = ts.length
  g : ∀ z, gain ts gs z = 0
  off : ∀ k, k < ts.length → k ∉ spine (L.take (i + 1)) → gs[k]? = some 0
  one : gs[l1]? = some 1 ∨ gs[l1]? = some (-1)
  two : gs[l2]? = some 1
theorem TI.next {ts : List Tie} {n : Nat} {L : List Rg} {i : Nat} {fs gs : List Int} {g : Rg} {l1 l2 : Nat} {c : Int} (hL : LadOk ts n [] L) (T : TI ts n L (i + 1) fs) (hg : L[i]? = some g) (hl : g.ln = [l1, l2]) (G : RingAt ts L i l1 l2 gs)
    (hn : ∀ k ∈ g.ln, (comb c fs gs)[k]? ≠ some 0) : TI ts n L i (comb c fs gs) := by
  have hlen : fs.length = gs.length := by rw [T.rf.len, G.len]
  have keep : ∀ k, k < ts.length → gs[k]? = some 0 → fs[k]? ≠ some 0 → (comb c fs gs)[k]? ≠ some 0 := fun k hk h0 h1 => by
    obtain ⟨v, hv1, hv2, hv3⟩ := T.rest hk
    rw [comb_get hv1 h0, Int.mul_zero, Int.add_zero]
    intro q
    have q2 := Option.some.inj q
    exact h1 (by rw [hv1]; congr 1; omega)
  refine ⟨⟨by rw [comb_len hlen]; exact T.rf.len, fun a ha => ?_, fun x hx => ?_⟩, fun k hk hks => ?_, fun j g2 k hj hg2 hk => ?_⟩
  · unfold comb at ha
    obtain ⟨k, hk⟩ := List.mem_iff_getElem?.mp ha
    rw [List.getElem?_zipWith] at hk
    split at hk
    · have := Option.some.inj hk
      omega
    · cases hk
  · rw [gain_comb T.rf.len G.len, G.g, Int.mul_zero, Int.add_zero]
    exact T.rf.g x hx
  · refine keep k hk (G.off k hk fun q => hks ?_) (T.out k hk hks)
    obtain ⟨u, hu, hku⟩ := List.mem_flatMap.mp q
    exact List.mem_flatMap.mpr ⟨u, List.mem_of_mem_take hu, hku⟩
  · by_cases e : j = i
    · subst e
      rw [hg] at hg2
      rw [← Option.some.inj hg2] at hk
      exact hn k hk
    · have R2 : RgOk ts n ((L.take j).map (·.p)) g2 := hL.at hg2
      have hkl := (R2.ln_mem hk).1
      refine keep k hkl (G.off k hkl fun q => ?_) (T.lk j g2 k (by omega) hg2 hk)
      obtain ⟨_, b1, b2, _⟩ := spine_mem (hL.take (i := i + 1)) q
      have sub2 : ∀ x, x ∈ [] ++ (L.take (i + 1)).map (·.p) → x ∈ (L.take j).map (·.p) := fun x hx => by
        obtain ⟨u, hu, rfl⟩ := List.mem_map.mp (show x ∈ (L.take (i + 1)).map (·.p) from hx)
        have e : L.take (i + 1) = (L.take j).take (i + 1) := by rw [List.take_take, Nat.min_eq_left (by omega)]
        rw [e] at hu
        exact List.mem_map.mpr ⟨u, List.mem_of_mem_take hu, rfl⟩
      rcases (R2.ln_mem hk).2 with ⟨a, b⟩ | ⟨a, b⟩
      · exact R2.p_new (by rw [← a]; exact sub2 _ b1)
      · exact R2.p_new (by rw [← b]; exact sub2 _ b2)
/-- once or twice makes both links busy -/
theorem turns {fs gs : List Int} {l1 l2 : Nat} {a b u : Int} (ha : fs[l1]? = some a) (hb : fs[l2]? = some b) (ra : 0 ≤ a ∧ a < 3) (rb : 0 ≤ b ∧ b < 3) (hu : gs[l1]? = some u) (hu1 : u = 1 ∨ u = -1) (hw : gs[l2]? = some 1) (h0 : a = 0 ∨ b = 0) (h1 : (comb 1 fs gs)[l1]? = some 0 ∨ (comb 1 fs gs)[l2]? = some 0) :
    (comb 2 fs gs)[l1]? ≠ some 0 ∧ (comb 2 fs gs)[l2]? ≠ some 0 := by
  rw [comb_get ha hu, comb_get hb hw] at h1 ⊢
  constructor
  · intro q
    have q2 := Option.some.inj q
    rcases h1 with z | z <;> have z2 := Option.some.inj z <;> rcases hu1 with e | e <;> rw [e] at q2 <;> (try rw [e] at z2) <;> omega
  · intro q
    have q2 := Option.some.inj q
    rcases h1 with z | z <;> have z2 := Option.some.inj z <;> rcases hu1 with e | e <;> (try rw [e] at z2) <;> omega
end Bz

set_option Elab.async false
set_option linter.all false
set_option maxRecDepth 100000
set_option maxHeartbeats 400000
namespace Bz
theorem forest_ex {ts : List Tie} {n : Nat} (hv : ∀ e ∈ ts, e.1 < n ∧ e.2 < n) : ∃ F, Forest ts F := by
  have h : ∀ i, i ≤ ts.length → ∃ N F, FIn ts n i N F := by
    intro i
    induction i with
    | zero => exact fun _ => ⟨_, _, FIn.start ts n⟩
    | succ i ih =>
      intro hi
      obtain ⟨N, F, R⟩ := ih (by omega)
      have hb := hv _ (tieAt_mem (k := i) (by omega))
      by_cases c : N.getD (tieAt ts i).1 0 = N.getD (tieAt ts i).2 0
      · exact ⟨_, _, R.stay (by omega) hb c⟩
      · exact ⟨_, _, R.join (by omega) hb c⟩
  obtain ⟨N, F, R⟩ := h ts.length (Nat.le_refl _)
  exact ⟨F, R.forest⟩
theorem lad_nodup {ts : List Tie} {n : Nat} : ∀ {L : List Rg} {had : List Nat}, LadOk ts n had L → (L.map (·.p)).Nodup ∧ ∀ x ∈ L.map (·.p), x < n ∧ x ∉ had
  | [], _, _ => ⟨List.Pairwise.nil, fun x h => absurd h List.not_mem_nil⟩
  | r :: L, had, h => by
    obtain ⟨a, b⟩ := lad_nodup h.2
    refine ⟨List.nodup_cons.mpr ⟨fun q => (b _ q).2 (List.mem_append_right _ (List.mem_singleton.mpr rfl)), a⟩, fun x hx => ?_⟩
    rcases List.mem_cons.mp hx with z | z
    · rw [z]; exact ⟨h.1.p_lt, h.1.p_new⟩
    · exact ⟨(b x z).1, fun q => (b x z).2 (List.mem_append_left _ q)⟩
theorem lad_all {ts : List Tie} {n : Nat} {L : List Rg} (h : LadOk ts n [] L) (hn : L.length = n) : ∀ x, x < n → x ∈ L.map (·.p) := fun x hx => by
  obtain ⟨a, b⟩ := lad_nodup h
  refine Classical.byContradiction fun q => ?_
  have h1 := nodup_len n _ (nodup_snoc a q) fun y hy => by
    rcases List.mem_append.mp hy with z | z
    · exact (b y z).1
    · rw [List.mem_singleton.mp z]; exact hx
  rw [List.length_append, List.length_map, hn] at h1
  have : n + 1 ≤ n := h1
  omega
theorem spine_next {L : List Rg} {i : Nat} {g : Rg} (h : L[i]? = some g) : spine (L.take (i + 1)) = spine (L.take i) ++ g.ev ++ g.ln := by
  rw [take_next h, spine_snoc]
/-- the last link is a free tie -/
theorem ring_pre {ts : List Tie} {n : Nat} {L : List Rg} {i : Nat} {g : Rg} {l1 l2 : Nat} (hL : LadOk ts n [] L) (hg : L[i]? = some g) (hl : g.ln = [l1, l2]) :
    (sub ts (spine (L.take (i + 1)))).length = (spine (L.take i) ++ g.ev).length + 2 ∧ tieAt (sub ts (spine (L.take (i + 1)))) ((spine (L.take i) ++ g.ev).length + 1) = tieAt ts l2 ∧
    Rch ((sub ts (spine (L.take (i + 1)))).take ((spine (L.take i) ++ g.ev).length + 1)) (tieAt ts l2).1 (tieAt ts l2).2 := by
  have R : RgOk ts n ((L.take i).map (·.p)) g := hL.at hg
  have hlen : (sub ts (spine (L.take (i + 1)))).length = (spine (L.take i) ++ g.ev).length + 2 := by
    rw [sub_len, spine_next hg, hl, List.length_append]
    rfl
  have g2 : (spine (L.take (i + 1)))[(spine (L.take i) ++ g.ev).length + 1]? = some l2 := by
    rw [spine_next hg, hl, List.getElem?_append_right (by omega), show (spine (L.take i) ++ g.ev).length + 1 - (spine (L.take i) ++ g.ev).length = 1 by omega]
    rfl
  have g1 : (spine (L.take (i + 1)))[(spine (L.take i) ++ g.ev).length]? = some l1 := by
    rw [spine_next hg, hl, List.getElem?_append_right (Nat.le_refl _), Nat.sub_self]
    rfl
  refine ⟨hlen, tieAt_of (sub_get g2), ?_⟩
  have inS : ∀ k ∈ spine (L.take i), tieAt ts k ∈ (sub ts (spine (L.take (i + 1)))).take ((spine (L.take i) ++ g.ev).length + 1) := fun k hk => by
    obtain ⟨j, hj⟩ := List.mem_iff_getElem?.mp hk
    have hjl := (List.getElem?_eq_some_iff.mp hj).1
    refine (mem_take (by omega)).mpr ⟨j, by rw [List.length_append]; omega, tieAt_of (sub_get ?_)⟩
    rw [spine_next hg, List.append_assoc, List.getElem?_append_left hjl]
    exact hj
  have in1 : tieAt ts l1 ∈ (sub ts (spine (L.take (i + 1)))).take ((spine (L.take i) ++ g.ev).length + 1) := (mem_take (by omega)).mpr ⟨_, Nat.lt_succ_self _, tieAt_of (sub_get g1)⟩
  have up : ∀ {u v : Nat}, Rch (sub ts (spine (L.take i))) u v → Rch ((sub ts (spine (L.take (i + 1)))).take ((spine (L.take i) ++ g.ev).length + 1)) u v := fun q => q.mono fun e he => by
    obtain ⟨k, hk, rfl⟩ := mem_sub.mp he
    exact inS k hk
  have span := spine_span (had := []) (sp := []) (hL.take (i := i)) (fun x hx => absurd hx List.not_mem_nil)
  have end1 : ∀ l, l ∈ g.ln → ∃ h, h ∈ (L.take i).map (·.p) ∧ Rch ts g.p h ∧ (((tieAt ts l).1 = g.p ∧ (tieAt ts l).2 = h) ∨ ((tieAt ts l).1 = h ∧ (tieAt ts l).2 = g.p)) := fun l hm => by
    obtain ⟨a, b⟩ := R.ln_mem hm
    have t := Rch.tie (tieAt_mem a)
    rcases b with ⟨u, v⟩ | ⟨u, v⟩
    · exact ⟨_, v, by rw [← u]; exact t, .inl ⟨u, rfl⟩⟩
    · exact ⟨_, u, by rw [← v]; exact t.symm, .inr ⟨rfl, v⟩⟩
  obtain ⟨h1, m1, r1, e1⟩ := end1 l1 (by rw [hl]; simp)
  obtain ⟨h2, m2, r2, e2⟩ := end1 l2 (by rw [hl]; simp)
  have t1 := Rch.tie in1
  have rr := up (span h1 m1 h2 m2 (r1.symm.trans r2))
  have ph : Rch ((sub ts (spine (L.take (i + 1)))).take ((spine (L.take i) ++ g.ev).length + 1)) g.p h1 := by
    rcases e1 with ⟨u, v⟩ | ⟨u, v⟩
    · rw [u, v] at t1; exact t1
    · rw [u, v] at t1; exact t1.symm
  rcases e2 with ⟨u, v⟩ | ⟨u, v⟩
  · rw [u, v]; exact ph.trans rr
  · rw [u, v]; exact (ph.trans rr).symm
theorem ring_post {ts : List Tie} {n : Nat} {L : List Rg} {i : Nat} {g : Rg} {l1 l2 : Nat} {fl : List Int} (hv : ∀ e ∈ ts, e.1 < n ∧ e.2 < n) (hL : LadOk ts n [] L) (hg : L[i]? = some g) (hl : g.ln = [l1, l2])
    (hlen : fl.length = (sub ts (spine (L.take (i + 1)))).length) (hgz : ∀ z, gain (sub ts (spine (L.take (i + 1)))) fl z = 0) (h1 : fl[(spine (L.take i) ++ g.ev).length + 1]? = some 1) : RingAt ts L i l1 l2 (put (List.replicate ts.length 0) (spine (L.take (i + 1))) fl) := by
  have R : RgOk ts n ((L.take i).map (·.p)) g := hL.at hg
  have nd := spine_nodup (hL.take (i := i + 1))
  have hm : ∀ k ∈ spine (L.take (i + 1)), k < ts.length := fun k hk => (spine_mem (hL.take (i := i + 1)) hk).1
  have hl2 : (spine (L.take (i + 1))).length = fl.length := by rw [hlen, sub_len]
  have g2 : (spine (L.take (i + 1)))[(spine (L.take i) ++ g.ev).length + 1]? = some l2 := by
    rw [spine_next hg, hl, List.getElem?_append_right (by omega), show (spine (L.take i) ++ g.ev).length + 1 - (spine (L.take i) ++ g.ev).length = 1 by omega]
    rfl
  have g1 : (spine (L.take (i + 1)))[(spine (L.take i) ++ g.ev).length]? = some l1 := by
    rw [spine_next hg, hl, List.getElem?_append_right (Nat.le_refl _), Nat.sub_self]
    rfl
  have k1 : l1 < (List.replicate ts.length (0 : Int)).length := by rw [List.length_replicate]; exact hm _ (List.mem_of_getElem? g1)
  have k2 : l2 < (List.replicate ts.length (0 : Int)).length := by rw [List.length_replicate]; exact hm _ (List.mem_of_getElem? g2)
  refine ⟨by rw [put_len, List.length_replicate], fun z => by rw [gain_put0 z nd hl2 hm]; exact hgz z, fun k hk hks => by rw [put_not hks]; exact rep_zero hk, ?_, put_at nd g2 h1 k2⟩
  have := two_links (S := spine (L.take i)) (fl := fl) hv R hl (fun k hk => by
    obtain ⟨a, b, c, _⟩ := spine_mem (hL.take (i := i)) hk
    exact ⟨a, b, c⟩) (by rw [← spine_next hg]; exact hlen) (fun z => by rw [← spine_next hg]; exact hgz z) h1
  rcases this with q | q
  · exact .inl (put_at nd g1 q k1)
  · exact .inr (put_at nd g1 q k1)
end Bz

set_option Elab.async false
set_option linter.all false
set_option maxRecDepth 100000
set_option maxHeartbeats 1000000
namespace Bz
open PySem PySem.Spec L2
section
variable {P : Program} {w : World} {K : PySem.W.Frag} {mg : Str → Option Value} {base : Heap} {C : Addr}
section
variable {σ : St} {H : Hp} {D : Ends} {tz : TS} {t1 t2 tl ta tb te : TE} {tr : TA} {sp sp2 : Sp} {vs : List V} {v1 v2 : V} {xs : List V} {a b : Addr}
theorem s_ret12gd (h1 : Pu t1 σ H v1) (h2 : Pu t2 σ H v2) (h : PuA tr σ H vs) (k : sp vs H (fun v H1 => sp2 [v1, v2, v] H1 D.rt E0) E0) : tRet (tGd sp2 (tCons t1 (tCons t2 (tCons (tGd sp tr) tNil)))) D σ H := h1.at (h2.at (h.at k))
theorem q_gdNw1 {i : Nat} (hl : Nw tl σ H xs) (k : ∀ l H1, H l = none → Same H H1 → H1 l = some (.lst xs) → sp [.ref l] H1 (fun v H2 => tz D (σ.set i (some v)) H2) E0) : tSeq (tAsg (tGd sp (tCons tl tNil)) (gName i)) tz D σ H := hl.at k
theorem inV_ivs (k : Int) (ns : List Int) : inV (.int k) (ivs ns) = decide (k ∈ ns) := by
  induction ns with
  | nil => rfl
  | cons n ns ih =>
    show (eqV (.int n) (.int k) || inV (.int k) (ivs ns)) = decide (k ∈ n :: ns)
    rw [ih]
    have e : eqV (.int n) (.int k) = decide (n = k) := by
      show (n == k) = _
      exact Bool.beq_eq_decide_eq _ _
    rw [e]
    by_cases h : n = k
    · subst h; simp
    · have h2 : ¬ k = n := fun q => h q.symm
      simp [h, h2]
theorem ivs_flat (ns : List Int) : (ivs ns).all flatV = true := by
  rw [List.all_eq_true]
  intro x hx
  obtain ⟨n, _, rfl⟩ := List.mem_map.mp hx
  rfl
theorem gv_inI {k : Int} {ns : List Int} (ha : Pu ta σ H (.int k)) (hb : Ls tb σ H (ivs ns)) : Gv (tOp (rIn K false) ta tb) σ H (.bl (decide (k ∈ ns))) := fun H1 e Q q => ha H1 e _ (hb H1 e _ fun p H2 e2 hp => ⟨p, ivs ns, rfl, .inl (SqL.of hp), rfl, ivs_flat ns, by
  show Q (.bl (inV (.int k) (ivs ns))) H2
  rw [inV_ivs]
  exact q H2 e2⟩)
theorem ls_free {n : Nat} {us : List Tie} {F : List Nat} (hw : WebAt K C H a n us) (hF : Forest us F) (ha : Pu ta σ H (.ref a)) : Ls (tGd (sp_free_ties K C) (tCons ta tNil)) σ H (nvs (free us F)) := fun H1 e Q q =>
  (pa1 ha pa0) H1 e _ ⟨a, n, us, rfl, hw.mono e, fun F2 r H2 hF2 f2 s2 e2 => q r H2 s2 (by rw [← hF2.uniq hF]; exact e2)⟩
/-- [.. for x, y in zip(xs, ys)] -/
theorem nw_lcZ {j1 j2 : Nat} {ws : List Nat} {l m : Addr} {xs ys : List Int} (f : Int → Int → Int) (hx : PuA tr σ H [.ref l, .ref m]) (hxs : SqL K H l (ivs xs)) (hys : SqL K H m (ivs ys)) (hlen : xs.length = ys.length) (hz : xs.length ≤ 10000)
    (hw : ∀ x y, wipe (((wipe σ ws).set j1 (some x)).set j2 (some y)) ws = wipe σ ws) (he : ∀ x y : Int, Pu te (((wipe σ ws).set j1 (some (.int x))).set j2 (some (.int y))) H (.int (f x y))) :
    Nw (tLc (iZip K tr) (gTup K 2 (gCons (gName j1) (gCons (gName j2) gNil))) tYes te ws) σ H (ivs (List.zipWith f xs ys)) := fun H1 e1 Q q =>
  hx H1 e1 _ ⟨l, m, ivs xs, ivs ys, rfl, e1.seq hxs, e1.seq hys, fun Dl hD =>
    lc_it (walk_zip (K := K) (a := l) (b := m) (xs := ivs xs) (ys := ivs ys) (n := xs.length) (by rw [ivs_len, ivs_len]; omega)) (fun i H' => Same H1 H' ∧ H' Dl = some (.lst (ivs (List.zipWith f (xs.take i) (ys.take i))))) ⟨same_new hD, upd_same⟩ (fun i H' _ p => ⟨(e1.trans p.1).seq hxs, (e1.trans p.1).seq hys⟩) (fun i x H2 H3 hi p y => by
      obtain ⟨Tq, x1, x2, rfl, nT, rfl, f1, f2⟩ := y
      obtain ⟨u, hu, rfl⟩ := ivs_of f1
      obtain ⟨v, hv, rfl⟩ := ivs_of f2
      have s3 : Same H2 (upd H2 Tq (.tup [.int u, .int v])) := same_new nT
      refine ⟨Tq, _, rfl, SqT.of upd_same, rfl, _, _, rfl, _, _, rfl, rfl, hw _ _, ?_⟩
      rw [take_next hu, take_next hv]
      refine iteT (B := Same H1 (upd H2 Tq (.tup [.int u, .int v])) ∧ upd H2 Tq (.tup [.int u, .int v]) Dl = some (.lst (ivs (List.zipWith f (xs.take i ++ [u]) (ys.take i ++ [v]))))) ((he u v) _ ((e1.trans p.1).trans s3) _ ⟨_, s3 _ _ p.2, ?_, Same.mut (p.1.trans s3) hD, ?_⟩)
      · rw [ivs_len, List.length_zipWith, List.length_take, List.length_take]
        exact small_lt (by omega)
      · rw [upd_same, List.zipWith_append (by rw [List.length_take, List.length_take, hlen])]
        show some (HO.lst (_ ++ [V.int (f u v)])) = some (HO.lst (List.map V.int _))
        rw [List.map_append]
        rfl) (fun H' p => q Dl H' hD p.1 (by
        have p2 := p.2
        rw [List.take_length, hlen, List.take_length] at p2
        exact p2))⟩
end
/-! 0 web, 1 rungs, 2 spine*, 3 order*, 4 inside, 5 values, 6 tie, 7 k -/
abbrev s_rest_beside : Stmt := topS 63
abbrev N_rest_beside : List Str := ["web", "rungs", "spine", "order", "inside", "values", "tie", "k"]
theorem sc_rest_beside : FnScope N_rest_beside ["web", "rungs"] (defScope s_rest_beside) := ⟨rfl, rfl, rfl, by decide +kernel, rfl, by decide +kernel, by decide +kernel⟩
def sp_rest_beside (K : PySem.W.Frag) (C : Addr) : Sp := fun vs H Q _ => ∃ (a al : Addr) (n : Nat) (ts : List Tie) (rs : List Addr) (L : List Rg), vs = [.ref a, .ref al] ∧ WebAt K C H a n ts ∧ H al = some (.lst (rvs rs)) ∧ RgsAt K H rs L ∧ LadOk ts n [] L ∧ L.length = n ∧
  ∀ fs r H2, TI ts n L L.length fs → H r = none → Same H H2 → H2 r = some (.lst (ivs fs)) → Q (.ref r) H2
theorem take_take_spine {ts : List Tie} {n : Nat} {L : List Rg} (hL : LadOk ts n [] L) (i : Nat) : (spine (L.take i)).length ≤ ts.length := spine_len hL.take
theorem ok_rest_beside (F : Df K mg "rest_beside" ["web", "rungs"] s_rest_beside) (T : Bt mg) (Wc : WebC K C) (G_ties_of : Gd P w K mg base 1 "ties_of" ["rungs"] (sp_ties_of K)) (G_web_of : Gd P w K mg base 3 "web_of" ["web", "some"] (sp_web_of K C)) (G_free_ties : Gd P w K mg base 2 "free_ties" ["web"] (sp_free_ties K C))
    (G_filled : Gd P w K mg base 4 "filled" ["web", "values", "k"] (sp_filled K C)) (G_spread : Gd P w K mg base 1 "spread" ["web", "some", "amounts"] (sp_spread K C)) : Gd P w K mg base 5 "rest_beside" ["web", "rungs"] (sp_rest_beside K C) := by
  refine F.gd sc_rest_beside (fun vs H Q E h => ?_) (fun f cdv A outer s H vs Q E hr h => ?_)
  · obtain ⟨a, al, n, ts, rs, L, rfl, _⟩ := h
    rfl
  · obtain ⟨a, al, n, ts, rs, L, rfl, hw, hal, hRs, hL, hLn, kk⟩ := h
    have hr_ties_of := hr.mono (j := 1) (by decide)
    have hr_web_of := hr.mono (j := 3) (by decide)
    have hr_free_ties := hr.mono (j := 2) (by decide)
    have hr_filled := hr
    have hr_spread := hr.mono (j := 1) (by decide)
    refine ⟨_, (pss_cons (ps_set (i := 2) sc_rest_beside.nd rfl (Or.inr rfl) (pe_gd G_ties_of hr_ties_of (by rfl) (pa_cons (pv 1) pa_nil)))
      (pss_cons (ps_set (i := 3) sc_rest_beside.nd rfl (Or.inr rfl) (pe_op op_cat (pv 2) (pe_lc (own := [("tie", 6)]) (g := gName 6) (by rfl) sc_rest_beside.nd (pi_range1 rfl T.range (pa_cons (pe_callB (w_len K) (by rfl) T.len PySem.boot_len (pa_cons (w_fld K (pv 0)) pa_nil)) pa_nil)) (blkOk_by (own := [("tie", 6)]) (N := N_rest_beside) (sc := defScope s_rest_beside) (by decide +kernel)) (fun _ _ _ _ _ => (pg_name (i := 6) sc_rest_beside.nd rfl (Or.inl rfl))) (fun _ _ _ _ _ => pts_one (pt_cmpR (w_nin K) (pv 6) (pv 2) (by rfl))) (fun _ _ _ _ _ => (pv 6)))))
      (pss_cons (ps_set (i := 4) sc_rest_beside.nd rfl (Or.inl rfl) (pe_gd G_web_of hr_web_of (by rfl) (pa_cons (pv 0) (pa_cons (pv 3) pa_nil))))
      (pss_cons (ps_setLc (i := 5) (own := [("k", 7)]) (g := gName 7)  rfl sc_rest_beside.nd rfl rfl (sw_true rfl rfl rfl (by decide +kernel)) (w_piL K (pe_gd G_free_ties hr_free_ties (by rfl) (pa_cons (pv 4) pa_nil))) (blkOk_by (own := [("k", 7)]) (N := N_rest_beside) (sc := defScope s_rest_beside) (by decide +kernel)) (fun _ _ _ _ _ => (pg_name (i := 7) sc_rest_beside.nd rfl (Or.inl rfl))) (fun _ _ _ _ _ => pts_nil) (fun _ _ _ _ _ => (pe_callTy call_int1 (by rfl) T.int (by decide +kernel) (pa_cons (pe_cmpR (w_nin K) (pe_ix (w_ixL K) (pv 3) (pv 7) (fun _ _ => rfl)) (pv 2) (by rfl)) pa_nil))))
      (pss_one (ps_ret (pe_gd G_spread hr_spread (by rfl) (pa_cons (pv 0) (pa_cons (pv 3) (pa_cons (pe_gd G_filled hr_filled (by rfl) (pa_cons (pv 4) (pa_cons (pv 5) (pa_cons pe_int pa_nil)))) pa_nil)))))))))), ?_⟩
    have hV := hw.ok
    have h40 := hV.len
    have hsl := spine_len hL
    have hsm : ∀ k ∈ spine L, k < ts.length := fun k hk => (spine_mem hL hk).1
    refine q_gd (pa1 (pu_var rfl) pa0) ⟨al, rs, L, rfl, hal, hRs, fun i _ => by have := take_take_spine hL i; omega, fun so H1 f1 s1 e1 => ?_⟩
    have hol : (orderL ts (spine L)).length ≤ ts.length := nodup_len _ _ (orderL_nodup (spine_nodup hL)) fun k hk => (mem_orderL hsm).mp hk
    refine q_nw ((nw_cat (Pu.ls (pu_var rfl) e1) (nw_lcR (n := ts.length) (fun k => !decide (k ∈ spine L)) (fun k => .int (k : Int)) (pa1 (pu_lenT Wc (hw.mono s1) (pu_var rfl)) pa0) (by omega) (fun _ => rfl) (fun k _ => (pt_test (pu_ninL (SqL.of e1) (pu_var rfl) (pu_var rfl))).gt) (fun k _ _ => (pu_var rfl).gv)).ls (by
      rw [nvs_len, List.length_map]
      have := List.length_filter_le (fun k => !decide (k ∈ spine L)) (List.range ts.length)
      rw [List.length_range] at this
      omega)).is (ys := nvs (orderL ts (spine L))) (by unfold orderL; rw [nvs_app])) fun oo H2 f2 s2 e2 => ?_
    have s12 := s1.trans s2
    refine q_gd (pa1 (pu_var rfl) (pa1 (pu_var rfl) pa0)) ⟨a, oo, n, ts, _, rfl, hw.mono s12, e2, fun k hk => (mem_orderL hsm).mp hk, by omega, fun x H3 f3 s3 hx => ?_⟩
    obtain ⟨F2, hF2⟩ := forest_ex hx.ok.ends
    have s13 := s12.trans s3
    have hfl : (free (sub ts (orderL ts (spine L))) F2).length ≤ 40 := by
      have h1 := nodup_len _ _ ((free_rising (sub ts (orderL ts (spine L))) F2).imp fun h => Nat.ne_of_lt h) fun k hk => (mem_free.mp hk).1
      rw [sub_len] at h1
      omega
    have hgo : ∀ k ∈ free (sub ts (orderL ts (spine L))) F2, (orderL ts (spine L))[k]? = some ((orderL ts (spine L)).getD k 0) := fun k hk => by
      have := (mem_free.mp hk).1
      rw [sub_len] at this
      exact getD_get this
    have e23 := s3 _ _ e2
    have e13 := s3 _ _ (s2 _ _ e1)
    refine q_nw (xs := ivs ((free (sub ts (orderL ts (spine L))) F2).map fun k => if (orderL ts (spine L)).getD k 0 ∈ spine L then 0 else 1)) ((nw_lcL (K := K) (fun _ => true) (fun v => match v with | .int z => .int (if (orderL ts (spine L)).getD z.toNat 0 ∈ spine L then 0 else 1) | v => v) (ls_free hx hF2 (pu_var rfl)) (by rw [nvs_len]; omega) (fun _ => rfl) (fun v hv => pt_yes.gt) (fun v hv _ => ?_)).is ?_) fun uo H4 f4 s4 e4 => ?_
    · obtain ⟨k, hk, rfl⟩ := List.mem_map.mp hv
      refine (gv_intB (pu_ninL (SqL.of e13) (pu_ixN (SqL.of e23) (pu_var rfl) (pu_var rfl) (hgo k hk)) (pu_var rfl)).gv).is ?_
      show V.int (if (!decide ((orderL ts (spine L)).getD k 0 ∈ spine L)) = true then 1 else 0) = V.int (if (orderL ts (spine L)).getD k 0 ∈ spine L then 0 else 1)
      by_cases c : (orderL ts (spine L)).getD k 0 ∈ spine L
      · rw [if_pos c, decide_eq_true c]; rfl
      · rw [if_neg c, decide_eq_false c]; rfl
    · rw [filter_all _ _ fun _ _ => rfl]
      show ((free (sub ts (orderL ts (spine L))) F2).map fun n : Nat => V.int (n : Int)).map _ = ((free (sub ts (orderL ts (spine L))) F2).map _).map V.int
      rw [List.map_map, List.map_map]
      rfl
    · have s14 := s13.trans s4
      refine s_ret12gd (pu_var rfl) (pu_var rfl) (pa1 (pu_var rfl) (pa1 (pu_var rfl) (pa1 pu_c pa0))) ⟨x, uo, n, _, F2, _, rfl, hx.mono s4, SqL.of e4, hF2, by rw [List.length_map], fun as r H5 R hfr f5 s5 e5 => ?_⟩
      have s15 := s14.trans s5
      refine ⟨a, oo, r, n, ts, orderL ts (spine L), as, rfl, hw.mono s15, SqL.of (s5 _ _ (s4 _ _ e23)), SqL.of e5, by rw [R.len, sub_len], fun k hk => (mem_orderL hsm).mp hk, fun r2 H6 f6 s6 e6 => ?_⟩
      refine kk _ r2 H6 (beside hV.ends hL (lad_all hL hLn) hF2 R (by rw [List.length_map]) (fun i k hi => by rw [List.getElem?_map, hi]; rfl) hfr) (s15.free f6) (s15.trans s6) e6
/-! 0 web, 1 rungs, 2 number, 3 some, 4 inside -/
abbrev s_ring_at : Stmt := topS 64
abbrev N_ring_at : List Str := ["web", "rungs", "number", "some", "inside"]
theorem sc_ring_at : FnScope N_ring_at ["web", "rungs", "number"] (defScope s_ring_at) := ⟨rfl, rfl, rfl, by decide +kernel, rfl, by decide +kernel, by decide +kernel⟩
def sp_ring_at (K : PySem.W.Frag) (C : Addr) : Sp := fun vs H Q _ => ∃ (a al : Addr) (n i l1 l2 : Nat) (ts : List Tie) (rs : List Addr) (L : List Rg) (g : Rg), vs = [.ref a, .ref al, .int (i : Int)] ∧ WebAt K C H a n ts ∧ H al = some (.lst (rvs rs)) ∧ RgsAt K H rs L ∧ LadOk ts n [] L ∧ L[i]? = some g ∧ g.ln = [l1, l2] ∧
  ∀ gs r H2, RingAt ts L i l1 l2 gs → H r = none → Same H H2 → H2 r = some (.lst (ivs gs)) → Q (.ref r) H2
theorem RgsAt.take {H : Hp} {rs : List Addr} {L : List Rg} (h : RgsAt K H rs L) (i : Nat) : RgsAt K H (rs.take i) (L.take i) := by
  refine ⟨by rw [List.length_take, List.length_take, h.1], fun j r g a b => ?_⟩
  rw [List.getElem?_take] at a b
  split at a
  · rw [if_pos (by assumption)] at b
    exact h.2 j r g a b
  · cases a
theorem ok_ring_at (F : Df K mg "ring_at" ["web", "rungs", "number"] s_ring_at) (T : Bt mg) (Wc : WebC K C) (G_ties_of : Gd P w K mg base 1 "ties_of" ["rungs"] (sp_ties_of K)) (G_web_of : Gd P w K mg base 3 "web_of" ["web", "some"] (sp_web_of K C)) (G_ring_of : Gd P w K mg base 3 "ring_of" ["web", "tie"] (sp_ring_of K C))
    (G_spread : Gd P w K mg base 1 "spread" ["web", "some", "amounts"] (sp_spread K C)) : Gd P w K mg base 4 "ring_at" ["web", "rungs", "number"] (sp_ring_at K C) := by
  refine F.gd sc_ring_at (fun vs H Q E h => ?_) (fun f cdv A outer s H vs Q E hr h => ?_)
  · obtain ⟨a, al, n, i, l1, l2, ts, rs, L, g, rfl, _⟩ := h
    rfl
  · obtain ⟨a, al, n, i, l1, l2, ts, rs, L, g, rfl, hw, hal, hRs, hL, hg, hln, kk⟩ := h
    have hr_ties_of := hr.mono (j := 1) (by decide)
    have hr_web_of := hr
    have hr_ring_of := hr
    have hr_spread := hr.mono (j := 1) (by decide)
    refine ⟨_, (pss_cons (ps_set (i := 3) sc_ring_at.nd rfl (Or.inl rfl) (pe_gd G_ties_of hr_ties_of (by rfl) (pa_cons (pe_slice (w_slL K) (pv 1) po_none (po_some (pe_op op_add (pv 2) pe_int))) pa_nil)))
      (pss_cons (ps_set (i := 4) sc_ring_at.nd rfl (Or.inl rfl) (pe_gd G_web_of hr_web_of (by rfl) (pa_cons (pv 0) (pa_cons (pv 3) pa_nil))))
      (pss_one (ps_ret (pe_gd G_spread hr_spread (by rfl) (pa_cons (pv 0) (pa_cons (pv 3) (pa_cons (pe_gd G_ring_of hr_ring_of (by rfl) (pa_cons (pv 4) (pa_cons (pe_op op_sub (pe_callB (w_len K) (by rfl) T.len PySem.boot_len (pa_cons (pv 3) pa_nil)) pe_int) pa_nil))) pa_nil)))))))), ?_⟩
    have hV := hw.ok
    have h40 := hV.len
    obtain ⟨p1, p2, p3⟩ := ring_pre hL hg hln
    have hsl := spine_len (hL.take (i := i + 1))
    have hsm : ∀ k ∈ spine (L.take (i + 1)), k < ts.length := fun k hk => (spine_mem (hL.take (i := i + 1)) hk).1
    refine q_gdNw1 ((nw_take (j := i + 1) (Pu.ls (pu_var rfl) hal) ((pu_I0 (pu_var rfl) pu_c).is (by rfl))).is (ys := rvs (rs.take (i + 1))) List.map_take.symm) fun tl H1 f1 s1 e1 => ⟨tl, _, L.take (i + 1), rfl, e1, (hRs.mono s1).take _, fun j _ => by
      have := take_take_spine (hL.take (i := i + 1)) j
      omega, fun so H2 f2 s2 e2 => ?_⟩
    have s12 := s1.trans s2
    refine q_gd (pa1 (pu_var rfl) (pa1 (pu_var rfl) pa0)) ⟨a, so, n, ts, _, rfl, hw.mono s12, e2, hsm, by omega, fun x H3 f3 s3 hx => ?_⟩
    have s13 := s12.trans s3
    have e23 := s3 _ _ e2
    have hlen2 : (spine (L.take (i + 1))).length = (spine (L.take i) ++ g.ev).length + 2 := by rw [← p1, sub_len]
    have tl1 : ∀ {σ : St}, σ[3]? = some (some (.ref so)) → Pu (tOp (rI0 fun i j => .int (i - j)) (tCB (rLen K) (tCons (tVar 3) tNil)) (tC (.int 1))) σ H3 (.int (((spine (L.take i) ++ g.ev).length + 1 : Nat) : Int)) := fun h => (pu_I0 (pu_lenN (SqL.of e23) (pu_var h)) pu_c).is (congrArg V.int (by omega))
    refine s_ret12gd (pu_var rfl) (pu_var rfl) (pa1 (pu_var rfl) (pa1 (tl1 rfl) pa0)) ⟨x, n, _, _, rfl, hx, by omega, by rw [p2]; exact p3, fun fl r H4 hfl hgz h1 f4 s4 e4 => ?_⟩
    have s14 := s13.trans s4
    refine ⟨a, so, r, n, ts, spine (L.take (i + 1)), fl, rfl, hw.mono s14, SqL.of (s4 _ _ e23), SqL.of e4, by rw [hfl, sub_len], hsm, fun r2 H5 f5 s5 e5 => ?_⟩
    exact kk _ r2 H5 (ring_post hV.ends hL hg hln hfl hgz h1) (s14.free f5) (s14.trans s5) e5
end
end Bz

set_option Elab.async false
set_option linter.all false
set_option maxRecDepth 100000
set_option maxHeartbeats 1000000
namespace Bz
open PySem PySem.Spec L2
section
variable {P : Program} {w : World} {K : PySem.W.Frag} {mg : Str → Option Value} {base : Heap} {C : Addr}
/-! 0 rests, 1 ring, 2 turn*, 3 links, 4 found*, 5 rest, 6 amount, 7 tie -/
abbrev s_ringed : Stmt := topS 65
abbrev N_ringed : List Str := ["rests", "ring", "turn", "links", "found", "rest", "amount", "tie"]
theorem sc_ringed : FnScope N_ringed ["rests", "ring", "turn", "links"] (defScope s_ringed) := ⟨rfl, rfl, rfl, by decide +kernel, rfl, by decide +kernel, by decide +kernel⟩
def spNever : Sp := fun _ _ _ _ => False
theorem ok_never (F : Df K mg "ringed" ["rests", "ring", "turn", "links"] s_ringed) : Gd P w K mg base 1 "ringed" ["rests", "ring", "turn", "links"] spNever :=
  F.gd sc_ringed (fun vs H Q E h => h.elim) (fun f cdv A outer s H vs Q E hr h => h.elim)
def sp_ringed (K : PySem.W.Frag) (c : Int) : Sp := fun vs H Q _ => ∃ (rl gl l : Addr) (fs gs : List Int) (ks : List Nat), vs = [.ref rl, .ref gl, .int c, .ref l] ∧ SqL K H rl (ivs fs) ∧ SqL K H gl (ivs gs) ∧ H l = some (.lst (nvs ks)) ∧ fs.length = gs.length ∧ fs.length ≤ 1000 ∧ ks.length ≤ 1000 ∧ (∀ k ∈ ks, k < fs.length) ∧
  ∀ r H2, H r = none → Same H H2 → H2 r = some (.lst (ivs (if c = 1 ∧ 0 ∈ ks.map (fun k => (comb 1 fs gs).getD k 0) then comb 2 fs gs else comb c fs gs))) → Q (.ref r) H2
theorem ok_ringed2 (F : Df K mg "ringed" ["rests", "ring", "turn", "links"] s_ringed) (T : Bt mg) (G_ringed : Gd P w K mg base 1 "ringed" ["rests", "ring", "turn", "links"] spNever) : Gd P w K mg base 2 "ringed" ["rests", "ring", "turn", "links"] (sp_ringed K 2) := by
  refine F.gd sc_ringed (fun vs H Q E h => ?_) (fun f cdv A outer s H vs Q E hr h => ?_)
  · obtain ⟨rl, gl, l, fs, gs, ks, rfl, _⟩ := h
    rfl
  · obtain ⟨rl, gl, l, fs, gs, ks, rfl, hf, hg, hk, hlen, hz, hkz, hkl, kk⟩ := h
    have hr_ringed := hr
    refine ⟨_, (pss_cons (ps_set (i := 4) sc_ringed.nd rfl (Or.inr rfl) (pe_lc (own := [("rest", 5), ("amount", 6)]) (g := gTup K 2 (gCons (gName 5) (gCons (gName 6) (gNil)))) (by rfl) sc_ringed.nd (w_zip K T.zip (pa_cons (pv 0) (pa_cons (pv 1) pa_nil))) (blkOk_by (own := [("rest", 5), ("amount", 6)]) (N := N_ringed) (sc := defScope s_ringed) (by decide +kernel)) (fun _ _ _ _ _ => (w_pgTup K rfl (pgs_cons (pg_name (i := 5) sc_ringed.nd rfl (Or.inl rfl)) (pgs_cons (pg_name (i := 6) sc_ringed.nd rfl (Or.inl rfl)) pgs_nil)))) (fun _ _ _ _ _ => pts_nil) (fun _ _ _ _ _ => (pe_op op_mod (pe_op op_add (pv 5) (pe_op op_mul (pv 2) (pv 6))) pe_int))))
      (pss_cons (ps_if (PW.pt (pw_and (pt_cmpR op_eq (pv 2) pe_int (nomark _)) (pw_and1 (pt_cmpR (w_in K) pe_int (pe_lc (own := [("tie", 7)]) (g := gName 7) (by rfl) sc_ringed.nd (w_piL K (pv 3)) (blkOk_by (own := [("tie", 7)]) (N := N_ringed) (sc := defScope s_ringed) (by decide +kernel)) (fun _ _ _ _ _ => (pg_name (i := 7) sc_ringed.nd rfl (Or.inl rfl))) (fun _ _ _ _ _ => pts_nil) (fun _ _ _ _ _ => (pe_ix (w_ixL K) (pv 4) (pv 7) (fun _ _ => rfl)))) (by rfl)))))
        (pss_one (ps_ret (pe_gd G_ringed hr_ringed (by rfl) (pa_cons (pv 0) (pa_cons (pv 1) (pa_cons pe_int (pa_cons (pv 3) pa_nil)))))))
        pss_nil)
      (pss_one (ps_ret (pv 4))))), ?_⟩
    refine q_nw (nw_lcZ (fun r a => (r + 2 * a) % 3) (pa1 (pu_var rfl) (pa1 (pu_var rfl) pa0)) hf hg hlen (by omega) (fun _ _ => rfl) (fun x y => pu_I (pu_I0 (pu_var rfl) (pu_I (pu_var rfl) (pu_var rfl) (.inl (by decide)))) pu_c (by decide))) fun fo H1 f1 s1 e1 => ?_
    refine q_when (b := false) ((pt_andP (c := false) (pt_test (pu_eqI (pu_var rfl) pu_c)) fun h => absurd h (by decide)).is (by decide)) (fun h => by cases h) (fun _ => ?_)
    refine s_ret (pu_var rfl) (kk fo H1 f1 s1 ?_)
    rw [if_neg (fun h => absurd h.1 (by decide))]
    exact e1
theorem ok_ringed1 (F : Df K mg "ringed" ["rests", "ring", "turn", "links"] s_ringed) (T : Bt mg) (G_ringed : Gd P w K mg base 2 "ringed" ["rests", "ring", "turn", "links"] (sp_ringed K 2)) : Gd P w K mg base 3 "ringed" ["rests", "ring", "turn", "links"] (sp_ringed K 1) := by
  refine F.gd sc_ringed (fun vs H Q E h => ?_) (fun f cdv A outer s H vs Q E hr h => ?_)
  · obtain ⟨rl, gl, l, fs, gs, ks, rfl, _⟩ := h
    rfl
  · obtain ⟨rl, gl, l, fs, gs, ks, rfl, hf, hg, hk, hlen, hz, hkz, hkl, kk⟩ := h
    have hr_ringed := hr
    refine ⟨_, (pss_cons (ps_set (i := 4) sc_ringed.nd rfl (Or.inr rfl) (pe_lc (own := [("rest", 5), ("amount", 6)]) (g := gTup K 2 (gCons (gName 5) (gCons (gName 6) (gNil)))) (by rfl) sc_ringed.nd (w_zip K T.zip (pa_cons (pv 0) (pa_cons (pv 1) pa_nil))) (blkOk_by (own := [("rest", 5), ("amount", 6)]) (N := N_ringed) (sc := defScope s_ringed) (by decide +kernel)) (fun _ _ _ _ _ => (w_pgTup K rfl (pgs_cons (pg_name (i := 5) sc_ringed.nd rfl (Or.inl rfl)) (pgs_cons (pg_name (i := 6) sc_ringed.nd rfl (Or.inl rfl)) pgs_nil)))) (fun _ _ _ _ _ => pts_nil) (fun _ _ _ _ _ => (pe_op op_mod (pe_op op_add (pv 5) (pe_op op_mul (pv 2) (pv 6))) pe_int))))
      (pss_cons (ps_if (PW.pt (pw_and (pt_cmpR op_eq (pv 2) pe_int (nomark _)) (pw_and1 (pt_cmpR (w_in K) pe_int (pe_lc (own := [("tie", 7)]) (g := gName 7) (by rfl) sc_ringed.nd (w_piL K (pv 3)) (blkOk_by (own := [("tie", 7)]) (N := N_ringed) (sc := defScope s_ringed) (by decide +kernel)) (fun _ _ _ _ _ => (pg_name (i := 7) sc_ringed.nd rfl (Or.inl rfl))) (fun _ _ _ _ _ => pts_nil) (fun _ _ _ _ _ => (pe_ix (w_ixL K) (pv 4) (pv 7) (fun _ _ => rfl)))) (by rfl)))))
        (pss_one (ps_ret (pe_gd G_ringed hr_ringed (by rfl) (pa_cons (pv 0) (pa_cons (pv 1) (pa_cons pe_int (pa_cons (pv 3) pa_nil)))))))
        pss_nil)
      (pss_one (ps_ret (pv 4))))), ?_⟩
    refine q_nw (nw_lcZ (fun r a => (r + 1 * a) % 3) (pa1 (pu_var rfl) (pa1 (pu_var rfl) pa0)) hf hg hlen (by omega) (fun _ _ => rfl) (fun x y => pu_I (pu_I0 (pu_var rfl) (pu_I (pu_var rfl) (pu_var rfl) (.inl (by decide)))) pu_c (by decide))) fun fo H1 f1 s1 e1 => ?_
    have e1' : H1 fo = some (.lst (ivs (comb 1 fs gs))) := e1
    have hcl : (comb 1 fs gs).length = fs.length := comb_len hlen
    have lc : Nw (tLc (iList K (tVar 3)) (gName 7) tYes (tOp (rIxL K) (tVar 4) (tVar 7)) [7]) [some (V.ref rl), some (V.ref gl), some (V.int 1), some (V.ref l), some (V.ref fo), none, none, none] H1 (ivs (ks.map fun k => (comb 1 fs gs).getD k 0)) := by
      refine (nw_lcL (K := K) (xs := nvs ks) (fun _ => true) (fun v => match v with | .int z => .int ((comb 1 fs gs).getD z.toNat 0) | v => v) (Pu.ls (pu_var rfl) (s1 _ _ hk)) (by rw [nvs_len]; omega) (fun _ => rfl) (fun v hv => pt_yes.gt) (fun v hv _ => ?_)).is ?_
      · obtain ⟨k, hk2, rfl⟩ := List.mem_map.mp hv
        exact (pu_ixI (SqL.of e1') (pu_var rfl) (pu_var rfl) (get_getD (by rw [hcl]; exact hkl k hk2))).gv
      · rw [filter_all _ _ fun _ _ => rfl]
        show (ks.map fun n : Nat => V.int (n : Int)).map _ = (ks.map _).map V.int
        rw [List.map_map, List.map_map]
        rfl
    refine q_whenG (gt_and (gt_test (pu_eqI (pu_var rfl) pu_c).gv) fun _ => gt_test (gv_inI pu_c lc.ls)) (fun hb H2 s2 => ?_) (fun hb H2 s2 => ?_)
    · have hb2 : 0 ∈ ks.map fun k => (comb 1 fs gs).getD k 0 := by simpa using hb
      refine s_gdRet (pa1 (pu_var rfl) (pa1 (pu_var rfl) (pa1 pu_c (pa1 (pu_var rfl) pa0)))) ⟨rl, gl, l, fs, gs, ks, rfl, (s1.trans s2).seq hf, (s1.trans s2).seq hg, (s1.trans s2) _ _ hk, hlen, hz, hkz, hkl, fun r H3 f3 s3 e3 => ?_⟩
      refine kk r H3 ((s1.trans s2).free f3) ((s1.trans s2).trans s3) ?_
      rw [if_pos ⟨rfl, hb2⟩]
      rw [if_neg (fun h => absurd h.1 (by decide))] at e3
      exact e3
    · have hb2 : ¬ 0 ∈ ks.map fun k => (comb 1 fs gs).getD k 0 := by simpa using hb
      refine s_ret (pu_var rfl) (kk fo H2 f1 (s1.trans s2) ?_)
      rw [if_neg (fun h => hb2 h.2)]
      exact s2 _ _ e1'
/-! 0 web, 1 rungs, 2 found*, 3 number, 4 links, 5 ring, 6 tie -/
abbrev s_thirds : Stmt := topS 66
abbrev N_thirds : List Str := ["web", "rungs", "found", "number", "links", "ring", "tie"]
theorem sc_thirds : FnScope N_thirds ["web", "rungs"] (defScope s_thirds) := ⟨rfl, rfl, rfl, by decide +kernel, rfl, by decide +kernel, by decide +kernel⟩
/-- what thirds makes of a good ladder -/
structure Third (ts : List Tie) (n : Nat) (L : List Rg) (fs : List Int) : Prop where
  rf : RestFlow ts n fs
  nz : ∀ k, k < ts.length → (∀ g ∈ L, k ∉ g.ev) → fs[k]? ≠ some 0
theorem TI.third {ts : List Tie} {n : Nat} {L : List Rg} {fs : List Int} (T : TI ts n L 0 fs) : Third ts n L fs := by
  refine ⟨T.rf, fun k hk he => ?_⟩
  by_cases c : k ∈ spine L
  · obtain ⟨g, hg, hk2⟩ := List.mem_flatMap.mp c
    obtain ⟨j, hj⟩ := List.mem_iff_getElem?.mp hg
    rcases List.mem_append.mp hk2 with z | z
    · exact absurd z (he g hg)
    · exact T.lk j g k (Nat.zero_le _) hj z
  · exact T.out k hk c
theorem TI.stay {ts : List Tie} {n : Nat} {L : List Rg} {i : Nat} {fs : List Int} {g : Rg} (T : TI ts n L (i + 1) fs) (hg : L[i]? = some g) (h : ∀ k ∈ g.ln, fs[k]? ≠ some 0) : TI ts n L i fs := by
  refine ⟨T.rf, T.out, fun j g2 k hj hg2 hk => ?_⟩
  by_cases e : j = i
  · subst e
    rw [hg] at hg2
    rw [← Option.some.inj hg2] at hk
    exact h k hk
  · exact T.lk j g2 k (by omega) hg2 hk
theorem turn_done {ts : List Tie} {n : Nat} {L : List Rg} {i : Nat} {fs gs : List Int} {g : Rg} {l1 l2 : Nat} {k0 : Nat} (hL : LadOk ts n [] L) (T : TI ts n L (i + 1) fs) (hg : L[i]? = some g) (hl : g.ln = [l1, l2]) (G : RingAt ts L i l1 l2 gs) (h1 : l1 < ts.length) (h2 : l2 < ts.length) (hk0 : k0 ∈ g.ln) (hz : fs[k0]? = some 0) :
    TI ts n L i (if (1 : Int) = 1 ∧ 0 ∈ g.ln.map (fun k => (comb 1 fs gs).getD k 0) then comb 2 fs gs else comb 1 fs gs) := by
  obtain ⟨a, ha, ra⟩ := T.rest h1
  obtain ⟨b, hb, rb⟩ := T.rest h2
  have hlen : fs.length = gs.length := by rw [T.rf.len, G.len]
  have hcl : (comb 1 fs gs).length = ts.length := by rw [comb_len hlen]; exact T.rf.len
  have hab : a = 0 ∨ b = 0 := by
    rw [hl] at hk0
    rcases List.mem_cons.mp hk0 with q | q
    · left; rw [q, ha] at hz; exact Option.some.inj hz
    · right; rw [List.mem_singleton.mp q, hb] at hz; exact Option.some.inj hz
  obtain ⟨u, hu, hu1⟩ : ∃ u, gs[l1]? = some u ∧ (u = 1 ∨ u = -1) := by
    rcases G.one with q | q
    · exact ⟨_, q, .inl rfl⟩
    · exact ⟨_, q, .inr rfl⟩
  have g1 := get_getD (a := comb 1 fs gs) (k := l1) (by omega)
  have g2 := get_getD (a := comb 1 fs gs) (k := l2) (by omega)
  by_cases c : 0 ∈ g.ln.map fun k => (comb 1 fs gs).getD k 0
  · rw [if_pos ⟨rfl, c⟩]
    refine T.next hL hg hl G fun k hk => ?_
    have h9 := turns ha hb ra rb hu hu1 G.two hab (by
      rw [hl] at c
      rcases List.mem_cons.mp c with q | q
      · left; rw [g1]; exact congrArg some q.symm
      · right
        have q2 : 0 = (comb 1 fs gs).getD l2 0 := List.mem_singleton.mp q
        rw [g2]; exact congrArg some q2.symm)
    rw [hl] at hk
    rcases List.mem_cons.mp hk with q | q
    · rw [q]; exact h9.1
    · rw [List.mem_singleton.mp q]; exact h9.2
  · rw [if_neg fun h => c h.2]
    refine T.next hL hg hl G fun k hk q => c ?_
    refine List.mem_map.mpr ⟨k, hk, ?_⟩
    rw [hl] at hk
    rcases List.mem_cons.mp hk with e | e
    · rw [e] at q ⊢; rw [g1] at q; exact Option.some.inj q
    · rw [List.mem_singleton.mp e] at q ⊢; rw [g2] at q; exact Option.some.inj q
def sp_thirds (K : PySem.W.Frag) (C : Addr) : Sp := fun vs H Q _ => ∃ (a al : Addr) (n : Nat) (ts : List Tie) (rs : List Addr) (L : List Rg), vs = [.ref a, .ref al] ∧ WebAt K C H a n ts ∧ ts.length ≤ 20 ∧ H al = some (.lst (rvs rs)) ∧ RgsAt K H rs L ∧ LadOk ts n [] L ∧ L.length = n ∧ lGood ts n [] L = true ∧
  ∀ fs r H2, Third ts n L fs → H r = none → Same H H2 → H2 r = some (.lst (ivs fs)) → Q (.ref r) H2
section
variable {σ : St} {H : Hp} {D : Ends} {tz tu : TS} {ta : TE} {n : Nat}
theorem q_forRevR {j : Nat} (h : Pu ta σ H (.int (n : Int))) (hn : n ≤ 100000) (Pv : Nat → St → Hp → Prop) (h0 : Pv n σ H)
    (hs : ∀ (i : Nat) σ' H', i < n → Pv (i + 1) σ' H' → tu { D with nx := Pv i, ct := Pv i, bk := tz D } (σ'.set j (some (.int (i : Int)))) H') (hd : ∀ σ' H', Pv 0 σ' H' → tz D σ' H') : tSeq (tFor (iRevR (tRg1 ta)) (gName j) tu) tz D σ H := by
  refine h.at ⟨(n : Int), rfl, by decide, by decide, by omega, by omega, ?_⟩
  have e : ((n : Int) - 0).toNat = n := by omega
  rw [e]
  refine for_it walk_rangeC (fun i σ' H' => Pv (n - i) σ' H') h0 (fun _ _ _ _ _ => trivial) (fun i x σ' H1 H2 hi p y => ?_) (fun σ' H' p => hd σ' H' (by rw [Nat.sub_self] at p; exact p))
  obtain ⟨eH, ex⟩ := y
  subst eH
  obtain ⟨m, hm⟩ : ∃ m, n - i = m + 1 := ⟨n - i - 1, by omega⟩
  rw [hm] at p
  have hm2 : n - (i + 1) = m := by omega
  have ex2 : x = .int (m : Int) := by
    rw [ex]
    show V.int _ = V.int _
    congr 1
    omega
  subst ex2
  rw [hm2]
  exact hs m σ' _ (by omega) p
end
theorem ok_thirds (F : Df K mg "thirds" ["web", "rungs"] s_thirds) (T : Bt mg) (Wc : WebC K C) (G_is_ladder : Gd P w K mg base 6 "is_ladder" ["web", "rungs"] (sp_is_ladder K C)) (G_rest_beside : Gd P w K mg base 5 "rest_beside" ["web", "rungs"] (sp_rest_beside K C))
    (G_ring_at : Gd P w K mg base 4 "ring_at" ["web", "rungs", "number"] (sp_ring_at K C)) (G_ringed : Gd P w K mg base 3 "ringed" ["rests", "ring", "turn", "links"] (sp_ringed K 1)) : Gd P w K mg base 7 "thirds" ["web", "rungs"] (sp_thirds K C) := by
  refine F.gd sc_thirds (fun vs H Q E h => ?_) (fun f cdv A outer s H vs Q E hr h => ?_)
  · obtain ⟨a, al, n, ts, rs, L, rfl, _⟩ := h
    rfl
  · obtain ⟨a, al, n, ts, rs, L, rfl, hw, h14, hal, hRs, hL, hLn, hG, kk⟩ := h
    have hr_is_ladder := hr
    have hr_rest_beside := hr.mono (j := 5) (by decide)
    have hr_ring_at := hr.mono (j := 4) (by decide)
    have hr_ringed := hr.mono (j := 3) (by decide)
    refine ⟨_, (pss_cons (ps_if (pt_not (pt_val (pe_gd G_is_ladder hr_is_ladder (by rfl) (pa_cons (pv 0) (pa_cons (pv 1) pa_nil)))))
        (pss_one ps_never)
        pss_nil)
      (pss_cons (ps_set (i := 2) sc_thirds.nd rfl (Or.inr rfl) (pe_gd G_rest_beside hr_rest_beside (by rfl) (pa_cons (pv 0) (pa_cons (pv 1) pa_nil))))
      (pss_cons (ps_for PassesOwn.never rfl (pi_revR rfl T.reversed (prg_1 rfl T.range (pe_callB (w_len K) (by rfl) T.len PySem.boot_len (pa_cons (pv 1) pa_nil)))) (pg_name (i := 3) sc_thirds.nd rfl (Or.inl rfl))
        (pss_cons (ps_set (i := 4) sc_thirds.nd rfl (Or.inl rfl) (pe_ix (w_ixT K) (pe_ix (w_ixL K) (pv 1) (pv 3) (fun _ _ => rfl)) pe_int (fun _ _ => rfl)))
        (pss_one (ps_if (pt_truth (pe_lc (own := [("tie", 6)]) (g := gName 6) (by rfl) sc_thirds.nd (w_piL K (pv 4)) (blkOk_by (own := [("tie", 6)]) (N := N_thirds) (sc := defScope s_thirds) (by decide +kernel)) (fun _ _ _ _ _ => (pg_name (i := 6) sc_thirds.nd rfl (Or.inl rfl))) (fun _ _ _ _ _ => pts_one (pt_cmpR op_eq (pe_ix (w_ixL K) (pv 2) (pv 6) (fun _ _ => rfl)) pe_int (nomark _))) (fun _ _ _ _ _ => (pv 6))) (by intro _; rfl))
          (pss_cons (ps_set (i := 5) sc_thirds.nd rfl (Or.inl rfl) (pe_gd G_ring_at hr_ring_at (by rfl) (pa_cons (pv 0) (pa_cons (pv 1) (pa_cons (pv 3) pa_nil)))))
          (pss_one (ps_set (i := 2) sc_thirds.nd rfl (Or.inr rfl) (pe_gd G_ringed hr_ringed (by rfl) (pa_cons (pv 2) (pa_cons (pv 5) (pa_cons pe_int (pa_cons (pv 4) pa_nil))))))))
          pss_nil))))
      (pss_one (ps_ret (pv 2)))))), ?_⟩
    have hV := hw.ok
    have h20 := hV.most
    refine q_whenG (b := false) ((gt_not (gt_test (gv_gd (pa1 (pu_var rfl) (pa1 (pu_var rfl) pa0)) fun H1 e Q2 k => ⟨a, al, n, ts, rs, L, rfl, hw.mono e, h14, e _ _ hal, hRs.mono e, hL, hLn, k⟩))).is (by rw [hG]; rfl)) (fun h => by cases h) (fun _ H1 s1 => ?_)
    refine q_gd (pa1 (pu_var rfl) (pa1 (pu_var rfl) pa0)) ⟨a, al, n, ts, rs, L, rfl, hw.mono s1, s1 _ _ hal, hRs.mono s1, hL, hLn, fun fs0 fo H2 T0 f2 s2 e2 => ?_⟩
    have s12 := s1.trans s2
    have hll : Pu (tCB (rLen K) (tCons (tVar 1) tNil)) [some (V.ref a), some (V.ref al), some (V.ref fo), none, none, none, none] H2 (.int (n : Int)) := (pu_len (SqL.of (s12 _ _ hal)) (pu_var rfl)).is (by rw [rvs_len, hRs.1, hLn])
    refine q_forRevR hll (by omega) (fun i σ' H' => ∃ (fo : Addr) (fs : List Int) (v3 v4 v5 : Option V), σ' = [some (.ref a), some (.ref al), some (.ref fo), v3, v4, v5, none] ∧ Same H H' ∧ H fo = none ∧ H' fo = some (.lst (ivs fs)) ∧ TI ts n L i fs)
      ⟨fo, fs0, none, none, none, rfl, s12, s1.free f2, e2, by rw [hLn] at T0; exact T0⟩ ?_ ?_
    · rintro i σ' H3 hi ⟨fo, fs, v3, v4, v5, rfl, s3, ff, e3, T⟩
      have hiL : i < L.length := by omega
      have hLi : L[i]? = some L[i] := List.getElem?_eq_getElem hiL
      have hir : i < rs.length := by rw [hRs.1]; exact hiL
      have hri : rs[i]? = some rs[i] := List.getElem?_eq_getElem hir
      obtain ⟨l, e, q, s', hR⟩ := hRs.2 i _ _ hri hLi
      generalize L[i] = g at *
      generalize rs[i] = r at *
      have R : RgOk ts n ((L.take i).map (·.p)) g := hL.at hLi
      have hR3 := hR.mono s3
      refine q_pu (pu_ixT hR3.sq (pu_ixL (SqL.of (s3 _ _ hal)) (pu_var rfl) (pu_var rfl) (atI_nat (rvs_get hri))) pu_c (atI_nat (j := 0) rfl)) ?_
      have hln2 := R.ln_len
      have hgd : ∀ k ∈ g.ln, fs[k]? = some (fs.getD k 0) := fun k hk => get_getD (by rw [T.rf.len]; exact (R.ln_mem hk).1)
      refine s_whenG (gt_list (nw_lcN (K := K) (fun k => decide (fs.getD k 0 = 0)) (Pu.ls (pu_var rfl) hR3.ln) (by omega) (fun _ => rfl) (fun k hk => (pt_test (pu_eqI (pu_ixI (SqL.of e3) (pu_var rfl) (pu_var rfl) (hgd k hk)) pu_c)).gt) (fun k _ _ => (pu_var rfl).gv)).ls) (fun hb H4 s4 => ?_) (fun hb H4 s4 => ?_)
      · obtain ⟨k0, hk0, hz⟩ : ∃ k0, k0 ∈ g.ln ∧ fs[k0]? = some 0 := by
          rw [isE_nvs] at hb
          cases z : g.ln.filter (fun k => decide (fs.getD k 0 = 0)) with
          | nil => rw [z] at hb; exact absurd hb (by decide)
          | cons x xs =>
            have hm : x ∈ g.ln.filter fun k => decide (fs.getD k 0 = 0) := by rw [z]; exact List.mem_cons_self
            obtain ⟨h1, h2⟩ := List.mem_filter.mp hm
            exact ⟨x, h1, by rw [hgd x h1]; exact congrArg some (of_decide_eq_true h2)⟩
        obtain ⟨l1, l2, hll⟩ := T.two hV.ends hL hG hLi hk0 hz
        have s14 := s3.trans s4
        refine q_gd (pa1 (pu_var rfl) (pa1 (pu_var rfl) (pa1 (pu_var rfl) pa0))) ⟨a, al, n, i, l1, l2, ts, rs, L, g, rfl, hw.mono s14, s14 _ _ hal, hRs.mono s14, hL, hLi, hll, fun gs ro H5 hRA f5 s5 e5 => ?_⟩
        have s15 := s14.trans s5
        have hR5 := hR.mono s15
        refine s_gd (pa1 (pu_var rfl) (pa1 (pu_var rfl) (pa1 pu_c (pa1 (pu_var rfl) pa0)))) ⟨fo, ro, l, fs, gs, g.ln, rfl, SqL.of (s5 _ _ (s4 _ _ e3)), SqL.of e5, hR5.ln, by rw [T.rf.len, hRA.len], by rw [T.rf.len]; omega, by omega, fun k hk => by rw [T.rf.len]; exact (R.ln_mem hk).1, fun fo2 H6 f6 s6 e6 => ?_⟩
        exact ⟨fo2, _, _, _, _, rfl, s15.trans s6, s15.free f6, e6, turn_done hL T hLi hll hRA (R.ln_mem (by rw [hll]; simp)).1 (R.ln_mem (by rw [hll]; simp)).1 hk0 hz⟩
      · refine ⟨fo, fs, _, _, _, rfl, s3.trans s4, ff, s4 _ _ e3, T.stay hLi fun k hk hz => ?_⟩
        rw [isE_nvs] at hb
        cases z : g.ln.filter (fun k => decide (fs.getD k 0 = 0)) with
        | nil =>
          have hm : k ∈ g.ln.filter fun k => decide (fs.getD k 0 = 0) := List.mem_filter.mpr ⟨hk, decide_eq_true (getD_of hz)⟩
          rw [z] at hm
          exact absurd hm List.not_mem_nil
        | cons x xs => rw [z] at hb; simp at hb
    · rintro σ' H3 ⟨fo, fs, v3, v4, v5, rfl, s3, ff, e3, T⟩
      exact s_ret (pu_var rfl) (kk fs fo H3 T.third ff s3 e3)
/-! 0 web, 1 rungs, 2 low, 3 even, 4 rung -/
abbrev s_flow_by : Stmt := topS 67
abbrev N_flow_by : List Str := ["web", "rungs", "low", "even", "rung"]
theorem sc_flow_by : FnScope N_flow_by ["web", "rungs"] (defScope s_flow_by) := ⟨rfl, rfl, rfl, by decide +kernel, rfl, by decide +kernel, by decide +kernel⟩
/-- a busy flow within six -/
structure Six (ts : List Tie) (n : Nat) (as : List Int) : Prop where
  len : as.length = ts.length
  g : ∀ x, x < n → gain ts as x = 0
  b : ∀ a ∈ as, a ≠ 0 ∧ -5 ≤ a ∧ a ≤ 5
def evens (L : List Rg) : List Nat := L.flatMap fun g => g.ev
def sp_flow_by (K : PySem.W.Frag) (C : Addr) : Sp := fun vs H Q _ => ∃ (a al : Addr) (n : Nat) (ts : List Tie) (rs : List Addr) (L : List Rg), vs = [.ref a, .ref al] ∧ WebAt K C H a n ts ∧ ts.length ≤ 20 ∧ H al = some (.lst (rvs rs)) ∧ RgsAt K H rs L ∧ LadOk ts n [] L ∧ L.length = n ∧ lGood ts n [] L = true ∧
  ∀ as r H2, Six ts n as → H r = none → Same H H2 → H2 r = some (.lst (ivs as)) → Q (.ref r) H2
theorem evens_spine {L : List Rg} {k : Nat} (h : k ∈ evens L) : k ∈ spine L := by
  obtain ⟨g, hg, hk⟩ := List.mem_flatMap.mp h
  exact List.mem_flatMap.mpr ⟨g, hg, List.mem_append_left _ hk⟩
theorem evens_nodup {ts : List Tie} {n : Nat} : ∀ {L : List Rg} {had : List Nat}, LadOk ts n had L → (evens L).Nodup
  | [], _, _ => List.Pairwise.nil
  | r :: L, had, hL => by
    show (r.ev ++ evens L).Nodup
    rw [List.nodup_append]
    refine ⟨hL.1.ev_up.imp fun h => Nat.ne_of_lt h, evens_nodup hL.2, fun a ha b hb e => ?_⟩
    subst e
    obtain ⟨_, b1, b2, _⟩ := rung_tie hL.1 (List.mem_append_left r.ln ha)
    obtain ⟨_, _, _, d⟩ := spine_mem hL.2 (evens_spine hb)
    rcases d with d | d
    · exact d b1
    · exact d b2
theorem evens_loop {ts : List Tie} {n : Nat} {L : List Rg} (hL : LadOk ts n [] L) {k : Nat} (h : k ∈ evens L) : k < ts.length ∧ (tieAt ts k).1 = (tieAt ts k).2 := by
  obtain ⟨g, hg, hk⟩ := List.mem_flatMap.mp h
  obtain ⟨j, hj⟩ := List.mem_iff_getElem?.mp hg
  have R : RgOk ts n ((L.take j).map (·.p)) g := hL.at hj
  obtain ⟨a, b⟩ := R.ev k hk
  rw [b]
  exact ⟨a, rfl⟩
theorem evens_snoc (L : List Rg) (g : Rg) : evens (L ++ [g]) = evens L ++ g.ev := by
  unfold evens
  rw [List.flatMap_append, List.flatMap_cons, List.flatMap_nil, List.append_nil]
theorem addL_zip {a b : List Int} (h : a.length = b.length) : addL a b = List.zipWith (fun x y => x + y) a b := by
  refine List.ext_getElem? fun k => ?_
  by_cases hk : k < a.length
  · have h1 := get_getD hk
    have h2 := get_getD (a := b) (k := k) (by omega)
    rw [addL_get h1 h2, List.getElem?_zipWith, h1, h2]
  · rw [List.getElem?_eq_none_iff.mpr (by rw [addL_len]; omega), List.getElem?_eq_none_iff.mpr (by rw [List.length_zipWith]; omega)]
theorem gain_zip {x : Nat} : ∀ {ts : List Tie} {a b : List Int}, a.length = ts.length → b.length = ts.length → gain ts (List.zipWith (fun x y => x + y) a b) x = gain ts a x + gain ts b x
  | [], [], [], _, _ => rfl
  | [], _ :: _, _, h, _ => by simp at h
  | [], [], _ :: _, _, h => by simp at h
  | _ :: _, [], _, h, _ => by simp at h
  | _ :: _, _ :: _, [], _, h => by simp at h
  | e :: ts, u :: a, v :: b, h1, h2 => by
    have ih := gain_zip (x := x) (ts := ts) (a := a) (b := b) (by simpa using h1) (by simpa using h2)
    show ind (e.2 = x) (u + v) - ind (e.1 = x) (u + v) + gain ts (List.zipWith (fun x y => x + y) a b) x = (ind (e.2 = x) u - ind (e.1 = x) u + gain ts a x) + (ind (e.2 = x) v - ind (e.1 = x) v + gain ts b x)
    rw [ih, ind_add, ind_add]
    omega
theorem gain_loops {x : Nat} : ∀ {ts : List Tie} {a : List Int}, (∀ k, k < ts.length → a[k]? = some 0 ∨ (tieAt ts k).1 = (tieAt ts k).2) → gain ts a x = 0
  | [], a, _ => by cases a <;> rfl
  | _ :: _, [], _ => rfl
  | e :: ts, u :: a, h => by
    have ih := gain_loops (x := x) (ts := ts) (a := a) fun k hk => h (k + 1) (by show k + 1 < ts.length + 1; omega)
    show ind (e.2 = x) u - ind (e.1 = x) u + gain ts a x = 0
    rw [ih]
    rcases h 0 (by show 0 < ts.length + 1; omega) with q | q
    · have q2 : u = 0 := Option.some.inj q
      rw [q2, ind_zero, ind_zero]
      rfl
    · have q2 : e.1 = e.2 := q
      rw [q2]
      omega
theorem six_of {ts : List Tie} {n : Nat} {L : List Rg} {fs low fl : List Int} (hL : LadOk ts n [] L) (T : Third ts n L fs) (Lf : Lift ts n fs low) (hfl : fl.length = ts.length) (hfk : ∀ k, k < ts.length → fl[k]? = some (if k ∈ srt (evens L) then 1 else 0)) : Six ts n (addL low (fl.map fun x => 3 * x)) := by
  have hml : (fl.map fun x => 3 * x).length = ts.length := by rw [List.length_map]; exact hfl
  refine ⟨by rw [addL_len]; exact Lf.len, fun x hx => ?_, fun a ha => ?_⟩
  · rw [addL_zip (by rw [Lf.len, hml]), gain_zip Lf.len hml, Lf.g x hx, gain_loops fun k hk => ?_]
    · rfl
    · rw [List.getElem?_map, hfk k hk]
      by_cases c : k ∈ srt (evens L)
      · exact .inr (evens_loop hL (mem_srt.mp c)).2
      · left; rw [if_neg c]; rfl
  · obtain ⟨k, hk⟩ := List.mem_iff_getElem?.mp ha
    have hkl : k < ts.length := by
      have := (List.getElem?_eq_some_iff.mp hk).1
      rw [addL_len, Lf.len] at this
      exact this
    obtain ⟨r, hr⟩ : ∃ r, fs[k]? = some r := ⟨_, get_getD (a := fs) (k := k) (by rw [T.rf.len]; exact hkl)⟩
    obtain ⟨c, hc, c1, c2, c3⟩ := Lf.b k r hr
    have h3 : (fl.map fun x => 3 * x)[k]? = some (if k ∈ srt (evens L) then 3 else 0) := by
      rw [List.getElem?_map, hfk k hkl]
      show some (3 * (if k ∈ srt (evens L) then (1 : Int) else 0)) = _
      split <;> rfl
    rw [addL_get hc h3] at hk
    have ea := Option.some.inj hk
    by_cases d : k ∈ srt (evens L)
    · rw [if_pos d] at ea
      omega
    · rw [if_neg d] at ea
      have hne : r ≠ 0 := fun z => by
        refine T.nz k hkl (fun g hg q => d (mem_srt.mpr (List.mem_flatMap.mpr ⟨g, hg, q⟩))) ?_
        rw [hr, z]
      have := c3 hne
      omega
section
variable {σ : St} {H : Hp} {D : Ends} {tz : TS} {t1 t2 t3 tl : TE} {tr tr2 : TA} {sp sp2 spA spT spE : Sp} {vs : List V} {v1 v2 v3 : V} {xs : List V}
theorem s_retNest (h1 : Pu t1 σ H v1) (h2 : Pu t2 σ H v2) (h3 : Pu t3 σ H v3) (hl : Nw tl σ H xs) (k : ∀ l H1, H l = none → Same H H1 → H1 l = some (.lst xs) → spE [v3, .ref l] H1 (fun v H2 => spT [v2, v] H2 (fun v' H3 => spA [v1, v'] H3 D.rt E0) E0) E0) :
    tRet (tGd spA (tCons t1 (tCons (tGd spT (tCons t2 (tCons (tGd spE (tCons t3 (tCons tl tNil))) tNil))) tNil))) D σ H := h1.at (h2.at (h3.at (hl.at k)))
theorem q_gdIn {i : Nat} (h1 : Pu t1 σ H v1) (h : PuA tr σ H vs) (k : sp vs H (fun v H1 => tr2 σ H1 fun us H2 => sp2 (v1 :: v :: us) H2 (fun u H3 => tz D (σ.set i (some u)) H3) E0) E0) : tSeq (tAsg (tGd sp2 (tCons t1 (tCons (tGd sp tr) tr2))) (gName i)) tz D σ H := h1.at (h.at k)
end
theorem ok_flow_by (F : Df K mg "flow_by" ["web", "rungs"] s_flow_by) (T : Bt mg) (Wc : WebC K C) (G_thirds : Gd P w K mg base 7 "thirds" ["web", "rungs"] (sp_thirds K C)) (G_lifted : Gd P w K mg base 4 "lifted" ["web", "rests", "k"] (sp_lifted K C)) (G_even_flow : Gd P w K mg base 3 "even_flow" ["web", "some"] (sp_even_flow K C))
    (G_times : Gd P w K mg base 1 "times" ["number", "flow"] (sp_times K)) (G_added : Gd P w K mg base 1 "added" ["one", "two"] (sp_added K)) : Gd P w K mg base 8 "flow_by" ["web", "rungs"] (sp_flow_by K C) := by
  refine F.gd sc_flow_by (fun vs H Q E h => ?_) (fun f cdv A outer s H vs Q E hr h => ?_)
  · obtain ⟨a, al, n, ts, rs, L, rfl, _⟩ := h
    rfl
  · obtain ⟨a, al, n, ts, rs, L, rfl, hw, h14, hal, hRs, hL, hLn, hG, kk⟩ := h
    have hr_thirds := hr
    have hr_lifted := hr.mono (j := 4) (by decide)
    have hr_even_flow := hr.mono (j := 3) (by decide)
    have hr_times := hr.mono (j := 1) (by decide)
    have hr_added := hr.mono (j := 1) (by decide)
    refine ⟨_, (pss_cons (ps_set (i := 2) sc_flow_by.nd rfl (Or.inl rfl) (pe_gd G_lifted hr_lifted (by rfl) (pa_cons (pv 0) (pa_cons (pe_gd G_thirds hr_thirds (by rfl) (pa_cons (pv 0) (pa_cons (pv 1) pa_nil))) (pa_cons pe_int pa_nil)))))
      (pss_cons (ps_set (i := 3) sc_flow_by.nd rfl (Or.inl rfl) (pe_lst pa_nil))
      (pss_cons (ps_for PassesOwn.never rfl (w_piL K (pv 1)) (pg_name (i := 4) sc_flow_by.nd rfl (Or.inl rfl))
        (pss_one (ps_set (i := 3) sc_flow_by.nd rfl (Or.inl rfl) (pe_op op_cat (pv 3) (pe_ix (w_ixT K) (pv 4) pe_int (fun _ _ => rfl))))))
      (pss_one (ps_ret (pe_gd G_added hr_added (by rfl) (pa_cons (pv 2) (pa_cons (pe_gd G_times hr_times (by rfl) (pa_cons pe_int (pa_cons (pe_gd G_even_flow hr_even_flow (by rfl) (pa_cons (pv 0) (pa_cons (pe_callB (w_sorted K) (by rfl) T.sorted (by decide +kernel) (pa_cons (pv 3) pa_nil)) pa_nil))) pa_nil))) pa_nil)))))))), ?_⟩
    have hV := hw.ok
    have hel : ∀ i, (evens (L.take i)).length ≤ ts.length := fun i => nodup_len _ _ (evens_nodup (hL.take (i := i))) fun k hk => (evens_loop (hL.take (i := i)) hk).1
    have hel2 : (evens L).length ≤ ts.length := nodup_len _ _ (evens_nodup hL) fun k hk => (evens_loop hL hk).1
    refine q_gdIn (pu_var rfl) (pa1 (pu_var rfl) (pa1 (pu_var rfl) pa0)) ⟨a, al, n, ts, rs, L, rfl, hw, h14, hal, hRs, hL, hLn, hG, fun fs fo H1 T3 f1 s1 e1 => ?_⟩
    refine (pa1 pu_c pa0).at ⟨a, fo, n, ts, fs, rfl, hw.mono s1, SqL.of e1, T3.rf, fun low lo H2 Lf f2 s2 e2 => ?_⟩
    have s12 := s1.trans s2
    refine q_nw (nw_lst (vs := nvs []) pa0 (by decide)) fun h0 H3 f3 s3 e3 => ?_
    have s13 := s12.trans s3
    refine q_forL (pu_var rfl) (SqL.of (s13 _ _ hal)) (fun i σ' H' => ∃ (h : Addr) (v4 : Option V), σ' = [some (.ref a), some (.ref al), some (.ref lo), some (.ref h), v4] ∧ Same H H' ∧ H' lo = some (.lst (ivs low)) ∧ H' h = some (.lst (nvs (evens (L.take i)))))
      ⟨h0, none, rfl, s13, s3 _ _ e2, e3⟩ (fun i σ' H' _ ⟨_, _, _, s, _⟩ => SqL.of (s _ _ hal)) ?_ ?_
    · rintro i xv σ' H4 hx ⟨h, v4, rfl, s4, e4, e5⟩
      obtain ⟨r, hri, rfl⟩ := rvs_of hx
      have hiL : i < L.length := by rw [← hRs.1]; exact (List.getElem?_eq_some_iff.mp hri).1
      have hLi : L[i]? = some L[i] := List.getElem?_eq_getElem hiL
      obtain ⟨l, e, q, s', hR⟩ := hRs.2 i r _ hri hLi
      have hz2 := hel (i + 1)
      rw [take_next hLi, evens_snoc, List.length_append] at hz2
      have hR4 := hR.mono s4
      refine s_nw (nw_cat (Pu.ls (pu_var rfl) e5) (Pu.ls (pu_ixT hR4.sq (pu_var rfl) pu_c (atI_nat (j := 1) rfl)) hR4.ev) (by rw [nvs_len, nvs_len]; omega)) fun h2 H5 f5 s5 e6 => ?_
      refine ⟨h2, _, rfl, s4.trans s5, s5 _ _ e4, ?_⟩
      rw [e6, take_next hLi, evens_snoc, nvs_app]
    · rintro σ' H4 ⟨h, v4, rfl, s4, e4, e5⟩
      rw [rvs_len, hRs.1, List.take_length] at e5
      refine s_retNest (pu_var rfl) pu_c (pu_var rfl) (nw_sorted (Pu.ls (pu_var rfl) e5) (by omega) (srt (evens L)) (srt_perm _) (srt_sorted _)) fun so H5 f5 s5 e6 => ?_
      have s45 := s4.trans s5
      refine ⟨a, so, n, ts, srt (evens L), rfl, hw.mono s45, e6, ⟨srt_strict (evens_nodup hL), fun k hk => evens_loop hL (mem_srt.mp hk)⟩, fun fl fo H6 hfl hfk f6 s6 e7 => ?_⟩
      have s46 := s45.trans s6
      refine ⟨fo, fl, rfl, SqL.of e7, by rw [hfl]; omega, fun to H7 f7 s7 e8 => ?_⟩
      refine ⟨lo, to, low, fl.map fun x => 3 * x, rfl, SqL.of (s7 _ _ (s6 _ _ (s5 _ _ e4))), SqL.of e8, by rw [Lf.len, List.length_map, hfl], by rw [Lf.len]; omega, fun r H8 f8 s8 e9 => ?_⟩
      exact kk _ r H8 (six_of hL T3 Lf hfl hfk) ((s46.trans s7).free f8) ((s46.trans s7).trans s8) e9
end
end Bz

set_option Elab.async false
set_option linter.all false
set_option maxRecDepth 100000
set_option maxHeartbeats 1000000
/-! Defs that raise; an error that is caught and kept. -/
namespace Bz
open PySem PySem.Spec PyProof.Rows L2
structure GdX (P : Program) (w : World) (K : PySem.W.Frag) (mg : Str → Option Value) (base : Heap) (k : Nat) (x : Str) (ps : List Str) (sp : Sp) : Prop where
  ex : ∃ f fd, FnOk P w K mg base (L2.CX P w) k f fd ps sp ∧ mg x = some (.ref f) ∧ PySem.W.keepIn K (.ref f) = true ∧ Binds K fd ps []
theorem pe_gdX {X : Cx} {W : WX} {k : Nat} {x : Str} {ps : List Str} {sp : Sp} {e : Expr} {es : List Expr} {t : TA} {p pos : Pos} (G : GdX X.prog X.w X.K X.mg X.base k x ps sp) (hr : Room k X.A) (hg : Gl X x) (tk : Takes X W)
    (ha : PA X (e :: es) t) (hdb : (x == ("__debug__" : Str)) = false := by decide) (he : starEach (e :: es) X.env = (false, eval e X.env) :: starEach es X.env := by rfl) (hpl : (backTo pos (starEach es X.env)).any (·.1) = false := by rfl) :
    PE X (.Call (.Name x p) (e :: es) [] pos) (tCallS sp (WE W) t) := by
  obtain ⟨f, fd, F, hm, hk, hb⟩ := G.ex
  exact pe_callS F hr hg hm hk hb (fun σ => passAt tk σ) ha hdb he hpl
theorem Df.gdX {P : Program} {w : World} {K : PySem.W.Frag} {mg : Str → Option Value} {base : Heap} {k : Nat} {x : Str} {N ps : List Str} {st : Stmt} {sp : Sp} (F : Df K mg x ps st) (S : FnScope N ps (defScope st)) (len : ∀ vs H Q E, sp vs H Q E → vs.length = ps.length)
    (hbody : ∀ (f : Addr) (cdv : Value) (A : Around) (outer : List Env) (s : Shared) (H : Hp) (vs : List V) (Q : VK) (E : XK), Room k (A.deeper (envOfC x (defScope st) s.heap.objs.size f cdv)) → sp vs H Q E →
      ∃ t, PSs (cxOf (L2.CX P w) P w K mg base N x (defScope st) f cdv A outer s H E) (defBody st) t ∧ t { nx := fun _ H' => Q .non H', rt := Q } (start N vs) H) : GdX P w K mg base (k + 1) x ps sp := by
  obtain ⟨f, fd, F, hm, hb⟩ := F.ex
  exact ⟨f, fd, F.okX S len (hbody f), hm, F.kp, hb⟩
theorem GdX.mono {P : Program} {w : World} {K : PySem.W.Frag} {mg : Str → Option Value} {base : Heap} {j k : Nat} {x : Str} {ps : List Str} {sp : Sp} (G : GdX P w K mg base j x ps sp) (h : j ≤ k) : GdX P w K mg base k x ps sp := by
  obtain ⟨f, fd, F, hm, hk, hb⟩ := G.ex
  exact ⟨f, fd, F.mono h, hm, hk, hb⟩
/-- what the text says of an own error class over ValueError -/
structure ErrC (K : PySem.W.Frag) (mg : Str → Option Value) (x : Str) (D : Addr) : Prop where
  gC : mg x = some (.ref D)
  kC : PySem.W.keepIn K (.ref D) = true
  q : PySem.W.excIn K D [.type "ValueError", .type "Exception", .type "BaseException", .type "object"] "ValueError.__new__" = true
  s1 : PySem.W.subIn K (.ref D) (.type "BaseException") = some true
  t1 : PySem.W.typeIn K (.ref D) = some (.type "type")
/-- an error that was caught, at a -/
def ExH (cls : Value) (d : Option Addr) (a : Addr) : HO := .ext fun h => ∃ (oe : Obj) (vs : Array Value), h.get? a = some oe ∧ Zc cls d oe ∧ oe.data = .fields vs
section
variable {X : Cx} {pins : List (Addr × Obj)} {σ : L2.St} {H : Hp} {s : Shared}
theorem inv_track (I : Inv X pins σ H s) {a : Addr} {oe : Obj} {vs : Array Value} {cls : Value} {d : Option Addr} (ha : s.heap.get? a = some oe) (hz : Zc cls d oe) (hd : oe.data = .fields vs) (na : H a = none) (nL : a ≠ X.env.locals) (n0 : X.s_0.heap.get? a = none)
    (np : ∀ p ∈ X.pn ++ pins, p.1 ≠ a) : Inv X pins σ (upd H a (ExH cls d a)) s where
  ok := I.ok
  os := I.os
  bare := I.bare
  base := {
    keep := I.base.keep
    slot := I.base.slot
    free := fun b o q n hx => by
      rw [upd_ne (fun z => by rw [z, n0] at q; cases q)]
      exact I.base.free b o q n hx
    there := I.base.there
    tups := fun b xs q => by
      rw [upd_ne (ne_of_none (I.base.tups b xs q) na)]
      exact I.base.tups b xs q
    frzs := fun b o u q => by
      rw [upd_ne (ne_of_none (I.base.frzs b o u q) na)]
      exact I.base.frzs b o u q
    tbls := fun b ps q => by
      obtain ⟨m, e⟩ := I.base.tbls b ps q
      exact ⟨m, by rw [upd_ne (ne_of_none e na)]; exact e⟩ }
  loc := I.loc
  cell := I.cell
  free := by rw [upd_ne nL.symm]; exact I.free
  freeC := fun x c e => by
    obtain ⟨v, z⟩ := I.cell x c e
    have hne : c ≠ a := fun z2 => by
      obtain ⟨o, e1, e2⟩ := z
      rw [z2, ha] at e1
      cases e1
      rw [hd] at e2
      cases e2
    rw [upd_ne hne]
    exact I.freeC x c e
  pin := fun p hp => by
    obtain ⟨e, n, r⟩ := I.pin p hp
    exact ⟨e, by rw [upd_ne (np p hp)]; exact n, r⟩
  hok := I.hok.laidN (fun _ _ q => q) na ⟨⟨oe, vs, ha, hz, hd⟩, ⟨oe, ha⟩, fun _ _ ⟨o, v, q, r⟩ k => ⟨o, v, k o q, r⟩⟩
  len := I.len
end
/-- what a caught and kept error wishes: the class is the clause's, and the suite runs through -/
def wKeep (K : PySem.W.Frag) (c : Value) (i : Nat) (ts : Addr → Value → Option Addr → TS) (D : Ends) : WX := fun cls d σ H =>
  PySem.W.exmOne K cls c = some true ∧ ∀ a, H a = none → ts a cls d { nx := fun σ' H' => D.nx (σ'.set i none) (upd H' a (ExH cls d a)), rt := fun _ _ => False, bk := fun _ _ => False, ct := fun _ _ => False } (σ.set i (some (.ref a))) H
theorem ps_try_keep {X : Cx} {x n : Str} {c : Value} {i : Nat} {body suite : List Stmt} {b₀ : Stmt} {np pos pos' : Pos} {tb : WX → TS} {ts : Addr → Value → Option Addr → TS} (hex : X.ex = []) (hs : X.stack = X.env :: X.outer) (hf : X.env.frame = some X.env.locals) (hN : X.N.Nodup) (hi : X.N[i]? = some n) (hln : X.env.kindOf n = some .local) (hc : Names X x c)
    (hb : ∀ (W : WX) (pn : List (Addr × Obj)) (xe : Value → Shared → Prop), Takes (X.tr pn xe) W → PassesOwn (model X.prog X.w) X.A X.env xe → PSs (X.tr pn xe) body (tb W))
    (hsu : ∀ (a : Addr) (oe : Obj) (cls : Value) (d : Option Addr) (pn : List (Addr × Obj)), Zc cls d oe → (∃ vs, oe.data = .fields vs) → PSs (X.suite a ((a, oe) :: pn)) (b₀ :: suite) (ts a cls d)) :
    PS X (.Try body [.ExceptHandler (some (.Name x np)) (some n) (b₀ :: suite) pos'] [] [] pos) (fun D σ H => tb (wKeep X.K c i ts D) D σ H) := by
  refine ⟨fun pins s σ H D I h => ?_⟩
  have ok := I.ok
  have hfr : X.A.frames = some (X.env :: X.outer) := by rw [ok.frames, hs]
  refine wpAny_Try_except ?_
  refine wpAny_mono ((hb (wKeep X.K c i ts D) (X.pn ++ pins) (fun e s₁ => wpAny (model X.prog X.w) X.A (noteFrame e X.env) (fun _ s₂ => wpAny (model X.prog X.w) X.A (setFlight e none) (fun _ s₃ =>
    wpAny (model X.prog X.w) X.A (handleBy e X.env [.ExceptHandler (some (.Name x np)) (some n) (b₀ :: suite) pos']) (SP X pins D) X.xe s₃) X.xe s₂) X.xe s₁) (fun u s' xx => ?_) PassesOwn.looking).run [] s σ H D (I.toTry _) h) (fun f s1 hsp => ?_) (fun e s1 he => he)
  · obtain ⟨a, B, sI, pins', σ', H', cls, d, rfl, J', nb, up, sky, na, os, ag, hb1, hyes⟩ := xx
    have J : Inv X pins σ' H' sI := J'.ofTry ok
    have sky' : Sky B (X.env :: X.outer) a (Zc cls d) X.env.locals s'.heap := by rw [← hs]; exact sky
    show wpAny (model X.prog X.w) X.A (noteFrame (.ref a) X.env) _ _ _
    refine Sky.land Zc.steady hfr hf sky' fun h3 fl3 up3 => ?_
    have J3 : Inv X pins σ' H' { s' with heap := h3 } := J.landed nb fl3.1 (up.trans up3) os ag
    obtain ⟨oe3, vs3, he3, hz3, hd3⟩ := fl3.there
    have nfr : a ∉ frs (X.env :: X.outer) := fun hm => by
      obtain ⟨_, o', e', hnf⟩ := fl3.2.2.1.mem hm
      rw [he3] at e'; cases e'
      exact hnf _ hd3
    have nL : a ≠ X.env.locals := fun z => nfr (List.mem_filterMap.mpr ⟨X.env, List.mem_cons_self, by rw [hf, z]⟩)
    have nF : a ∉ X.fs := fun hm => by
      obtain ⟨e, he, q⟩ := List.mem_filterMap.mp hm
      exact nfr (List.mem_filterMap.mpr ⟨e, List.mem_cons_of_mem _ he, q⟩)
    have old : ∀ b o, sI.heap.get? b = some o → b ≠ a := fun b o e z => by
      have := nb b o e (by rw [hs, z]; exact nfr)
      rw [z, fl3.2.1] at this
      cases this
    have n0 : X.s_0.heap.get? a = none := by
      cases e : X.s_0.heap.get? a with
      | none => rfl
      | some o =>
        obtain ⟨o', e'⟩ := J.base.there a o e (by rw [hex]; exact List.not_mem_nil)
        exact absurd rfl (old a o' e')
    have np' : ∀ p ∈ X.pn ++ pins, p.1 ≠ a := fun p hp => old p.1 _ (J.pin p hp).1
    have S3 := J3.suite he3 hd3 na nL nF
    refine wpAny_handleBy_cons (codeAny_handlers_test ?_) (by intro q; cases q)
    have LT : PySem.W.Looks (model X.prog X.w) h3 (typeOf (.ref a)) cls := fun A Q E s k q => wpAny_typeOf_ref (k _ _ he3) (by rw [hz3.1]; exact q)
    have LM := PySem.W.exm_one (M := model X.prog X.w) (J3.kIn) LT hb1
    have test : ∀ {Q : Value → Shared → Prop} {E : Value → Shared → Prop}, Q c { s' with heap := h3 } → wpAny (model X.prog X.w) (X.A.mark (some (.ref a))) (eval (.Name x np) X.env) Q E { s' with heap := h3 } := fun {Q E} q => by
      obtain ⟨hg, hdbg, hm | ⟨hm, hv, hnn⟩⟩ := hc
      · exact ld_glob (X := X.suite a ((a, oe3) :: (X.pn ++ pins))) S3 hg hm q hdbg
      · exact ld_blt (X := X.suite a ((a, oe3) :: (X.pn ++ pins))) S3 hg hm hv q hnn hdbg
    refine test (LM.here ?_)
    refine codeAny_handlers_suite_as ?_
    refine HandSPX.lands_againZ fl3 fun h4 fl4 up4 => ?_
    have J4 : Inv X pins σ' H' { s' with heap := h4 } := J.landed nb fl4.1 ((up.trans up3).trans up4) os ag
    obtain ⟨oe4, vs4, he4, hz4, hd4⟩ := fl4.there
    have S4 := J4.suite he4 hd4 na nL nF
    refine store_ok (X := X.suite a ((a, oe4) :: (X.pn ++ pins))) (v := .ref a) S4 hN hi (.inl hln) rfl (fun s5 S5 => ?_) (.inr hln)
    refine wpAny_mono ((hsu a oe4 cls d (X.pn ++ pins) hz4 ⟨_, hd4⟩).run [] s5 _ H' _ S5 (hyes a na)) (fun f s6 hsp => ?_) (fun _ _ z => False.elim z)
    cases f with
    | next =>
      obtain ⟨σ6, H6, S6, q6⟩ := hsp
      refine gone_ok (X := X.suite a ((a, oe4) :: (X.pn ++ pins))) S6 hN hi hln fun s7 S7 => ?_
      obtain ⟨p1, p2, _⟩ := S7.pin (a, oe4) (List.mem_append_left _ List.mem_cons_self)
      exact ⟨_, _, inv_track (S7.unsuite ok) p1 hz4 hd4 p2 nL n0 np', q6⟩
    | brk =>
      obtain ⟨σ6, H6, S6, q6⟩ := hsp
      exact False.elim q6
    | cont =>
      obtain ⟨σ6, H6, S6, q6⟩ := hsp
      exact False.elim q6
    | ret u =>
      obtain ⟨v6, σ6, H6, S6, r6, q6⟩ := hsp
      exact False.elim q6
  · cases f with
    | next =>
      obtain ⟨σ', H', J', q⟩ := hsp
      exact wpAny_execs_nil ⟨σ', H', J'.ofTry ok, q⟩
    | brk =>
      obtain ⟨σ', H', J', q⟩ := hsp
      exact ⟨σ', H', J'.ofTry ok, q⟩
    | cont =>
      obtain ⟨σ', H', J', q⟩ := hsp
      exact ⟨σ', H', J'.ofTry ok, q⟩
    | ret u =>
      obtain ⟨v, σ', H', J', r, q⟩ := hsp
      exact ⟨v, σ', H', J'.ofTry ok, r, q⟩
/-- isinstance(e, c), e an error that was caught and kept -/
def rIsH (K : PySem.W.Frag) (D : Addr) : List V → Hp → VK → Prop := fun xs H Q => ∃ (a : Addr) (c : V) (cv : Value) (b : Bool), xs = [.ref a, c] ∧ H a = some (ExH (.ref D) none a) ∧ (∀ u, RelV c u → u = cv) ∧ PySem.W.kitOne K (.ref D) cv = some b ∧ Q (.bl b) H
theorem call_isH {X : Cx} {D : Addr} (C : ExcC X.K D) : CallR X (.builtin "isinstance") (rIsH X.K D) := by
  intro pins s σ H xs us Q I r h
  obtain ⟨a, c, cv, b, rfl, ha, hcv, e, q⟩ := h
  cases r with
  | cons rx rr =>
    cases rr with
    | cons rt rr =>
      cases rr
      cases rx
      have ec := hcv _ rt
      subst ec
      obtain ⟨⟨oe, vs, hget, hz, hv⟩, _, _⟩ := I.hok a _ ha
      have J : PySem.W.InstAt s.heap a oe D none := by
        obtain ⟨oc, od, oda, osl⟩ := oe
        obtain ⟨h1, h2⟩ := hz
        dsimp only at h1 h2 hv
        subst h1 h2 hv
        exact ⟨hget, rfl, rfl, trivial⟩
      exact PySem.W.kia_one (PySem.W.handS_kitx_exc C.hg C.hk C.hs C.hd C.ha C.hn C.ht C.hm) I.kIn J e (fun z => nomatch z) fun tk => ⟨.bl b, H, I.kept (t' := tk) fun _ _ z => z, rfl, q⟩
theorem w_isH {X : Cx} (K : PySem.W.Frag) {D : Addr} (C : ExcC K D) (h : X.K = K := by rfl) : CallR X (.builtin "isinstance") (rIsH K D) := by subst h; exact call_isH C
end Bz

set_option Elab.async false
set_option linter.all false
set_option maxRecDepth 100000
set_option maxHeartbeats 1000000
namespace Bz
open PySem PySem.Spec L2
section
variable {P : Program} {w : World} {K : PySem.W.Frag} {mg : Str → Option Value} {base : Heap} {C CP : Addr}
/-! 0 _law_which, 1 _law_web_here, 2 _law_rungs_here -/
abbrev s__law_ask : Stmt := topS 83
abbrev N__law_ask : List Str := ["_law_which", "_law_web_here", "_law_rungs_here"]
theorem sc__law_ask : FnScope N__law_ask ["_law_which", "_law_web_here", "_law_rungs_here"] (defScope s__law_ask) := ⟨rfl, rfl, rfl, by decide +kernel, rfl, by decide +kernel, by decide +kernel⟩
/-! 0 _law_found, 1 _law_names, 2 _law_kinds -/
abbrev s__law_kind : Stmt := topS 73
abbrev N__law_kind : List Str := ["_law_found", "_law_names", "_law_kinds"]
theorem sc__law_kind : FnScope N__law_kind ["_law_found"] (defScope s__law_kind) := ⟨rfl, rfl, rfl, by decide +kernel, rfl, by decide +kernel, by decide +kernel⟩
/-! 0 _law_which, 1 _law_web_here, 2 _law_rungs_here, 3 _law_found, 4 e -/
abbrev s__law_refused : Stmt := topS 84
abbrev N__law_refused : List Str := ["_law_which", "_law_web_here", "_law_rungs_here", "_law_found", "e"]
theorem sc__law_refused : FnScope N__law_refused ["_law_which", "_law_web_here", "_law_rungs_here"] (defScope s__law_refused) := ⟨rfl, rfl, rfl, by decide +kernel, rfl, by decide +kernel, by decide +kernel⟩
/-- a bad ladder is refused -/
def Bad (K : PySem.W.Frag) (C : Addr) (H : Hp) (a al : Addr) : Prop := ∃ (n : Nat) (ts : List Tie) (rs : List Addr) (L : List Rg), WebAt K C H a n ts ∧ ts.length ≤ 20 ∧ H al = some (.lst (rvs rs)) ∧ RgsAt K H rs L ∧ LadOk ts n [] L ∧ L.length = n ∧ lGood ts n [] L = false
theorem Bad.mono {H H' : Hp} {a al : Addr} (s : Same H H') (h : Bad K C H a al) : Bad K C H' a al := by
  obtain ⟨n, ts, rs, L, h1, h2, h3, h4, h5⟩ := h
  exact ⟨n, ts, rs, L, h1.mono s, h2, s _ _ h3, h4.mono s, h5⟩
def sp_bad (K : PySem.W.Frag) (C CP : Addr) : Sp := fun vs H _ E => ∃ (a al : Addr), vs = [.ref a, .ref al] ∧ Bad K C H a al ∧ ∀ H2, Same H H2 → E (.ref CP) none H2
theorem okX_thirds (F : Df K mg "thirds" ["web", "rungs"] s_thirds) (T : Bt mg) (Ec : ErrC K mg "BadPaper" CP) (Wc : WebC K C) (G_is_ladder : Gd P w K mg base 6 "is_ladder" ["web", "rungs"] (sp_is_ladder K C)) (G_rest_beside : Gd P w K mg base 5 "rest_beside" ["web", "rungs"] (sp_rest_beside K C))
    (G_ring_at : Gd P w K mg base 4 "ring_at" ["web", "rungs", "number"] (sp_ring_at K C)) (G_ringed : Gd P w K mg base 3 "ringed" ["rests", "ring", "turn", "links"] (sp_ringed K 1)) : GdX P w K mg base 7 "thirds" ["web", "rungs"] (sp_bad K C CP) := by
  refine F.gdX sc_thirds (fun vs H Q E h => ?_) (fun f cdv A outer s H vs Q E hr h => ?_)
  · obtain ⟨a, al, rfl, _⟩ := h
    rfl
  · obtain ⟨a, al, rfl, ⟨n, ts, rs, L, hw, h14, hal, hRs, hL, hLn, hG⟩, kk⟩ := h
    have hr_is_ladder := hr
    have hr_rest_beside := hr.mono (j := 5) (by decide)
    have hr_ring_at := hr.mono (j := 4) (by decide)
    have hr_ringed := hr.mono (j := 3) (by decide)
    refine ⟨_, (pss_cons (ps_if (pt_not (pt_val (pe_gd G_is_ladder hr_is_ladder (by rfl) (pa_cons (pv 0) (pa_cons (pv 1) pa_nil)))))
        (pss_one (ps_raise rfl (takes_of rfl rfl rfl rfl) (pmk_own PySem.F.excBase_ValueError Ec.q Ec.gC Ec.kC (raises_own Ec.s1 Ec.t1) rfl)))
        pss_nil)
      (pss_cons (ps_set (i := 2) sc_thirds.nd rfl (Or.inr rfl) (pe_gd G_rest_beside hr_rest_beside (by rfl) (pa_cons (pv 0) (pa_cons (pv 1) pa_nil))))
      (pss_cons (ps_for (passes_of rfl) rfl (pi_revR rfl T.reversed (prg_1 rfl T.range (pe_callB (w_len K) (by rfl) T.len PySem.boot_len (pa_cons (pv 1) pa_nil)))) (pg_name (i := 3) sc_thirds.nd rfl (Or.inl rfl))
        (pss_cons (ps_set (i := 4) sc_thirds.nd rfl (Or.inl rfl) (pe_ix (w_ixT K) (pe_ix (w_ixL K) (pv 1) (pv 3) (fun _ _ => rfl)) pe_int (fun _ _ => rfl)))
        (pss_one (ps_if (pt_truth (pe_lc (own := [("tie", 6)]) (g := gName 6) (by rfl) sc_thirds.nd (w_piL K (pv 4)) (blkOk_by (own := [("tie", 6)]) (N := N_thirds) (sc := defScope s_thirds) (by decide +kernel)) (fun _ _ _ _ _ => (pg_name (i := 6) sc_thirds.nd rfl (Or.inl rfl))) (fun _ _ _ _ _ => pts_one (pt_cmpR op_eq (pe_ix (w_ixL K) (pv 2) (pv 6) (fun _ _ => rfl)) pe_int (nomark _))) (fun _ _ _ _ _ => (pv 6))) (by intro _; rfl))
          (pss_cons (ps_set (i := 5) sc_thirds.nd rfl (Or.inl rfl) (pe_gd G_ring_at hr_ring_at (by rfl) (pa_cons (pv 0) (pa_cons (pv 1) (pa_cons (pv 3) pa_nil)))))
          (pss_one (ps_set (i := 2) sc_thirds.nd rfl (Or.inr rfl) (pe_gd G_ringed hr_ringed (by rfl) (pa_cons (pv 2) (pa_cons (pv 5) (pa_cons pe_int (pa_cons (pv 4) pa_nil))))))))
          pss_nil))))
      (pss_one (ps_ret (pv 2)))))), ?_⟩
    refine q_whenG (b := true) ((gt_not (gt_test (gv_gd (pa1 (pu_var rfl) (pa1 (pu_var rfl) pa0)) fun H1 e Q2 k => ⟨a, al, n, ts, rs, L, rfl, hw.mono e, h14, e _ _ hal, hRs.mono e, hL, hLn, k⟩))).is (by rw [hG]; rfl)) (fun _ H1 s1 => ?_) (fun h => by cases h)
    exact kk H1 s1
section
variable {σ : St} {H : Hp} {D : Ends} {tz : TS} {t1 : TE} {tr tr2 : TA} {sp sp2 : Sp} {vs : List V} {v1 : V} {E : St → XK}
theorem q_gdInX {i : Nat} (h1 : Pu t1 σ H v1) (h : PuA tr σ H vs) (k : sp vs H (fun v H1 => tr2 σ H1 fun us H2 => sp2 (v1 :: v :: us) H2 (fun u H3 => tz D (σ.set i (some u)) H3) E0) (E σ)) : tSeq (tAsg (tGd sp2 (tCons t1 (tCons (tCallS sp E tr) tr2))) (gName i)) tz D σ H := h1.at (h.at k)
theorem s_dropX (h : PuA tr σ H vs) (k : sp vs H (fun _ H1 => D.nx σ H1) (E σ)) : tDrop (tCallS sp E tr) D σ H := h.at k
theorem s_retX (h : PuA tr σ H vs) (k : sp vs H D.rt (E σ)) : tRet (tCallS sp E tr) D σ H := h.at k
end
theorem okX_flow_by (F : Df K mg "flow_by" ["web", "rungs"] s_flow_by) (T : Bt mg) (Wc : WebC K C) (GX_thirds : GdX P w K mg base 7 "thirds" ["web", "rungs"] (sp_bad K C CP)) (G_lifted : Gd P w K mg base 4 "lifted" ["web", "rests", "k"] (sp_lifted K C)) (G_even_flow : Gd P w K mg base 3 "even_flow" ["web", "some"] (sp_even_flow K C))
    (G_times : Gd P w K mg base 1 "times" ["number", "flow"] (sp_times K)) (G_added : Gd P w K mg base 1 "added" ["one", "two"] (sp_added K)) : GdX P w K mg base 8 "flow_by" ["web", "rungs"] (sp_bad K C CP) := by
  refine F.gdX sc_flow_by (fun vs H Q E h => ?_) (fun f cdv A outer s H vs Q E hr h => ?_)
  · obtain ⟨a, al, rfl, _⟩ := h
    rfl
  · obtain ⟨a, al, rfl, hB, kk⟩ := h
    have hr_thirds := hr
    have hr_lifted := hr.mono (j := 4) (by decide)
    have hr_even_flow := hr.mono (j := 3) (by decide)
    have hr_times := hr.mono (j := 1) (by decide)
    have hr_added := hr.mono (j := 1) (by decide)
    refine ⟨_, (pss_cons (ps_set (i := 2) sc_flow_by.nd rfl (Or.inl rfl) (pe_gd G_lifted hr_lifted (by rfl) (pa_cons (pv 0) (pa_cons (pe_gdX GX_thirds hr_thirds (by rfl) (takes_of rfl rfl rfl rfl) (pa_cons (pv 0) (pa_cons (pv 1) pa_nil))) (pa_cons pe_int pa_nil)))))
      (pss_cons (ps_set (i := 3) sc_flow_by.nd rfl (Or.inl rfl) (pe_lst pa_nil))
      (pss_cons (ps_for (passes_of rfl) rfl (w_piL K (pv 1)) (pg_name (i := 4) sc_flow_by.nd rfl (Or.inl rfl))
        (pss_one (ps_set (i := 3) sc_flow_by.nd rfl (Or.inl rfl) (pe_op op_cat (pv 3) (pe_ix (w_ixT K) (pv 4) pe_int (fun _ _ => rfl))))))
      (pss_one (ps_ret (pe_gd G_added hr_added (by rfl) (pa_cons (pv 2) (pa_cons (pe_gd G_times hr_times (by rfl) (pa_cons pe_int (pa_cons (pe_gd G_even_flow hr_even_flow (by rfl) (pa_cons (pv 0) (pa_cons (pe_callB (w_sorted K) (by rfl) T.sorted (by decide +kernel) (pa_cons (pv 3) pa_nil)) pa_nil))) pa_nil))) pa_nil)))))))), ?_⟩
    exact q_gdInX (pu_var rfl) (pa1 (pu_var rfl) (pa1 (pu_var rfl) pa0)) ⟨a, al, rfl, hB, kk⟩
def sp_ask (K : PySem.W.Frag) (C CP : Addr) : Sp := fun vs H _ E => ∃ (z : Int) (a al : Addr), vs = [.int z, .ref a, .ref al] ∧ Bad K C H a al ∧ ∀ H2, Same H H2 → E (.ref CP) none H2
theorem okX_ask (F : Df K mg "_law_ask" ["_law_which", "_law_web_here", "_law_rungs_here"] s__law_ask) (T : Bt mg) (GX_thirds : GdX P w K mg base 7 "thirds" ["web", "rungs"] (sp_bad K C CP)) (GX_flow_by : GdX P w K mg base 8 "flow_by" ["web", "rungs"] (sp_bad K C CP)) : GdX P w K mg base 9 "_law_ask" ["_law_which", "_law_web_here", "_law_rungs_here"] (sp_ask K C CP) := by
  refine F.gdX sc__law_ask (fun vs H Q E h => ?_) (fun f cdv A outer s H vs Q E hr h => ?_)
  · obtain ⟨z, a, al, rfl, _⟩ := h
    rfl
  · obtain ⟨z, a, al, rfl, hB, kk⟩ := h
    have hr_thirds := hr.mono (j := 7) (by decide)
    have hr_flow_by := hr
    refine ⟨_, (pss_cons (ps_if (pt_cmpR op_eq (pv 0) pe_int (nomark _))
        (pss_one (ps_ret (pe_gdX GX_thirds hr_thirds (by rfl) (takes_of rfl rfl rfl rfl) (pa_cons (pv 1) (pa_cons (pv 2) pa_nil)))))
        pss_nil)
      (pss_one (ps_ret (pe_gdX GX_flow_by hr_flow_by (by rfl) (takes_of rfl rfl rfl rfl) (pa_cons (pv 1) (pa_cons (pv 2) pa_nil)))))), ?_⟩
    refine q_when (pt_test (pu_eqI (pu_var rfl) pu_c)) (fun _ => ?_) (fun _ => ?_)
    · exact s_retX (pa1 (pu_var rfl) (pa1 (pu_var rfl) pa0)) ⟨a, al, rfl, hB, kk⟩
    · exact s_retX (pa1 (pu_var rfl) (pa1 (pu_var rfl) pa0)) ⟨a, al, rfl, hB, kk⟩
/-! ### the kind of an error -/
/-- the error classes that the law names, and how BadPaper stands to them -/
structure Kds (K : PySem.W.Frag) (mg : Str → Option Value) (CP : Addr) where
  ec : ExcC K CP
  cBadDeed : Addr
  gBadDeed : mg "BadDeed" = some (.ref cBadDeed)
  kBadDeed : PySem.W.kitOne K (.ref CP) (.ref cBadDeed) = some false
  cBadFlow : Addr
  gBadFlow : mg "BadFlow" = some (.ref cBadFlow)
  kBadFlow : PySem.W.kitOne K (.ref CP) (.ref cBadFlow) = some false
  cBadPaper : Addr
  gBadPaper : mg "BadPaper" = some (.ref cBadPaper)
  kBadPaper : PySem.W.kitOne K (.ref CP) (.ref cBadPaper) = some true
  cBadPlace : Addr
  gBadPlace : mg "BadPlace" = some (.ref cBadPlace)
  kBadPlace : PySem.W.kitOne K (.ref CP) (.ref cBadPlace) = some false
  cBadRest : Addr
  gBadRest : mg "BadRest" = some (.ref cBadRest)
  kBadRest : PySem.W.kitOne K (.ref CP) (.ref cBadRest) = some false
  cBadSet : Addr
  gBadSet : mg "BadSet" = some (.ref cBadSet)
  kBadSet : PySem.W.kitOne K (.ref CP) (.ref cBadSet) = some false
  cBadText : Addr
  gBadText : mg "BadText" = some (.ref cBadText)
  kBadText : PySem.W.kitOne K (.ref CP) (.ref cBadText) = some false
  cBadTie : Addr
  gBadTie : mg "BadTie" = some (.ref cBadTie)
  kBadTie : PySem.W.kitOne K (.ref CP) (.ref cBadTie) = some false
  cBadWeb : Addr
  gBadWeb : mg "BadWeb" = some (.ref cBadWeb)
  kBadWeb : PySem.W.kitOne K (.ref CP) (.ref cBadWeb) = some false
  cNoFlow : Addr
  gNoFlow : mg "NoFlow" = some (.ref cNoFlow)
  kNoFlow : PySem.W.kitOne K (.ref CP) (.ref cNoFlow) = some false
  cTooMany : Addr
  gTooMany : mg "TooMany" = some (.ref cTooMany)
  kTooMany : PySem.W.kitOne K (.ref CP) (.ref cTooMany) = some false
  kValue : PySem.W.kitOne K (.ref CP) (.type "ValueError") = some true
  cFlowError : Addr
  gFlowError : mg "FlowError" = some (.ref cFlowError)
  xFlowError : PySem.W.exmOne K (.ref CP) (.ref cFlowError) = some true
section
variable {σ : St} {H : Hp} {D : Ends} {ta tb tc : TE} {a : Addr}
theorem pu_isH {c : Addr} {b : Bool} (hH : H a = some (ExH (.ref CP) none a)) (ha : Pu ta σ H (.ref a)) (hk : PySem.W.kitOne K (.ref CP) (.ref c) = some b) : Pu (tCB (rIsH K CP) (tCons ta (tCons (tC (.ref c)) tNil))) σ H (.bl b) := fun H1 e Q q =>
  (pa1 ha (pa1 pu_c pa0)) H1 e _ ⟨a, .ref c, .ref c, b, rfl, e _ _ hH, fun u h => h, hk, q⟩
theorem pu_isHt {t : String} {b : Bool} (hH : H a = some (ExH (.ref CP) none a)) (ha : Pu ta σ H (.ref a)) (hk : PySem.W.kitOne K (.ref CP) (.type t) = some b) : Pu (tCB (rIsH K CP) (tCons ta (tCons (tC (.ty t)) tNil))) σ H (.bl b) := fun H1 e Q q =>
  (pa1 ha (pa1 pu_c pa0)) H1 e _ ⟨a, .ty t, .type t, b, rfl, e _ _ hH, fun u h => h, hk, q⟩
theorem pu_cntB {bs : List Bool} {k : Bool} {l : Addr} (h : SqL K H l (bs.map V.bl)) (ha : Pu ta σ H (.ref l)) (hb : Pu tb σ H (.bl k)) : Pu (tBM K "list" (rCntB K) ta (tCons tb tNil)) σ H (.int (bs.count k : Nat)) := fun H1 s Q q =>
  ha H1 s _ ⟨.inl ⟨rfl, _, s.seq h⟩, hb H1 s _ ⟨l, bs, k, rfl, rfl, s.seq h, q⟩⟩
theorem pu_index {xs : List V} {y z : V} {j : Nat} {l : Addr} (h : SqL K H l xs) (hy : flatV y = true) (hf : xs.all flatV = true) (hj : xs[j]? = some z) (he : eqV z y = true) (hn : ∀ (m : Nat) (z' : V), m < j → xs[m]? = some z' → eqV z' y = false) (ha : Pu ta σ H (.ref l)) (hb : Pu tb σ H y) :
    Pu (tBM K "list" (rIndex K) ta (tCons tb tNil)) σ H (.int (j : Nat)) := fun H1 s Q q =>
  ha H1 s _ ⟨.inl ⟨rfl, _, s.seq h⟩, hb H1 s _ ⟨l, xs, y, j, z, rfl, rfl, s.seq h, hy, hf, hj, he, hn, q⟩⟩
theorem gv_ixLs {xs : List V} {v : V} {i : Nat} (ha : Ls ta σ H xs) (hb : Pu tb σ H (.int (i : Int))) (hv : xs[i]? = some v) : Gv (tOp (rIxL K) ta tb) σ H v := fun H1 e Q q =>
  ha H1 e _ fun p H2 e2 hp => hb H2 (e.trans e2) _ ⟨p, xs, (i : Int), v, rfl, rfl, SqL.of hp, atI_nat hv, q H2 e2⟩
end
def sp_kind (CP : Addr) : Sp := fun vs H Q _ => ∃ a, vs = [.ref a] ∧ H a = some (ExH (.ref CP) none a) ∧ ∀ H2, Same H H2 → Q (.str "BadPaper") H2
theorem ok_kind (F : Df K mg "_law_kind" ["_law_found"] s__law_kind) (T : Bt mg) (Y : Kds K mg CP) : Gd P w K mg base 1 "_law_kind" ["_law_found"] (sp_kind CP) := by
  refine F.gd sc__law_kind (fun vs H Q E h => ?_) (fun f cdv A outer s H vs Q E hr h => ?_)
  · obtain ⟨a, rfl, _⟩ := h
    rfl
  · obtain ⟨a, rfl, hH, kk⟩ := h
    refine ⟨_, (pss_cons (ps_set (i := 1) sc__law_kind.nd rfl (Or.inl rfl) (pe_lst (pa_cons pe_str (pa_cons pe_str (pa_cons pe_str (pa_cons pe_str (pa_cons pe_str (pa_cons pe_str (pa_cons pe_str (pa_cons pe_str (pa_cons pe_str (pa_cons pe_str pa_nil))))))))))))
      (pss_cons (ps_set (i := 2) sc__law_kind.nd rfl (Or.inl rfl) (pe_lst (pa_cons (pe_callB (w_isH K Y.ec) (by rfl) T.isinstance (by decide +kernel) (pa_cons (pv 0) (pa_cons (pe_glob (v := .ref Y.cBadDeed) rfl Y.gBadDeed rfl) pa_nil))) (pa_cons (pe_callB (w_isH K Y.ec) (by rfl) T.isinstance (by decide +kernel) (pa_cons (pv 0) (pa_cons (pe_glob (v := .ref Y.cBadFlow) rfl Y.gBadFlow rfl) pa_nil))) (pa_cons (pe_callB (w_isH K Y.ec) (by rfl) T.isinstance (by decide +kernel) (pa_cons (pv 0) (pa_cons (pe_glob (v := .ref Y.cBadPaper) rfl Y.gBadPaper rfl) pa_nil))) pa_nil)))))
      (pss_cons (ps_set (i := 2) sc__law_kind.nd rfl (Or.inl rfl) (pe_op op_cat (pv 2) (pe_lst (pa_cons (pe_callB (w_isH K Y.ec) (by rfl) T.isinstance (by decide +kernel) (pa_cons (pv 0) (pa_cons (pe_glob (v := .ref Y.cBadPlace) rfl Y.gBadPlace rfl) pa_nil))) (pa_cons (pe_callB (w_isH K Y.ec) (by rfl) T.isinstance (by decide +kernel) (pa_cons (pv 0) (pa_cons (pe_glob (v := .ref Y.cBadRest) rfl Y.gBadRest rfl) pa_nil))) (pa_cons (pe_callB (w_isH K Y.ec) (by rfl) T.isinstance (by decide +kernel) (pa_cons (pv 0) (pa_cons (pe_glob (v := .ref Y.cBadSet) rfl Y.gBadSet rfl) pa_nil))) pa_nil))))))
      (pss_cons (ps_set (i := 2) sc__law_kind.nd rfl (Or.inl rfl) (pe_op op_cat (pv 2) (pe_lst (pa_cons (pe_callB (w_isH K Y.ec) (by rfl) T.isinstance (by decide +kernel) (pa_cons (pv 0) (pa_cons (pe_glob (v := .ref Y.cBadText) rfl Y.gBadText rfl) pa_nil))) (pa_cons (pe_callB (w_isH K Y.ec) (by rfl) T.isinstance (by decide +kernel) (pa_cons (pv 0) (pa_cons (pe_glob (v := .ref Y.cBadTie) rfl Y.gBadTie rfl) pa_nil))) (pa_cons (pe_callB (w_isH K Y.ec) (by rfl) T.isinstance (by decide +kernel) (pa_cons (pv 0) (pa_cons (pe_glob (v := .ref Y.cBadWeb) rfl Y.gBadWeb rfl) pa_nil))) pa_nil))))))
      (pss_cons (ps_set (i := 2) sc__law_kind.nd rfl (Or.inl rfl) (pe_op op_cat (pv 2) (pe_lst (pa_cons (pe_callB (w_isH K Y.ec) (by rfl) T.isinstance (by decide +kernel) (pa_cons (pv 0) (pa_cons (pe_glob (v := .ref Y.cNoFlow) rfl Y.gNoFlow rfl) pa_nil))) (pa_cons (pe_callB (w_isH K Y.ec) (by rfl) T.isinstance (by decide +kernel) (pa_cons (pv 0) (pa_cons (pe_glob (v := .ref Y.cTooMany) rfl Y.gTooMany rfl) pa_nil))) pa_nil)))))
      (pss_cons (ps_if (PW.pt (pw_or (pt_cmpR op_ne (w_bm K PySem.F.plainAttrs_list PySem.F.slot_list_count PySem.F.type_list_count (w_cntB K hr) (pv 2) (pa_cons pe_bl pa_nil)) pe_int (nomark _)) (pw_or1 (pt_not (pt_val (pe_callB (w_isH K Y.ec) (by rfl) T.isinstance (by decide +kernel) (pa_cons (pv 0) (pa_cons (pe_bltn (v := .ty "ValueError") rfl T.ValueError (by decide +kernel) rfl) pa_nil))))))))
        (pss_one (ps_ret pe_str))
        pss_nil)
      (pss_one (ps_ret (pe_ix (w_ixL K) (pe_op op_cat (pv 1) (pe_lst (pa_cons pe_str pa_nil))) (w_bm K PySem.F.plainAttrs_list PySem.F.slot_list_index PySem.F.type_list_index (w_index K) (pv 2) (pa_cons pe_bl pa_nil)) (fun _ _ => rfl)))))))))), ?_⟩
    refine q_nw (nw_lst (pa1 pu_c (pa1 pu_c (pa1 pu_c (pa1 pu_c (pa1 pu_c (pa1 pu_c (pa1 pu_c (pa1 pu_c (pa1 pu_c (pa1 pu_c pa0)))))))))) (by show 10 ≤ 100000; decide)) fun no H1 f1 s1 e1 => ?_
    have h1 := s1 _ _ hH
    refine q_nw (nw_lst (pa1 (pu_isH h1 (pu_var rfl) Y.kBadDeed) (pa1 (pu_isH h1 (pu_var rfl) Y.kBadFlow) (pa1 (pu_isH h1 (pu_var rfl) Y.kBadPaper) pa0))) (by show 3 ≤ 100000; decide)) fun ko H2 f2 s2 e2 => ?_
    have h2 := s2 _ _ h1
    refine q_nw (nw_cat (Pu.ls (pu_var rfl) e2) (nw_lst (pa1 (pu_isH h2 (pu_var rfl) Y.kBadPlace) (pa1 (pu_isH h2 (pu_var rfl) Y.kBadRest) (pa1 (pu_isH h2 (pu_var rfl) Y.kBadSet) pa0))) (by show 3 ≤ 100000; decide)).ls (by show 6 ≤ 100000; decide)) fun ko3 H3 f3 s3 e3 => ?_
    have h3 := s3 _ _ h2
    refine q_nw (nw_cat (Pu.ls (pu_var rfl) e3) (nw_lst (pa1 (pu_isH h3 (pu_var rfl) Y.kBadText) (pa1 (pu_isH h3 (pu_var rfl) Y.kBadTie) (pa1 (pu_isH h3 (pu_var rfl) Y.kBadWeb) pa0))) (by show 3 ≤ 100000; decide)).ls (by show 9 ≤ 100000; decide)) fun ko4 H4 f4 s4 e4 => ?_
    have h4 := s4 _ _ h3
    refine q_nw (nw_cat (Pu.ls (pu_var rfl) e4) (nw_lst (pa1 (pu_isH h4 (pu_var rfl) Y.kNoFlow) (pa1 (pu_isH h4 (pu_var rfl) Y.kTooMany) pa0)) (by show 2 ≤ 100000; decide)).ls (by show 11 ≤ 100000; decide)) fun ko5 H5 f5 s5 e5 => ?_
    have h5 := s5 _ _ h4
    have e5' : H5 ko5 = some (.lst ([false, false, true, false, false, false, false, false, false, false, false].map V.bl)) := e5
    refine q_when (b := false) ((pt_orP (pt_test (pu_neI (pu_cntB (SqL.of e5') (pu_var rfl) pu_c) pu_c)) fun _ => pt_notP (pt_test (pu_isHt h5 (pu_var rfl) Y.kValue))).is (by decide)) (fun h => by cases h) (fun _ => ?_)
    have e1' := s5 _ _ (s4 _ _ (s3 _ _ (s2 _ _ e1)))
    refine s_retG (gv_ixLs (i := 2) (nw_cat (Pu.ls (pu_var rfl) e1') (nw_lst (pa1 pu_c pa0) (by show 1 ≤ 100000; decide)).ls (by show 11 ≤ 100000; decide)).ls (pu_index (j := 2) (z := .bl true) (SqL.of e5') rfl rfl rfl rfl (fun m z' hm hz => ?_) (pu_var rfl) pu_c) rfl) fun H6 s6 => kk H6 ((((s1.trans s2).trans s3).trans s4).trans (s5.trans s6))
    match m, hm, hz with
    | 0, _, hz => cases hz; rfl
    | 1, _, hz => cases hz; rfl
def sp_refused (K : PySem.W.Frag) (C : Addr) : Sp := fun vs H Q _ => ∃ (z : Int) (a al : Addr), vs = [.int z, .ref a, .ref al] ∧ Bad K C H a al ∧ ∀ H2, Same H H2 → Q (.bl true) H2
theorem ok_refused (F : Df K mg "_law_refused" ["_law_which", "_law_web_here", "_law_rungs_here"] s__law_refused) (T : Bt mg) (Y : Kds K mg CP) (GX_ask : GdX P w K mg base 9 "_law_ask" ["_law_which", "_law_web_here", "_law_rungs_here"] (sp_ask K C CP)) (G_kind : Gd P w K mg base 1 "_law_kind" ["_law_found"] (sp_kind CP)) :
    Gd P w K mg base 10 "_law_refused" ["_law_which", "_law_web_here", "_law_rungs_here"] (sp_refused K C) := by
  refine F.gd sc__law_refused (fun vs H Q E h => ?_) (fun f cdv A outer s H vs Q E hr h => ?_)
  · obtain ⟨z, a, al, rfl, _⟩ := h
    rfl
  · obtain ⟨z, a, al, rfl, hB, kk⟩ := h
    have hr_kind := hr.mono (j := 1) (by decide)
    refine ⟨_, (pss_cons (ps_set (i := 3) sc__law_refused.nd rfl (Or.inl rfl) pe_non)
      (pss_cons (ps_try_keep (i := 4) (tb := fun W => tDrop (tCallS (sp_ask K C CP) (WE W) (tCons (tVar 0) (tCons (tVar 1) (tCons (tVar 2) tNil))))) (ts := fun a cls d => tAsg (tVar 4) (gName 3)) rfl rfl rfl sc__law_refused.nd rfl rfl ⟨rfl, by decide, Or.inl Y.gFlowError⟩
          (fun W pn xe tk _ => pss_one (ps_expr (pe_gdX GX_ask hr (by rfl) tk (pa_cons (pv 0) (pa_cons (pv 1) (pa_cons (pv 2) pa_nil))))))
          (fun a oe cls d pn hz hf => pss_one (ps_set (i := 3) sc__law_refused.nd rfl (Or.inl rfl) (pv 4))))
      (pss_one (ps_ret (pe_cmpR op_eq (pe_gd G_kind hr_kind (by rfl) (pa_cons (pv 3) pa_nil)) pe_str (nomark _)))))), ?_⟩
    refine q_pu pu_c ?_
    refine s_dropX (pa1 (pu_var rfl) (pa1 (pu_var rfl) (pa1 (pu_var rfl) pa0))) ⟨z, a, al, rfl, hB, fun H2 s2 => ?_⟩
    refine ⟨Y.xFlowError, fun e he => ?_⟩
    refine s_pu (pu_var rfl) ?_
    refine s_retG (gv_op (gv_gd (v := .str "BadPaper") (pa1 (pu_var rfl) pa0) fun H3 s3 Q3 k3 => ⟨e, rfl, s3 _ _ upd_same, k3⟩) pu_c.gv fun H3 s3 Q3 q3 => ⟨rfl, q3⟩) fun H4 s4 => ?_
    exact kk H4 ((s2.trans (same_new he)).trans s4)
end
end Bz

set_option Elab.async false
set_option linter.all false
set_option maxRecDepth 100000
set_option maxHeartbeats 1000000
namespace Bz
open PySem PySem.Spec L2
section
variable {P : Program} {w : World} {K : PySem.W.Frag} {mg : Str → Option Value} {base : Heap} {C CP : Addr}
/-! 0 _law_script, 1 _law_k -/
abbrev s__law_cell : Stmt := topS 69
abbrev N__law_cell : List Str := ["_law_script", "_law_k"]
theorem sc__law_cell : FnScope N__law_cell ["_law_script", "_law_k"] (defScope s__law_cell) := ⟨rfl, rfl, rfl, by decide +kernel, rfl, by decide +kernel, by decide +kernel⟩
def sp_cell (K : PySem.W.Frag) : Sp := fun vs H Q _ => ∃ (l : Addr) (ns : List Int) (k : Nat), vs = [.ref l, .int (k : Int)] ∧ SqL K H l (ivs ns) ∧ Q (.int (ns.getD k 0)) H
theorem ok_cell (F : Df K mg "_law_cell" ["_law_script", "_law_k"] s__law_cell) (T : Bt mg) : Gd P w K mg base 1 "_law_cell" ["_law_script", "_law_k"] (sp_cell K) := by
  refine F.gd sc__law_cell (fun vs H Q E h => ?_) (fun f cdv A outer s H vs Q E hr h => ?_)
  · obtain ⟨l, ns, k, rfl, _⟩ := h
    rfl
  · obtain ⟨l, ns, k, rfl, hl, q⟩ := h
    refine ⟨_, (pss_cons (ps_if (pt_cmpR op_lt (pv 1) (pe_callB (w_len K) (by rfl) T.len PySem.boot_len (pa_cons (pv 0) pa_nil)) (nomark _))
        (pss_one (ps_ret (pe_ix (w_ixL K) (pv 0) (pv 1) (fun _ _ => rfl))))
        pss_nil)
      (pss_one (ps_ret pe_int))), ?_⟩
    refine q_when (pt_test (pu_I0 (pu_var rfl) (pu_lenI hl (pu_var rfl)))) (fun hb => ?_) (fun hb => ?_)
    · have hk : k < ns.length := by
        have := of_decide_eq_true hb
        omega
      exact s_ret (pu_ixI hl (pu_var rfl) (pu_var rfl) (get_getD hk)) q
    · have hk : ¬ k < ns.length := by
        have := of_decide_eq_false hb
        omega
      refine s_ret (pu_c.is ?_) q
      rw [List.getD_eq_getElem?_getD, List.getElem?_eq_none_iff.mpr (by omega)]
      rfl
/-! 0 _law_script, 1 _law_at, 2 _law_base, 3 _law_many, 4 _law_by_digits, 5 _law_cell_here, 6 _law_found, 7 _law_mixed, 8 _law_k -/
abbrev s__law_drawn : Stmt := topS 70
abbrev N__law_drawn : List Str := ["_law_script", "_law_at", "_law_base", "_law_many", "_law_by_digits", "_law_cell_here", "_law_found", "_law_mixed", "_law_k"]
theorem sc__law_drawn : FnScope N__law_drawn ["_law_script", "_law_at", "_law_base", "_law_many", "_law_by_digits"] (defScope s__law_drawn) := ⟨rfl, rfl, rfl, by decide +kernel, rfl, by decide +kernel, by decide +kernel⟩
def sp_drawn (K : PySem.W.Frag) : Sp := fun vs H Q _ => ∃ (l : Addr) (ns : List Int) (k b m : Nat) (by' : Bool), vs = [.ref l, .int (k : Int), .int (b : Int), .int (m : Int), .bl by'] ∧ SqL K H l (ivs ns) ∧ 1 ≤ b ∧ b ≤ 100 ∧ m ≤ 1000 ∧
  ∀ es r H2, es.length = m → (∀ e ∈ es, e < b) → H r = none → Same H H2 → H2 r = some (.lst (nvs es)) → Q (.ref r) H2
theorem mod_nat (z : Int) {b : Nat} (hb : 1 ≤ b) : ∃ e : Nat, z % (b : Int) = (e : Int) ∧ e < b := by
  have h1 := Int.emod_nonneg z (b := (b : Int)) (by omega)
  have h2 := Int.emod_lt_of_pos z (b := (b : Int)) (by omega)
  exact ⟨(z % (b : Int)).toNat, by omega, by omega⟩
theorem ok_drawn (F : Df K mg "_law_drawn" ["_law_script", "_law_at", "_law_base", "_law_many", "_law_by_digits"] s__law_drawn) (T : Bt mg) (G__law_cell : Gd P w K mg base 1 "_law_cell" ["_law_script", "_law_k"] (sp_cell K)) : Gd P w K mg base 2 "_law_drawn" ["_law_script", "_law_at", "_law_base", "_law_many", "_law_by_digits"] (sp_drawn K) := by
  refine F.gd sc__law_drawn (fun vs H Q E h => ?_) (fun f cdv A outer s H vs Q E hr h => ?_)
  · obtain ⟨l, ns, k, b, m, by', rfl, _⟩ := h
    rfl
  · obtain ⟨l, ns, k, b, m, by', rfl, hl, hb1, hb2, hm, q⟩ := h
    have hr__law_cell := hr
    refine ⟨_, (pss_cons (ps_set (i := 5) sc__law_drawn.nd rfl (Or.inl rfl) (pe_gd G__law_cell hr__law_cell (by rfl) (pa_cons (pv 0) (pa_cons (pv 1) pa_nil))))
      (pss_cons (ps_set (i := 6) sc__law_drawn.nd rfl (Or.inl rfl) (pe_lst pa_nil))
      (pss_cons (ps_set (i := 7) sc__law_drawn.nd rfl (Or.inl rfl) (pe_op op_add (pe_op op_mod (pv 5) pe_int) pe_int))
      (pss_cons (ps_for PassesOwn.never rfl (pi_range1 rfl T.range (pa_cons (pv 3) pa_nil)) (pg_name (i := 8) sc__law_drawn.nd rfl (Or.inl rfl))
        (pss_one (ps_if (pt_val (pv 4))
          (pss_cons (ps_expr (w_bm K PySem.F.plainAttrs_list PySem.F.slot_list_append PySem.F.type_list_append mt_append (pv 6) (pa_cons (pe_op op_mod (pv 5) (pv 2)) pa_nil)))
          (pss_one (ps_set (i := 5) sc__law_drawn.nd rfl (Or.inl rfl) (pe_op op_fdiv (pv 5) (pv 2)))))
          (pss_cons (ps_set (i := 7) sc__law_drawn.nd rfl (Or.inl rfl) (pe_op op_mod (pe_op op_add (pe_op op_add (pe_op op_mul (pv 7) (pv 7)) (pe_op op_mul pe_int (pv 8))) pe_int) pe_int))
          (pss_one (ps_expr (w_bm K PySem.F.plainAttrs_list PySem.F.slot_list_append PySem.F.type_list_append mt_append (pv 6) (pa_cons (pe_op op_mod (pe_op op_fdiv (pv 7) pe_int) (pv 2)) pa_nil))))))))
      (pss_one (ps_ret (pv 6))))))), ?_⟩
    refine q_gd (pa1 (pu_var rfl) (pa1 (pu_var rfl) pa0)) ⟨l, ns, k, rfl, hl, ?_⟩
    refine q_nw (nw_lst (vs := nvs []) pa0 (by decide)) fun fo H1 f1 s1 e1 => ?_
    refine q_pu (pu_I0 (pu_I (pu_var rfl) pu_c (by decide)) pu_c) ?_
    refine q_forR (n := m) (pa1 (pu_var rfl) pa0) (by omega) (fun i σ' H' => ∃ (c mx : Int) (es : List Nat) (v8 : Option V), σ' = [some (.ref l), some (.int (k : Int)), some (.int (b : Int)), some (.int (m : Int)), some (.bl by'), some (.int c), some (.ref fo), some (.int mx), v8] ∧ Same H H' ∧ H' fo = some (.lst (nvs es)) ∧ es.length = i ∧ (∀ e ∈ es, e < b) ∧ 0 ≤ mx ∧ mx < 4294967296)
      ⟨_, _, [], none, rfl, s1, e1, rfl, fun e he => absurd he List.not_mem_nil, by omega, by omega⟩ ?_ ?_
    · rintro i σ' H' hi ⟨c, mx, es, v8, rfl, s2, e2, hes, hel, hx0, hx1⟩
      have app : ∀ {z : Int}, ∃ e : Nat, z % (b : Int) = (e : Int) ∧ e < b := mod_nat _ hb1
      have snoc : ∀ {e : Nat}, e < b → (es ++ [e]).length = i + 1 ∧ ∀ x ∈ es ++ [e], x < b := fun {e} he => ⟨by rw [List.length_append, hes]; rfl, fun x hx => by
        rcases List.mem_append.mp hx with z | z
        · exact hel x z
        · rw [List.mem_singleton.mp z]; exact he⟩
      refine s_if (pt_test (pu_var rfl)) (fun _ => ?_) (fun _ => ?_)
      · obtain ⟨e, he1, he2⟩ := app (z := c)
        refine q_app (pu_var rfl) e2 ((pu_I (pu_var rfl) (pu_var rfl) (by omega)).is (congrArg V.int he1)) (by rw [nvs_len]; omega) ?_
        dsimp only
        refine s_pu (pu_I (pu_var rfl) (pu_var rfl) ⟨by omega, by omega⟩) ?_
        obtain ⟨a1, a2⟩ := snoc he2
        exact ⟨_, _, es ++ [e], _, rfl, Same.mut s2 f1, by rw [upd_same, nvs_app]; rfl, a1, a2, hx0, hx1⟩
      · refine q_pu (pu_I (pu_I0 (pu_I0 (pu_I (pu_var rfl) (pu_var rfl) (.inl ⟨by omega, by omega⟩)) (pu_I pu_c (pu_var rfl) (.inl (by decide)))) pu_c) pu_c (by decide)) ?_
        have hm0 : 0 ≤ (mx * mx + 48271 * (i : Int) + 7) % 2147483647 := Int.emod_nonneg _ (by decide)
        have hm1 : (mx * mx + 48271 * (i : Int) + 7) % 2147483647 < 2147483647 := Int.emod_lt_of_pos _ (by decide)
        generalize (mx * mx + 48271 * (i : Int) + 7) % 2147483647 = mx2 at hm0 hm1 ⊢
        obtain ⟨e, he1, he2⟩ := app (z := mx2 / 8)
        refine s_app (pu_var rfl) e2 ((pu_I (pu_I (pu_var rfl) pu_c ⟨by decide, by decide⟩) (pu_var rfl) (by omega)).is (congrArg V.int he1)) (by rw [nvs_len]; omega) ?_
        obtain ⟨a1, a2⟩ := snoc he2
        exact ⟨_, _, es ++ [e], _, rfl, Same.mut s2 f1, by rw [upd_same, nvs_app]; rfl, a1, a2, hm0, by omega⟩
    · rintro σ' H' ⟨c, mx, es, v8, rfl, s2, e2, hes, hel, _, _⟩
      exact s_ret (pu_var rfl) (q es fo H' hes hel f1 s2 e2)
/-! 0 _law_many, 1 _law_ties, 2 _law_amounts, 3 _law_gains_here, 4 _law_k -/
abbrev s__law_gains : Stmt := topS 72
abbrev N__law_gains : List Str := ["_law_many", "_law_ties", "_law_amounts", "_law_gains_here", "_law_k"]
theorem sc__law_gains : FnScope N__law_gains ["_law_many", "_law_ties", "_law_amounts"] (defScope s__law_gains) := ⟨rfl, rfl, rfl, by decide +kernel, rfl, by decide +kernel, by decide +kernel⟩
def sp_lgains (K : PySem.W.Frag) : Sp := fun vs H Q _ => ∃ (a l : Addr) (n : Nat) (ts : List Tie) (as : List Int), vs = [.int (n : Int), .ref a, .ref l] ∧ TieLst K H a ts ∧ Valid n ts ∧ SqL K H l (ivs as) ∧ as.length = ts.length ∧
  ∀ g r H2, g.length = n → (∀ x, x < n → g[x]? = some (gain ts as x)) → H r = none → Same H H2 → H2 r = some (.lst (ivs g)) → Q (.ref r) H2
theorem ok_lgains (F : Df K mg "_law_gains" ["_law_many", "_law_ties", "_law_amounts"] s__law_gains) (T : Bt mg) : Gd P w K mg base 1 "_law_gains" ["_law_many", "_law_ties", "_law_amounts"] (sp_lgains K) := by
  refine F.gd sc__law_gains (fun vs H Q E h => ?_) (fun f cdv A outer s H vs Q E hr h => ?_)
  · obtain ⟨a, l, n, ts, as, rfl, _⟩ := h
    rfl
  · obtain ⟨a, l, n, ts, as, rfl, ha, hV, hl, hlen, q⟩ := h
    refine ⟨_, (pss_cons (ps_set (i := 3) sc__law_gains.nd rfl (Or.inl rfl) (pe_op op_rep (pe_lst (pa_cons pe_int pa_nil)) (pv 0)))
      (pss_cons (ps_for PassesOwn.never rfl (pi_range1 rfl T.range (pa_cons (pe_callB (w_len K) (by rfl) T.len PySem.boot_len (pa_cons (pv 1) pa_nil)) pa_nil)) (pg_name (i := 4) sc__law_gains.nd rfl (Or.inl rfl))
        (pss_cons (ps_asg (pe_op op_sub (pe_ix (w_ixL K) (pv 3) (pe_ix (w_ixT K) (pe_ix (w_ixL K) (pv 1) (pv 4) (fun _ _ => rfl)) pe_int (fun _ _ => rfl)) (fun _ _ => rfl)) (pe_ix (w_ixL K) (pv 2) (pv 4) (fun _ _ => rfl))) (pg_sub (pv 3) (pe_ix (w_ixT K) (pe_ix (w_ixL K) (pv 1) (pv 4) (fun _ _ => rfl)) pe_int (fun _ _ => rfl)) set_list))
        (pss_one (ps_asg (pe_op op_add (pe_ix (w_ixL K) (pv 3) (pe_ix (w_ixT K) (pe_ix (w_ixL K) (pv 1) (pv 4) (fun _ _ => rfl)) pe_int (fun _ _ => rfl)) (fun _ _ => rfl)) (pe_ix (w_ixL K) (pv 2) (pv 4) (fun _ _ => rfl))) (pg_sub (pv 3) (pe_ix (w_ixT K) (pe_ix (w_ixL K) (pv 1) (pv 4) (fun _ _ => rfl)) pe_int (fun _ _ => rfl)) set_list)))))
      (pss_one (ps_ret (pv 3))))), ?_⟩
    have h20 := hV.most
    have h40 := hV.len
    refine q_nw (nw_rep (pu_var rfl) (by omega)) fun go H1 f1 s1 e1 => ?_
    refine q_forR (n := ts.length) (pa1 (pu_lenLT (ha.mono s1) (pu_var rfl)) pa0) (by omega) (fun i σ' H' => ∃ (g : List Int) (v4 : Option V), σ' = [some (.int (n : Int)), some (.ref a), some (.ref l), some (.ref go), v4] ∧ Same H H' ∧ H' go = some (.lst (ivs g)) ∧ Gains ts as n i g)
      ⟨_, none, rfl, s1, e1, Gains.start ts as n⟩ ?_ ?_
    · rintro i σ' H' hi ⟨g, v4, rfl, s2, e2, R⟩
      have he := tieAt_get hi
      have hv := hV.at he
      have hx : as[i]? = some (as.getD i 0) := get_getD (by omega)
      have g1 : g[(tieAt ts i).1]? = some (g.getD (tieAt ts i).1 0) := get_getD (by rw [R.1]; exact hv.1)
      have g2 : (g.set (tieAt ts i).1 (g.getD (tieAt ts i).1 0 - as.getD i 0))[(tieAt ts i).2]? = some ((g.set (tieAt ts i).1 (g.getD (tieAt ts i).1 0 - as.getD i 0)).getD (tieAt ts i).2 0) := get_getD (by rw [List.length_set, R.1]; exact hv.2)
      have t0 : ∀ {H' : Hp}, Same H H' → Pu (tOp (rIxT K) (tOp (rIxL K) (tVar 1) (tVar 4)) (tC (.int 0))) [some (.int (n : Int)), some (.ref a), some (.ref l), some (.ref go), some (.int (i : Int))] H' (.int ((tieAt ts i).1 : Int)) := fun s => pu_ltie0 (ha.mono s) (pu_var rfl) (pu_var rfl) he
      have t1 : ∀ {H' : Hp}, Same H H' → Pu (tOp (rIxT K) (tOp (rIxL K) (tVar 1) (tVar 4)) (tC (.int 1))) [some (.int (n : Int)), some (.ref a), some (.ref l), some (.ref go), some (.int (i : Int))] H' (.int ((tieAt ts i).2 : Int)) := fun s => pu_ltie1 (ha.mono s) (pu_var rfl) (pu_var rfl) he
      refine q_setL (pu_I0 (pu_ixI (SqL.of e2) (pu_var rfl) (t0 s2) g1) (pu_ixI (s2.seq hl) (pu_var rfl) (pu_var rfl) hx)) (pu_var rfl) e2 (t0 s2) (by rw [ivs_len, R.1]; exact hv.1) ?_
      rw [ivs_set]
      have s3 : ∀ {o : HO}, Same H (upd H' go o) := Same.mut s2 f1
      refine s_setL (pu_I0 (pu_ixI (SqL.of upd_same) (pu_var rfl) (t1 s3) g2) (pu_ixI (s3.seq hl) (pu_var rfl) (pu_var rfl) hx)) (pu_var rfl) upd_same (t1 s3) (by rw [ivs_len, List.length_set, R.1]; exact hv.2) ?_
      rw [ivs_set, upd_upd]
      exact ⟨_, _, rfl, Same.mut s2 f1, upd_same, R.step hlen hx hv g1 g2⟩
    · rintro σ' H' ⟨g, v4, rfl, s2, e2, R⟩
      exact s_ret (pu_var rfl) (q g go H' R.1 (R.all hlen) f1 s2 e2)
/-! 0 _law_numbers, 1 _law_many*, 2 _law_number -/
abbrev s__law_rising : Stmt := topS 74
abbrev N__law_rising : List Str := ["_law_numbers", "_law_many", "_law_number"]
theorem sc__law_rising : FnScope N__law_rising ["_law_numbers", "_law_many"] (defScope s__law_rising) := ⟨rfl, rfl, rfl, by decide +kernel, rfl, by decide +kernel, by decide +kernel⟩
def sp_lrising (K : PySem.W.Frag) : Sp := fun vs H Q _ => ∃ (l : Addr) (m : Nat) (ns : List Nat), vs = [.ref l, .int (m : Int)] ∧ H l = some (.lst (nvs ns)) ∧ ns.Pairwise (· < ·) ∧ (∀ k ∈ ns, k < m) ∧ ns.length < 64 ∧ ∀ H2, Same H H2 → Q (.bl true) H2
theorem ok_lrising (F : Df K mg "_law_rising" ["_law_numbers", "_law_many"] s__law_rising) (T : Bt mg) : Gd P w K mg base 1 "_law_rising" ["_law_numbers", "_law_many"] (sp_lrising K) := by
  refine F.gd sc__law_rising (fun vs H Q E h => ?_) (fun f cdv A outer s H vs Q E hr h => ?_)
  · obtain ⟨l, m, ns, rfl, _⟩ := h
    rfl
  · obtain ⟨l, m, ns, rfl, hl, hs, hm, hz, q⟩ := h
    refine ⟨_, (pss_one (ps_ret (pe_and (pe_cmpR (w_eqD K hr) (pv 0) (pe_callB (w_sortedSet w rfl) (by rfl) T.sorted (by decide +kernel) (pa_cons (pe_callTy (w_setOf K w rfl) (by rfl) T.set (by decide +kernel) (pa_cons (pv 0) pa_nil)) pa_nil)) (nomark _)) (pe_one (pe_callB (w_all K rfl) (by rfl) T.all (by decide +kernel) (pa_cons (pe_lc (own := [("_law_number", 2)]) (g := gName 2) (by rfl) sc__law_rising.nd (w_piL K (pv 0)) (blkOk_by (own := [("_law_number", 2)]) (N := N__law_rising) (sc := defScope s__law_rising) (by decide +kernel)) (fun _ _ _ _ _ => (pg_name (i := 2) sc__law_rising.nd rfl (Or.inl rfl))) (fun _ _ _ _ _ => pts_nil) (fun _ _ _ _ _ => (pe_and (pe_cmpR op_le pe_int (pv 2) (nomark _)) (pe_one (pe_cmpR op_lt (pv 2) (pv 1) (nomark _)))))) pa_nil)))))), ?_⟩
    refine s_retG ((gv_andV (gv_eqL (Pu.ls (pu_var rfl) hl) (nw_sortedSet (ms := ns) (Pu.ls (pu_var rfl) hl) hz hs fun x => Iff.rfl).ls) fun _ => gv_all (bs := ns.map fun _ => true) ((nw_lcL (K := K) (fun _ => true) (fun _ => .bl true) (Pu.ls (pu_var rfl) hl) (by rw [nvs_len]; omega) (fun _ => rfl) (fun x hx => pt_yes.gt) (fun x hx _ => ?_)).is ?_).ls).is ?_) q
    · obtain ⟨k, hk, rfl⟩ := List.mem_map.mp hx
      have := hm k hk
      refine (gv_andV (b := true) (c := true) ((pu_I0 pu_c (pu_var rfl)).is ?_).gv fun _ => ((pu_I0 (pu_var rfl) (pu_var rfl)).is ?_).gv)
      · exact congrArg V.bl (decide_eq_true (by omega))
      · exact congrArg V.bl (decide_eq_true (by omega))
    · rw [filter_all _ _ fun _ _ => rfl]
      show (ns.map fun n : Nat => V.int (n : Int)).map _ = (ns.map _).map V.bl
      rw [List.map_map, List.map_map]
      rfl
    · rw [decide_eq_true rfl, Bool.true_and]
      congr 1
      rw [List.all_eq_true]
      intro x hx
      obtain ⟨_, _, rfl⟩ := List.mem_map.mp hx
      rfl
/-! 0 _law_ties, 1 _law_some, 2 _law_others, 3 _law_found, 4 _law_k, 5 _law_one, 6 _law_two -/
abbrev s__law_between : Stmt := topS 75
abbrev N__law_between : List Str := ["_law_ties", "_law_some", "_law_others", "_law_found", "_law_k", "_law_one", "_law_two"]
theorem sc__law_between : FnScope N__law_between ["_law_ties", "_law_some", "_law_others"] (defScope s__law_between) := ⟨rfl, rfl, rfl, by decide +kernel, rfl, by decide +kernel, by decide +kernel⟩
def sp_lbetween (K : PySem.W.Frag) : Sp := fun vs H Q _ => ∃ (a l m : Addr) (ts : List Tie) (A B : List Nat), vs = [.ref a, .ref l, .ref m] ∧ TieLst K H a ts ∧ ts.length ≤ 40 ∧ SqL K H l (nvs A) ∧ SqL K H m (nvs B) ∧
  ∀ r H2, H r = none → Same H H2 → H2 r = some (.lst (nvs (btw ts A B))) → Q (.ref r) H2
section
variable {σ : St} {H : Hp} {te : TE} {tz : TS} {D : Ends} {r : Addr} {v1 v2 : V}
theorem q_unp2 {i1 i2 : Nat} (ha : Pu te σ H (.ref r)) (hs : SqT K H r [v1, v2]) (q : tz D ((σ.set i1 (some v1)).set i2 (some v2)) H) : tSeq (tAsg te (gTup K 2 (gCons (gName i1) (gCons (gName i2) gNil)))) tz D σ H := ha.at ⟨r, _, rfl, hs, rfl, _, _, rfl, _, _, rfl, rfl, q⟩
end
theorem ok_lbetween (F : Df K mg "_law_between" ["_law_ties", "_law_some", "_law_others"] s__law_between) (T : Bt mg) : Gd P w K mg base 1 "_law_between" ["_law_ties", "_law_some", "_law_others"] (sp_lbetween K) := by
  refine F.gd sc__law_between (fun vs H Q E h => ?_) (fun f cdv A outer s H vs Q E hr h => ?_)
  · obtain ⟨a, l, m, ts, A, B, rfl, _⟩ := h
    rfl
  · obtain ⟨a, l, m, ts, A, B, rfl, ha, h40, hA, hB, q⟩ := h
    refine ⟨_, (pss_cons (ps_set (i := 3) sc__law_between.nd rfl (Or.inl rfl) (pe_lst pa_nil))
      (pss_cons (ps_for PassesOwn.never rfl (pi_range1 rfl T.range (pa_cons (pe_callB (w_len K) (by rfl) T.len PySem.boot_len (pa_cons (pv 0) pa_nil)) pa_nil)) (pg_name (i := 4) sc__law_between.nd rfl (Or.inl rfl))
        (pss_cons (ps_asg (pe_ix (w_ixL K) (pv 0) (pv 4) (fun _ _ => rfl)) (w_pgTup K rfl (pgs_cons (pg_name (i := 5) sc__law_between.nd rfl (Or.inl rfl)) (pgs_cons (pg_name (i := 6) sc__law_between.nd rfl (Or.inl rfl)) pgs_nil))))
        (pss_one (ps_if (PW.pt (pw_or (PW.pt (pw_and (pt_cmpR (w_in K) (pv 5) (pv 1) (by rfl)) (pw_and1 (pt_cmpR (w_in K) (pv 6) (pv 2) (by rfl))))) (pw_or1 (PW.pt (pw_and (pt_cmpR (w_in K) (pv 5) (pv 2) (by rfl)) (pw_and1 (pt_cmpR (w_in K) (pv 6) (pv 1) (by rfl))))))))
          (pss_one (ps_expr (w_bm K PySem.F.plainAttrs_list PySem.F.slot_list_append PySem.F.type_list_append mt_append (pv 3) (pa_cons (pv 4) pa_nil))))
          pss_nil))))
      (pss_one (ps_ret (pv 3))))), ?_⟩
    refine q_nw (nw_lst pa0 (by decide)) fun fo H1 f1 s1 e1 => ?_
    refine q_forR (n := ts.length) (pa1 (pu_lenLT (ha.mono s1) (pu_var rfl)) pa0) (by omega) (fun i σ' H' => ∃ (v4 v5 v6 : Option V), σ' = [some (.ref a), some (.ref l), some (.ref m), some (.ref fo), v4, v5, v6] ∧ Same H H' ∧ H' fo = some (.lst (nvs ((List.range i).filter fun k => joins (tieAt ts k) A B))))
      ⟨none, none, none, rfl, s1, e1⟩ ?_ ?_
    · rintro i σ' H' hi ⟨v4, v5, v6, rfl, s2, e2⟩
      have he := tieAt_get hi
      obtain ⟨r, hpr, hp⟩ := pu_ltie (ta := tVar 0) (tb := tVar 4) (σ := [some (.ref a), some (.ref l), some (.ref m), some (.ref fo), some (.int (i : Int)), v5, v6]) (ha.mono s2) (pu_var rfl) (pu_var rfl) he
      refine q_unp2 hp hpr.sq ?_
      refine s_when (b := joins (tieAt ts i) A B) (pt_orP (pt_andP (pt_test (pu_inL (s2.seq hA) (pu_var rfl) (pu_var rfl))) fun _ => pt_test (pu_inL (s2.seq hB) (pu_var rfl) (pu_var rfl))) fun _ => pt_andP (pt_test (pu_inL (s2.seq hB) (pu_var rfl) (pu_var rfl))) fun _ => pt_test (pu_inL (s2.seq hA) (pu_var rfl) (pu_var rfl))) (fun hb => ?_) (fun hb => ?_)
      · refine s_app (pu_var rfl) e2 (pu_var rfl) ?_ ?_
        · rw [nvs_len]
          have h1 := List.length_filter_le (fun k => joins (tieAt ts k) A B) (List.range i)
          rw [List.length_range] at h1
          omega
        · refine ⟨_, _, _, rfl, Same.mut s2 f1, ?_⟩
          rw [upd_same, List.range_succ, List.filter_append, nvs_app]
          have e5 : List.filter (fun k => joins (tieAt ts k) A B) [i] = [i] := by simp [hb]
          rw [e5]
          rfl
      · refine ⟨_, _, _, rfl, s2, ?_⟩
        rw [List.range_succ, List.filter_append]
        have e5 : List.filter (fun k => joins (tieAt ts k) A B) [i] = [] := by simp [hb]
        rw [e5, List.append_nil]
        exact e2
    · rintro σ' H' ⟨v4, v5, v6, rfl, s2, e2⟩
      exact s_ret (pu_var rfl) (q fo H' f1 s2 e2)
end
end Bz

set_option Elab.async false
set_option linter.all false
set_option maxRecDepth 100000
set_option maxHeartbeats 1000000
namespace Bz
open PySem PySem.Spec L2
section
variable {P : Program} {w : World} {K : PySem.W.Frag} {mg : Str → Option Value} {base : Heap} {C CP : Addr}
section
variable {σ : St} {H : Hp} {ta tb te t1 t2 : TE} {tz : TS} {D : Ends} {l : Addr} {v : V} {xs : List V}
theorem s_appG (ha : Pu ta σ H (.ref l)) (hl : H l = some (.lst xs)) (he : Gv te σ H v) (hz : xs.length < 100000) (k : ∀ H1, Same H H1 → D.nx σ (upd H1 l (.lst (xs ++ [v])))) : tDrop (tBM K "list" rAppend ta (tCons te tNil)) D σ H :=
  ha.at ⟨.inl ⟨rfl, _, SqL.of hl⟩, he.at fun H1 s => ⟨l, xs, v, rfl, rfl, s _ _ hl, small_lt hz, k H1 s⟩⟩
theorem q_appG (ha : Pu ta σ H (.ref l)) (hl : H l = some (.lst xs)) (he : Gv te σ H v) (hz : xs.length < 100000) (k : ∀ H1, Same H H1 → tz D σ (upd H1 l (.lst (xs ++ [v])))) : tSeq (tDrop (tBM K "list" rAppend ta (tCons te tNil))) tz D σ H := s_appG (D := { D with nx := tz D }) ha hl he hz k
theorem gv_ixG {i : Nat} (ha : Ls ta σ H xs) (hb : Gv tb σ H (.int (i : Int))) (hv : xs[i]? = some v) : Gv (tOp (rIxL K) ta tb) σ H v := fun H1 e Q q =>
  ha H1 e _ fun p H2 e2 hp => hb H2 (e.trans e2) _ fun H3 e3 => ⟨p, xs, (i : Int), v, rfl, rfl, SqL.of (e3 _ _ hp), atI_nat hv, q H3 (e2.trans e3)⟩
theorem pu_neB {b c : Bool} (ha : Pu ta σ H (.bl b)) (hb : Pu tb σ H (.bl c)) : Pu (tOp rNe ta tb) σ H (.bl (!decide (b = c))) := (pu_ne (x := .bl b) (y := .bl c) rfl ha hb).is (by cases b <;> cases c <;> rfl)
end
/-! 0 _law_ties, 1 _law_held, 2 _law_first, 3 _law_found, 4 _law_grown, 5 _law_k, 6 _law_one, 7 _law_two -/
abbrev s__law_together : Stmt := topS 76
abbrev N__law_together : List Str := ["_law_ties", "_law_held", "_law_first", "_law_found", "_law_grown", "_law_k", "_law_one", "_law_two"]
theorem sc__law_together : FnScope N__law_together ["_law_ties", "_law_held", "_law_first"] (defScope s__law_together) := ⟨rfl, rfl, rfl, by decide +kernel, rfl, by decide +kernel, by decide +kernel⟩
def sp_together (K : PySem.W.Frag) : Sp := fun vs H Q _ => ∃ (a h : Addr) (n p : Nat) (ts : List Tie) (is : List Nat), vs = [.ref a, .ref h, .int (p : Int)] ∧ TieLst K H a ts ∧ Valid n ts ∧ SqL K H h (nvs is) ∧ (∀ k ∈ is, k < ts.length) ∧ p < n ∧
  ∀ r H2, H r = none → Same H H2 → H2 r = some (.lst (nvs (pieceL (sub ts is) n p))) → Q (.ref r) H2
structure Tog (ts : List Tie) (is : List Nat) (n p : Nat) (F : List Nat) : Prop where
  nd : F.Nodup
  lt : ∀ y ∈ F, y < n
  rc : ∀ y ∈ F, Rch (sub ts is) p y
  st : p ∈ F
theorem Tog.len {ts : List Tie} {is : List Nat} {n p : Nat} {F : List Nat} (R : Tog ts is n p F) : F.length ≤ n := nodup_len n F R.nd R.lt
theorem Tog.add {ts : List Tie} {is : List Nat} {n p x y : Nat} {F : List Nat} (R : Tog ts is n p F) (hx : x ∈ F) (hy : y ∉ F) (hyn : y < n) (h : Rch (sub ts is) x y) : Tog ts is n p (F ++ [y]) :=
  ⟨nodup_snoc R.nd hy, fun z hz => (List.mem_append.mp hz).elim (R.lt z) fun q => by rw [List.mem_singleton.mp q]; exact hyn, fun z hz => (List.mem_append.mp hz).elim (R.rc z) fun q => by rw [List.mem_singleton.mp q]; exact (R.rc x hx).trans h, List.mem_append_left _ R.st⟩
theorem Tog.all {ts : List Tie} {is : List Nat} {n p : Nat} {F : List Nat} (R : Tog ts is n p F) (hv : ∀ e ∈ sub ts is, e.1 < n ∧ e.2 < n) (hp : p < n) (hc : ∀ k ∈ is, ((tieAt ts k).1 ∈ F ↔ (tieAt ts k).2 ∈ F)) : srt F = pieceL (sub ts is) n p :=
  rising_ext (srt_strict R.nd) (pieceL_up _ n p) fun y => by
    rw [mem_srt, mem_pieceL]
    refine ⟨fun h => ⟨R.lt y h, R.rc y h⟩, fun h => h.2 (fun z => z ∈ F) (fun e he => ?_) R.st⟩
    obtain ⟨k, hk, rfl⟩ := mem_sub.mp he
    exact hc k hk
theorem ok_together (F : Df K mg "_law_together" ["_law_ties", "_law_held", "_law_first"] s__law_together) (T : Bt mg) : Gd P w K mg base 1 "_law_together" ["_law_ties", "_law_held", "_law_first"] (sp_together K) := by
  refine F.gd sc__law_together (fun vs H Q E h => ?_) (fun f cdv A outer s H vs Q E hr h => ?_)
  · obtain ⟨a, h, n, p, ts, is, rfl, _⟩ := h
    rfl
  · obtain ⟨a, h, n, p, ts, is, rfl, ha, hV, hh, hm, hp, q⟩ := h
    refine ⟨_, (pss_cons (ps_set (i := 3) sc__law_together.nd rfl (Or.inl rfl) (pe_lst (pa_cons (pv 2) pa_nil)))
      (pss_cons (ps_set (i := 4) sc__law_together.nd rfl (Or.inl rfl) pe_bl)
      (pss_cons (ps_while PassesOwn.never (pt_val (pv 4))
        (pss_cons (ps_set (i := 4) sc__law_together.nd rfl (Or.inl rfl) pe_bl)
        (pss_one (ps_for PassesOwn.never rfl (w_piL K (pv 1)) (pg_name (i := 5) sc__law_together.nd rfl (Or.inl rfl))
          (pss_cons (ps_asg (pe_ix (w_ixL K) (pv 0) (pv 5) (fun _ _ => rfl)) (w_pgTup K rfl (pgs_cons (pg_name (i := 6) sc__law_together.nd rfl (Or.inl rfl)) (pgs_cons (pg_name (i := 7) sc__law_together.nd rfl (Or.inl rfl)) pgs_nil))))
          (pss_one (ps_if (pt_cmpR op_ne (pe_cmpR (w_in K) (pv 6) (pv 3) (by rfl)) (pe_cmpR (w_in K) (pv 7) (pv 3) (by rfl)) (nomark _))
            (pss_cons (ps_expr (w_bm K PySem.F.plainAttrs_list PySem.F.slot_list_append PySem.F.type_list_append mt_append (pv 3) (pa_cons (pe_ix (w_ixL K) (pe_lst (pa_cons (pv 6) (pa_cons (pv 7) pa_nil))) (pe_callTy call_int1 (by rfl) T.int (by decide +kernel) (pa_cons (pe_cmpR (w_in K) (pv 6) (pv 3) (by rfl)) pa_nil)) (fun _ _ => rfl)) pa_nil)))
            (pss_one (ps_set (i := 4) sc__law_together.nd rfl (Or.inl rfl) pe_bl)))
            pss_nil)))))))
      (pss_one (ps_ret (pe_callB (w_sorted K) (by rfl) T.sorted (by decide +kernel) (pa_cons (pv 3) pa_nil))))))), ?_⟩
    have h20 := hV.most
    refine q_nw (nw_lst (pa1 (pu_var rfl) pa0) (by show 1 ≤ 100000; decide)) fun fo H1 f1 s1 e1 => ?_
    refine q_pu pu_c ?_
    refine q_while (fun m σ' H' => ∃ (F : List Nat) (g : Bool) (v5 v6 v7 : Option V), σ' = [some (.ref a), some (.ref h), some (.int (p : Int)), some (.ref fo), some (.bl g), v5, v6, v7] ∧ Same H H' ∧ H' fo = some (.lst (nvs F)) ∧ Tog ts is n p F ∧ (g = false → ∀ k ∈ is, ((tieAt ts k).1 ∈ F ↔ (tieAt ts k).2 ∈ F)) ∧ m = 2 * (n - F.length) + (if g then 1 else 0)) (2 * (n - 1) + 1)
      ⟨[p], true, none, none, none, rfl, s1, e1, ⟨List.pairwise_singleton _ _, fun y hy => by rw [List.mem_singleton.mp hy]; exact hp, fun y hy => by rw [List.mem_singleton.mp hy]; exact Rch.refl _ _, List.mem_singleton.mpr rfl⟩, fun h => (by cases h), rfl⟩ ?_
    rintro m σ' H2 ⟨F0, g, v5, v6, v7, rfl, s2, e2, R0, hcl, rfl⟩
    refine ⟨_, pt_test (pu_var rfl), fun hg => ?_, fun hg => ?_⟩
    · subst hg
      refine q_pu pu_c ?_
      refine s_forL (pu_var rfl) (s2.seq hh) (fun i σ' H' => ∃ (F : List Nat) (g : Bool) (v5 v6 v7 : Option V), σ' = [some (.ref a), some (.ref h), some (.int (p : Int)), some (.ref fo), some (.bl g), v5, v6, v7] ∧ Same H H' ∧ H' fo = some (.lst (nvs F)) ∧ Tog ts is n p F ∧ (g = false → F = F0 ∧ ∀ k ∈ is.take i, ((tieAt ts k).1 ∈ F0 ↔ (tieAt ts k).2 ∈ F0)) ∧ (g = true → F0.length < F.length))
        ⟨F0, false, _, _, _, rfl, s2, e2, R0, fun _ => ⟨rfl, fun k hk => by simp at hk⟩, fun h => (by cases h)⟩ (fun i σ' H' _ ⟨_, _, _, _, _, _, s, _⟩ => s.seq hh) ?_ ?_
      · rintro i xv σ' H3 hx ⟨F, g, v5, v6, v7, rfl, s3, e3, R, hg1, hg2⟩
        obtain ⟨k, hki, rfl⟩ := nvs_of hx
        have hkis : k ∈ is := List.mem_of_getElem? hki
        have hkl := hm k hkis
        have he := tieAt_get hkl
        have hb := hV.at he
        have hFl := R.len
        obtain ⟨r, hpr, hpu⟩ := pu_ltie (ta := tVar 0) (tb := tVar 5) (σ := [some (.ref a), some (.ref h), some (.int (p : Int)), some (.ref fo), some (.bl g), some (.int (k : Int)), v6, v7]) (ha.mono s3) (pu_var rfl) (pu_var rfl) he
        refine q_unp2 hpu hpr.sq ?_
        have p6 : ∀ {H' : Hp} {F : List Nat}, H' fo = some (.lst (nvs F)) → Pu (tOp (rIn K false) (tVar 6) (tVar 3)) [some (.ref a), some (.ref h), some (.int (p : Int)), some (.ref fo), some (.bl g), some (.int (k : Int)), some (.int ((tieAt ts k).1 : Int)), some (.int ((tieAt ts k).2 : Int))] H' (.bl (decide ((tieAt ts k).1 ∈ F))) := fun e => pu_inL (SqL.of e) (pu_var rfl) (pu_var rfl)
        have p7 : ∀ {H' : Hp} {F : List Nat}, H' fo = some (.lst (nvs F)) → Pu (tOp (rIn K false) (tVar 7) (tVar 3)) [some (.ref a), some (.ref h), some (.int (p : Int)), some (.ref fo), some (.bl g), some (.int (k : Int)), some (.int ((tieAt ts k).1 : Int)), some (.int ((tieAt ts k).2 : Int))] H' (.bl (decide ((tieAt ts k).2 ∈ F))) := fun e => pu_inL (SqL.of e) (pu_var rfl) (pu_var rfl)
        have tsub : Rch (sub ts is) (tieAt ts k).1 (tieAt ts k).2 := Rch.tie (sub_mem hkis)
        refine s_when (pt_test (pu_neB (p6 e3) (p7 e3))) (fun hb2 => ?_) (fun hb2 => ?_)
        · have fin : ∀ (y : Nat) (H4 : Hp), Same H3 H4 → Tog ts is n p (F ++ [y]) → ∃ (F2 : List Nat) (g2 : Bool) (w5 w6 w7 : Option V), [some (V.ref a), some (.ref h), some (.int (p : Int)), some (.ref fo), some (.bl true), some (.int (k : Int)), some (.int ((tieAt ts k).1 : Int)), some (.int ((tieAt ts k).2 : Int))] = [some (.ref a), some (.ref h), some (.int (p : Int)), some (.ref fo), some (.bl g2), w5, w6, w7] ∧ Same H (upd H4 fo (.lst (nvs F ++ [.int (y : Int)]))) ∧
              upd H4 fo (.lst (nvs F ++ [.int (y : Int)])) fo = some (.lst (nvs F2)) ∧ Tog ts is n p F2 ∧ (g2 = false → F2 = F0 ∧ ∀ k ∈ is.take (i + 1), ((tieAt ts k).1 ∈ F0 ↔ (tieAt ts k).2 ∈ F0)) ∧ (g2 = true → F0.length < F2.length) := fun y H4 s4 Ry => by
            refine ⟨F ++ [y], true, _, _, _, rfl, Same.mut (s3.trans s4) f1, by rw [upd_same, nvs_app]; rfl, Ry, fun h => (by cases h), fun _ => ?_⟩
            rw [List.length_append]
            show F0.length < F.length + 1
            cases g with
            | false => rw [(hg1 rfl).1]; exact Nat.lt_succ_self _
            | true => exact Nat.lt_succ_of_lt (hg2 rfl)
          by_cases c1 : (tieAt ts k).1 ∈ F
          · have c2 : (tieAt ts k).2 ∉ F := fun c2 => by rw [decide_eq_true c1, decide_eq_true c2] at hb2; cases hb2
            refine q_appG (v := .int ((tieAt ts k).2 : Int)) (pu_var rfl) e3 (gv_ixG (i := 1) (nw_lst (pa1 (pu_var rfl) (pa1 (pu_var rfl) pa0)) (by show 2 ≤ 100000; decide)).ls ((gv_intB (p6 e3).gv).is (by rw [decide_eq_true c1]; rfl)) rfl) (by rw [nvs_len]; omega) fun H4 s4 => ?_
            dsimp only
            refine s_pu pu_c ?_
            exact fin _ H4 s4 (R.add c1 c2 hb.2 tsub)
          · have c2 : (tieAt ts k).2 ∈ F := Classical.byContradiction fun c2 => by rw [decide_eq_false c1, decide_eq_false c2] at hb2; cases hb2
            refine q_appG (v := .int ((tieAt ts k).1 : Int)) (pu_var rfl) e3 (gv_ixG (i := 0) (nw_lst (pa1 (pu_var rfl) (pa1 (pu_var rfl) pa0)) (by show 2 ≤ 100000; decide)).ls ((gv_intB (p6 e3).gv).is (by rw [decide_eq_false c1]; rfl)) rfl) (by rw [nvs_len]; omega) fun H4 s4 => ?_
            dsimp only
            refine s_pu pu_c ?_
            exact fin _ H4 s4 (R.add c2 c1 hb.1 tsub.symm)
        · refine ⟨F, g, _, _, _, rfl, s3, e3, R, fun hgf => ?_, hg2⟩
          obtain ⟨a1, a2⟩ := hg1 hgf
          refine ⟨a1, fun k2 hk2 => ?_⟩
          rw [take_next hki] at hk2
          rcases List.mem_append.mp hk2 with z | z
          · exact a2 k2 z
          · rw [List.mem_singleton.mp z, ← a1]
            have h9 : (decide ((tieAt ts k).1 ∈ F) : Bool) = decide ((tieAt ts k).2 ∈ F) := by
              cases x1 : (decide ((tieAt ts k).1 ∈ F) : Bool) <;> cases x2 : (decide ((tieAt ts k).2 ∈ F) : Bool) <;> rw [x1, x2] at hb2 <;> first | rfl | cases hb2
            exact decide_eq_decide.mp h9
      · rintro σ' H3 ⟨F, g, v5, v6, v7, rfl, s3, e3, R, hg1, hg2⟩
        rw [nvs_len, List.take_length] at hg1
        have hFl := R.len
        refine ⟨2 * (n - F.length) + (if g then 1 else 0), ?_, F, g, _, _, _, rfl, s3, e3, R, fun hgf => ?_, rfl⟩
        · cases g with
          | false =>
            rw [(hg1 rfl).1]
            show 2 * (n - F0.length) + 0 < 2 * (n - F0.length) + 1
            omega
          | true =>
            have := hg2 rfl
            show 2 * (n - F.length) + 1 < 2 * (n - F0.length) + 1
            omega
        · obtain ⟨a1, a2⟩ := hg1 hgf
          rw [a1]
          exact a2
    · subst hg
      have hFl := R0.len
      refine s_retN (nw_sorted (Pu.ls (pu_var rfl) e2) (by omega) (srt F0) (srt_perm F0) (srt_sorted F0)) fun r H3 f3 s3 e3 => ?_
      rw [R0.all (fun e he => by
        obtain ⟨k, hk, rfl⟩ := mem_sub.mp he
        exact hV.ends _ (tieAt_mem (hm k hk))) hp (hcl rfl)] at e3
      exact q r H3 (s2.free f3) (s2.trans s3) e3
theorem sub_range (ts : List Tie) : sub ts (List.range ts.length) = ts := by
  refine List.ext_getElem? fun i => ?_
  by_cases hi : i < ts.length
  · rw [sub_get (List.getElem?_range hi), tieAt_get hi]
  · rw [List.getElem?_eq_none_iff.mpr (by rw [sub_len, List.length_range]; omega), List.getElem?_eq_none_iff.mpr (by omega)]
section
variable {σ : St} {H : Hp} {ta tb tc : TE} {a h : Addr} {n p : Nat} {ts : List Tie} {is : List Nat}
theorem nw_together (hT : TieLst K H a ts) (hV : Valid n ts) (hh : Ls tb σ H (nvs is)) (hm : ∀ k ∈ is, k < ts.length) (hp : p < n) (ha : Pu ta σ H (.ref a)) (hc : Pu tc σ H (.int (p : Int))) : Nw (tGd (sp_together K) (tCons ta (tCons tb (tCons tc tNil)))) σ H (nvs (pieceL (sub ts is) n p)) := fun H1 e Q q =>
  ha H1 e _ (hh H1 e _ fun l H2 e2 hl => hc H2 (e.trans e2) _ ⟨a, l, n, p, ts, is, rfl, (hT.mono e).mono e2, hV, SqL.of hl, hm, hp, fun r H3 f3 s3 e3 => q r H3 (e2.free f3) (e2.trans s3) e3⟩)
end
end
end Bz

set_option Elab.async false
set_option linter.all false
set_option maxRecDepth 100000
set_option maxHeartbeats 1000000
namespace Bz
open PySem PySem.Spec L2
section
variable {P : Program} {w : World} {K : PySem.W.Frag} {mg : Str → Option Value} {base : Heap} {C CP : Addr}
section
variable {σ : St} {H : Hp} {ta tb te t1 t2 : TE} {tz : TS} {D : Ends} {l : Addr} {v : V} {xs : List V} {tr : TA}
/-- a list of pairs over a range -/
theorem nt_lcR {m : Nat} {j : Nat} {vs : List Nat} {ts : List Tie} (h : PuA tr σ H [.int (m : Int)]) (hm : ts.length = m) (hz : m ≤ 1000) (hw : ∀ x, wipe ((wipe σ vs).set j (some x)) vs = wipe σ vs)
    (he : ∀ (i : Nat) (e : Tie), ts[i]? = some e → Pu t1 ((wipe σ vs).set j (some (.int (i : Int)))) H (.int (e.1 : Int)) ∧ Pu t2 ((wipe σ vs).set j (some (.int (i : Int)))) H (.int (e.2 : Int))) :
    Nt K (tLc (iRng1 tr) (gName j) tYes (tTupF (tCons t1 (tCons t2 tNil))) vs) σ H ts := fun H1 e1 Q q => h H1 e1 _ ⟨(m : Int), rfl, by omega, by omega, fun Dl hD =>
  lc_range (lo := 0) (n := ((m : Int)).toNat) (fun i H' => Same H1 H' ∧ ∃ rs2, H' Dl = some (.lst (rvs rs2)) ∧ Refs K H' rs2 (ts.take i)) ⟨same_new hD, [], upd_same, rfl, fun k r g a => by simp at a⟩ (fun i H' hi p => by
    have hi' : i < ts.length := by omega
    have hg : ts[i]? = some ts[i] := List.getElem?_eq_getElem hi'
    have e0 : (0 : Int) + (i : Int) = (i : Int) := Int.zero_add _
    show wipe ((wipe σ vs).set j (some (.int (0 + (i : Int))))) vs = wipe σ vs ∧ _
    rw [e0]
    refine ⟨hw _, ?_⟩
    obtain ⟨s, rs2, p2, p3⟩ := p
    obtain ⟨h1, h2⟩ := he i _ hg
    rw [take_next hg]
    refine iteT (B := Same H1 H' ∧ ∃ rs2, H' Dl = some (.lst (rvs rs2)) ∧ Refs K H' rs2 (ts.take i ++ [ts[i]])) ?_
    refine pair_turn s hD p2 p3 ?_ (h1.mono e1) (h2.mono e1)
    rw [p3.1, List.length_take]
    omega) (fun H' p => by
      obtain ⟨s, rs2, p2, p3⟩ := p
      refine q Dl H' rs2 hD s p2 ?_
      rw [show ((m : Int)).toNat = ts.length by omega, List.take_length] at p3
      exact p3)⟩
theorem s_retPairNt {ts : List Tie} (h1 : Pu t1 σ H v) (hn : Nt K te σ H ts) (k : ∀ l rs H1 r, Same H H1 → H1 l = some (.lst (rvs rs)) → Refs K H1 rs ts → H1 r = none → D.rt (.ref r) (upd H1 r (.tup [v, .ref l]))) : tRet (tTup (tCons t1 (tCons te tNil))) D σ H :=
  h1.at (hn H (Same.refl H) _ fun p H2 rs _ s e R => ⟨by show 2 ≤ sizeLine; decide, fun r hr => k p rs H2 r s e R hr⟩)
def GvA (ta : TA) (σ : St) (H : Hp) (vs : List V) : Prop := ∀ H1, Same H H1 → ∀ Q : List V → Hp → Prop, (∀ H2, Same H1 H2 → Q vs H2) → ta σ H1 Q
theorem ga0 : GvA tNil σ H [] := fun _ _ _ q => q _ (Same.refl _)
theorem ga1 {vs : List V} (ha : Gv ta σ H v) (hr : GvA tr σ H vs) : GvA (tCons ta tr) σ H (v :: vs) := fun H1 e Q q => ha H1 e _ fun H2 e2 => hr H2 (e.trans e2) _ fun H3 e3 => q H3 (e2.trans e3)
theorem nw_lstG {vs : List V} (h : GvA tr σ H vs) (hl : vs.length ≤ 100000) : Nw (tLst tr) σ H vs := fun H1 e Q q => h H1 e _ fun H2 e2 => ⟨small_le hl, fun p hp => q p _ (e2.free hp) (e2.trans (same_new hp)) upd_same⟩
theorem gv_lrising {ns : List Nat} {m : Nat} (hl : H l = some (.lst (nvs ns))) (hs : ns.Pairwise (· < ·)) (hm : ∀ k ∈ ns, k < m) (hz : ns.length < 64) (ha : Pu ta σ H (.ref l)) (hb : Pu tb σ H (.int (m : Int))) : Gv (tGd (sp_lrising K) (tCons ta (tCons tb tNil))) σ H (.bl true) :=
  gv_gd (pa1 ha (pa1 hb pa0)) fun H1 e Q q => ⟨l, m, ns, rfl, e _ _ hl, hs, hm, hz, q⟩
/-- [f(k) for k in places], truths -/
theorem nw_lcB {tl : TE} {j : Nat} {vs : List Nat} {ns : List Nat} (f : Nat → Bool) (h : Ls tl σ H (nvs ns)) (hz : ns.length ≤ 10000) (hw : ∀ x, wipe ((wipe σ vs).set j (some x)) vs = wipe σ vs) (he : ∀ k ∈ ns, Gv te ((wipe σ vs).set j (some (.int (k : Int)))) H (.bl (f k))) :
    Nw (tLc (iList K tl) (gName j) tYes te vs) σ H ((ns.map f).map V.bl) := by
  refine (nw_lcL (K := K) (fun _ => true) (fun v => match v with | .int z => .bl (f z.toNat) | v => v) h (by rw [nvs_len]; exact hz) hw (fun x hx => pt_yes.gt) (fun x hx _ => ?_)).is ?_
  · obtain ⟨k, hk, rfl⟩ := List.mem_map.mp hx
    exact he k hk
  · rw [filter_all _ _ fun _ _ => rfl]
    show (ns.map fun n : Nat => V.int (n : Int)).map _ = _
    rw [List.map_map, List.map_map]
    rfl
theorem any_false {ns : List Nat} {f : Nat → Bool} (h : ∀ k ∈ ns, f k = false) : (ns.map f).any id = false := by
  rw [List.any_eq_false]
  intro x hx
  obtain ⟨k, hk, rfl⟩ := List.mem_map.mp hx
  rw [id, h k hk]
  decide
theorem ls_lbtw {a m : Addr} {ts : List Tie} {A B : List Nat} {tc : TE} (hT : TieLst K H a ts) (h40 : ts.length ≤ 40) (hA : SqL K H l (nvs A)) (hB : SqL K H m (nvs B)) (ha : Pu ta σ H (.ref a)) (hb : Pu tb σ H (.ref l)) (hc : Pu tc σ H (.ref m)) :
    Nw (tGd (sp_lbetween K) (tCons ta (tCons tb (tCons tc tNil)))) σ H (nvs (btw ts A B)) := fun H1 e Q q =>
  (pa1 ha (pa1 hb (pa1 hc pa0))) H1 e _ ⟨a, l, m, ts, A, B, rfl, hT.mono e, h40, e.seq hA, e.seq hB, fun r H2 f2 s2 e2 => q r H2 f2 s2 e2⟩
end
/-! 0 _law_script, 1 _law_most, 2 _law_some, 3 _law_lead, 4 _law_many, 5 _law_count, 6 _law_ends*, 7 _law_k -/
abbrev s__law_web : Stmt := topS 71
abbrev N__law_web : List Str := ["_law_script", "_law_most", "_law_some", "_law_lead", "_law_many", "_law_count", "_law_ends", "_law_k"]
theorem sc__law_web : FnScope N__law_web ["_law_script", "_law_most", "_law_some"] (defScope s__law_web) := ⟨rfl, rfl, rfl, by decide +kernel, rfl, by decide +kernel, by decide +kernel⟩
def sp_lweb (K : PySem.W.Frag) : Sp := fun vs H Q _ => ∃ (l : Addr) (ns : List Int), vs = [.ref l, .int 8, .int 14] ∧ SqL K H l (ivs ns) ∧
  ∀ n ts l2 r H2, Valid n ts → n ≤ 8 → ts.length ≤ 14 → TieLst K H2 l2 ts → Same H H2 → SqT K H2 r [.int (n : Int), .ref l2] → Q (.ref r) H2
theorem ok_lweb (F : Df K mg "_law_web" ["_law_script", "_law_most", "_law_some"] s__law_web) (T : Bt mg) (G__law_cell : Gd P w K mg base 1 "_law_cell" ["_law_script", "_law_k"] (sp_cell K)) (G__law_drawn : Gd P w K mg base 2 "_law_drawn" ["_law_script", "_law_at", "_law_base", "_law_many", "_law_by_digits"] (sp_drawn K)) :
    Gd P w K mg base 3 "_law_web" ["_law_script", "_law_most", "_law_some"] (sp_lweb K) := by
  refine F.gd sc__law_web (fun vs H Q E h => ?_) (fun f cdv A outer s H vs Q E hr h => ?_)
  · obtain ⟨l, ns, rfl, _⟩ := h
    rfl
  · obtain ⟨l, ns, rfl, hl, q⟩ := h
    have hr__law_cell := hr.mono (j := 1) (by decide)
    have hr__law_drawn := hr
    refine ⟨_, (pss_cons (ps_set (i := 3) sc__law_web.nd rfl (Or.inl rfl) (pe_gd G__law_cell hr__law_cell (by rfl) (pa_cons (pv 0) (pa_cons pe_int pa_nil))))
      (pss_cons (ps_set (i := 4) sc__law_web.nd rfl (Or.inl rfl) (pe_op op_add pe_int (pe_op op_mod (pv 3) (pv 1))))
      (pss_cons (ps_set (i := 5) sc__law_web.nd rfl (Or.inl rfl) (pe_op op_mod (pe_op op_fdiv (pv 3) (pv 1)) (pe_op op_add (pv 2) pe_int)))
      (pss_cons (ps_set (i := 6) sc__law_web.nd rfl (Or.inr rfl) (pe_gd G__law_drawn hr__law_drawn (by rfl) (pa_cons (pv 0) (pa_cons pe_int (pa_cons (pv 4) (pa_cons (pe_op op_mul pe_int (pv 5)) (pa_cons (pe_cmpR op_eq (pe_op op_mod (pe_op op_fdiv (pv 3) (pe_op op_mul (pv 1) (pe_op op_add (pv 2) pe_int))) pe_int) pe_int (nomark _)) pa_nil)))))))
      (pss_one (ps_ret (pe_tup (pa_cons (pv 4) (pa_cons (pe_lc (own := [("_law_k", 7)]) (g := gName 7) (by rfl) sc__law_web.nd (pi_range1 rfl T.range (pa_cons (pv 5) pa_nil)) (blkOk_by (own := [("_law_k", 7)]) (N := N__law_web) (sc := defScope s__law_web) (by decide +kernel)) (fun _ _ _ _ _ => (pg_name (i := 7) sc__law_web.nd rfl (Or.inl rfl))) (fun _ _ _ _ _ => pts_nil) (fun _ _ _ _ _ => (pe_tupF (pa_cons (pe_ix (w_ixL K) (pv 6) (pe_op op_mul pe_int (pv 7)) (fun _ _ => rfl)) (pa_cons (pe_ix (w_ixL K) (pv 6) (pe_op op_add (pe_op op_mul pe_int (pv 7)) pe_int) (fun _ _ => rfl)) pa_nil))))) pa_nil))))))))), ?_⟩
    refine q_gd (pa1 (pu_var rfl) (pa1 pu_c pa0)) ⟨l, ns, 0, rfl, hl, ?_⟩
    generalize ns.getD 0 0 = lead
    obtain ⟨n1, hn1, hn2⟩ := mod_nat lead (b := 8) (by decide)
    obtain ⟨c, hc1, hc2⟩ := mod_nat (lead / 8) (b := 15) (by decide)
    refine q_pu ((pu_I0 pu_c (pu_I (pu_var rfl) (pu_var rfl) (by decide))).is (x := .int ((n1 + 1 : Nat) : Int)) (congrArg V.int (by omega))) ?_
    refine q_pu ((pu_I (pu_I (pu_var rfl) (pu_var rfl) ⟨by decide, by decide⟩) (pu_I0 (pu_var rfl) pu_c) (by decide)).is (x := .int ((c : Nat) : Int)) (congrArg V.int (by omega))) ?_
    refine q_gd (pa1 (pu_var rfl) (pa1 pu_c (pa1 (pu_var rfl) (pa1 ((pu_I pu_c (pu_var rfl) (.inl (by decide))).is (x := .int ((2 * c : Nat) : Int)) (congrArg V.int (by omega))) (pa1 (pu_eqI (pu_I (pu_I (pu_var rfl) (pu_I (pu_var rfl) (pu_I0 (pu_var rfl) pu_c) (.inl (by decide))) ⟨by decide, by decide⟩) pu_c (by decide)) pu_c) pa0))))) ⟨l, ns, 1, n1 + 1, 2 * c, _, rfl, hl, by omega, by omega, by omega, fun es eo H1 hes hel f1 s1 e1 => ?_⟩
    have hget : ∀ i, i < 2 * c → es[i]? = some (es.getD i 0) := fun i hi => getD_get (by omega)
    refine s_retPairNt (K := K) (ts := (List.range c).map fun k => (es.getD (2 * k) 0, es.getD (2 * k + 1) 0)) (pu_var rfl) (nt_lcR (K := K) (m := c) (pa1 (pu_var rfl) pa0) (by rw [List.length_map, List.length_range]) (by omega) (fun _ => rfl) (fun i e hi => ?_)) fun l2 rs H2 r s2 e2 R2 hr2 => ?_
    · have hic : i < c := by
        have := (List.getElem?_eq_some_iff.mp hi).1
        rw [List.length_map, List.length_range] at this
        exact this
      rw [List.getElem?_map, List.getElem?_range hic] at hi
      have ee := (Option.some.inj hi).symm
      subst ee
      refine ⟨pu_ixN (i := 2 * i) (SqL.of e1) (pu_var rfl) ((pu_I pu_c (pu_var rfl) (.inl (by decide))).is (congrArg V.int (by omega))) (hget _ (by omega)), pu_ixN (i := 2 * i + 1) (SqL.of e1) (pu_var rfl) ((pu_I0 (pu_I pu_c (pu_var rfl) (.inl (by decide))) pu_c).is (congrArg V.int (by omega))) (hget _ (by omega))⟩
    · have sN : Same H2 (upd H2 r (.tup [.int ((n1 + 1 : Nat) : Int), .ref l2])) := same_new hr2
      refine q (n1 + 1) _ l2 r _ ⟨by omega, by omega, by rw [List.length_map, List.length_range]; omega, fun e he => ?_⟩ (by omega) (by rw [List.length_map, List.length_range]; omega) ⟨rs, SqL.of (sN _ _ e2), R2.mono sN⟩ ((s1.trans s2).trans sN) (SqT.of upd_same)
      obtain ⟨k, hk, rfl⟩ := List.mem_map.mp he
      have hk2 := List.mem_range.mp hk
      exact ⟨hel _ (List.mem_of_getElem? (hget (2 * k) (by omega))), hel _ (List.mem_of_getElem? (hget (2 * k + 1) (by omega)))⟩
/-! 0 _law_ties, 1 _law_even, 2 _law_places, 3 _law_ends*, 4 _law_k, 5 _law_place -/
abbrev s__law_even_good : Stmt := topS 77
abbrev N__law_even_good : List Str := ["_law_ties", "_law_even", "_law_places", "_law_ends", "_law_k", "_law_place"]
theorem sc__law_even_good : FnScope N__law_even_good ["_law_ties", "_law_even", "_law_places"] (defScope s__law_even_good) := ⟨rfl, rfl, rfl, by decide +kernel, rfl, by decide +kernel, by decide +kernel⟩
def sp_leven (K : PySem.W.Frag) : Sp := fun vs H Q _ => ∃ (a l m : Addr) (n p : Nat) (ts : List Tie) (is : List Nat), vs = [.ref a, .ref l, .ref m] ∧ TieLst K H a ts ∧ Valid n ts ∧ H l = some (.lst (nvs is)) ∧ H m = some (.lst (nvs [p])) ∧ p < n ∧ is.length ≤ 20 ∧
  (∀ k ∈ is, k < ts.length ∧ tieAt ts k = (p, p)) ∧ ∀ H2, Same H H2 → Q (.bl true) H2
theorem ok_leven (F : Df K mg "_law_even_good" ["_law_ties", "_law_even", "_law_places"] s__law_even_good) (T : Bt mg) (G__law_together : Gd P w K mg base 1 "_law_together" ["_law_ties", "_law_held", "_law_first"] (sp_together K)) : Gd P w K mg base 2 "_law_even_good" ["_law_ties", "_law_even", "_law_places"] (sp_leven K) := by
  refine F.gd sc__law_even_good (fun vs H Q E h => ?_) (fun f cdv A outer s H vs Q E hr h => ?_)
  · obtain ⟨a, l, m, n, p, ts, is, rfl, _⟩ := h
    rfl
  · obtain ⟨a, l, m, n, p, ts, is, rfl, ha, hV, hl, hm, hp, hlen, hev, q⟩ := h
    have hr__law_together := hr
    refine ⟨_, (pss_cons (ps_if (pt_cmpR (w_eqD K hr) (pv 1) (pe_lst pa_nil) (nomark _))
        (pss_one (ps_ret (pe_cmpR op_eq (pe_callB (w_len K) (by rfl) T.len PySem.boot_len (pa_cons (pv 2) pa_nil)) pe_int (nomark _))))
        pss_nil)
      (pss_cons (ps_set (i := 3) sc__law_even_good.nd rfl (Or.inr rfl) (pe_lst pa_nil))
      (pss_cons (ps_for PassesOwn.never rfl (w_piL K (pv 1)) (pg_name (i := 4) sc__law_even_good.nd rfl (Or.inl rfl))
        (pss_one (ps_set (i := 3) sc__law_even_good.nd rfl (Or.inr rfl) (pe_op op_cat (pv 3) (pe_lst (pa_cons (pe_ix (w_ixT K) (pe_ix (w_ixL K) (pv 0) (pv 4) (fun _ _ => rfl)) pe_int (fun _ _ => rfl)) (pa_cons (pe_ix (w_ixT K) (pe_ix (w_ixL K) (pv 0) (pv 4) (fun _ _ => rfl)) pe_int (fun _ _ => rfl)) pa_nil)))))))
      (pss_cons (ps_if (pt_val (pe_callB (w_any K rfl) (by rfl) T.any (by decide +kernel) (pa_cons (pe_lc (own := [("_law_place", 5)]) (g := gName 5) (by rfl) sc__law_even_good.nd (w_piL K (pv 3)) (blkOk_by (own := [("_law_place", 5)]) (N := N__law_even_good) (sc := defScope s__law_even_good) (by decide +kernel)) (fun _ _ _ _ _ => (pg_name (i := 5) sc__law_even_good.nd rfl (Or.inl rfl))) (fun _ _ _ _ _ => pts_nil) (fun _ _ _ _ _ => (pe_cmpR op_eq (pe_op op_mod (w_bm K PySem.F.plainAttrs_list PySem.F.slot_list_count PySem.F.type_list_count (w_cntL K) (pv 3) (pa_cons (pv 5) pa_nil)) pe_int) pe_int (nomark _)))) pa_nil)))
        (pss_one (ps_ret pe_bl))
        pss_nil)
      (pss_one (ps_ret (pe_and (pe_cmpR (w_eqD K hr) (pe_callB (w_sortedSet w rfl) (by rfl) T.sorted (by decide +kernel) (pa_cons (pe_callTy (w_setOf K w rfl) (by rfl) T.set (by decide +kernel) (pa_cons (pv 3) pa_nil)) pa_nil)) (pv 2) (nomark _)) (pe_one (pe_cmpR (w_eqD K hr) (pe_gd G__law_together hr__law_together (by rfl) (pa_cons (pv 0) (pa_cons (pv 1) (pa_cons (pe_ix (w_ixL K) (pv 2) pe_int (fun _ _ => rfl)) pa_nil)))) (pv 2) (nomark _)))))))))), ?_⟩
    refine q_whenG (gt_test (gv_eqL (Pu.ls (pu_var rfl) hl) ls_nil)) (fun hb H1 s1 => ?_) (fun hb H1 s1 => ?_)
    · exact s_ret ((pu_eqI (pu_lenN (SqL.of (s1 _ _ hm)) (pu_var rfl)) pu_c).is (by rfl)) (q H1 s1)
    · have hne : is ≠ [] := of_decide_eq_false hb
      have eE : endsL ts is = List.replicate (2 * is.length) p := endsL_loops fun k hk => (hev k hk).2
      have hpos : 0 < is.length := List.length_pos_iff.mpr hne
      have hmem : ∀ x, x ∈ [p] ↔ x ∈ endsL ts is := fun x => by
        rw [eE, List.mem_replicate, List.mem_singleton]
        exact ⟨fun h => ⟨by omega, h⟩, fun h => h.2⟩
      refine q_nw (nw_lst (vs := nvs []) pa0 (by decide)) fun e0 H2 f2 s2 e2 => ?_
      have s12 := s1.trans s2
      refine q_forL (pu_var rfl) (SqL.of (s12 _ _ hl)) (fun i σ' H' => ∃ (eo : Addr) (v4 : Option V), σ' = [some (.ref a), some (.ref l), some (.ref m), some (.ref eo), v4, none] ∧ Same H H' ∧ H' eo = some (.lst (nvs (endsL ts (is.take i)))))
        ⟨e0, none, rfl, s12, e2⟩ (fun i σ' H' _ ⟨_, _, _, s, _⟩ => SqL.of (s _ _ hl)) ?_ ?_
      · rintro i xv σ' H3 hx ⟨eo, v4, rfl, s3, e3⟩
        obtain ⟨k, hki, rfl⟩ := nvs_of hx
        have hkl := (hev k (List.mem_of_getElem? hki)).1
        have he := tieAt_get hkl
        have hi := (List.getElem?_eq_some_iff.mp hki).1
        refine s_nw ((nw_cat (Pu.ls (pu_var rfl) e3) (nw_lst (pa1 (pu_ltie0 (ha.mono s3) (pu_var rfl) (pu_var rfl) he) (pa1 (pu_ltie1 (ha.mono s3) (pu_var rfl) (pu_var rfl) he) pa0)) (by show 2 ≤ 100000; decide)).ls (by
          rw [nvs_len, endsL_len, List.length_take]
          show 2 * min i is.length + 2 ≤ 100000
          omega)).is (ys := nvs (endsL ts (is.take (i + 1)))) (by rw [take_next hki, endsL_snoc, nvs_app]; rfl)) fun e5 H4 f4 s4 e4 => ?_
        exact ⟨e5, _, rfl, s3.trans s4, e4⟩
      · rintro σ' H3 ⟨eo, v4, rfl, s3, e3⟩
        rw [nvs_len, List.take_length] at e3
        refine q_whenG (b := false) ((gt_test (gv_any (nw_lcB (K := K) (fun _ => false) (Pu.ls (pu_var rfl) e3) (by rw [endsL_len]; omega) (fun _ => rfl) (fun k hk => ?_)).ls)).is (any_false fun _ _ => rfl)) (fun h => by cases h) (fun _ H4 s4 => ?_)
        · refine ((pu_eqI (pu_I (pu_cntL (SqL.of e3) (pu_var rfl) (pu_var rfl)) pu_c (by decide)) pu_c).is (congrArg V.bl (decide_eq_false ?_))).gv
          rw [eE, List.count_replicate]
          show ¬ ((if (p == k) = true then 2 * is.length else 0 : Nat) : Int) % 2 = 1
          split <;> omega
        · have s14 := s3.trans s4
          have hm4 := s14 _ _ hm
          have e34 := s4 _ _ e3
          have ep : pieceL (sub ts is) n p = [p] := rising_ext (pieceL_up _ n p) (List.pairwise_singleton _ _) fun y => by
            rw [mem_pieceL, rch_loops (p := p), List.mem_singleton]
            · exact ⟨fun h => h.2, fun h => ⟨by rw [h]; exact hp, h⟩⟩
            · intro e he
              obtain ⟨k, hk, rfl⟩ := mem_sub.mp he
              exact (hev k hk).2
          refine s_retG ((gv_andV (gv_eqL (nw_sortedSet (ms := [p]) (Pu.ls (pu_var rfl) e34) (by rw [endsL_len]; omega) (List.pairwise_singleton _ _) hmem).ls (Pu.ls (pu_var rfl) hm4)) fun _ => gv_eqL (nw_together (ha.mono s14) hV (Pu.ls (pu_var rfl) (s14 _ _ hl)) (fun k hk => (hev k hk).1) hp (pu_var rfl) (pu_ixN (i := 0) (SqL.of hm4) (pu_var rfl) pu_c rfl)).ls (Pu.ls (pu_var rfl) hm4)).is ?_) fun H5 s5 => q H5 (s14.trans s5)
          rw [decide_eq_true rfl, decide_eq_true ep]
          rfl
/-! 0 _law_many, 1 _law_ties, 2 _law_found, 3 _law_k*, 4 _law_held, 5 _law_other -/
abbrev s__law_bridges : Stmt := topS 80
abbrev N__law_bridges : List Str := ["_law_many", "_law_ties", "_law_found", "_law_k", "_law_held", "_law_other"]
theorem sc__law_bridges : FnScope N__law_bridges ["_law_many", "_law_ties"] (defScope s__law_bridges) := ⟨rfl, rfl, rfl, by decide +kernel, rfl, by decide +kernel, by decide +kernel⟩
def sp_lbridges (K : PySem.W.Frag) : Sp := fun vs H Q _ => ∃ (a : Addr) (n : Nat) (ts : List Tie), vs = [.int (n : Int), .ref a] ∧ TieLst K H a ts ∧ Valid n ts ∧ (∀ k, k < ts.length → Rch (sub ts ((List.range ts.length).filter fun j => !decide (j = k))) (tieAt ts k).1 (tieAt ts k).2) ∧
  ∀ r H2, H r = none → Same H H2 → H2 r = some (.lst (nvs [])) → Q (.ref r) H2
theorem ok_lbridges (F : Df K mg "_law_bridges" ["_law_many", "_law_ties"] s__law_bridges) (T : Bt mg) (G__law_together : Gd P w K mg base 1 "_law_together" ["_law_ties", "_law_held", "_law_first"] (sp_together K)) : Gd P w K mg base 2 "_law_bridges" ["_law_many", "_law_ties"] (sp_lbridges K) := by
  refine F.gd sc__law_bridges (fun vs H Q E h => ?_) (fun f cdv A outer s H vs Q E hr h => ?_)
  · obtain ⟨a, n, ts, rfl, _⟩ := h
    rfl
  · obtain ⟨a, n, ts, rfl, ha, hV, hB, q⟩ := h
    have hr__law_together := hr
    refine ⟨_, (pss_cons (ps_set (i := 2) sc__law_bridges.nd rfl (Or.inl rfl) (pe_lst pa_nil))
      (pss_cons (ps_for PassesOwn.never rfl (pi_range1 rfl T.range (pa_cons (pe_callB (w_len K) (by rfl) T.len PySem.boot_len (pa_cons (pv 1) pa_nil)) pa_nil)) (pg_name (i := 3) sc__law_bridges.nd rfl (Or.inr rfl))
        (pss_cons (ps_setLc (i := 4) (own := [("_law_other", 5)]) (g := gName 5)  rfl sc__law_bridges.nd rfl rfl (sw_true rfl rfl rfl (by decide +kernel)) (pi_range1 rfl T.range (pa_cons (pe_callB (w_len K) (by rfl) T.len PySem.boot_len (pa_cons (pv 1) pa_nil)) pa_nil)) (blkOk_by (own := [("_law_other", 5)]) (N := N__law_bridges) (sc := defScope s__law_bridges) (by decide +kernel)) (fun _ _ _ _ _ => (pg_name (i := 5) sc__law_bridges.nd rfl (Or.inl rfl))) (fun _ _ _ _ _ => pts_one (pt_cmpR op_ne (pv 5) (pv 3) (nomark _))) (fun _ _ _ _ _ => (pv 5)))
        (pss_one (ps_if (pt_cmpR (w_nin K) (pe_ix (w_ixT K) (pe_ix (w_ixL K) (pv 1) (pv 3) (fun _ _ => rfl)) pe_int (fun _ _ => rfl)) (pe_gd G__law_together hr__law_together (by rfl) (pa_cons (pv 1) (pa_cons (pv 4) (pa_cons (pe_ix (w_ixT K) (pe_ix (w_ixL K) (pv 1) (pv 3) (fun _ _ => rfl)) pe_int (fun _ _ => rfl)) pa_nil)))) (by rfl))
          (pss_one (ps_expr (w_bm K PySem.F.plainAttrs_list PySem.F.slot_list_append PySem.F.type_list_append mt_append (pv 2) (pa_cons (pv 3) pa_nil))))
          pss_nil))))
      (pss_one (ps_ret (pv 2))))), ?_⟩
    have h40 := hV.len
    refine q_nw (nw_lst (vs := nvs []) pa0 (by decide)) fun fo H1 f1 s1 e1 => ?_
    refine q_forR (n := ts.length) (pa1 (pu_lenLT (ha.mono s1) (pu_var rfl)) pa0) (by omega) (fun i σ' H' => ∃ (v3 v4 : Option V), σ' = [some (.int (n : Int)), some (.ref a), some (.ref fo), v3, v4, none] ∧ Same H H' ∧ H' fo = some (.lst (nvs []))) ⟨none, none, rfl, s1, e1⟩ ?_ ?_
    · rintro i σ' H2 hi ⟨v3, v4, rfl, s2, e2⟩
      have he := tieAt_get hi
      have hb := hV.at he
      refine q_nw ((nw_lcR (n := ts.length) (fun j => !decide (j = i)) (fun j => .int (j : Int)) (pa1 (pu_lenLT (ha.mono s2) (pu_var rfl)) pa0) (by omega) (fun _ => rfl) (fun k _ => (pt_test (pu_neN (pu_var rfl) (pu_var rfl))).gt) (fun k _ _ => (pu_var rfl).gv)).is (ys := nvs ((List.range ts.length).filter fun j => !decide (j = i))) rfl) fun ho H3 f3 s3 e3 => ?_
      have s13 := s2.trans s3
      refine s_whenG (b := false) ((gt_test (gv_ninL (pu_ltie1 (ha.mono s13) (pu_var rfl) (pu_var rfl) he) (nw_together (ha.mono s13) hV (Pu.ls (pu_var rfl) e3) (fun k hk => List.mem_range.mp (List.mem_filter.mp hk).1) hb.1 (pu_var rfl) (pu_ltie0 (ha.mono s13) (pu_var rfl) (pu_var rfl) he)).ls)).is ?_) (fun h => by cases h) (fun _ H4 s4 => ⟨_, _, rfl, s13.trans s4, s4 _ _ (s3 _ _ e2)⟩)
      rw [decide_eq_true (mem_pieceL.mpr ⟨hb.2, hB i hi⟩)]
      rfl
    · rintro σ' H2 ⟨v3, v4, rfl, s2, e2⟩
      exact s_ret (pu_var rfl) (q fo H2 f1 s2 e2)
end
end Bz

set_option Elab.async false
set_option linter.all false
set_option maxRecDepth 100000
set_option maxHeartbeats 1000000
namespace Bz
open PySem PySem.Spec L2
section
variable {P : Program} {w : World} {K : PySem.W.Frag} {mg : Str → Option Value} {base : Heap} {C CP : Addr}
/-! 0 _law_many, 1 _law_ties, 2 _law_rung_here, 3 _law_had*, 4 _law_links, 5 _law_even, 6 _law_places, 7 _law_side*, 8 _law_piece, 9 _law_leading*, 10 _law_others, 11 _law_place, 12 _law_k -/
abbrev s__law_rung_good : Stmt := topS 78
abbrev N__law_rung_good : List Str := ["_law_many", "_law_ties", "_law_rung_here", "_law_had", "_law_links", "_law_even", "_law_places", "_law_side", "_law_piece", "_law_leading", "_law_others", "_law_place", "_law_k"]
theorem sc__law_rung_good : FnScope N__law_rung_good ["_law_many", "_law_ties", "_law_rung_here", "_law_had"] (defScope s__law_rung_good) := ⟨rfl, rfl, rfl, by decide +kernel, rfl, by decide +kernel, by decide +kernel⟩
def sp_lrung_good (K : PySem.W.Frag) : Sp := fun vs H Q _ => ∃ (a r h l e q s : Addr) (n : Nat) (ts : List Tie) (had : List Nat) (g : Rg), vs = [.int (n : Int), .ref a, .ref r, .ref h] ∧ TieLst K H a ts ∧ Valid n ts ∧ ts.length ≤ 20 ∧ RgAt K H r l e q s g ∧ RgOk ts n had g ∧ H h = some (.lst (nvs had)) ∧
  ∀ H2, Same H H2 → Q (.bl (rGood ts n had g)) H2
theorem others_eq (n : Nat) (had sd : List Nat) : (List.range n).filter (fun y => !decide (y ∈ had) && !decide (y ∈ sd)) = othersL n had sd := by
  refine rising_ext (List.Pairwise.filter _ List.pairwise_lt_range) ?_ fun x => ?_
  · unfold othersL leftL
    exact List.Pairwise.filter _ (List.Pairwise.filter _ List.pairwise_lt_range)
  · rw [mem_othersL, List.mem_filter, List.mem_range]
    simp
theorem ok_lrung_good (F : Df K mg "_law_rung_good" ["_law_many", "_law_ties", "_law_rung_here", "_law_had"] s__law_rung_good) (T : Bt mg) (G__law_rising : Gd P w K mg base 1 "_law_rising" ["_law_numbers", "_law_many"] (sp_lrising K)) (G__law_even_good : Gd P w K mg base 2 "_law_even_good" ["_law_ties", "_law_even", "_law_places"] (sp_leven K))
    (G__law_together : Gd P w K mg base 1 "_law_together" ["_law_ties", "_law_held", "_law_first"] (sp_together K)) (G__law_between : Gd P w K mg base 1 "_law_between" ["_law_ties", "_law_some", "_law_others"] (sp_lbetween K)) : Gd P w K mg base 3 "_law_rung_good" ["_law_many", "_law_ties", "_law_rung_here", "_law_had"] (sp_lrung_good K) := by
  refine F.gd sc__law_rung_good (fun vs H Q E h => ?_) (fun f cdv A outer s H vs Q E hr h => ?_)
  · obtain ⟨a, r, h, l, e, q, s, n, ts, had, g, rfl, _⟩ := h
    rfl
  · obtain ⟨a, r, h, l, e, q, s, n, ts, had, g, rfl, hT, hV, h14, hR, ok, hh, kk⟩ := h
    have hr__law_rising := hr.mono (j := 1) (by decide)
    have hr__law_even_good := hr
    have hr__law_together := hr.mono (j := 1) (by decide)
    have hr__law_between := hr.mono (j := 1) (by decide)
    refine ⟨_, (pss_cons (ps_asg (pv 2) (w_pgTup K rfl (pgs_cons (pg_name (i := 4) sc__law_rung_good.nd rfl (Or.inl rfl)) (pgs_cons (pg_name (i := 5) sc__law_rung_good.nd rfl (Or.inl rfl)) (pgs_cons (pg_name (i := 6) sc__law_rung_good.nd rfl (Or.inl rfl)) (pgs_cons (pg_name (i := 7) sc__law_rung_good.nd rfl (Or.inr rfl)) pgs_nil))))))
      (pss_cons (ps_if (pt_not (pt_val (pe_callB (w_all K rfl) (by rfl) T.all (by decide +kernel) (pa_cons (pe_lst (pa_cons (pe_gd G__law_rising hr__law_rising (by rfl) (pa_cons (pv 4) (pa_cons (pe_callB (w_len K) (by rfl) T.len PySem.boot_len (pa_cons (pv 1) pa_nil)) pa_nil))) (pa_cons (pe_gd G__law_rising hr__law_rising (by rfl) (pa_cons (pv 5) (pa_cons (pe_callB (w_len K) (by rfl) T.len PySem.boot_len (pa_cons (pv 1) pa_nil)) pa_nil))) (pa_cons (pe_gd G__law_rising hr__law_rising (by rfl) (pa_cons (pv 6) (pa_cons (pv 0) pa_nil))) pa_nil)))) pa_nil))))
        (pss_one (ps_ret pe_bl))
        pss_nil)
      (pss_cons (ps_if (PW.pt (pw_or (pt_not (pt_val (pe_gd G__law_rising hr__law_rising (by rfl) (pa_cons (pv 7) (pa_cons (pv 0) pa_nil))))) (pw_or (pt_cmpR (w_eqD K hr) (pv 6) (pe_lst pa_nil) (nomark _)) (pw_or1 (pt_val (pe_callB (w_any K rfl) (by rfl) T.any (by decide +kernel) (pa_cons (pe_lc (own := [("_law_place", 11)]) (g := gName 11) (by rfl) sc__law_rung_good.nd (w_piL K (pv 6)) (blkOk_by (own := [("_law_place", 11)]) (N := N__law_rung_good) (sc := defScope s__law_rung_good) (by decide +kernel)) (fun _ _ _ _ _ => (pg_name (i := 11) sc__law_rung_good.nd rfl (Or.inl rfl))) (fun _ _ _ _ _ => pts_nil) (fun _ _ _ _ _ => (pe_cmpR (w_nin K) (pv 11) (pv 7) (by rfl)))) pa_nil)))))))
        (pss_one (ps_ret pe_bl))
        pss_nil)
      (pss_cons (ps_if (PW.pt (pw_or (pt_val (pe_callB (w_any K rfl) (by rfl) T.any (by decide +kernel) (pa_cons (pe_lc (own := [("_law_place", 11)]) (g := gName 11) (by rfl) sc__law_rung_good.nd (w_piL K (pv 7)) (blkOk_by (own := [("_law_place", 11)]) (N := N__law_rung_good) (sc := defScope s__law_rung_good) (by decide +kernel)) (fun _ _ _ _ _ => (pg_name (i := 11) sc__law_rung_good.nd rfl (Or.inl rfl))) (fun _ _ _ _ _ => pts_nil) (fun _ _ _ _ _ => (pe_cmpR (w_in K) (pv 11) (pv 3) (by rfl)))) pa_nil))) (pw_or1 (pt_not (pt_val (pe_gd G__law_even_good hr__law_even_good (by rfl) (pa_cons (pv 1) (pa_cons (pv 5) (pa_cons (pv 6) pa_nil)))))))))
        (pss_one (ps_ret pe_bl))
        pss_nil)
      (pss_cons (ps_set (i := 8) sc__law_rung_good.nd rfl (Or.inl rfl) (pe_gd G__law_together hr__law_together (by rfl) (pa_cons (pv 1) (pa_cons (pe_listRg rfl rfl T.list (prg_1 rfl T.range (pe_callB (w_len K) (by rfl) T.len PySem.boot_len (pa_cons (pv 1) pa_nil)))) (pa_cons (pe_ix (w_ixL K) (pv 6) pe_int (fun _ _ => rfl)) pa_nil)))))
      (pss_cons (ps_if (pt_val (pe_callB (w_all K rfl) (by rfl) T.all (by decide +kernel) (pa_cons (pe_lc (own := [("_law_place", 11)]) (g := gName 11) (by rfl) sc__law_rung_good.nd (w_piL K (pv 8)) (blkOk_by (own := [("_law_place", 11)]) (N := N__law_rung_good) (sc := defScope s__law_rung_good) (by decide +kernel)) (fun _ _ _ _ _ => (pg_name (i := 11) sc__law_rung_good.nd rfl (Or.inl rfl))) (fun _ _ _ _ _ => pts_nil) (fun _ _ _ _ _ => (pe_cmpR (w_nin K) (pv 11) (pv 3) (by rfl)))) pa_nil)))
        (pss_one (ps_ret (pe_and (pe_cmpR (w_eqD K hr) (pv 4) (pe_lst pa_nil) (nomark _)) (pe_one (pe_cmpR (w_eqD K hr) (pv 7) (pv 6) (nomark _))))))
        pss_nil)
      (pss_cons (ps_set (i := 9) sc__law_rung_good.nd rfl (Or.inr rfl) (pe_gd G__law_between hr__law_between (by rfl) (pa_cons (pv 1) (pa_cons (pv 6) (pa_cons (pv 3) pa_nil)))))
      (pss_cons (ps_if (PW.pt (pw_or (pt_cmpR (w_eqD K hr) (pv 4) (pe_lst pa_nil) (nomark _)) (pw_or (pt_cmpR op_gt (pe_callB (w_len K) (by rfl) T.len PySem.boot_len (pa_cons (pv 4) pa_nil)) pe_int (nomark _)) (pw_or1 (pt_val (pe_callB (w_any K rfl) (by rfl) T.any (by decide +kernel) (pa_cons (pe_lc (own := [("_law_k", 12)]) (g := gName 12) (by rfl) sc__law_rung_good.nd (w_piL K (pv 4)) (blkOk_by (own := [("_law_k", 12)]) (N := N__law_rung_good) (sc := defScope s__law_rung_good) (by decide +kernel)) (fun _ _ _ _ _ => (pg_name (i := 12) sc__law_rung_good.nd rfl (Or.inl rfl))) (fun _ _ _ _ _ => pts_nil) (fun _ _ _ _ _ => (pe_cmpR (w_nin K) (pv 12) (pv 9) (by rfl)))) pa_nil)))))))
        (pss_one (ps_ret pe_bl))
        pss_nil)
      (pss_cons (ps_if (pt_cmpR op_eq (pe_callB (w_len K) (by rfl) T.len PySem.boot_len (pa_cons (pv 4) pa_nil)) pe_int (nomark _))
        (pss_one (ps_ret pe_bl))
        pss_nil)
      (pss_cons (ps_setLc (i := 10) (own := [("_law_place", 11)]) (g := gName 11)  rfl sc__law_rung_good.nd rfl rfl (sw_true rfl rfl rfl (by decide +kernel)) (pi_range1 rfl T.range (pa_cons (pv 0) pa_nil)) (blkOk_by (own := [("_law_place", 11)]) (N := N__law_rung_good) (sc := defScope s__law_rung_good) (by decide +kernel)) (fun _ _ _ _ _ => (pg_name (i := 11) sc__law_rung_good.nd rfl (Or.inl rfl))) (fun _ _ _ _ _ => pts_one (PW.pt (pw_and (pt_cmpR (w_nin K) (pv 11) (pv 3) (by rfl)) (pw_and1 (pt_cmpR (w_nin K) (pv 11) (pv 7) (by rfl)))))) (fun _ _ _ _ _ => (pv 11)))
      (pss_one (ps_ret (pe_and (pe_cmpR (w_eqD K hr) (pe_gd G__law_between hr__law_between (by rfl) (pa_cons (pv 1) (pa_cons (pv 7) (pa_cons (pv 3) pa_nil)))) (pv 4) (nomark _)) (pe_one (pe_cmpR op_eq (pe_callB (w_len K) (by rfl) T.len PySem.boot_len (pa_cons (pe_gd G__law_between hr__law_between (by rfl) (pa_cons (pv 1) (pa_cons (pv 7) (pa_cons (pv 10) pa_nil)))) pa_nil)) pe_int (nomark _)))))))))))))))), ?_⟩
    have h20 := hV.most
    have h40 := hV.len
    have hsl := ok.sd_len
    have hel := ok.ev_len
    have hln2 := ok.ln_len
    refine q_unp4 (pu_var rfl) hR.sq ?_
    refine q_whenG (b := false) ((gt_not (gt_test (gv_all (bs := [true, true, true]) (nw_lstG (ga1 (gv_lrising hR.ln ok.ln_up (fun x hx => (ok.ln_mem hx).1) (by omega) (pu_var rfl) (pu_lenLT hT (pu_var rfl))) (ga1 (gv_lrising hR.ev ok.ev_up (fun x hx => (ok.ev x hx).1) (by omega) (pu_var rfl) (pu_lenLT hT (pu_var rfl)))
      (ga1 (gv_lrising hR.p (List.pairwise_singleton _ _) (fun x hx => by rw [List.mem_singleton.mp hx]; exact ok.p_lt) (by show 1 < 64; decide) (pu_var rfl) (pu_var rfl)) ga0))) (by show 3 ≤ 100000; decide)).ls))).is (by rfl)) (fun h => by cases h) (fun _ H1 s1 => ?_)
    have hR1 := hR.mono s1
    refine q_whenG (b := false) ((gt_or (gt_not (gt_test (gv_lrising hR1.sd ok.sd_up (fun x hx => (ok.sd_in x hx).1) (by omega) (pu_var rfl) (pu_var rfl)))) fun _ => gt_or (gt_test (gv_eqL (Pu.ls (pu_var rfl) hR1.p) ls_nil)) fun _ => gt_test (gv_any (nw_lcB (K := K) (fun y => !decide (y ∈ g.sd)) (Pu.ls (pu_var rfl) hR1.p) (by show 1 ≤ 10000; decide) (fun _ => rfl) (fun k hk => (pu_ninL (SqL.of hR1.sd) (pu_var rfl) (pu_var rfl)).gv)).ls)).is ?_) (fun h => by cases h) (fun _ H2 s2 => ?_)
    · rw [any_false fun y hy => by rw [List.mem_singleton.mp hy, decide_eq_true ok.sd_p]; rfl]
      rfl
    have s12 := s1.trans s2
    have hR2 := hR.mono s12
    have hh2 := s12 _ _ hh
    refine q_whenG (b := false) ((gt_or (gt_test (gv_any (nw_lcB (K := K) (fun y => decide (y ∈ had)) (Pu.ls (pu_var rfl) hR2.sd) (by omega) (fun _ => rfl) (fun k hk => (pu_inL (SqL.of hh2) (pu_var rfl) (pu_var rfl)).gv)).ls)) fun _ => gt_not (gt_test (gv_gd (v := .bl true) (pa1 (pu_var rfl) (pa1 (pu_var rfl) (pa1 (pu_var rfl) pa0))) fun H3 s3 Q3 k3 => ⟨a, e, q, n, g.p, ts, g.ev, rfl, hT.mono (s12.trans s3), hV, (hR2.mono s3).ev, (hR2.mono s3).p, ok.p_lt, by omega, ok.ev, k3⟩))).is ?_) (fun h => by cases h) (fun _ H3 s3 => ?_)
    · rw [any_false fun y hy => decide_eq_false (ok.sd_in y hy).2]
      rfl
    have s13 := s12.trans s3
    have hR3 := hR.mono s13
    have hT3 := hT.mono s13
    refine q_nw (nw_together hT3 hV (nw_rg (pu_lenLT hT3 (pu_var rfl)) (by omega)).ls (fun k hk => List.mem_range.mp hk) ok.p_lt (pu_var rfl) (pu_ixN (i := 0) (SqL.of hR3.p) (pu_var rfl) pu_c rfl)) fun po H4 f4 s4 e4 => ?_
    rw [sub_range] at e4
    have s14 := s13.trans s4
    have hR4 := hR.mono s14
    have hh4 := s14 _ _ hh
    have hpl := nodup_len n (pieceL ts n g.p) ((pieceL_up ts n g.p).imp fun h => Nat.ne_of_lt h) fun x hx => (mem_pieceL.mp hx).1
    have near := ok.near
    refine q_whenG (gt_test (gv_all (nw_lcB (K := K) (fun y => !decide (y ∈ had)) (Pu.ls (pu_var rfl) e4) (by omega) (fun _ => rfl) (fun k hk => (pu_ninL (SqL.of hh4) (pu_var rfl) (pu_var rfl)).gv)).ls)) (fun hb H5 s5 => ?_) (fun hb H5 s5 => ?_)
    · have hln : g.ln = [] := by
        refine Classical.byContradiction fun hne => ?_
        obtain ⟨y, hy, hr2⟩ := near.mp hne
        have h9 := List.all_eq_true.mp hb (!decide (y ∈ had)) (List.mem_map.mpr ⟨y, mem_pieceL.mpr ⟨hr2.lt hV.ends ok.p_lt, hr2⟩, rfl⟩)
        rw [decide_eq_true hy] at h9
        cases h9
      have hsd := ok.sd_one hln
      have hR5 := hR4.mono s5
      refine s_retG ((gv_andV (gv_eqL (Pu.ls (pu_var rfl) hR5.ln) ls_nil) fun _ => gv_eqL (Pu.ls (pu_var rfl) hR5.sd) (Pu.ls (pu_var rfl) hR5.p)).is ?_) fun H6 s6 => kk H6 ((s14.trans s5).trans s6)
      unfold rGood
      rw [decide_eq_true hln, decide_eq_true hsd]
      rfl
    · have hln : g.ln ≠ [] := fun hne => by
        have h9 : ((pieceL ts n g.p).map fun y => !decide (y ∈ had)).all id = true := List.all_eq_true.mpr fun x hx => by
          obtain ⟨y, hy, rfl⟩ := List.mem_map.mp hx
          have : y ∉ had := fun q => near.mpr ⟨y, q, (mem_pieceL.mp hy).2⟩ hne
          rw [decide_eq_false this]
          rfl
        rw [h9] at hb
        cases hb
      have hln0 : 0 < g.ln.length := List.length_pos_iff.mpr hln
      have s15 := s14.trans s5
      have hR5 := hR.mono s15
      have hT5 := hT.mono s15
      refine q_nw (ls_lbtw hT5 h40 (SqL.of hR5.p) (SqL.of (s15 _ _ hh)) (pu_var rfl) (pu_var rfl) (pu_var rfl)) fun le H6 f6 s6 e6 => ?_
      have hR6 := hR5.mono s6
      refine q_whenG (b := false) ((gt_or (gt_test (gv_eqL (Pu.ls (pu_var rfl) hR6.ln) ls_nil)) fun _ => gt_or (gt_test (pu_I0 (pu_lenN (SqL.of hR6.ln) (pu_var rfl)) pu_c).gv) fun _ => gt_test (gv_any (nw_lcB (K := K) (fun k => !decide (k ∈ btw ts [g.p] had)) (Pu.ls (pu_var rfl) hR6.ln) (by omega) (fun _ => rfl) (fun k hk => (pu_ninL (SqL.of e6) (pu_var rfl) (pu_var rfl)).gv)).ls)).is ?_) (fun h => by cases h) (fun _ H7 s7 => ?_)
      · rw [decide_eq_false hln, decide_eq_false (show ¬ (2 : Int) < (g.ln.length : Int) by omega), any_false fun k hk => by
          obtain ⟨c, _, _, e⟩ := ok.ln
          rw [e] at hk
          rw [decide_eq_true (List.mem_of_mem_take hk)]
          rfl]
        rfl
      · have s17 := (s15.trans s6).trans s7
        have hR7 := hR.mono s17
        have hT7 := hT.mono s17
        refine q_when (pt_test (pu_eqI (pu_lenN (SqL.of hR7.ln) (pu_var rfl)) pu_c)) (fun hb2 => ?_) (fun hb2 => ?_)
        · refine s_ret (pu_c.is ?_) (kk H7 s17)
          have h2 : g.ln.length = 2 := by
            have := of_decide_eq_true hb2
            omega
          unfold rGood
          rw [decide_eq_true h2]
          simp
        · have h2 : ¬ g.ln.length = 2 := by
            have := of_decide_eq_false hb2
            omega
          have hh7 := s17 _ _ hh
          refine q_nw ((nw_lcR (n := n) (fun y => !decide (y ∈ had) && !decide (y ∈ g.sd)) (fun y => .int (y : Int)) (pa1 (pu_var rfl) pa0) (by omega) (fun _ => rfl) (fun k _ => (pt_andP (pt_test (pu_ninL (SqL.of hh7) (pu_var rfl) (pu_var rfl))) fun _ => pt_test (pu_ninL (SqL.of hR7.sd) (pu_var rfl) (pu_var rfl))).gt) (fun k _ _ => (pu_var rfl).gv)).is (ys := nvs (othersL n had g.sd)) (by rw [others_eq])) fun ot H8 f8 s8 e8 => ?_
          have s18 := s17.trans s8
          have hR8 := hR.mono s18
          have hT8 := hT.mono s18
          refine s_retG ((gv_andV (gv_eqL (ls_lbtw hT8 h40 (SqL.of hR8.sd) (SqL.of (s18 _ _ hh)) (pu_var rfl) (pu_var rfl) (pu_var rfl)).ls (Pu.ls (pu_var rfl) hR8.ln)) fun _ => gv_eqI (gv_len (ls_lbtw hT8 h40 (SqL.of hR8.sd) (SqL.of e8) (pu_var rfl) (pu_var rfl) (pu_var rfl)).ls) pu_c.gv).is ?_) fun H9 s9 => kk H9 (s18.trans s9)
          unfold rGood
          rw [decide_eq_false hln, decide_eq_false h2, nvs_len, Bool.false_or, Bool.false_or]
          congr 2
          exact decide_eq_decide.mpr ⟨fun h => by omega, fun h => by omega⟩
/-! 0 _law_many, 1 _law_ties, 2 _law_rungs_here, 3 _law_had, 4 _law_rung_here -/
abbrev s__law_ladder_good : Stmt := topS 79
abbrev N__law_ladder_good : List Str := ["_law_many", "_law_ties", "_law_rungs_here", "_law_had", "_law_rung_here"]
theorem sc__law_ladder_good : FnScope N__law_ladder_good ["_law_many", "_law_ties", "_law_rungs_here"] (defScope s__law_ladder_good) := ⟨rfl, rfl, rfl, by decide +kernel, rfl, by decide +kernel, by decide +kernel⟩
def sp_lladder (K : PySem.W.Frag) : Sp := fun vs H Q _ => ∃ (a al : Addr) (n : Nat) (ts : List Tie) (rs : List Addr) (L : List Rg), vs = [.int (n : Int), .ref a, .ref al] ∧ TieLst K H a ts ∧ Valid n ts ∧ ts.length ≤ 20 ∧ H al = some (.lst (rvs rs)) ∧ RgsAt K H rs L ∧ LadOk ts n [] L ∧ L.length = n ∧
  ∀ H2, Same H H2 → Q (.bl (lGood ts n [] L)) H2
theorem srt_all {ts : List Tie} {n : Nat} {L : List Rg} (h : LadOk ts n [] L) (hn : L.length = n) : srt (L.map (·.p)) = List.range n := rising_ext (srt_strict (lad_nodup h).1) List.pairwise_lt_range fun x => by
  rw [mem_srt, List.mem_range]
  exact ⟨fun q => ((lad_nodup h).2 x q).1, fun q => lad_all h hn x q⟩
theorem ok_lladder (F : Df K mg "_law_ladder_good" ["_law_many", "_law_ties", "_law_rungs_here"] s__law_ladder_good) (T : Bt mg) (G__law_rung_good : Gd P w K mg base 3 "_law_rung_good" ["_law_many", "_law_ties", "_law_rung_here", "_law_had"] (sp_lrung_good K)) : Gd P w K mg base 4 "_law_ladder_good" ["_law_many", "_law_ties", "_law_rungs_here"] (sp_lladder K) := by
  refine F.gd sc__law_ladder_good (fun vs H Q E h => ?_) (fun f cdv A outer s H vs Q E hr h => ?_)
  · obtain ⟨a, al, n, ts, rs, L, rfl, _⟩ := h
    rfl
  · obtain ⟨a, al, n, ts, rs, L, rfl, hT, hV, h14, hal, hRs, hL, hLn, kk⟩ := h
    have hr__law_rung_good := hr
    refine ⟨_, (pss_cons (ps_set (i := 3) sc__law_ladder_good.nd rfl (Or.inl rfl) (pe_lst pa_nil))
      (pss_cons (ps_for PassesOwn.never rfl (w_piL K (pv 2)) (pg_name (i := 4) sc__law_ladder_good.nd rfl (Or.inl rfl))
        (pss_cons (ps_if (pt_not (pt_val (pe_gd G__law_rung_good hr__law_rung_good (by rfl) (pa_cons (pv 0) (pa_cons (pv 1) (pa_cons (pv 4) (pa_cons (pv 3) pa_nil)))))))
          (pss_one (ps_ret pe_bl))
          pss_nil)
        (pss_one (ps_set (i := 3) sc__law_ladder_good.nd rfl (Or.inl rfl) (pe_op op_cat (pv 3) (pe_ix (w_ixT K) (pv 4) pe_int (fun _ _ => rfl)))))))
      (pss_one (ps_ret (pe_cmpR (w_eqD K hr) (pe_callB (w_sorted K) (by rfl) T.sorted (by decide +kernel) (pa_cons (pv 3) pa_nil)) (pe_listRg rfl rfl T.list (prg_1 rfl T.range (pv 0))) (nomark _)))))), ?_⟩
    have h20 := hV.most
    refine q_nw (nw_lst (vs := nvs []) pa0 (by decide)) fun h0 H1 f1 s1 e1 => ?_
    refine q_forL (pu_var rfl) (SqL.of (s1 _ _ hal)) (fun i σ' H' => ∃ (h : Addr) (had : List Nat) (v3 : Option V), σ' = [some (.int (n : Int)), some (.ref a), some (.ref al), some (.ref h), v3] ∧ Same H H' ∧ H' h = some (.lst (nvs had)) ∧ had = (L.take i).map (·.p) ∧ LadOk ts n had (L.drop i) ∧ lGood ts n [] L = lGood ts n had (L.drop i))
      ⟨h0, [], none, rfl, s1, e1, rfl, hL, rfl⟩ (fun i σ' H' _ ⟨_, _, _, _, s, _⟩ => SqL.of (s _ _ hal)) ?_ ?_
    · rintro i xv σ' H2 hx ⟨h, had, v3, rfl, s2, e2, hlen, hLd, hG⟩
      obtain ⟨r, hri, rfl⟩ := rvs_of hx
      have hiL : i < L.length := by rw [← hRs.1]; exact (List.getElem?_eq_some_iff.mp hri).1
      have hLi : L[i]? = some L[i] := List.getElem?_eq_getElem hiL
      obtain ⟨l, e, q, s', hR⟩ := hRs.2 i r _ hri hLi
      have hd : L.drop i = L[i] :: L.drop (i + 1) := List.drop_eq_getElem_cons hiL
      rw [hd] at hLd hG
      obtain ⟨ok, hLd⟩ := hLd
      have htk := take_next hLi
      generalize L[i] = g at *
      have hG2 : lGood ts n [] L = (rGood ts n had g && lGood ts n (had ++ [g.p]) (L.drop (i + 1))) := hG
      have hR2 := hR.mono s2
      have hhl : had.length = i := by rw [hlen, List.length_map, List.length_take]; omega
      refine q_whenG (gt_not (gt_test (gv_gd (pa1 (pu_var rfl) (pa1 (pu_var rfl) (pa1 (pu_var rfl) (pa1 (pu_var rfl) pa0)))) fun H3 s3 Q3 k3 => ⟨a, r, h, l, e, q, s', n, ts, had, g, rfl, hT.mono (s2.trans s3), hV, h14, hR2.mono s3, ok, s3 _ _ e2, k3⟩))) (fun hb H3 s3 => ?_) (fun hb H3 s3 => ?_)
      · have hbad : rGood ts n had g = false := by simpa using hb
        refine s_ret pu_c ?_
        have := kk H3 (s2.trans s3)
        rw [hG2, hbad, Bool.false_and] at this
        exact this
      · have hgood : rGood ts n had g = true := by simpa using hb
        have hR3 := hR2.mono s3
        have hlen2 : (nvs had).length + (nvs [g.p]).length ≤ 100000 := by
          rw [nvs_len, hhl]
          show i + 1 ≤ _
          omega
        refine s_nw (nw_cat (Pu.ls (pu_var rfl) (s3 _ _ e2)) (Pu.ls (pu_ixT hR3.sq (pu_var rfl) pu_c (atI_nat (j := 2) rfl)) hR3.p) hlen2) fun h2 H4 f4 s4 e4 => ?_
        refine ⟨h2, had ++ [g.p], _, rfl, (s2.trans s3).trans s4, by rw [nvs_app]; exact e4, by rw [htk, List.map_append, hlen]; rfl, hLd, ?_⟩
        rw [hG2, hgood, Bool.true_and]
    · rintro σ' H2 ⟨h, had, v3, rfl, s2, e2, hlen, hLd, hG⟩
      rw [rvs_len, hRs.1] at hlen hG
      rw [List.take_length] at hlen
      rw [List.drop_length] at hG
      subst hlen
      refine s_retG ((gv_eqL (nw_sorted (Pu.ls (pu_var rfl) e2) (by rw [List.length_map]; omega) (srt (L.map (·.p))) (srt_perm _) (srt_sorted _)).ls (nw_rg (pu_var rfl) (by omega)).ls).is ?_) fun H3 s3 => kk H3 (s2.trans s3)
      rw [hG, decide_eq_true (srt_all hL hLn)]
      rfl
end
end Bz

set_option Elab.async false
set_option linter.all false
set_option maxRecDepth 100000
set_option maxHeartbeats 1000000
namespace Bz
open PySem PySem.Spec L2
section
variable {P : Program} {w : World} {K : PySem.W.Frag} {mg : Str → Option Value} {base : Heap} {C CP : Addr}
section
variable {σ : St} {H : Hp} {ta tb tc te t1 t2 t3 t4 : TE} {tz tu : TS} {D : Ends} {l m a : Addr} {v v1 v2 : V} {xs ys : List V} {t : TT} {b : Bool}
theorem nw_lbtwG {ts : List Tie} {A B : List Nat} (hT : TieLst K H a ts) (h40 : ts.length ≤ 40) (hA : Ls tb σ H (nvs A)) (hB : SqL K H m (nvs B)) (ha : Pu ta σ H (.ref a)) (hc : Pu tc σ H (.ref m)) :
    Nw (tGd (sp_lbetween K) (tCons ta (tCons tb (tCons tc tNil)))) σ H (nvs (btw ts A B)) := fun H1 e Q q =>
  ha H1 e _ (hA H1 e _ fun l H2 e2 hl => hc H2 (e.trans e2) _ ⟨a, l, m, ts, A, B, rfl, (hT.mono e).mono e2, h40, SqL.of hl, (e.trans e2).seq hB, fun r H3 f3 s3 e3 => q r H3 (e2.free f3) (e2.trans s3) e3⟩)
theorem q_whenS (Pv : St → Hp → Prop) (h : GvT t σ H b) (h1 : b = true → ∀ H1, Same H H1 → (∀ σ' H', Pv σ' H' → tz D σ' H') → tu { D with nx := tz D } σ H1) (h2 : b = false → ∀ H1, Same H H1 → Pv σ H1) (h3 : ∀ σ' H', Pv σ' H' → tz D σ' H') : tSeq (tIfS t tu tNext) tz D σ H :=
  q_whenG h (fun e H1 s => h1 e H1 s h3) (fun e H1 s => h3 _ _ (h2 e H1 s))
theorem eqv_pair (e f : Tie) : PyData.eqv (.tuple [.int (e.1 : Int), .int (e.2 : Int)]) (.tuple [.int (f.1 : Int), .int (f.2 : Int)]) = decide (e = f) := by
  have h : PyData.eqv (.tuple [.int (e.1 : Int), .int (e.2 : Int)]) (.tuple [.int (f.1 : Int), .int (f.2 : Int)]) = (((e.1 : Int) == (f.1 : Int)) && (((e.2 : Int) == (f.2 : Int)) && true)) := rfl
  rw [h]
  obtain ⟨a, b⟩ := e
  obtain ⟨c, d⟩ := f
  by_cases x : a = c
  · by_cases y : b = d
    · subst x y; simp
    · have y2 : ¬ (b : Int) = (d : Int) := by omega
      simp [x, y, y2]
  · have x2 : ¬ (a : Int) = (c : Int) := by omega
    simp [x, x2]
theorem gv_eqT {r : Addr} {e : Tie} {p q : Nat} (hr : PairAt K H r e) (ha : Pu ta σ H (.ref r)) (hb : Pu tb σ H (.int (p : Int))) (hc : Pu tc σ H (.int (q : Int))) : Gv (tOp (rEqD K) ta (tTup (tCons tb (tCons tc tNil)))) σ H (.bl (decide (e = (p, q)))) := fun H1 s Q k =>
  ha H1 s _ (hb H1 s _ (hc H1 s _ ⟨by show 2 ≤ sizeLine; decide, fun x hx => ⟨_, _, .tup (Same.seqT (s.trans (same_new hx)) hr.sq) (.cons (.int _) (.cons (.int _) .nil)), .tup (SqT.of upd_same) (.cons (.int _) (.cons (.int _) .nil)), rfl, rfl, by
    rw [eqv_pair e (p, q)]
    exact k _ (same_new hx)⟩⟩))
theorem q_ls {i : Nat} (h : Ls te σ H xs) (k : ∀ p H1, Same H H1 → H1 p = some (.lst xs) → tz D (σ.set i (some (.ref p))) H1) : tSeq (tAsg te (gName i)) tz D σ H := h.at k
/-- [[..], f(..), left][i] -/
theorem ls_pick {x1 x2 x3 : List V} {i : Nat} (h1 : Nw t1 σ H x1) (h2 : Nw t2 σ H x2) (h3 : Pu t3 σ H (.ref l)) (hl : H l = some (.lst x3)) (hi : Pu t4 σ H (.int (i : Int))) (h : i < 3) : Ls (tOp (rIxL K) (tLst (tCons t1 (tCons t2 (tCons t3 tNil)))) t4) σ H (if i = 0 then x1 else if i = 1 then x2 else x3) := fun H1 e Q q =>
  h1 H1 e _ fun p1 H2 f2 s2 e2 => h2 H2 (e.trans s2) _ fun p2 H3 f3 s3 e3 => h3 H3 ((e.trans s2).trans s3) _ ⟨by show 3 ≤ sizeLine; decide, fun p hp => hi _ (((e.trans s2).trans s3).trans (same_new hp)) _ (by
    have s4 : Same H3 (upd H3 p (.lst [.ref p1, .ref p2, .ref l])) := same_new hp
    match i, h with
    | 0, _ => exact ⟨p, _, 0, _, rfl, rfl, SqL.of upd_same, atI_nat (j := 0) rfl, q p1 _ ((s2.trans s3).trans s4) (s4 _ _ (s3 _ _ e2))⟩
    | 1, _ => exact ⟨p, _, 1, _, rfl, rfl, SqL.of upd_same, atI_nat (j := 1) rfl, q p2 _ ((s2.trans s3).trans s4) (s4 _ _ e3)⟩
    | 2, _ => exact ⟨p, _, 2, _, rfl, rfl, SqL.of upd_same, atI_nat (j := 2) rfl, q l _ ((s2.trans s3).trans s4) (s4 _ _ (s3 _ _ (s2 _ _ (e _ _ hl))))⟩)⟩
theorem s_ret4 (h1 : Pu t1 σ H v1) (h2 : Pu t2 σ H v2) (h3 : Nw t3 σ H xs) (h4 : Nw t4 σ H ys) (k : ∀ q s H1 r, H q = none → H s = none → Same H H1 → H1 q = some (.lst xs) → H1 s = some (.lst ys) → H1 r = none → D.rt (.ref r) (upd H1 r (.tup [v1, v2, .ref q, .ref s]))) : tRet (tTup (tCons t1 (tCons t2 (tCons t3 (tCons t4 tNil))))) D σ H :=
  h1.at (h2.at (h3.at fun q H1 f1 s1 e1 => h4 H1 s1 _ fun s H2 f2 s2 e2 => ⟨by show 4 ≤ sizeLine; decide, fun r hr => k q s H2 r f1 (s1.free f2) (s1.trans s2) (s2 _ _ e1) e2 hr⟩))
end
/-! 0 _law_ties*, 1 _law_had*, 2 _law_left*, 3 _law_cell_here, 4 _law_loops_too*, 5 _law_near, 6 _law_place*, 7 _law_even, 8 _law_links, 9 _law_held, 10 _law_side, 11 _law_k -/
abbrev s__law_rung : Stmt := topS 81
abbrev N__law_rung : List Str := ["_law_ties", "_law_had", "_law_left", "_law_cell_here", "_law_loops_too", "_law_near", "_law_place", "_law_even", "_law_links", "_law_held", "_law_side", "_law_k"]
theorem sc__law_rung : FnScope N__law_rung ["_law_ties", "_law_had", "_law_left", "_law_cell_here", "_law_loops_too"] (defScope s__law_rung) := ⟨rfl, rfl, rfl, by decide +kernel, rfl, by decide +kernel, by decide +kernel⟩
def sp_lrung (K : PySem.W.Frag) : Sp := fun vs H Q _ => ∃ (a h lf : Addr) (c : Int) (lt : Bool) (n : Nat) (ts : List Tie) (had : List Nat), vs = [.ref a, .ref h, .ref lf, .int c, .bl lt] ∧ TieLst K H a ts ∧ Valid n ts ∧ ts.length ≤ 20 ∧ H h = some (.lst (nvs had)) ∧ H lf = some (.lst (nvs (leftL n had))) ∧ leftL n had ≠ [] ∧
  ∀ g r l e q s H2, RgOk ts n had g → RgAt K H2 r l e q s g → H l = none → H e = none → H q = none → H s = none → Same H H2 → Q (.ref r) H2
theorem no_near {ts : List Tie} {n p : Nat} {had : List Nat} (hv : ∀ e ∈ ts, e.1 < n ∧ e.2 < n) (hp : p ∉ had) (h : ∀ y ∈ leftL n had, btw ts [y] had = []) : ∀ y ∈ had, ¬ Rch ts p y := fun y hy hr => by
  refine hp (hr.symm (fun z => z ∈ had) (fun e he => ?_) hy)
  obtain ⟨k, hk⟩ := List.mem_iff_getElem?.mp he
  have hkl := (List.getElem?_eq_some_iff.mp hk).1
  have ek := tieAt_of hk
  have hb := hv e he
  refine ⟨fun h1 => Classical.byContradiction fun h2 => ?_, fun h2 => Classical.byContradiction fun h1 => ?_⟩
  · have hm : k ∈ btw ts [e.2] had := mem_btw.mpr ⟨hkl, .inr ⟨by rw [ek]; exact h1, by rw [ek]; exact List.mem_singleton.mpr rfl⟩⟩
    rw [h e.2 (mem_leftL.mpr ⟨hb.2, h2⟩)] at hm
    exact List.not_mem_nil hm
  · have hm : k ∈ btw ts [e.1] had := mem_btw.mpr ⟨hkl, .inl ⟨by rw [ek]; exact List.mem_singleton.mpr rfl, by rw [ek]; exact h2⟩⟩
    rw [h e.1 (mem_leftL.mpr ⟨hb.1, h1⟩)] at hm
    exact List.not_mem_nil hm
theorem ok_lrung (F : Df K mg "_law_rung" ["_law_ties", "_law_had", "_law_left", "_law_cell_here", "_law_loops_too"] s__law_rung) (T : Bt mg) (G__law_between : Gd P w K mg base 1 "_law_between" ["_law_ties", "_law_some", "_law_others"] (sp_lbetween K))
    (G__law_together : Gd P w K mg base 1 "_law_together" ["_law_ties", "_law_held", "_law_first"] (sp_together K)) : Gd P w K mg base 2 "_law_rung" ["_law_ties", "_law_had", "_law_left", "_law_cell_here", "_law_loops_too"] (sp_lrung K) := by
  refine F.gd sc__law_rung (fun vs H Q E h => ?_) (fun f cdv A outer s H vs Q E hr h => ?_)
  · obtain ⟨a, h, lf, c, lt, n, ts, had, rfl, _⟩ := h
    rfl
  · obtain ⟨a, h, lf, c, lt, n, ts, had, rfl, hT, hV, h14, hh, hlf, hne, kk⟩ := h
    have hr__law_between := hr
    have hr__law_together := hr
    refine ⟨_, (pss_cons (ps_setLc (i := 5) (own := [("_law_place", 6)]) (g := gName 6)  rfl sc__law_rung.nd rfl rfl (sw_true rfl rfl rfl (by decide +kernel)) (w_piL K (pv 2)) (blkOk_by (own := [("_law_place", 6)]) (N := N__law_rung) (sc := defScope s__law_rung) (by decide +kernel)) (fun _ _ _ _ _ => (pg_name (i := 6) sc__law_rung.nd rfl (Or.inl rfl))) (fun _ _ _ _ _ => pts_one (pt_cmpR (w_neD K hr) (pe_gd G__law_between hr__law_between (by rfl) (pa_cons (pv 0) (pa_cons (pe_lst (pa_cons (pv 6) pa_nil)) (pa_cons (pv 1) pa_nil)))) (pe_lst pa_nil) (nomark _))) (fun _ _ _ _ _ => (pv 6)))
      (pss_cons (ps_set (i := 6) sc__law_rung.nd rfl (Or.inr rfl) (pe_ix (w_ixL K) (pv 2) pe_int (fun _ _ => rfl)))
      (pss_cons (ps_if (pt_cmpR (w_neD K hr) (pv 5) (pe_lst pa_nil) (nomark _))
        (pss_one (ps_set (i := 6) sc__law_rung.nd rfl (Or.inr rfl) (pe_ix (w_ixL K) (pv 5) (pe_op op_mod (pv 3) (pe_callB (w_len K) (by rfl) T.len PySem.boot_len (pa_cons (pv 5) pa_nil))) (fun _ _ => rfl))))
        pss_nil)
      (pss_cons (ps_setLc (i := 7) (own := [("_law_k", 11)]) (g := gName 11)  rfl sc__law_rung.nd rfl rfl (sw_true rfl rfl rfl (by decide +kernel)) (pi_range1 rfl T.range (pa_cons (pe_callB (w_len K) (by rfl) T.len PySem.boot_len (pa_cons (pv 0) pa_nil)) pa_nil)) (blkOk_by (own := [("_law_k", 11)]) (N := N__law_rung) (sc := defScope s__law_rung) (by decide +kernel)) (fun _ _ _ _ _ => (pg_name (i := 11) sc__law_rung.nd rfl (Or.inl rfl))) (fun _ _ _ _ _ => pts_one (PW.pt (pw_and (pt_cmpR (w_eqD K hr) (pe_ix (w_ixL K) (pv 0) (pv 11) (fun _ _ => rfl)) (pe_tup (pa_cons (pv 6) (pa_cons (pv 6) pa_nil))) (nomark _)) (pw_and1 (pt_val (pv 4)))))) (fun _ _ _ _ _ => (pv 11)))
      (pss_cons (ps_set (i := 8) sc__law_rung.nd rfl (Or.inl rfl) (pe_slice (w_slL K) (pe_gd G__law_between hr__law_between (by rfl) (pa_cons (pv 0) (pa_cons (pe_lst (pa_cons (pv 6) pa_nil)) (pa_cons (pv 1) pa_nil)))) po_none (po_some (pe_op op_add pe_int (pe_op op_mod (pe_op op_fdiv (pv 3) pe_int) pe_int)))))
      (pss_cons (ps_setLc (i := 9) (own := [("_law_k", 11)]) (g := gName 11)  rfl sc__law_rung.nd rfl rfl (sw_true rfl rfl rfl (by decide +kernel)) (pi_range1 rfl T.range (pa_cons (pe_callB (w_len K) (by rfl) T.len PySem.boot_len (pa_cons (pv 0) pa_nil)) pa_nil)) (blkOk_by (own := [("_law_k", 11)]) (N := N__law_rung) (sc := defScope s__law_rung) (by decide +kernel)) (fun _ _ _ _ _ => (pg_name (i := 11) sc__law_rung.nd rfl (Or.inl rfl))) (fun _ _ _ _ _ => pts_one (PW.pt (pw_and (pt_cmpR (w_in K) (pe_ix (w_ixT K) (pe_ix (w_ixL K) (pv 0) (pv 11) (fun _ _ => rfl)) pe_int (fun _ _ => rfl)) (pv 2) (by rfl)) (pw_and1 (pt_cmpR (w_in K) (pe_ix (w_ixT K) (pe_ix (w_ixL K) (pv 0) (pv 11) (fun _ _ => rfl)) pe_int (fun _ _ => rfl)) (pv 2) (by rfl)))))) (fun _ _ _ _ _ => (pv 11)))
      (pss_cons (ps_set (i := 10) sc__law_rung.nd rfl (Or.inl rfl) (pe_ix (w_ixL K) (pe_lst (pa_cons (pe_lst (pa_cons (pv 6) pa_nil)) (pa_cons (pe_gd G__law_together hr__law_together (by rfl) (pa_cons (pv 0) (pa_cons (pv 9) (pa_cons (pv 6) pa_nil)))) (pa_cons (pv 2) pa_nil)))) (pe_op op_mod (pe_op op_fdiv (pv 3) pe_int) pe_int) (fun _ _ => rfl)))
      (pss_cons (ps_if (pt_cmpR (w_eqD K hr) (pv 8) (pe_lst pa_nil) (nomark _))
        (pss_one (ps_set (i := 10) sc__law_rung.nd rfl (Or.inl rfl) (pe_lst (pa_cons (pv 6) pa_nil))))
        pss_nil)
      (pss_one (ps_ret (pe_tup (pa_cons (pv 8) (pa_cons (pv 7) (pa_cons (pe_lst (pa_cons (pv 6) pa_nil)) (pa_cons (pe_callTy (w_listOf K) (by rfl) T.list (by decide +kernel) (pa_cons (pv 10) pa_nil)) pa_nil))))))))))))))), ?_⟩
    have h20 := hV.most
    have h40 := hV.len
    have hll := leftL_len n had
    refine q_nw (nw_lcN (K := K) (fun y => !decide (btw ts [y] had = [])) (Pu.ls (pu_var rfl) hlf) (by omega) (fun _ => rfl) (fun k _ => gt_test (gv_neL (nw_lbtwG hT h40 (nw_lst (vs := nvs [k]) (pa1 (pu_var rfl) pa0) (by show 1 ≤ 100000; decide)).ls (SqL.of hh) (pu_var rfl) (pu_var rfl)).ls ls_nil)) (fun k _ _ => (pu_var rfl).gv)) fun no H1 f1 s1 e1 => ?_
    obtain ⟨p0, hp0⟩ : ∃ p0, (leftL n had)[0]? = some p0 := by
      cases z : leftL n had with
      | nil => exact absurd z hne
      | cons x xs => exact ⟨x, rfl⟩
    have hmN : ∀ y, y ∈ (leftL n had).filter (fun y => !decide (btw ts [y] had = [])) ↔ y ∈ leftL n had ∧ btw ts [y] had ≠ [] := fun y => by
      rw [List.mem_filter]
      simp
    have hNl : ((leftL n had).filter (fun y => !decide (btw ts [y] had = []))).length ≤ n := Nat.le_trans (List.length_filter_le _ _) hll
    generalize (leftL n had).filter (fun y => !decide (btw ts [y] had = [])) = N at e1 hmN hNl
    refine q_pu (pu_ixN (i := 0) (SqL.of (s1 _ _ hlf)) (pu_var rfl) pu_c hp0) ?_
    refine q_whenS (fun σ' H' => ∃ p : Nat, σ' = [some (.ref a), some (.ref h), some (.ref lf), some (.int c), some (.bl lt), some (.ref no), some (.int (p : Int)), none, none, none, none, none] ∧ Same H H' ∧ p ∈ leftL n had ∧ (btw ts [p] had = [] → N = [])) (gt_test (gv_neL (Pu.ls (pu_var rfl) e1) ls_nil)) (fun hb H2 s2 k => ?_) (fun hb H2 s2 => ?_) ?_
    · have hN : N ≠ [] := by simpa using hb
      have hNp : 0 < N.length := List.length_pos_iff.mpr hN
      obtain ⟨j, hj1, hj2⟩ := mod_nat c (b := N.length) hNp
      have e12 := s2 _ _ e1
      have hNj : N[j]? = some N[j] := List.getElem?_eq_getElem hj2
      have hm := (hmN _).mp (List.mem_of_getElem? hNj)
      refine s_pu (pu_ixN (i := j) (SqL.of e12) (pu_var rfl) ((pu_I (pu_var rfl) (pu_lenN (SqL.of e12) (pu_var rfl)) (by omega)).is (congrArg V.int hj1)) hNj) ?_
      exact k _ _ ⟨N[j], rfl, s1.trans s2, hm.1, fun z => absurd z hm.2⟩
    · have hN : N = [] := by simpa using hb
      exact ⟨p0, rfl, s1.trans s2, List.mem_of_getElem? hp0, fun _ => hN⟩
    rintro σ' H2 ⟨p, rfl, s2, hpl, hnear⟩
    obtain ⟨hpn, hph⟩ := mem_leftL.mp hpl
    have hT2 := hT.mono s2
    have hh2 := s2 _ _ hh
    have hlf2 := s2 _ _ hlf
    refine q_nw ((nw_lcR (n := ts.length) (fun k => decide (tieAt ts k = (p, p)) && lt) (fun k => .int (k : Int)) (pa1 (pu_lenLT hT2 (pu_var rfl)) pa0) (by omega) (fun _ => rfl) (fun k hk => ?_) (fun k _ _ => (pu_var rfl).gv)).is (ys := nvs ((List.range ts.length).filter fun k => decide (tieAt ts k = (p, p)) && lt)) rfl) fun vo H3 f3 s3 e3 => ?_
    · obtain ⟨r, hpr, hpu⟩ := pu_ltie (ta := tVar 0) (tb := tVar 11) (σ := [some (.ref a), some (.ref h), some (.ref lf), some (.int c), some (.bl lt), some (.ref no), some (.int (p : Int)), none, none, none, none, some (.int (k : Int))]) hT2 (pu_var rfl) (pu_var rfl) (tieAt_get hk)
      exact gt_and (gt_test (gv_eqT hpr hpu (pu_var rfl) (pu_var rfl))) fun _ => (pt_test (pu_var rfl)).gt
    have s13 := s2.trans s3
    have hT3 := hT.mono s13
    have hh3 := s13 _ _ hh
    obtain ⟨c2, hc1, hc2⟩ := mod_nat (c / 8) (b := 2) (by decide)
    refine q_nw ((nw_take (j := c2 + 1) (nw_lbtwG hT3 h40 (nw_lst (vs := nvs [p]) (pa1 (pu_var rfl) pa0) (by show 1 ≤ 100000; decide)).ls (SqL.of hh3) (pu_var rfl) (pu_var rfl)).ls ((pu_I0 pu_c (pu_I (pu_I (pu_var rfl) pu_c ⟨by decide, by decide⟩) pu_c (by decide))).is (congrArg V.int (by omega)))).is (ys := nvs ((btw ts [p] had).take (c2 + 1))) List.map_take.symm) fun lo H4 f4 s4 e4 => ?_
    have s14 := s13.trans s4
    have hT4 := hT.mono s14
    have hlf4 := s14 _ _ hlf
    refine q_nw ((nw_lcR (n := ts.length) (fun k => decide ((tieAt ts k).1 ∈ leftL n had) && decide ((tieAt ts k).2 ∈ leftL n had)) (fun k => .int (k : Int)) (pa1 (pu_lenLT hT4 (pu_var rfl)) pa0) (by omega) (fun _ => rfl) (fun k hk => ?_) (fun k _ _ => (pu_var rfl).gv)).is (ys := nvs ((List.range ts.length).filter fun k => decide ((tieAt ts k).1 ∈ leftL n had) && decide ((tieAt ts k).2 ∈ leftL n had))) rfl) fun ho H5 f5 s5 e5 => ?_
    · exact (pt_andP (pt_test (pu_inL (SqL.of hlf4) (pu_ltie0 hT4 (pu_var rfl) (pu_var rfl) (tieAt_get hk)) (pu_var rfl))) fun _ => pt_test (pu_inL (SqL.of hlf4) (pu_ltie1 hT4 (pu_var rfl) (pu_var rfl) (tieAt_get hk)) (pu_var rfl))).gt
    have s15 := s14.trans s5
    have hT5 := hT.mono s15
    have hlf5 := s15 _ _ hlf
    have hheld : ∀ k ∈ (List.range ts.length).filter (fun k => decide ((tieAt ts k).1 ∈ leftL n had) && decide ((tieAt ts k).2 ∈ leftL n had)), k < ts.length ∧ (tieAt ts k).1 ∈ leftL n had ∧ (tieAt ts k).2 ∈ leftL n had := fun k hk => by
      obtain ⟨h1, h2⟩ := List.mem_filter.mp hk
      have h3 : (tieAt ts k).1 ∈ leftL n had ∧ (tieAt ts k).2 ∈ leftL n had := by simpa using h2
      exact ⟨List.mem_range.mp h1, h3⟩
    obtain ⟨c3, hc3, hc4⟩ := mod_nat (c / 16) (b := 3) (by decide)
    generalize hHd : (List.range ts.length).filter (fun k => decide ((tieAt ts k).1 ∈ leftL n had) && decide ((tieAt ts k).2 ∈ leftL n had)) = Hd at e5 hheld
    refine q_ls (ls_pick (i := c3) (nw_lst (vs := nvs [p]) (pa1 (pu_var rfl) pa0) (by show 1 ≤ 100000; decide)) (nw_together hT5 hV (Pu.ls (pu_var rfl) e5) (fun k hk => (hheld k hk).1) hpn (pu_var rfl) (pu_var rfl)) (pu_var rfl) hlf5 ((pu_I (pu_I (pu_var rfl) pu_c ⟨by decide, by decide⟩) pu_c (by decide)).is (congrArg V.int hc3)) hc4) fun so H6 s6 e6 => ?_
    have s16 := s15.trans s6
    have sides : ∃ sd : List Nat, H6 so = some (.lst (nvs sd)) ∧ sd.Pairwise (· < ·) ∧ p ∈ sd ∧ ∀ x ∈ sd, x < n ∧ x ∉ had := by
      by_cases z0 : c3 = 0
      · rw [if_pos z0] at e6
        exact ⟨[p], e6, List.pairwise_singleton _ _, List.mem_singleton.mpr rfl, fun x hx => by rw [List.mem_singleton.mp hx]; exact ⟨hpn, hph⟩⟩
      · rw [if_neg z0] at e6
        by_cases z1 : c3 = 1
        · rw [if_pos z1] at e6
          refine ⟨_, e6, pieceL_up _ n p, mem_pieceL.mpr ⟨hpn, Rch.refl _ _⟩, fun x hx => ?_⟩
          have h2 := (mem_pieceL.mp hx).2 (fun z => z ∈ leftL n had) (fun e he => by
            obtain ⟨k, hk, rfl⟩ := mem_sub.mp he
            obtain ⟨_, h1, h2⟩ := hheld k hk
            exact ⟨fun _ => h2, fun _ => h1⟩) hpl
          exact mem_leftL.mp h2
        · rw [if_neg z1] at e6
          refine ⟨_, e6, ?_, hpl, fun x hx => mem_leftL.mp hx⟩
          unfold leftL
          exact List.Pairwise.filter _ List.pairwise_lt_range
    obtain ⟨sd0, es0, u1, u2, u3⟩ := sides
    have e46 := s6 _ _ (s5 _ _ e4)
    refine q_whenS (fun σ' H' => ∃ (so : Addr) (sd : List Nat), σ' = [some (.ref a), some (.ref h), some (.ref lf), some (.int c), some (.bl lt), some (.ref no), some (.int (p : Int)), some (.ref vo), some (.ref lo), some (.ref ho), some (.ref so), none] ∧ Same H6 H' ∧ H' so = some (.lst (nvs sd)) ∧ sd.Pairwise (· < ·) ∧ p ∈ sd ∧ (∀ x ∈ sd, x < n ∧ x ∉ had) ∧ ((btw ts [p] had).take (c2 + 1) = [] → sd = [p])) (gt_test (gv_eqL (Pu.ls (pu_var rfl) e46) ls_nil)) (fun hb H7 s7 k => ?_) (fun hb H7 s7 => ?_) ?_
    · refine s_nw (nw_lst (vs := nvs [p]) (pa1 (pu_var rfl) pa0) (by show 1 ≤ 100000; decide)) fun so2 H8 f8 s8 e8 => ?_
      exact k _ _ ⟨so2, [p], rfl, s7.trans s8, e8, List.pairwise_singleton _ _, List.mem_singleton.mpr rfl, fun x hx => by rw [List.mem_singleton.mp hx]; exact ⟨hpn, hph⟩, fun _ => rfl⟩
    · exact ⟨so, sd0, rfl, s7, s7 _ _ es0, u1, u2, u3, fun z => absurd z (of_decide_eq_false hb)⟩
    rintro σ' H7 ⟨so, sd, rfl, s7, es, u1, u2, u3, u4⟩
    refine s_ret4 (pu_var rfl) (pu_var rfl) (nw_lst (vs := nvs [p]) (pa1 (pu_var rfl) pa0) (by show 1 ≤ 100000; decide)) (nw_listP (SqL.of es) (pu_var rfl)) fun q s H8 r fq fs s8 eq8 es8 hr8 => ?_
    have sN : Same H8 (upd H8 r (.tup [.ref lo, .ref vo, .ref q, .ref s])) := same_new hr8
    have s68 := s7.trans s8
    refine kk ⟨(btw ts [p] had).take (c2 + 1), (List.range ts.length).filter (fun k => decide (tieAt ts k = (p, p)) && lt), p, sd⟩ r lo vo q s _ ⟨hpn, hph, ⟨c2 + 1, by omega, by omega, rfl⟩, List.Pairwise.filter _ List.pairwise_lt_range, fun k hk => ?_, u1, u2, u3, u4, fun z => ?_⟩
      ⟨SqT.of upd_same, sN _ _ (s68 _ _ e46), sN _ _ (s68 _ _ (s6 _ _ (s5 _ _ (s4 _ _ e3)))), sN _ _ eq8, sN _ _ es8⟩ (s13.free f4) (s2.free f3) ((s16.trans s7).free fq) ((s16.trans s7).free fs) ((s16.trans s68).trans sN)
    · obtain ⟨h1, h2⟩ := List.mem_filter.mp hk
      have h3 : tieAt ts k = (p, p) ∧ lt = true := by simpa using h2
      exact ⟨List.mem_range.mp h1, h3.1⟩
    · have z0 : btw ts [p] had = [] := by
        cases zz : btw ts [p] had with
        | nil => rfl
        | cons x xs =>
          have z' : (btw ts [p] had).take (c2 + 1) = [] := z
          rw [zz] at z'
          cases z'
      have hN := hnear z0
      refine no_near hV.ends hph fun y hy => Classical.byContradiction fun q => ?_
      have := (hmN y).mpr ⟨hy, q⟩
      rw [hN] at this
      exact List.not_mem_nil this
end
end Bz

set_option Elab.async false
set_option linter.all false
set_option maxRecDepth 100000
set_option maxHeartbeats 1000000
namespace Bz
open PySem PySem.Spec L2
section
variable {P : Program} {w : World} {K : PySem.W.Frag} {mg : Str → Option Value} {base : Heap} {C CP : Addr}
section
variable {σ : St} {H : Hp} {ta tb tc te t1 t2 tl : TE} {tz tu : TS} {D : Ends} {l m a : Addr} {v v1 v2 : V} {xs ys : List V} {t : TT} {b : Bool} {tr : TA} {sp : Sp}
theorem pu_cell {ns : List Int} {k : Nat} (hl : SqL K H l (ivs ns)) (ha : Pu ta σ H (.ref l)) (hb : Pu tb σ H (.int (k : Int))) : Pu (tGd (sp_cell K) (tCons ta (tCons tb tNil))) σ H (.int (ns.getD k 0)) := fun H1 e Q q =>
  (pa1 ha (pa1 hb pa0)) H1 e _ ⟨l, ns, k, rfl, e.seq hl, q⟩
theorem q_gdNw3 {i : Nat} (h1 : Pu t1 σ H v1) (h2 : Pu t2 σ H v2) (hl : Nw tl σ H xs) (k : ∀ l H1, H l = none → Same H H1 → H1 l = some (.lst xs) → ∃ vs, PuA tr σ H1 vs ∧ sp (v1 :: v2 :: .ref l :: vs) H1 (fun v H2 => tz D (σ.set i (some v)) H2) E0) : tSeq (tAsg (tGd sp (tCons t1 (tCons t2 (tCons tl tr)))) (gName i)) tz D σ H :=
  h1.at (h2.at (hl.at fun l H1 f1 s1 e1 => by
    obtain ⟨vs, hp, hs⟩ := k l H1 f1 s1 e1
    exact hp.at hs))
/-- [f(z) for z in ints], truths -/
theorem nw_lcBI {j : Nat} {vs : List Nat} {ns : List Int} (f : Int → Bool) (h : Ls tl σ H (ivs ns)) (hz : ns.length ≤ 10000) (hw : ∀ x, wipe ((wipe σ vs).set j (some x)) vs = wipe σ vs) (he : ∀ k ∈ ns, Gv te ((wipe σ vs).set j (some (.int k))) H (.bl (f k))) :
    Nw (tLc (iList K tl) (gName j) tYes te vs) σ H ((ns.map f).map V.bl) := by
  refine (nw_lcL (K := K) (fun _ => true) (fun v => match v with | .int z => .bl (f z) | v => v) h (by rw [ivs_len]; exact hz) hw (fun x hx => pt_yes.gt) (fun x hx _ => ?_)).is ?_
  · obtain ⟨k, hk, rfl⟩ := List.mem_map.mp hx
    exact he k hk
  · rw [filter_all _ _ fun _ _ => rfl]
    show (ns.map V.int).map _ = _
    rw [List.map_map, List.map_map]
    rfl
theorem any_falseI {α : Type} {ns : List α} {f : α → Bool} (h : ∀ k ∈ ns, f k = false) : (ns.map f).any id = false := by
  rw [List.any_eq_false]
  intro x hx
  obtain ⟨k, hk, rfl⟩ := List.mem_map.mp hx
  rw [id, h k hk]
  decide
theorem all_trueI {α : Type} {ns : List α} {f : α → Bool} (h : ∀ k ∈ ns, f k = true) : (ns.map f).all id = true := by
  rw [List.all_eq_true]
  intro x hx
  obtain ⟨k, hk, rfl⟩ := List.mem_map.mp hx
  exact h k hk
theorem ls_lgains {n : Nat} {ts : List Tie} {as : List Int} (hT : TieLst K H a ts) (hV : Valid n ts) (hl : SqL K H l (ivs as)) (hlen : as.length = ts.length) (h1 : Pu ta σ H (.int (n : Int))) (h2 : Pu tb σ H (.ref a)) (h3 : Pu tc σ H (.ref l)) :
    Ls (tGd (sp_lgains K) (tCons ta (tCons tb (tCons tc tNil)))) σ H (ivs ((List.range n).map fun x => gain ts as x)) := fun H1 e Q q =>
  (pa1 h1 (pa1 h2 (pa1 h3 pa0))) H1 e _ ⟨a, l, n, ts, as, rfl, hT.mono e, hV, e.seq hl, hlen, fun g r H2 hg hgx f2 s2 e2 => q r H2 s2 (by
    have eg : g = (List.range n).map fun x => gain ts as x := by
      refine List.ext_getElem? fun x => ?_
      by_cases hx : x < n
      · rw [hgx x hx, List.getElem?_map, List.getElem?_range hx]
        rfl
      · rw [List.getElem?_eq_none_iff.mpr (by omega), List.getElem?_eq_none_iff.mpr (by rw [List.length_map, List.length_range]; omega)]
    rw [← eg]
    exact e2)⟩
end
/-! 0 _law_script, 1 _law_many, 2 _law_ties, 3 _law_cell_here, 4 _law_loops_too, 5 _law_had*, 6 _law_rungs_here, 7 _law_rung_here, 8 _law_place -/
abbrev s__law_rungs : Stmt := topS 82
abbrev N__law_rungs : List Str := ["_law_script", "_law_many", "_law_ties", "_law_cell_here", "_law_loops_too", "_law_had", "_law_rungs_here", "_law_rung_here", "_law_place"]
theorem sc__law_rungs : FnScope N__law_rungs ["_law_script", "_law_many", "_law_ties"] (defScope s__law_rungs) := ⟨rfl, rfl, rfl, by decide +kernel, rfl, by decide +kernel, by decide +kernel⟩
theorem LadOk.snoc {ts : List Tie} {n : Nat} {g : Rg} : ∀ {L : List Rg} {had : List Nat}, LadOk ts n had L → RgOk ts n (had ++ L.map (·.p)) g → LadOk ts n had (L ++ [g])
  | [], had, _, h => by
    have e : had ++ ([] : List Rg).map (·.p) = had := List.append_nil _
    rw [e] at h
    exact ⟨h, trivial⟩
  | r :: L, had, hL, h => ⟨hL.1, LadOk.snoc (L := L) hL.2 (by rw [List.append_assoc]; exact h)⟩
theorem RgsAt.snoc {H : Hp} {rs : List Addr} {L : List Rg} {r l e q s : Addr} {g : Rg} (h : RgsAt K H rs L) (hr : RgAt K H r l e q s g) : RgsAt K H (rs ++ [r]) (L ++ [g]) := by
  refine ⟨by rw [List.length_append, List.length_append, h.1]; rfl, fun i x m a b => ?_⟩
  rcases snoc_get a with ⟨h1, h2⟩ | ⟨h1, h2⟩
  · rcases snoc_get b with ⟨h3, h4⟩ | ⟨h3, h4⟩
    · exact h.2 i x m h2 h4
    · have := h.1
      omega
  · rcases snoc_get b with ⟨h3, h4⟩ | ⟨h3, h4⟩
    · have := h.1
      omega
    · rw [h2, h4]
      exact ⟨l, e, q, s, hr⟩
/-- a list of rungs stands while another list changes -/
theorem RgAt.upd {H : Hp} {r l e q s : Addr} {g : Rg} {p : Addr} {o : HO} {xs : List V} (hp : H p = some (.lst xs)) (h1 : l ≠ p) (h2 : e ≠ p) (h3 : q ≠ p) (h4 : s ≠ p) (h : RgAt K H r l e q s g) : RgAt K (upd H p o) r l e q s g :=
  ⟨mut_seqT (by rw [hp]; trivial) h.sq, by rw [upd_ne h1]; exact h.ln, by rw [upd_ne h2]; exact h.ev, by rw [upd_ne h3]; exact h.p, by rw [upd_ne h4]; exact h.sd⟩
def sp_lrungs (K : PySem.W.Frag) : Sp := fun vs H Q _ => ∃ (sl a : Addr) (ns : List Int) (n : Nat) (ts : List Tie), vs = [.ref sl, .int (n : Int), .ref a] ∧ SqL K H sl (ivs ns) ∧ TieLst K H a ts ∧ Valid n ts ∧ ts.length ≤ 20 ∧
  ∀ L rs al H2, LadOk ts n [] L → L.length = n → RgsAt K H2 rs L → H2 al = some (.lst (rvs rs)) → Same H H2 → Q (.ref al) H2
structure RgN (K : PySem.W.Frag) (H : Hp) (go r : Addr) (g : Rg) : Prop where
  ex : ∃ l e q s, RgAt K H r l e q s g ∧ l ≠ go ∧ e ≠ go ∧ q ≠ go ∧ s ≠ go
def RgsN (K : PySem.W.Frag) (H : Hp) (go : Addr) (rs : List Addr) (L : List Rg) : Prop := rs.length = L.length ∧ ∀ (i : Nat) (r : Addr) (g : Rg), rs[i]? = some r → L[i]? = some g → RgN K H go r g
theorem RgN.mono {H H' : Hp} {go r : Addr} {g : Rg} (s : Same H H') (h : RgN K H go r g) : RgN K H' go r g := by
  obtain ⟨l, e, q, s', h1, h2⟩ := h.ex
  exact ⟨l, e, q, s', h1.mono s, h2⟩
theorem RgN.upd {H : Hp} {go r : Addr} {g : Rg} {xs : List V} {o : HO} (hp : H go = some (.lst xs)) (h : RgN K H go r g) : RgN K (upd H go o) go r g := by
  obtain ⟨l, e, q, s', h1, a, b, c, d⟩ := h.ex
  exact ⟨l, e, q, s', RgAt.upd hp a b c d h1, a, b, c, d⟩
theorem RgsN.snoc {H : Hp} {go : Addr} {rs : List Addr} {L : List Rg} {r : Addr} {g : Rg} (h : RgsN K H go rs L) (hr : RgN K H go r g) : RgsN K H go (rs ++ [r]) (L ++ [g]) := by
  refine ⟨by rw [List.length_append, List.length_append, h.1]; rfl, fun i x m a b => ?_⟩
  rcases snoc_get a with ⟨h1, h2⟩ | ⟨h1, h2⟩
  · rcases snoc_get b with ⟨h3, h4⟩ | ⟨h3, h4⟩
    · exact h.2 i x m h2 h4
    · have := h.1
      omega
  · rcases snoc_get b with ⟨h3, h4⟩ | ⟨h3, h4⟩
    · have := h.1
      omega
    · rw [h2, h4]
      exact hr
theorem RgsN.at {H : Hp} {go : Addr} {rs : List Addr} {L : List Rg} (h : RgsN K H go rs L) : RgsAt K H rs L := ⟨h.1, fun i r g a b => by
  obtain ⟨l, e, q, s', h1, _⟩ := (h.2 i r g a b).ex
  exact ⟨l, e, q, s', h1⟩⟩
theorem ok_lrungs (F : Df K mg "_law_rungs" ["_law_script", "_law_many", "_law_ties"] s__law_rungs) (T : Bt mg) (G__law_cell : Gd P w K mg base 1 "_law_cell" ["_law_script", "_law_k"] (sp_cell K)) (G__law_rung : Gd P w K mg base 2 "_law_rung" ["_law_ties", "_law_had", "_law_left", "_law_cell_here", "_law_loops_too"] (sp_lrung K)) :
    Gd P w K mg base 3 "_law_rungs" ["_law_script", "_law_many", "_law_ties"] (sp_lrungs K) := by
  refine F.gd sc__law_rungs (fun vs H Q E h => ?_) (fun f cdv A outer s H vs Q E hr h => ?_)
  · obtain ⟨sl, a, ns, n, ts, rfl, _⟩ := h
    rfl
  · obtain ⟨sl, a, ns, n, ts, rfl, hsl, hT, hV, h14, q⟩ := h
    have hr__law_cell := hr.mono (j := 1) (by decide)
    have hr__law_rung := hr
    refine ⟨_, (pss_cons (ps_set (i := 3) sc__law_rungs.nd rfl (Or.inl rfl) (pe_gd G__law_cell hr__law_cell (by rfl) (pa_cons (pv 0) (pa_cons pe_int pa_nil))))
      (pss_cons (ps_set (i := 4) sc__law_rungs.nd rfl (Or.inl rfl) (pe_cmpR op_eq (pe_op op_mod (pe_gd G__law_cell hr__law_cell (by rfl) (pa_cons (pv 0) (pa_cons pe_int pa_nil))) pe_int) pe_int (nomark _)))
      (pss_cons (ps_set (i := 5) sc__law_rungs.nd rfl (Or.inr rfl) (pe_lst pa_nil))
      (pss_cons (ps_set (i := 6) sc__law_rungs.nd rfl (Or.inl rfl) (pe_lst pa_nil))
      (pss_cons (ps_while PassesOwn.never (pt_cmpR op_lt (pe_callB (w_len K) (by rfl) T.len PySem.boot_len (pa_cons (pv 5) pa_nil)) (pv 1) (nomark _))
        (pss_cons (ps_set (i := 7) sc__law_rungs.nd rfl (Or.inl rfl) (pe_gd G__law_rung hr__law_rung (by rfl) (pa_cons (pv 2) (pa_cons (pv 5) (pa_cons (pe_lc (own := [("_law_place", 8)]) (g := gName 8) (by rfl) sc__law_rungs.nd (pi_range1 rfl T.range (pa_cons (pv 1) pa_nil)) (blkOk_by (own := [("_law_place", 8)]) (N := N__law_rungs) (sc := defScope s__law_rungs) (by decide +kernel)) (fun _ _ _ _ _ => (pg_name (i := 8) sc__law_rungs.nd rfl (Or.inl rfl))) (fun _ _ _ _ _ => pts_one (pt_cmpR (w_nin K) (pv 8) (pv 5) (by rfl))) (fun _ _ _ _ _ => (pv 8))) (pa_cons (pv 3) (pa_cons (pv 4) pa_nil)))))))
        (pss_cons (ps_expr (w_bm K PySem.F.plainAttrs_list PySem.F.slot_list_append PySem.F.type_list_append mt_append (pv 6) (pa_cons (pv 7) pa_nil)))
        (pss_cons (ps_set (i := 5) sc__law_rungs.nd rfl (Or.inr rfl) (pe_op op_cat (pv 5) (pe_ix (w_ixT K) (pv 7) pe_int (fun _ _ => rfl))))
        (pss_one (ps_set (i := 3) sc__law_rungs.nd rfl (Or.inl rfl) (pe_op op_fdiv (pv 3) pe_int)))))))
      (pss_one (ps_ret (pv 6)))))))), ?_⟩
    have h20 := hV.most
    refine q_pu (pu_cell (k := 2) hsl (pu_var rfl) pu_c) ?_
    refine q_pu (pu_eqI (pu_I (pu_cell (k := 3) hsl (pu_var rfl) pu_c) pu_c (by decide)) pu_c) ?_
    generalize ns.getD 2 0 = c0
    generalize (decide (ns.getD 3 0 % 2 = 1) : Bool) = lt
    refine q_nw (nw_lst (vs := nvs []) pa0 (by decide)) fun h0 H1 f1 s1 e1 => ?_
    refine q_nw (nw_lst (vs := rvs []) pa0 (by show 0 ≤ 100000; decide)) fun go H2 f2 s2 e2 => ?_
    have s12 := s1.trans s2
    have fg : H go = none := s1.free f2
    refine q_while (fun m σ' H' => ∃ (h : Addr) (c : Int) (L : List Rg) (rs : List Addr) (v7 : Option V), σ' = [some (.ref sl), some (.int (n : Int)), some (.ref a), some (.int c), some (.bl lt), some (.ref h), some (.ref go), v7, none] ∧ Same H H' ∧ H' h = some (.lst (nvs (L.map (·.p)))) ∧ h ≠ go ∧ H' go = some (.lst (rvs rs)) ∧ RgsN K H' go rs L ∧ LadOk ts n [] L ∧ m = n - L.length) n
      ⟨h0, c0, [], [], none, rfl, s12, s2 _ _ e1, ne_of_none e1 f2, e2, ⟨rfl, fun i r g a => by simp at a⟩, trivial, rfl⟩ ?_
    rintro m σ' H3 ⟨h, c, L, rs, v7, rfl, s3, eh, nhg, eg, hRs, hL, rfl⟩
    obtain ⟨hnd, hlt⟩ := lad_nodup hL
    have hLn : L.length ≤ n := by
      have := nodup_len n _ hnd fun x hx => (hlt x hx).1
      rw [List.length_map] at this
      exact this
    refine ⟨_, pt_test (pu_I0 (pu_lenN (SqL.of eh) (pu_var rfl)) (pu_var rfl)), fun hb => ?_, fun hb => ?_⟩
    · have hlt2 : L.length < n := by
        have := of_decide_eq_true hb
        rw [List.length_map] at this
        omega
      have hne : leftL n (L.map (·.p)) ≠ [] := fun z => by
        have e9 : srt (L.map (·.p)) = List.range n := rising_ext (srt_strict hnd) List.pairwise_lt_range fun x => by
          rw [mem_srt, List.mem_range]
          refine ⟨fun q => (hlt x q).1, fun q => Classical.byContradiction fun w => ?_⟩
          have : x ∈ leftL n (L.map (·.p)) := mem_leftL.mpr ⟨q, w⟩
          rw [z] at this
          exact List.not_mem_nil this
        have e10 := congrArg List.length e9
        rw [(srt_perm _).length_eq, List.length_map, List.length_range] at e10
        omega
      refine q_gdNw3 (pu_var rfl) (pu_var rfl) ((nw_lcR (n := n) (fun y => !decide (y ∈ L.map (·.p))) (fun y => .int (y : Int)) (pa1 (pu_var rfl) pa0) (by omega) (fun _ => rfl) (fun k _ => (pt_test (pu_ninL (SqL.of eh) (pu_var rfl) (pu_var rfl))).gt) (fun k _ _ => (pu_var rfl).gv)).is (ys := nvs (leftL n (L.map (·.p)))) rfl) fun lf H4 f4 s4 e4 => ?_
      have s34 := s3.trans s4
      refine ⟨_, pa1 (pu_var rfl) (pa1 (pu_var rfl) pa0), a, h, lf, c, lt, n, ts, _, rfl, hT.mono s34, hV, h14, s4 _ _ eh, e4, hne, fun g r l e q' s' H5 ok hR fl fe fq fs s5 => ?_⟩
      have eg4 := s4 _ _ eg
      have eg5 := s5 _ _ eg4
      have ne : ∀ {x : Addr}, H4 x = none → x ≠ go := fun {x} hx z => by rw [z, eg4] at hx; cases hx
      refine q_app (pu_var rfl) eg5 (pu_var rfl) (by rw [rvs_len, hRs.1]; omega) ?_
      rw [rvs_snoc]
      have hN5 : RgsN K H5 go rs L := ⟨hRs.1, fun i r g a b => (hRs.2 i r g a b).mono (s4.trans s5)⟩
      have hRN : RgN K H5 go r g := ⟨l, e, q', s', hR, ne fl, ne fe, ne fq, ne fs⟩
      have hN6 : RgsN K (upd H5 go (.lst (rvs (rs ++ [r])))) go rs L := ⟨hRs.1, fun i r g a b => (hN5.2 i r g a b).upd eg5⟩
      have hRN6 : RgN K (upd H5 go (.lst (rvs (rs ++ [r])))) go r g := hRN.upd eg5
      have s6 : Same H (upd H5 go (.lst (rvs (rs ++ [r])))) := Same.mut (s34.trans s5) fg
      have eh6 : upd H5 go (.lst (rvs (rs ++ [r]))) h = some (.lst (nvs (L.map (·.p)))) := by rw [upd_ne nhg]; exact s5 _ _ (s4 _ _ eh)
      have eg6 : upd H5 go (.lst (rvs (rs ++ [r]))) go = some (.lst (rvs (rs ++ [r]))) := upd_same
      generalize upd H5 go (.lst (rvs (rs ++ [r]))) = H6 at hN6 hRN6 s6 eh6 eg6 ⊢
      obtain ⟨l6, e6', q6, s6', hR6, _⟩ := hRN6.ex
      refine q_nw (nw_cat (Pu.ls (pu_var rfl) eh6) (Pu.ls (pu_ixT hR6.sq (pu_var rfl) pu_c (atI_nat (j := 2) rfl)) hR6.p) (by
        rw [nvs_len, List.length_map]
        show L.length + 1 ≤ _
        omega)) fun h2 H7 f7 s7 e7 => ?_
      refine s_pu (pu_I (pu_var rfl) pu_c ⟨by decide, by decide⟩) ?_
      refine ⟨n - (L ++ [g]).length, ?_, h2, _, L ++ [g], rs ++ [r], _, rfl, s6.trans s7, ?_, (ne_of_none eg6 f7).symm, s7 _ _ eg6, (RgsN.snoc ⟨hRs.1, fun i r g a b => (hN6.2 i r g a b).mono s7⟩ (hRN6.mono s7)), hL.snoc ok, rfl⟩
      · rw [List.length_append]
        show n - (L.length + 1) < n - L.length
        omega
      · rw [e7, List.map_append, nvs_app]
        rfl
    · have hLn2 : L.length = n := by
        have := of_decide_eq_false hb
        rw [List.length_map] at this
        omega
      exact s_ret (pu_var rfl) (q L rs go H3 hL hLn2 hRs.at eg s3)
end
end Bz

set_option Elab.async false
set_option linter.all false
set_option maxRecDepth 100000
set_option maxHeartbeats 1000000
namespace Bz
open PySem PySem.Spec L2
section
variable {P : Program} {w : World} {K : PySem.W.Frag} {mg : Str → Option Value} {base : Heap} {C CP : Addr}
/-! 0 _law_web_here, 1 _law_many, 2 _law_ties, 3 _law_rungs_here, 4 _law_rests*, 5 _law_even*, 6 _law_rung_here, 7 _law_amounts, 8 _law_total, 9 _law_k, 10 _law_amount -/
abbrev s__law_flows : Stmt := topS 85
abbrev N__law_flows : List Str := ["_law_web_here", "_law_many", "_law_ties", "_law_rungs_here", "_law_rests", "_law_even", "_law_rung_here", "_law_amounts", "_law_total", "_law_k", "_law_amount"]
theorem sc__law_flows : FnScope N__law_flows ["_law_web_here", "_law_many", "_law_ties", "_law_rungs_here"] (defScope s__law_flows) := ⟨rfl, rfl, rfl, by decide +kernel, rfl, by decide +kernel, by decide +kernel⟩
def sp_lflows (K : PySem.W.Frag) (C : Addr) : Sp := fun vs H Q _ => ∃ (a tl al : Addr) (n : Nat) (ts : List Tie) (rs : List Addr) (L : List Rg), vs = [.ref a, .int (n : Int), .ref tl, .ref al] ∧ WebAt K C H a n ts ∧ TieLst K H tl ts ∧ ts.length ≤ 20 ∧ H al = some (.lst (rvs rs)) ∧ RgsAt K H rs L ∧ LadOk ts n [] L ∧ L.length = n ∧ lGood ts n [] L = true ∧
  ∀ H2, Same H H2 → Q (.bl true) H2
theorem ok_lflows (F : Df K mg "_law_flows" ["_law_web_here", "_law_many", "_law_ties", "_law_rungs_here"] s__law_flows) (T : Bt mg) (G_thirds : Gd P w K mg base 7 "thirds" ["web", "rungs"] (sp_thirds K C)) (G_flow_by : Gd P w K mg base 8 "flow_by" ["web", "rungs"] (sp_flow_by K C)) (G__law_gains : Gd P w K mg base 1 "_law_gains" ["_law_many", "_law_ties", "_law_amounts"] (sp_lgains K)) :
    Gd P w K mg base 9 "_law_flows" ["_law_web_here", "_law_many", "_law_ties", "_law_rungs_here"] (sp_lflows K C) := by
  refine F.gd sc__law_flows (fun vs H Q E h => ?_) (fun f cdv A outer s H vs Q E hr h => ?_)
  · obtain ⟨a, tl, al, n, ts, rs, L, rfl, _⟩ := h
    rfl
  · obtain ⟨a, tl, al, n, ts, rs, L, rfl, hw, hT, h14, hal, hRs, hL, hLn, hG, kk⟩ := h
    have hr_thirds := hr.mono (j := 7) (by decide)
    have hr_flow_by := hr
    have hr__law_gains := hr.mono (j := 1) (by decide)
    refine ⟨_, (pss_cons (ps_set (i := 4) sc__law_flows.nd rfl (Or.inr rfl) (pe_gd G_thirds hr_thirds (by rfl) (pa_cons (pv 0) (pa_cons (pv 3) pa_nil))))
      (pss_cons (ps_set (i := 5) sc__law_flows.nd rfl (Or.inr rfl) (pe_lst pa_nil))
      (pss_cons (ps_for PassesOwn.never rfl (w_piL K (pv 3)) (pg_name (i := 6) sc__law_flows.nd rfl (Or.inl rfl))
        (pss_one (ps_set (i := 5) sc__law_flows.nd rfl (Or.inr rfl) (pe_op op_cat (pv 5) (pe_ix (w_ixT K) (pv 6) pe_int (fun _ _ => rfl))))))
      (pss_cons (ps_if (pt_val (pe_callB (w_any K rfl) (by rfl) T.any (by decide +kernel) (pa_cons (pe_lc (own := [("_law_total", 8)]) (g := gName 8) (by rfl) sc__law_flows.nd (w_piL K (pe_gd G__law_gains hr__law_gains (by rfl) (pa_cons (pv 1) (pa_cons (pv 2) (pa_cons (pv 4) pa_nil))))) (blkOk_by (own := [("_law_total", 8)]) (N := N__law_flows) (sc := defScope s__law_flows) (by decide +kernel)) (fun _ _ _ _ _ => (pg_name (i := 8) sc__law_flows.nd rfl (Or.inl rfl))) (fun _ _ _ _ _ => pts_nil) (fun _ _ _ _ _ => (pe_cmpR op_ne (pe_op op_mod (pv 8) pe_int) pe_int (nomark _)))) pa_nil)))
        (pss_one (ps_ret pe_bl))
        pss_nil)
      (pss_cons (ps_if (pt_val (pe_callB (w_any K rfl) (by rfl) T.any (by decide +kernel) (pa_cons (pe_lc (own := [("_law_k", 9)]) (g := gName 9) (by rfl) sc__law_flows.nd (pi_range1 rfl T.range (pa_cons (pe_callB (w_len K) (by rfl) T.len PySem.boot_len (pa_cons (pv 2) pa_nil)) pa_nil)) (blkOk_by (own := [("_law_k", 9)]) (N := N__law_flows) (sc := defScope s__law_flows) (by decide +kernel)) (fun _ _ _ _ _ => (pg_name (i := 9) sc__law_flows.nd rfl (Or.inl rfl))) (fun _ _ _ _ _ => pts_nil) (fun _ _ _ _ _ => (pe_and (pe_cmpR op_eq (pe_ix (w_ixL K) (pv 4) (pv 9) (fun _ _ => rfl)) pe_int (nomark _)) (pe_one (pe_cmpR (w_nin K) (pv 9) (pv 5) (by rfl)))))) pa_nil)))
        (pss_one (ps_ret pe_bl))
        pss_nil)
      (pss_cons (ps_set (i := 7) sc__law_flows.nd rfl (Or.inl rfl) (pe_gd G_flow_by hr_flow_by (by rfl) (pa_cons (pv 0) (pa_cons (pv 3) pa_nil))))
      (pss_cons (ps_if (pt_val (pe_callB (w_any K rfl) (by rfl) T.any (by decide +kernel) (pa_cons (pe_lc (own := [("_law_amount", 10)]) (g := gName 10) (by rfl) sc__law_flows.nd (w_piL K (pv 7)) (blkOk_by (own := [("_law_amount", 10)]) (N := N__law_flows) (sc := defScope s__law_flows) (by decide +kernel)) (fun _ _ _ _ _ => (pg_name (i := 10) sc__law_flows.nd rfl (Or.inl rfl))) (fun _ _ _ _ _ => pts_nil) (fun _ _ _ _ _ => (pe_or (pe_cmpR op_eq (pv 10) pe_int (nomark _)) (pe_or (pe_cmpR op_gt (pv 10) pe_int (nomark _)) (pe_one (pe_cmpR op_lt (pv 10) (pe_un un_neg pe_int) (nomark _))))))) pa_nil)))
        (pss_one (ps_ret pe_bl))
        pss_nil)
      (pss_one (ps_ret (pe_callB (w_all K rfl) (by rfl) T.all (by decide +kernel) (pa_cons (pe_lc (own := [("_law_total", 8)]) (g := gName 8) (by rfl) sc__law_flows.nd (w_piL K (pe_gd G__law_gains hr__law_gains (by rfl) (pa_cons (pv 1) (pa_cons (pv 2) (pa_cons (pv 7) pa_nil))))) (blkOk_by (own := [("_law_total", 8)]) (N := N__law_flows) (sc := defScope s__law_flows) (by decide +kernel)) (fun _ _ _ _ _ => (pg_name (i := 8) sc__law_flows.nd rfl (Or.inl rfl))) (fun _ _ _ _ _ => pts_nil) (fun _ _ _ _ _ => (pe_cmpR op_eq (pv 8) pe_int (nomark _)))) pa_nil))))))))))), ?_⟩
    have hV := hw.ok
    have h20 := hV.most
    have hel : ∀ i, (evens (L.take i)).length ≤ ts.length := fun i => nodup_len _ _ (evens_nodup (hL.take (i := i))) fun k hk => (evens_loop (hL.take (i := i)) hk).1
    refine q_gd (pa1 (pu_var rfl) (pa1 (pu_var rfl) pa0)) ⟨a, al, n, ts, rs, L, rfl, hw, h14, hal, hRs, hL, hLn, hG, fun fs fo H1 T3 f1 s1 e1 => ?_⟩
    refine q_nw (nw_lst (vs := nvs []) pa0 (by decide)) fun h0 H3 f3 s3 e3 => ?_
    have s13 := s1.trans s3
    refine q_forL (pu_var rfl) (SqL.of (s13 _ _ hal)) (fun i σ' H' => ∃ (h : Addr) (v6 : Option V), σ' = [some (.ref a), some (.int (n : Int)), some (.ref tl), some (.ref al), some (.ref fo), some (.ref h), v6, none, none, none, none] ∧ Same H H' ∧ H' fo = some (.lst (ivs fs)) ∧ H' h = some (.lst (nvs (evens (L.take i)))))
      ⟨h0, none, rfl, s13, s3 _ _ e1, e3⟩ (fun i σ' H' _ ⟨_, _, _, s, _⟩ => SqL.of (s _ _ hal)) ?_ ?_
    · rintro i xv σ' H4 hx ⟨h, v6, rfl, s4, e4, e5⟩
      obtain ⟨r, hri, rfl⟩ := rvs_of hx
      have hiL : i < L.length := by rw [← hRs.1]; exact (List.getElem?_eq_some_iff.mp hri).1
      have hLi : L[i]? = some L[i] := List.getElem?_eq_getElem hiL
      obtain ⟨l, e, q, s', hR⟩ := hRs.2 i r _ hri hLi
      have hz2 := hel (i + 1)
      rw [take_next hLi, evens_snoc, List.length_append] at hz2
      have hR4 := hR.mono s4
      refine s_nw (nw_cat (Pu.ls (pu_var rfl) e5) (Pu.ls (pu_ixT hR4.sq (pu_var rfl) pu_c (atI_nat (j := 1) rfl)) hR4.ev) (by rw [nvs_len, nvs_len]; omega)) fun h2 H5 f5 s5 e6 => ?_
      refine ⟨h2, _, rfl, s4.trans s5, s5 _ _ e4, ?_⟩
      rw [e6, take_next hLi, evens_snoc, nvs_app]
    · rintro σ' H4 ⟨h, v6, rfl, s4, e4, e5⟩
      rw [rvs_len, hRs.1, List.take_length] at e5
      have hT4 := hT.mono s4
      refine q_whenG (b := false) ((gt_test (gv_any (nw_lcBI (K := K) (fun z => !decide (z % 3 = 0)) (ls_lgains hT4 hV (SqL.of e4) T3.rf.len (pu_var rfl) (pu_var rfl) (pu_var rfl)) (by rw [List.length_map, List.length_range]; omega) (fun _ => rfl) (fun k hk => (pu_neI (pu_I (pu_var rfl) pu_c (by decide)) pu_c).gv)).ls)).is (any_falseI fun k hk => ?_)) (fun h => by cases h) (fun _ H5 s5 => ?_)
      · obtain ⟨x, hx, rfl⟩ := List.mem_map.mp hk
        rw [T3.rf.g x (List.mem_range.mp hx)]
        rfl
      have s45 := s4.trans s5
      have e45 := s5 _ _ e4
      have e55 := s5 _ _ e5
      have hT5 := hT.mono s45
      have hfk : ∀ k, k < ts.length → fs[k]? = some (fs.getD k 0) := fun k hk => get_getD (by rw [T3.rf.len]; exact hk)
      refine q_whenG (b := false) ((gt_test (gv_any (bs := (List.range ts.length).map fun k => decide (fs.getD k 0 = 0) && !decide (k ∈ evens L)) ((nw_lcR (n := ts.length) (fun _ => true) (fun k => .bl (decide (fs.getD k 0 = 0) && !decide (k ∈ evens L))) (pa1 (pu_lenLT hT5 (pu_var rfl)) pa0) (by omega) (fun _ => rfl) (fun k _ => pt_yes.gt) (fun k hk _ => gv_andV (pu_eqI (pu_ixI (SqL.of e45) (pu_var rfl) (pu_var rfl) (hfk k hk)) pu_c).gv fun _ => (pu_ninL (SqL.of e55) (pu_var rfl) (pu_var rfl)).gv)).is ?_).ls)).is (any_falseI fun k hk => ?_)) (fun h => by cases h) (fun _ H6 s6 => ?_)
      · rw [filter_all _ _ fun _ _ => rfl]
        show _ = ((List.range ts.length).map _).map V.bl
        rw [List.map_map]
        rfl
      · have hkl := List.mem_range.mp hk
        by_cases c : k ∈ evens L
        · rw [decide_eq_true c]
          exact Bool.and_false _
        · have hne : fs.getD k 0 ≠ 0 := fun z => T3.nz k hkl (fun g hg q => c (List.mem_flatMap.mpr ⟨g, hg, q⟩)) (by rw [hfk k hkl, z])
          rw [decide_eq_false hne]
          rfl
      have s46 := s45.trans s6
      refine q_gd (pa1 (pu_var rfl) (pa1 (pu_var rfl) pa0)) ⟨a, al, n, ts, rs, L, rfl, hw.mono s46, h14, s46 _ _ hal, hRs.mono s46, hL, hLn, hG, fun as ao H7 S6 f7 s7 e7 => ?_⟩
      have s47 := s46.trans s7
      refine q_whenG (b := false) ((gt_test (gv_any (nw_lcBI (K := K) (fun z => decide (z = 0) || (decide (5 < z) || decide (z < -5))) (Pu.ls (pu_var rfl) e7) (by rw [S6.len]; omega) (fun _ => rfl) (fun k hk => gv_orV (pu_eqI (pu_var rfl) pu_c).gv fun _ => gv_orV (pu_I0 (pu_var rfl) pu_c).gv fun _ => (pu_I0 (j := -5) (pu_var rfl) (pu_neg (i := 5) (g := fun i => .int (-i)) pu_c)).gv)).ls)).is (any_falseI fun k hk => ?_)) (fun h => by cases h) (fun _ H8 s8 => ?_)
      · obtain ⟨b1, b2, b3⟩ := S6.b k hk
        rw [decide_eq_false b1, decide_eq_false (show ¬ 5 < k by omega), decide_eq_false (show ¬ k < -5 by omega)]
        rfl
      have s48 := s47.trans s8
      refine s_retG ((gv_all (nw_lcBI (K := K) (fun z => decide (z = 0)) (ls_lgains (hT.mono s48) hV (SqL.of (s8 _ _ e7)) S6.len (pu_var rfl) (pu_var rfl) (pu_var rfl)) (by rw [List.length_map, List.length_range]; omega) (fun _ => rfl) (fun k hk => (pu_eqI (pu_var rfl) pu_c).gv)).ls).is (congrArg V.bl (all_trueI fun k hk => ?_))) fun H9 s9 => kk H9 (s48.trans s9)
      obtain ⟨x, hx, rfl⟩ := List.mem_map.mp hk
      rw [S6.g x (List.mem_range.mp hx)]
      rfl
/-! 0 _law_script, 1 _law_many, 2 _law_ties, 3 _law_web_here, 4 _law_rungs_here, 5 _law_good, 6 _law_told -/
abbrev s_law : Stmt := topS 86
abbrev N_law : List Str := ["_law_script", "_law_many", "_law_ties", "_law_web_here", "_law_rungs_here", "_law_good", "_law_told"]
theorem sc_law : FnScope N_law ["_law_script"] (defScope s_law) := ⟨rfl, rfl, rfl, by decide +kernel, rfl, by decide +kernel, by decide +kernel⟩
def sp_law (K : PySem.W.Frag) : Sp := fun vs H Q _ => ∃ (sl : Addr) (ns : List Int), vs = [.ref sl] ∧ SqL K H sl (ivs ns) ∧ ∀ H2, Q (.bl true) H2
theorem ok_law {f : Addr} {fd : FuncData} (F : Fun K "law" "law" s_law f fd) (T : Bt mg) (Wc : WebC K C) (G_Web : GdW P w K mg base C 1) (G__law_web : Gd P w K mg base 3 "_law_web" ["_law_script", "_law_most", "_law_some"] (sp_lweb K)) (G__law_rungs : Gd P w K mg base 3 "_law_rungs" ["_law_script", "_law_many", "_law_ties"] (sp_lrungs K))
    (G__law_ladder_good : Gd P w K mg base 4 "_law_ladder_good" ["_law_many", "_law_ties", "_law_rungs_here"] (sp_lladder K)) (G_is_ladder : Gd P w K mg base 6 "is_ladder" ["web", "rungs"] (sp_is_ladder K C)) (G__law_refused : Gd P w K mg base 10 "_law_refused" ["_law_which", "_law_web_here", "_law_rungs_here"] (sp_refused K C))
    (G__law_bridges : Gd P w K mg base 2 "_law_bridges" ["_law_many", "_law_ties"] (sp_lbridges K)) (G__law_flows : Gd P w K mg base 9 "_law_flows" ["_law_web_here", "_law_many", "_law_ties", "_law_rungs_here"] (sp_lflows K C)) : FnOk P w K mg base CX0 11 f fd ["_law_script"] (sp_law K) := by
  refine F.ok sc_law (fun vs H Q E h => ?_) (fun cdv A outer s H vs Q E hr h => ?_)
  · obtain ⟨sl, ns, rfl, _⟩ := h
    rfl
  · obtain ⟨sl, ns, rfl, hsl, kk⟩ := h
    have hr__law_web := hr.mono (j := 3) (by decide)
    have hr_Web := hr.mono (j := 2) (by decide)
    have hr__law_rungs := hr.mono (j := 3) (by decide)
    have hr__law_ladder_good := hr.mono (j := 4) (by decide)
    have hr_is_ladder := hr.mono (j := 6) (by decide)
    have hr__law_refused := hr
    have hr__law_bridges := hr.mono (j := 2) (by decide)
    have hr__law_flows := hr.mono (j := 9) (by decide)
    refine ⟨_, (pss_cons (ps_asg (pe_gd G__law_web hr__law_web (by rfl) (pa_cons (pv 0) (pa_cons pe_int (pa_cons pe_int pa_nil)))) (w_pgTup K rfl (pgs_cons (pg_name (i := 1) sc_law.nd rfl (Or.inl rfl)) (pgs_cons (pg_name (i := 2) sc_law.nd rfl (Or.inl rfl)) pgs_nil))))
      (pss_cons (ps_set (i := 3) sc_law.nd rfl (Or.inl rfl) (pe_mk G_Web hr_Web (by rfl) (pa_cons (pv 1) (pa_cons (pv 2) pa_nil))))
      (pss_cons (ps_set (i := 4) sc_law.nd rfl (Or.inl rfl) (pe_gd G__law_rungs hr__law_rungs (by rfl) (pa_cons (pv 0) (pa_cons (pv 1) (pa_cons (pv 2) pa_nil)))))
      (pss_cons (ps_set (i := 5) sc_law.nd rfl (Or.inl rfl) (pe_gd G__law_ladder_good hr__law_ladder_good (by rfl) (pa_cons (pv 1) (pa_cons (pv 2) (pa_cons (pv 4) pa_nil)))))
      (pss_cons (ps_set (i := 6) sc_law.nd rfl (Or.inl rfl) (pe_gd G_is_ladder hr_is_ladder (by rfl) (pa_cons (pv 3) (pa_cons (pv 4) pa_nil))))
      (pss_cons (ps_if (PW.pt (pw_or (pt_not (pt_val (pe_callB call_isi (by rfl) T.isinstance (by decide +kernel) (pa_cons (pv 6) (pa_cons (pe_bltn (v := .ty "bool") rfl T.bool (by decide +kernel) rfl) pa_nil))))) (pw_or1 (pt_cmpR op_ne (pv 6) (pv 5) (nomark _)))))
        (pss_one (ps_ret pe_bl))
        pss_nil)
      (pss_cons (ps_if (pt_not (pt_val (pv 5)))
        (pss_one (ps_ret (pe_and (pe_gd G__law_refused hr__law_refused (by rfl) (pa_cons pe_int (pa_cons (pv 3) (pa_cons (pv 4) pa_nil)))) (pe_one (pe_gd G__law_refused hr__law_refused (by rfl) (pa_cons pe_int (pa_cons (pv 3) (pa_cons (pv 4) pa_nil))))))))
        pss_nil)
      (pss_one (ps_ret (pe_and (pe_cmpR (w_eqD K hr) (pe_gd G__law_bridges hr__law_bridges (by rfl) (pa_cons (pv 1) (pa_cons (pv 2) pa_nil))) (pe_lst pa_nil) (nomark _)) (pe_one (pe_gd G__law_flows hr__law_flows (by rfl) (pa_cons (pv 3) (pa_cons (pv 1) (pa_cons (pv 2) (pa_cons (pv 4) pa_nil)))))))))))))))), ?_⟩
    refine q_gdT (pa1 (pu_var rfl) (pa1 pu_c (pa1 pu_c pa0))) ⟨sl, ns, rfl, hsl, fun n ts tl r H1 hV h8 h14 hT s1 hs => ?_⟩
    refine ⟨r, _, rfl, hs, rfl, _, _, rfl, _, _, rfl, rfl, ?_⟩
    have h20 : ts.length ≤ 20 := by omega
    refine q_gd (pa1 (pu_var rfl) (pa1 (pu_var rfl) pa0)) ⟨n, ts, tl, rfl, hT, hV, fun x H2 f2 s2 hw => ?_⟩
    have s12 := s1.trans s2
    refine q_gd (pa1 (pu_var rfl) (pa1 (pu_var rfl) (pa1 (pu_var rfl) pa0))) ⟨sl, tl, ns, n, ts, rfl, s12.seq hsl, hT.mono s2, hV, h20, fun L rs al H3 hL hLn hRs hal s3 => ?_⟩
    have hT3 := (hT.mono s2).mono s3
    refine q_gv (v := .bl (lGood ts n [] L)) (gv_gd (pa1 (pu_var rfl) (pa1 (pu_var rfl) (pa1 (pu_var rfl) pa0))) fun H4 s4 Q4 k4 => ⟨tl, al, n, ts, rs, L, rfl, hT3.mono s4, hV, h20, s4 _ _ hal, hRs.mono s4, hL, hLn, k4⟩) fun H4 s4 => ?_
    have hw4 := (hw.mono s3).mono s4
    refine q_gv (v := .bl (lGood ts n [] L)) (gv_gd (pa1 (pu_var rfl) (pa1 (pu_var rfl) pa0)) fun H5 s5 Q5 k5 => ⟨x, al, n, ts, rs, L, rfl, hw4.mono s5, h20, s5 _ _ (s4 _ _ hal), (hRs.mono s4).mono s5, hL, hLn, k5⟩) fun H5 s5 => ?_
    have s35 := s4.trans s5
    have hw5 := hw4.mono s5
    have hal5 := s35 _ _ hal
    have hRs5 := hRs.mono s35
    have hT5 := hT3.mono s35
    have isb : Pu (tCB (rIsi K) (tCons (tVar 6) (tCons (tC (.ty "bool")) tNil))) [some (V.ref sl), some (.int (n : Int)), some (.ref tl), some (.ref x), some (.ref al), some (.bl (lGood ts n [] L)), some (.bl (lGood ts n [] L))] H5 (.bl true) := pu_cb (pa1 (pu_var rfl) (pa1 pu_c pa0)) fun H6 e Q q => ⟨_, _, _, _, true, rfl, .ty "bool", .base (.bl _), kit_ty (by decide +kernel), q⟩
    refine q_when (b := false) ((pt_orP (pt_notP (pt_test isb)) fun _ => pt_test (pu_neB (pu_var rfl) (pu_var rfl))).is (by rw [decide_eq_true rfl]; rfl)) (fun h => by cases h) (fun _ => ?_)
    refine q_when (pt_notP (pt_test (pu_var rfl))) (fun hb => ?_) (fun hb => ?_)
    · have hbad : lGood ts n [] L = false := by simpa using hb
      have hB : Bad K C H5 x al := ⟨n, ts, rs, L, hw5, h20, hal5, hRs5, hL, hLn, hbad⟩
      refine s_retG (gv_andV (b := true) (c := true) (gv_gd (pa1 pu_c (pa1 (pu_var rfl) (pa1 (pu_var rfl) pa0))) fun H6 s6 Q6 k6 => ⟨0, x, al, rfl, hB.mono s6, k6⟩) fun _ => gv_gd (pa1 pu_c (pa1 (pu_var rfl) (pa1 (pu_var rfl) pa0))) fun H6 s6 Q6 k6 => ⟨1, x, al, rfl, hB.mono s6, k6⟩) fun H7 s7 => kk H7
    · have hgood : lGood ts n [] L = true := by simpa using hb
      refine s_retG ((gv_andV (c := true) (gv_eqL (ns := []) (Nw.ls fun H6 s6 Q6 k6 => (pa1 (pu_var rfl) (pa1 (pu_var rfl) pa0)) H6 s6 _ ⟨tl, n, ts, rfl, hT5.mono s6, hV, fun k hk => no_bridge hV.ends hL hgood (lad_all hL hLn) hk, k6⟩) ls_nil) fun _ => gv_gd (pa1 (pu_var rfl) (pa1 (pu_var rfl) (pa1 (pu_var rfl) (pa1 (pu_var rfl) pa0)))) fun H6 s6 Q6 k6 => ⟨x, tl, al, n, ts, rs, L, rfl, hw5.mono s6, hT5.mono s6, h20, s6 _ _ hal5, hRs5.mono s6, hL, hLn, hgood, k6⟩).is rfl) fun H7 s7 => kk H7
end
end Bz

set_option Elab.async false
set_option linter.all false
set_option maxRecDepth 100000
set_option maxHeartbeats 0
namespace Bz
open PySem PySem.Spec PyProof.Rows L2
/-! ### the head: facts by names, the run -/
def dd_look_for_tie : He.DefD := ⟨("look_for_tie", none), "look_for_tie", "look_for_tie", defArgs s_look_for_tie, defBody s_look_for_tie, defScope s_look_for_tie, [], []⟩
def dd_reached : He.DefD := ⟨("reached", none), "reached", "reached", defArgs s_reached, defBody s_reached, defScope s_reached, [], []⟩
def dd_forest : He.DefD := ⟨("forest", none), "forest", "forest", defArgs s_forest, defBody s_forest, defScope s_forest, [], []⟩
def dd_free_ties : He.DefD := ⟨("free_ties", none), "free_ties", "free_ties", defArgs s_free_ties, defBody s_free_ties, defScope s_free_ties, [], []⟩
def dd_way_by : He.DefD := ⟨("way_by", none), "way_by", "way_by", defArgs s_way_by, defBody s_way_by, defScope s_way_by, [], []⟩
def dd_flow_along : He.DefD := ⟨("flow_along", none), "flow_along", "flow_along", defArgs s_flow_along, defBody s_flow_along, defScope s_flow_along, [], []⟩
def dd_ring_by : He.DefD := ⟨("ring_by", none), "ring_by", "ring_by", defArgs s_ring_by, defBody s_ring_by, defScope s_ring_by, [], []⟩
def dd_ring_of : He.DefD := ⟨("ring_of", none), "ring_of", "ring_of", defArgs s_ring_of, defBody s_ring_of, defScope s_ring_of, [], []⟩
def dd_web_of : He.DefD := ⟨("web_of", none), "web_of", "web_of", defArgs s_web_of, defBody s_web_of, defScope s_web_of, [], []⟩
def dd_ties_between : He.DefD := ⟨("ties_between", none), "ties_between", "ties_between", defArgs s_ties_between, defBody s_ties_between, defScope s_ties_between, [], []⟩
def dd_ends_of : He.DefD := ⟨("ends_of", none), "ends_of", "ends_of", defArgs s_ends_of, defBody s_ends_of, defScope s_ends_of, [], []⟩
def dd_rising : He.DefD := ⟨("rising", none), "rising", "rising", defArgs s_rising, defBody s_rising, defScope s_rising, [], []⟩
def dd_even_good : He.DefD := ⟨("even_good", none), "even_good", "even_good", defArgs s_even_good, defBody s_even_good, defScope s_even_good, [], []⟩
def dd_links_good : He.DefD := ⟨("links_good", none), "links_good", "links_good", defArgs s_links_good, defBody s_links_good, defScope s_links_good, [], []⟩
def dd_rung_good : He.DefD := ⟨("rung_good", none), "rung_good", "rung_good", defArgs s_rung_good, defBody s_rung_good, defScope s_rung_good, [], []⟩
def dd_is_ladder : He.DefD := ⟨("is_ladder", none), "is_ladder", "is_ladder", defArgs s_is_ladder, defBody s_is_ladder, defScope s_is_ladder, [], []⟩
def dd_added : He.DefD := ⟨("added", none), "added", "added", defArgs s_added, defBody s_added, defScope s_added, [], []⟩
def dd_times : He.DefD := ⟨("times", none), "times", "times", defArgs s_times, defBody s_times, defScope s_times, [], []⟩
def dd_look_at_set : He.DefD := ⟨("look_at_set", none), "look_at_set", "look_at_set", defArgs s_look_at_set, defBody s_look_at_set, defScope s_look_at_set, [], []⟩
def dd_is_even : He.DefD := ⟨("is_even", none), "is_even", "is_even", defArgs s_is_even, defBody s_is_even, defScope s_is_even, [], []⟩
def dd_even_flow : He.DefD := ⟨("even_flow", none), "even_flow", "even_flow", defArgs s_even_flow, defBody s_even_flow, defScope s_even_flow, [], []⟩
def dd_look_at_rest : He.DefD := ⟨("look_at_rest", none), "look_at_rest", "look_at_rest", defArgs s_look_at_rest, defBody s_look_at_rest, defScope s_look_at_rest, [], []⟩
def dd_look_at_count : He.DefD := ⟨("look_at_count", none), "look_at_count", "look_at_count", defArgs s_look_at_count, defBody s_look_at_count, defScope s_look_at_count, [], []⟩
def dd_rests_of : He.DefD := ⟨("rests_of", none), "rests_of", "rests_of", defArgs s_rests_of, defBody s_rests_of, defScope s_rests_of, [], []⟩
def dd_gains_of : He.DefD := ⟨("gains_of", none), "gains_of", "gains_of", defArgs s_gains_of, defBody s_gains_of, defScope s_gains_of, [], []⟩
def dd_is_rest_flow : He.DefD := ⟨("is_rest_flow", none), "is_rest_flow", "is_rest_flow", defArgs s_is_rest_flow, defBody s_is_rest_flow, defScope s_is_rest_flow, [], []⟩
def dd_hung : He.DefD := ⟨("hung", none), "hung", "hung", defArgs s_hung, defBody s_hung, defScope s_hung, [], []⟩
def dd_filled_whole : He.DefD := ⟨("filled_whole", none), "filled_whole", "filled_whole", defArgs s_filled_whole, defBody s_filled_whole, defScope s_filled_whole, [], []⟩
def dd_filled : He.DefD := ⟨("filled", none), "filled", "filled", defArgs s_filled, defBody s_filled, defScope s_filled, [], []⟩
def dd_look_at_bounds : He.DefD := ⟨("look_at_bounds", none), "look_at_bounds", "look_at_bounds", defArgs s_look_at_bounds, defBody s_look_at_bounds, defScope s_look_at_bounds, [], []⟩
def dd_ways_on : He.DefD := ⟨("ways_on", none), "ways_on", "ways_on", defArgs s_ways_on, defBody s_ways_on, defScope s_ways_on, [], []⟩
def dd_reached_from : He.DefD := ⟨("reached_from", none), "reached_from", "reached_from", defArgs s_reached_from, defBody s_reached_from, defScope s_reached_from, [], []⟩
def dd_row_to : He.DefD := ⟨("row_to", none), "row_to", "row_to", defArgs s_row_to, defBody s_row_to, defScope s_row_to, [], []⟩
def dd_between : He.DefD := ⟨("between", none), "between", "between", defArgs s_between, defBody s_between, defScope s_between, [], []⟩
def dd_lifted : He.DefD := ⟨("lifted", none), "lifted", "lifted", defArgs s_lifted, defBody s_lifted, defScope s_lifted, [], []⟩
def dd_spread : He.DefD := ⟨("spread", none), "spread", "spread", defArgs s_spread, defBody s_spread, defScope s_spread, [], []⟩
def dd_ties_of : He.DefD := ⟨("ties_of", none), "ties_of", "ties_of", defArgs s_ties_of, defBody s_ties_of, defScope s_ties_of, [], []⟩
def dd_rest_beside : He.DefD := ⟨("rest_beside", none), "rest_beside", "rest_beside", defArgs s_rest_beside, defBody s_rest_beside, defScope s_rest_beside, [], []⟩
def dd_ring_at : He.DefD := ⟨("ring_at", none), "ring_at", "ring_at", defArgs s_ring_at, defBody s_ring_at, defScope s_ring_at, [], []⟩
def dd_ringed : He.DefD := ⟨("ringed", none), "ringed", "ringed", defArgs s_ringed, defBody s_ringed, defScope s_ringed, [], []⟩
def dd_thirds : He.DefD := ⟨("thirds", none), "thirds", "thirds", defArgs s_thirds, defBody s_thirds, defScope s_thirds, [], []⟩
def dd_flow_by : He.DefD := ⟨("flow_by", none), "flow_by", "flow_by", defArgs s_flow_by, defBody s_flow_by, defScope s_flow_by, [], []⟩
def dd__law_cell : He.DefD := ⟨("_law_cell", none), "_law_cell", "_law_cell", defArgs s__law_cell, defBody s__law_cell, defScope s__law_cell, [], []⟩
def dd__law_drawn : He.DefD := ⟨("_law_drawn", none), "_law_drawn", "_law_drawn", defArgs s__law_drawn, defBody s__law_drawn, defScope s__law_drawn, [], []⟩
def dd__law_web : He.DefD := ⟨("_law_web", none), "_law_web", "_law_web", defArgs s__law_web, defBody s__law_web, defScope s__law_web, [], []⟩
def dd__law_gains : He.DefD := ⟨("_law_gains", none), "_law_gains", "_law_gains", defArgs s__law_gains, defBody s__law_gains, defScope s__law_gains, [], []⟩
def dd__law_kind : He.DefD := ⟨("_law_kind", none), "_law_kind", "_law_kind", defArgs s__law_kind, defBody s__law_kind, defScope s__law_kind, [], []⟩
def dd__law_rising : He.DefD := ⟨("_law_rising", none), "_law_rising", "_law_rising", defArgs s__law_rising, defBody s__law_rising, defScope s__law_rising, [], []⟩
def dd__law_between : He.DefD := ⟨("_law_between", none), "_law_between", "_law_between", defArgs s__law_between, defBody s__law_between, defScope s__law_between, [], []⟩
def dd__law_together : He.DefD := ⟨("_law_together", none), "_law_together", "_law_together", defArgs s__law_together, defBody s__law_together, defScope s__law_together, [], []⟩
def dd__law_even_good : He.DefD := ⟨("_law_even_good", none), "_law_even_good", "_law_even_good", defArgs s__law_even_good, defBody s__law_even_good, defScope s__law_even_good, [], []⟩
def dd__law_rung_good : He.DefD := ⟨("_law_rung_good", none), "_law_rung_good", "_law_rung_good", defArgs s__law_rung_good, defBody s__law_rung_good, defScope s__law_rung_good, [], []⟩
def dd__law_ladder_good : He.DefD := ⟨("_law_ladder_good", none), "_law_ladder_good", "_law_ladder_good", defArgs s__law_ladder_good, defBody s__law_ladder_good, defScope s__law_ladder_good, [], []⟩
def dd__law_bridges : He.DefD := ⟨("_law_bridges", none), "_law_bridges", "_law_bridges", defArgs s__law_bridges, defBody s__law_bridges, defScope s__law_bridges, [], []⟩
def dd__law_rung : He.DefD := ⟨("_law_rung", none), "_law_rung", "_law_rung", defArgs s__law_rung, defBody s__law_rung, defScope s__law_rung, [], []⟩
def dd__law_rungs : He.DefD := ⟨("_law_rungs", none), "_law_rungs", "_law_rungs", defArgs s__law_rungs, defBody s__law_rungs, defScope s__law_rungs, [], []⟩
def dd__law_ask : He.DefD := ⟨("_law_ask", none), "_law_ask", "_law_ask", defArgs s__law_ask, defBody s__law_ask, defScope s__law_ask, [], []⟩
def dd__law_refused : He.DefD := ⟨("_law_refused", none), "_law_refused", "_law_refused", defArgs s__law_refused, defBody s__law_refused, defScope s__law_refused, [], []⟩
def dd__law_flows : He.DefD := ⟨("_law_flows", none), "_law_flows", "_law_flows", defArgs s__law_flows, defBody s__law_flows, defScope s__law_flows, [], []⟩
def dd_law : He.DefD := ⟨("law", none), "law", "law", defArgs s_law, defBody s_law, defScope s_law, [], []⟩
def dd_init : He.DefD := ⟨("Web", some "__init__"), "__init__", "Web.__init__", defArgs s_Web___init__, defBody s_Web___init__, defScope s_Web___init__, [], []⟩
def fns0 : List He.DefD := [dd_look_for_tie, dd_reached, dd_forest, dd_free_ties, dd_way_by, dd_flow_along, dd_ring_by, dd_ring_of, dd_web_of, dd_ties_between, dd_ends_of, dd_rising, dd_even_good, dd_links_good, dd_rung_good, dd_is_ladder, dd_added, dd_times, dd_look_at_set, dd_is_even, dd_even_flow, dd_look_at_rest, dd_look_at_count, dd_rests_of, dd_gains_of, dd_is_rest_flow, dd_hung, dd_filled_whole, dd_filled, dd_look_at_bounds]
def fns1 : List He.DefD := [dd_ways_on, dd_reached_from, dd_row_to, dd_between, dd_lifted, dd_spread, dd_ties_of, dd_rest_beside, dd_ring_at, dd_ringed, dd_thirds, dd_flow_by, dd__law_cell, dd__law_drawn, dd__law_web, dd__law_gains, dd__law_kind, dd__law_rising, dd__law_between, dd__law_together, dd__law_even_good, dd__law_rung_good, dd__law_ladder_good, dd__law_bridges, dd__law_rung, dd__law_rungs, dd__law_ask, dd__law_refused, dd__law_flows, dd_law]
def fns2 : List He.DefD := [dd_init]
def fns : List He.DefD := fns0 ++ fns1 ++ fns2
def fas0 : List He.Fa := [.glo "look_for_tie", .glo "reached", .glo "forest", .glo "free_ties", .glo "way_by", .glo "flow_along", .glo "ring_by", .glo "ring_of", .glo "web_of", .glo "ties_between", .glo "ends_of", .glo "rising", .glo "even_good", .glo "links_good", .glo "rung_good", .glo "is_ladder", .glo "added", .glo "times", .glo "look_at_set", .glo "is_even", .glo "even_flow", .glo "look_at_rest", .glo "look_at_count", .glo "rests_of", .glo "gains_of", .glo "is_rest_flow", .glo "hung", .glo "filled_whole", .glo "filled", .glo "look_at_bounds"]
def fas1 : List He.Fa := [.glo "ways_on", .glo "reached_from", .glo "row_to", .glo "between", .glo "lifted", .glo "spread", .glo "ties_of", .glo "rest_beside", .glo "ring_at", .glo "ringed", .glo "thirds", .glo "flow_by", .glo "_law_cell", .glo "_law_drawn", .glo "_law_web", .glo "_law_gains", .glo "_law_kind", .glo "_law_rising", .glo "_law_between", .glo "_law_together", .glo "_law_even_good", .glo "_law_rung_good", .glo "_law_ladder_good", .glo "_law_bridges", .glo "_law_rung", .glo "_law_rungs", .glo "_law_ask", .glo "_law_refused", .glo "_law_flows", .glo "law"]
def fas2 : List He.Fa := [.glo "FlowError", .glo "BadWeb", .glo "TooMany", .glo "BadPlace", .glo "BadTie", .glo "BadFlow", .glo "BadRest", .glo "NoFlow", .glo "BadSet", .glo "BadPaper", .glo "BadText", .glo "BadDeed", .glo "Web", .free "len", .free "range", .free "sorted", .free "list", .free "tuple", .free "set", .free "sum", .free "max", .free "min", .free "any", .free "all", .free "int", .free "zip", .free "enumerate", .free "reversed", .free "isinstance", .free "bool"]
def fas3 : List He.Fa := [.free "ValueError", .int "MOST_PLACES" 20, .int "MOST_TIES" 40, .int "MOST_REST" (10 ^ 20), .cls "Web", .noat "Web" "many", .noat "Web" "ties", .mkr "Web", .exc "BadPaper", .exm "BadPaper" "FlowError" true]
def fas : List He.Fa := fas0 ++ fas1 ++ fas2 ++ fas3
def loo0 : List Str := ["FlowError", "BadWeb", "TooMany", "BadPlace", "BadTie", "BadFlow", "BadRest", "NoFlow", "BadSet", "BadPaper", "BadText", "BadDeed", "MOST_PLACES", "MOST_TIES", "Web", "look_for_tie", "reached", "forest", "free_ties", "way_by", "flow_along", "ring_by", "ring_of", "web_of", "ties_between", "ends_of", "rising", "even_good", "links_good", "rung_good"]
def loo1 : List Str := ["is_ladder", "added", "times", "look_at_set", "is_even", "even_flow", "MOST_REST", "look_at_rest", "look_at_count", "rests_of", "gains_of", "is_rest_flow", "hung", "filled_whole", "filled", "look_at_bounds", "ways_on", "reached_from", "row_to", "between", "lifted", "spread", "ties_of", "rest_beside", "ring_at", "ringed", "thirds", "flow_by", "_law_cell", "_law_drawn"]
def loo2 : List Str := ["_law_web", "_law_gains", "_law_kind", "_law_rising", "_law_between", "_law_together", "_law_even_good", "_law_rung_good", "_law_ladder_good", "_law_bridges", "_law_rung", "_law_rungs", "_law_ask", "_law_refused", "_law_flows"]
def loo : List Str := loo0 ++ loo1 ++ loo2
def exs (K : PySem.W.Frag) : List Bool := [decide (PySem.W.kitOne K (.ref (He.ga K "BadPaper")) (.ref (He.ga K "BadDeed")) = some false),
  decide (PySem.W.kitOne K (.ref (He.ga K "BadPaper")) (.ref (He.ga K "BadFlow")) = some false),
  decide (PySem.W.kitOne K (.ref (He.ga K "BadPaper")) (.ref (He.ga K "BadPaper")) = some true),
  decide (PySem.W.kitOne K (.ref (He.ga K "BadPaper")) (.ref (He.ga K "BadPlace")) = some false),
  decide (PySem.W.kitOne K (.ref (He.ga K "BadPaper")) (.ref (He.ga K "BadRest")) = some false),
  decide (PySem.W.kitOne K (.ref (He.ga K "BadPaper")) (.ref (He.ga K "BadSet")) = some false),
  decide (PySem.W.kitOne K (.ref (He.ga K "BadPaper")) (.ref (He.ga K "BadText")) = some false),
  decide (PySem.W.kitOne K (.ref (He.ga K "BadPaper")) (.ref (He.ga K "BadTie")) = some false),
  decide (PySem.W.kitOne K (.ref (He.ga K "BadPaper")) (.ref (He.ga K "BadWeb")) = some false),
  decide (PySem.W.kitOne K (.ref (He.ga K "BadPaper")) (.ref (He.ga K "NoFlow")) = some false),
  decide (PySem.W.kitOne K (.ref (He.ga K "BadPaper")) (.ref (He.ga K "TooMany")) = some false),
  decide (PySem.W.kitOne K (.ref (He.ga K "BadPaper")) (.type "ValueError") = some true),
  He.eqO (PySem.W.findIn K (.ref (He.ga K "BadPaper")) "__getattribute__") (some (some (.builtin "BaseException.__getattribute__"))),
  He.eqO (PySem.W.findIn K (.ref (He.ga K "BadPaper")) "__getattr__") (some none),
  decide (PySem.W.subIn K (.ref (He.ga K "BadPaper")) (.type "BaseException") = some true),
  PySem.W.hasDictIn K (He.ga K "BadPaper"),
  He.eqO (PySem.W.findIn K (.ref (He.ga K "BadPaper")) "__class__") (some (some (.builtin "object.__class__"))),
  He.eqO (PySem.W.specialIn K (.builtin "object.__class__") "__get__") (some (some (.builtin "getset_descriptor.__get__"))),
  decide (PySem.W.takesIn K (.builtin "object.__class__") = some true),
  decide (PySem.W.mroIn K (He.ga K "BadPaper") (.type "object") = some true)]
def exB (K : PySem.W.Frag) : Bool := (exs K).all id
abbrev RR : PySem.W.OpenRow := PySem.W.OpenLaw.row PySem.Challenge.rw_busyweb_k50_whole_ladders_made_here
abbrev hk : PySem.W.Hook := He.hookX 4 fas fns [] [] exB
def ob (s : PySem.W.SharedT) : He.AlX := He.obsX 4 fas fns [] [] exB (HandSHeadRun.getT s)
theorem ob_eq (s : PySem.W.SharedT) : ob s = hk.obs s.abs := He.obsX_eq (HandSHeadRun.getT_eq s)
theorem run (w : World) : HandSHeadRun.RunEq RR (PySem.W.view RR.prog [86]) hk ob 12000 loo w := by
  intro os
  kernel_rfl
end Bz

set_option Elab.async false
set_option linter.all false
set_option maxRecDepth 100000
set_option maxHeartbeats 4000000
namespace Bz
open PySem PySem.Spec L2
/-- the defs of the text -/
structure Ds (K : PySem.W.Frag) (mg : Str → Option Value) : Prop where
  D_look_for_tie : Df K mg "look_for_tie" ["web", "tie"] s_look_for_tie
  D_reached : Df K mg "reached" ["web", "place"] s_reached
  D_forest : Df K mg "forest" ["web"] s_forest
  D_free_ties : Df K mg "free_ties" ["web"] s_free_ties
  D_way_by : Df K mg "way_by" ["web", "some", "one", "two"] s_way_by
  D_flow_along : Df K mg "flow_along" ["web", "way", "place"] s_flow_along
  D_ring_by : Df K mg "ring_by" ["web", "some", "tie"] s_ring_by
  D_ring_of : Df K mg "ring_of" ["web", "tie"] s_ring_of
  D_web_of : Df K mg "web_of" ["web", "some"] s_web_of
  D_ties_between : Df K mg "ties_between" ["web", "some", "others"] s_ties_between
  D_ends_of : Df K mg "ends_of" ["web", "some"] s_ends_of
  D_rising : Df K mg "rising" ["numbers", "many"] s_rising
  D_even_good : Df K mg "even_good" ["web", "even", "places"] s_even_good
  D_links_good : Df K mg "links_good" ["web", "rung", "had", "left"] s_links_good
  D_rung_good : Df K mg "rung_good" ["web", "rung", "had"] s_rung_good
  D_is_ladder : Df K mg "is_ladder" ["web", "rungs"] s_is_ladder
  D_added : Df K mg "added" ["one", "two"] s_added
  D_times : Df K mg "times" ["number", "flow"] s_times
  D_look_at_set : Df K mg "look_at_set" ["web", "some"] s_look_at_set
  D_is_even : Df K mg "is_even" ["web", "some"] s_is_even
  D_even_flow : Df K mg "even_flow" ["web", "some"] s_even_flow
  D_look_at_rest : Df K mg "look_at_rest" ["k"] s_look_at_rest
  D_look_at_count : Df K mg "look_at_count" ["numbers", "many"] s_look_at_count
  D_rests_of : Df K mg "rests_of" ["amounts", "k"] s_rests_of
  D_gains_of : Df K mg "gains_of" ["web", "amounts"] s_gains_of
  D_is_rest_flow : Df K mg "is_rest_flow" ["web", "rests", "k"] s_is_rest_flow
  D_hung : Df K mg "hung" ["web"] s_hung
  D_filled_whole : Df K mg "filled_whole" ["web", "values"] s_filled_whole
  D_filled : Df K mg "filled" ["web", "values", "k"] s_filled
  D_look_at_bounds : Df K mg "look_at_bounds" ["web", "lows", "highs"] s_look_at_bounds
  D_ways_on : Df K mg "ways_on" ["web", "amounts", "lows", "highs", "place"] s_ways_on
  D_reached_from : Df K mg "reached_from" ["web", "amounts", "lows", "highs", "gains"] s_reached_from
  D_row_to : Df K mg "row_to" ["found", "place"] s_row_to
  D_between : Df K mg "between" ["web", "lows", "highs"] s_between
  D_lifted : Df K mg "lifted" ["web", "rests", "k"] s_lifted
  D_spread : Df K mg "spread" ["web", "some", "amounts"] s_spread
  D_ties_of : Df K mg "ties_of" ["rungs"] s_ties_of
  D_rest_beside : Df K mg "rest_beside" ["web", "rungs"] s_rest_beside
  D_ring_at : Df K mg "ring_at" ["web", "rungs", "number"] s_ring_at
  D_ringed : Df K mg "ringed" ["rests", "ring", "turn", "links"] s_ringed
  D_thirds : Df K mg "thirds" ["web", "rungs"] s_thirds
  D_flow_by : Df K mg "flow_by" ["web", "rungs"] s_flow_by
  D__law_cell : Df K mg "_law_cell" ["_law_script", "_law_k"] s__law_cell
  D__law_drawn : Df K mg "_law_drawn" ["_law_script", "_law_at", "_law_base", "_law_many", "_law_by_digits"] s__law_drawn
  D__law_web : Df K mg "_law_web" ["_law_script", "_law_most", "_law_some"] s__law_web
  D__law_gains : Df K mg "_law_gains" ["_law_many", "_law_ties", "_law_amounts"] s__law_gains
  D__law_kind : Df K mg "_law_kind" ["_law_found"] s__law_kind
  D__law_rising : Df K mg "_law_rising" ["_law_numbers", "_law_many"] s__law_rising
  D__law_between : Df K mg "_law_between" ["_law_ties", "_law_some", "_law_others"] s__law_between
  D__law_together : Df K mg "_law_together" ["_law_ties", "_law_held", "_law_first"] s__law_together
  D__law_even_good : Df K mg "_law_even_good" ["_law_ties", "_law_even", "_law_places"] s__law_even_good
  D__law_rung_good : Df K mg "_law_rung_good" ["_law_many", "_law_ties", "_law_rung_here", "_law_had"] s__law_rung_good
  D__law_ladder_good : Df K mg "_law_ladder_good" ["_law_many", "_law_ties", "_law_rungs_here"] s__law_ladder_good
  D__law_bridges : Df K mg "_law_bridges" ["_law_many", "_law_ties"] s__law_bridges
  D__law_rung : Df K mg "_law_rung" ["_law_ties", "_law_had", "_law_left", "_law_cell_here", "_law_loops_too"] s__law_rung
  D__law_rungs : Df K mg "_law_rungs" ["_law_script", "_law_many", "_law_ties"] s__law_rungs
  D__law_ask : Df K mg "_law_ask" ["_law_which", "_law_web_here", "_law_rungs_here"] s__law_ask
  D__law_refused : Df K mg "_law_refused" ["_law_which", "_law_web_here", "_law_rungs_here"] s__law_refused
  D__law_flows : Df K mg "_law_flows" ["_law_web_here", "_law_many", "_law_ties", "_law_rungs_here"] s__law_flows
  D_law : Df K mg "law" ["_law_script"] s_law
theorem whole {P : Program} {w : World} {K : PySem.W.Frag} {mg : Str → Option Value} {base : Heap} {C CP : Addr} (d : Ds K mg) (T : Bt mg) (Wc : WebC K C) (Ec : ErrC K mg "BadPaper" CP) (Y : Kds K mg CP)
    (F0 : ∃ f fd, Mk K C f ∧ Fun K "__init__" "Web.__init__" s_Web___init__ f fd ∧ mg "Web" = some (.ref C) ∧ Binds K fd ["self", "many", "ties"] []) {f : Addr} {fd : FuncData} (FL : Fun K "law" "law" s_law f fd) : FnOk P w K mg base CX0 11 f fd ["_law_script"] (sp_law K) := by
  have G_Web : GdW P w K mg base C 1 := by
    obtain ⟨f, fd, h1, h2, h3, h4⟩ := F0
    exact ⟨f, fd, h1, ok_init h2 T Wc, h3, h4⟩
  have G_look_for_tie := ok_look_for_tie (P := P) (w := w) (base := base)  d.D_look_for_tie T Wc
  have G_reached := ok_reached (P := P) (w := w) (base := base)  d.D_reached T Wc
  have G_web_of := ok_web_of (P := P) (w := w) (base := base) (k := 1) d.D_web_of T Wc G_Web
  have G_ties_between := ok_ties_between (P := P) (w := w) (base := base)  d.D_ties_between T Wc
  have G_ends_of := ok_ends_of (P := P) (w := w) (base := base)  d.D_ends_of T Wc
  have G_rising := ok_rising (P := P) (w := w) (base := base)  d.D_rising T
  have G_forest := ok_forest (P := P) (w := w) (base := base)  d.D_forest T Wc
  have G_free_ties := ok_free_ties (P := P) (w := w) (base := base) (k := 1) d.D_free_ties T Wc G_forest
  have G_way_by := ok_way_by (P := P) (w := w) (base := base)  d.D_way_by T Wc
  have G_flow_along := ok_flow_along (P := P) (w := w) (base := base)  d.D_flow_along T Wc
  have G_ring_by := ok_ring_by (P := P) (w := w) (base := base) (j := 1) (k := 1) d.D_ring_by T Wc G_way_by G_flow_along (by decide) (by decide)
  have G_ring_of := ok_ring_of (P := P) (w := w) (base := base)  d.D_ring_of T Wc G_look_for_tie G_forest G_ring_by
  have G_added := ok_added (P := P) (w := w) (base := base)  d.D_added T
  have G_times := ok_times (P := P) (w := w) (base := base)  d.D_times T
  have G_look_at_set := ok_look_at_set (P := P) (w := w) (base := base)  d.D_look_at_set T Wc
  have G_is_even := ok_is_even (P := P) (w := w) (base := base)  d.D_is_even T Wc G_look_at_set
  have G_even_flow := ok_even_flow (P := P) (w := w) (base := base)  d.D_even_flow T Wc G_is_even G_ring_by G_added
  have G_look_at_rest := ok_look_at_rest (P := P) (w := w) (base := base)  d.D_look_at_rest T
  have G_look_at_count := ok_look_at_count (P := P) (w := w) (base := base)  d.D_look_at_count T
  have G_rests_of := ok_rests_of (P := P) (w := w) (base := base)  d.D_rests_of T G_look_at_rest
  have G_gains_of := ok_gains_of (P := P) (w := w) (base := base)  d.D_gains_of T Wc
  have G_is_rest_flow := ok_is_rest_flow (P := P) (w := w) (base := base)  d.D_is_rest_flow T Wc G_look_at_rest G_look_at_count G_gains_of
  have G_hung := ok_hung (P := P) (w := w) (base := base)  d.D_hung T Wc G_forest
  have G_spread := ok_spread (P := P) (w := w) (base := base)  d.D_spread T Wc
  have G_filled_whole := ok_filled_whole (P := P) (w := w) (base := base)  d.D_filled_whole T Wc G_free_ties G_look_at_count G_gains_of G_hung
  have G_filled := ok_filled (P := P) (w := w) (base := base)  d.D_filled T Wc G_look_at_rest G_rests_of G_filled_whole
  have G_look_at_bounds := ok_look_at_bounds (P := P) (w := w) (base := base)  d.D_look_at_bounds T Wc G_look_at_count
  have G_ways_on := ok_ways_on (P := P) (w := w) (base := base)  d.D_ways_on T Wc
  have G_reached_from := ok_reached_from (P := P) (w := w) (base := base)  d.D_reached_from T Wc G_ways_on
  have G_row_to := ok_row_to (P := P) (w := w) (base := base)  d.D_row_to T
  have G_between := ok_between (P := P) (w := w) (base := base)  d.D_between T Wc G_look_at_bounds G_gains_of G_reached_from G_row_to
  have G_lifted := ok_lifted (P := P) (w := w) (base := base)  d.D_lifted T Wc G_is_rest_flow G_between
  have G_even_good := ok_even_good (P := P) (w := w) (base := base)  d.D_even_good T Wc G_ends_of G_reached G_web_of
  have G_links_good := ok_links_good (P := P) (w := w) (base := base)  d.D_links_good T Wc G_reached G_ties_between
  have G_rung_good := ok_rung_good (P := P) (w := w) (base := base)  d.D_rung_good T Wc G_rising G_even_good G_links_good
  have G_is_ladder := ok_is_ladder (P := P) (w := w) (base := base)  d.D_is_ladder T Wc G_rung_good
  have G_ties_of := ok_ties_of (P := P) (w := w) (base := base)  d.D_ties_of T
  have G_rest_beside := ok_rest_beside (P := P) (w := w) (base := base)  d.D_rest_beside T Wc G_ties_of G_web_of G_free_ties G_filled G_spread
  have G_ring_at := ok_ring_at (P := P) (w := w) (base := base)  d.D_ring_at T Wc G_ties_of G_web_of G_ring_of G_spread
  have G_ringed0 := ok_never (P := P) (w := w) (base := base)  d.D_ringed
  have G_ringed2 := ok_ringed2 (P := P) (w := w) (base := base)  d.D_ringed T G_ringed0
  have G_ringed := ok_ringed1 (P := P) (w := w) (base := base)  d.D_ringed T G_ringed2
  have G_thirds := ok_thirds (P := P) (w := w) (base := base)  d.D_thirds T Wc G_is_ladder G_rest_beside G_ring_at G_ringed
  have G_flow_by := ok_flow_by (P := P) (w := w) (base := base)  d.D_flow_by T Wc G_thirds G_lifted G_even_flow G_times G_added
  have GX_thirds := okX_thirds (P := P) (w := w) (base := base)  d.D_thirds T Ec Wc G_is_ladder G_rest_beside G_ring_at G_ringed
  have GX_flow_by := okX_flow_by (P := P) (w := w) (base := base)  d.D_flow_by T Wc GX_thirds G_lifted G_even_flow G_times G_added
  have GX__law_ask := okX_ask (P := P) (w := w) (base := base)  d.D__law_ask T GX_thirds GX_flow_by
  have G__law_kind := ok_kind (P := P) (w := w) (base := base)  d.D__law_kind T Y
  have G__law_refused := ok_refused (P := P) (w := w) (base := base)  d.D__law_refused T Y GX__law_ask G__law_kind
  have G__law_cell := ok_cell (P := P) (w := w) (base := base)  d.D__law_cell T
  have G__law_drawn := ok_drawn (P := P) (w := w) (base := base)  d.D__law_drawn T G__law_cell
  have G__law_gains := ok_lgains (P := P) (w := w) (base := base)  d.D__law_gains T
  have G__law_rising := ok_lrising (P := P) (w := w) (base := base)  d.D__law_rising T
  have G__law_between := ok_lbetween (P := P) (w := w) (base := base)  d.D__law_between T
  have G__law_together := ok_together (P := P) (w := w) (base := base)  d.D__law_together T
  have G__law_web := ok_lweb (P := P) (w := w) (base := base)  d.D__law_web T G__law_cell G__law_drawn
  have G__law_even_good := ok_leven (P := P) (w := w) (base := base)  d.D__law_even_good T G__law_together
  have G__law_bridges := ok_lbridges (P := P) (w := w) (base := base)  d.D__law_bridges T G__law_together
  have G__law_rung_good := ok_lrung_good (P := P) (w := w) (base := base)  d.D__law_rung_good T G__law_rising G__law_even_good G__law_together G__law_between
  have G__law_ladder_good := ok_lladder (P := P) (w := w) (base := base)  d.D__law_ladder_good T G__law_rung_good
  have G__law_rung := ok_lrung (P := P) (w := w) (base := base)  d.D__law_rung T G__law_between G__law_together
  have G__law_rungs := ok_lrungs (P := P) (w := w) (base := base)  d.D__law_rungs T G__law_cell G__law_rung
  have G__law_flows := ok_lflows (P := P) (w := w) (base := base)  d.D__law_flows T G_thirds G_flow_by G__law_gains
  exact ok_law FL T Wc G_Web G__law_web G__law_rungs G__law_ladder_good G_is_ladder G__law_refused G__law_bridges G__law_flows
theorem df_of {K : PySem.W.Frag} {mg : Str → Option Value} {x : Str} {ps : List Str} {st : Stmt} {f : Addr} {fd : FuncData} (F : FunD K x x (defArgs st) (defBody st) (defScope st) [] [] f fd) (hm : mg x = some (.ref f))
    (h : ∀ (kV doc pm : Value) (an : Option Addr) (cdv ct : Value) (us : List Value), us.length = ps.length → bindArgs (PySem.W.fnOf x x (defArgs st) (defBody st) (defScope st) .none kV doc pm an cdv ct) ⟨us, []⟩ = pure (ps.zip us)) : Df K mg x ps st := by
  refine ⟨f, fd, ?_, hm, F.bindsN h⟩
  obtain ⟨oc, od, dV, kV, doc, pm, an, cdv, ct, osl, e, lk, hcd, hD, hK⟩ := F.ex
  rcases hD with ⟨_, z⟩ | ⟨z, _⟩
  · subst z
    exact ⟨⟨oc, od, kV, doc, pm, an, cdv, ct, osl, e, lk, hcd⟩, F.kp⟩
  · exact absurd rfl z
section
variable {K : PySem.W.Frag} {h : Heap} {mg : Str → Option Value}
theorem ds_of (X : K.In h) (G : h.Ns mainGlobals mg) (c : He.SaysD fas fns K) : Ds K mg where
  D_look_for_tie := by
    obtain ⟨fd, F⟩ := c.def_ 0 (d := dd_look_for_tie) rfl
    exact df_of (st := s_look_for_tie) F (He.glo_ok X G (c.fact 0 (f := .glo "look_for_tie") rfl)) fun _ _ _ _ _ _ us hl => match us, hl with | [_, _], _ => rfl
  D_reached := by
    obtain ⟨fd, F⟩ := c.def_ 1 (d := dd_reached) rfl
    exact df_of (st := s_reached) F (He.glo_ok X G (c.fact 1 (f := .glo "reached") rfl)) fun _ _ _ _ _ _ us hl => match us, hl with | [_, _], _ => rfl
  D_forest := by
    obtain ⟨fd, F⟩ := c.def_ 2 (d := dd_forest) rfl
    exact df_of (st := s_forest) F (He.glo_ok X G (c.fact 2 (f := .glo "forest") rfl)) fun _ _ _ _ _ _ us hl => match us, hl with | [_], _ => rfl
  D_free_ties := by
    obtain ⟨fd, F⟩ := c.def_ 3 (d := dd_free_ties) rfl
    exact df_of (st := s_free_ties) F (He.glo_ok X G (c.fact 3 (f := .glo "free_ties") rfl)) fun _ _ _ _ _ _ us hl => match us, hl with | [_], _ => rfl
  D_way_by := by
    obtain ⟨fd, F⟩ := c.def_ 4 (d := dd_way_by) rfl
    exact df_of (st := s_way_by) F (He.glo_ok X G (c.fact 4 (f := .glo "way_by") rfl)) fun _ _ _ _ _ _ us hl => match us, hl with | [_, _, _, _], _ => rfl
  D_flow_along := by
    obtain ⟨fd, F⟩ := c.def_ 5 (d := dd_flow_along) rfl
    exact df_of (st := s_flow_along) F (He.glo_ok X G (c.fact 5 (f := .glo "flow_along") rfl)) fun _ _ _ _ _ _ us hl => match us, hl with | [_, _, _], _ => rfl
  D_ring_by := by
    obtain ⟨fd, F⟩ := c.def_ 6 (d := dd_ring_by) rfl
    exact df_of (st := s_ring_by) F (He.glo_ok X G (c.fact 6 (f := .glo "ring_by") rfl)) fun _ _ _ _ _ _ us hl => match us, hl with | [_, _, _], _ => rfl
  D_ring_of := by
    obtain ⟨fd, F⟩ := c.def_ 7 (d := dd_ring_of) rfl
    exact df_of (st := s_ring_of) F (He.glo_ok X G (c.fact 7 (f := .glo "ring_of") rfl)) fun _ _ _ _ _ _ us hl => match us, hl with | [_, _], _ => rfl
  D_web_of := by
    obtain ⟨fd, F⟩ := c.def_ 8 (d := dd_web_of) rfl
    exact df_of (st := s_web_of) F (He.glo_ok X G (c.fact 8 (f := .glo "web_of") rfl)) fun _ _ _ _ _ _ us hl => match us, hl with | [_, _], _ => rfl
  D_ties_between := by
    obtain ⟨fd, F⟩ := c.def_ 9 (d := dd_ties_between) rfl
    exact df_of (st := s_ties_between) F (He.glo_ok X G (c.fact 9 (f := .glo "ties_between") rfl)) fun _ _ _ _ _ _ us hl => match us, hl with | [_, _, _], _ => rfl
  D_ends_of := by
    obtain ⟨fd, F⟩ := c.def_ 10 (d := dd_ends_of) rfl
    exact df_of (st := s_ends_of) F (He.glo_ok X G (c.fact 10 (f := .glo "ends_of") rfl)) fun _ _ _ _ _ _ us hl => match us, hl with | [_, _], _ => rfl
  D_rising := by
    obtain ⟨fd, F⟩ := c.def_ 11 (d := dd_rising) rfl
    exact df_of (st := s_rising) F (He.glo_ok X G (c.fact 11 (f := .glo "rising") rfl)) fun _ _ _ _ _ _ us hl => match us, hl with | [_, _], _ => rfl
  D_even_good := by
    obtain ⟨fd, F⟩ := c.def_ 12 (d := dd_even_good) rfl
    exact df_of (st := s_even_good) F (He.glo_ok X G (c.fact 12 (f := .glo "even_good") rfl)) fun _ _ _ _ _ _ us hl => match us, hl with | [_, _, _], _ => rfl
  D_links_good := by
    obtain ⟨fd, F⟩ := c.def_ 13 (d := dd_links_good) rfl
    exact df_of (st := s_links_good) F (He.glo_ok X G (c.fact 13 (f := .glo "links_good") rfl)) fun _ _ _ _ _ _ us hl => match us, hl with | [_, _, _, _], _ => rfl
  D_rung_good := by
    obtain ⟨fd, F⟩ := c.def_ 14 (d := dd_rung_good) rfl
    exact df_of (st := s_rung_good) F (He.glo_ok X G (c.fact 14 (f := .glo "rung_good") rfl)) fun _ _ _ _ _ _ us hl => match us, hl with | [_, _, _], _ => rfl
  D_is_ladder := by
    obtain ⟨fd, F⟩ := c.def_ 15 (d := dd_is_ladder) rfl
    exact df_of (st := s_is_ladder) F (He.glo_ok X G (c.fact 15 (f := .glo "is_ladder") rfl)) fun _ _ _ _ _ _ us hl => match us, hl with | [_, _], _ => rfl
  D_added := by
    obtain ⟨fd, F⟩ := c.def_ 16 (d := dd_added) rfl
    exact df_of (st := s_added) F (He.glo_ok X G (c.fact 16 (f := .glo "added") rfl)) fun _ _ _ _ _ _ us hl => match us, hl with | [_, _], _ => rfl
  D_times := by
    obtain ⟨fd, F⟩ := c.def_ 17 (d := dd_times) rfl
    exact df_of (st := s_times) F (He.glo_ok X G (c.fact 17 (f := .glo "times") rfl)) fun _ _ _ _ _ _ us hl => match us, hl with | [_, _], _ => rfl
  D_look_at_set := by
    obtain ⟨fd, F⟩ := c.def_ 18 (d := dd_look_at_set) rfl
    exact df_of (st := s_look_at_set) F (He.glo_ok X G (c.fact 18 (f := .glo "look_at_set") rfl)) fun _ _ _ _ _ _ us hl => match us, hl with | [_, _], _ => rfl
  D_is_even := by
    obtain ⟨fd, F⟩ := c.def_ 19 (d := dd_is_even) rfl
    exact df_of (st := s_is_even) F (He.glo_ok X G (c.fact 19 (f := .glo "is_even") rfl)) fun _ _ _ _ _ _ us hl => match us, hl with | [_, _], _ => rfl
  D_even_flow := by
    obtain ⟨fd, F⟩ := c.def_ 20 (d := dd_even_flow) rfl
    exact df_of (st := s_even_flow) F (He.glo_ok X G (c.fact 20 (f := .glo "even_flow") rfl)) fun _ _ _ _ _ _ us hl => match us, hl with | [_, _], _ => rfl
  D_look_at_rest := by
    obtain ⟨fd, F⟩ := c.def_ 21 (d := dd_look_at_rest) rfl
    exact df_of (st := s_look_at_rest) F (He.glo_ok X G (c.fact 21 (f := .glo "look_at_rest") rfl)) fun _ _ _ _ _ _ us hl => match us, hl with | [_], _ => rfl
  D_look_at_count := by
    obtain ⟨fd, F⟩ := c.def_ 22 (d := dd_look_at_count) rfl
    exact df_of (st := s_look_at_count) F (He.glo_ok X G (c.fact 22 (f := .glo "look_at_count") rfl)) fun _ _ _ _ _ _ us hl => match us, hl with | [_, _], _ => rfl
  D_rests_of := by
    obtain ⟨fd, F⟩ := c.def_ 23 (d := dd_rests_of) rfl
    exact df_of (st := s_rests_of) F (He.glo_ok X G (c.fact 23 (f := .glo "rests_of") rfl)) fun _ _ _ _ _ _ us hl => match us, hl with | [_, _], _ => rfl
  D_gains_of := by
    obtain ⟨fd, F⟩ := c.def_ 24 (d := dd_gains_of) rfl
    exact df_of (st := s_gains_of) F (He.glo_ok X G (c.fact 24 (f := .glo "gains_of") rfl)) fun _ _ _ _ _ _ us hl => match us, hl with | [_, _], _ => rfl
  D_is_rest_flow := by
    obtain ⟨fd, F⟩ := c.def_ 25 (d := dd_is_rest_flow) rfl
    exact df_of (st := s_is_rest_flow) F (He.glo_ok X G (c.fact 25 (f := .glo "is_rest_flow") rfl)) fun _ _ _ _ _ _ us hl => match us, hl with | [_, _, _], _ => rfl
  D_hung := by
    obtain ⟨fd, F⟩ := c.def_ 26 (d := dd_hung) rfl
    exact df_of (st := s_hung) F (He.glo_ok X G (c.fact 26 (f := .glo "hung") rfl)) fun _ _ _ _ _ _ us hl => match us, hl with | [_], _ => rfl
  D_filled_whole := by
    obtain ⟨fd, F⟩ := c.def_ 27 (d := dd_filled_whole) rfl
    exact df_of (st := s_filled_whole) F (He.glo_ok X G (c.fact 27 (f := .glo "filled_whole") rfl)) fun _ _ _ _ _ _ us hl => match us, hl with | [_, _], _ => rfl
  D_filled := by
    obtain ⟨fd, F⟩ := c.def_ 28 (d := dd_filled) rfl
    exact df_of (st := s_filled) F (He.glo_ok X G (c.fact 28 (f := .glo "filled") rfl)) fun _ _ _ _ _ _ us hl => match us, hl with | [_, _, _], _ => rfl
  D_look_at_bounds := by
    obtain ⟨fd, F⟩ := c.def_ 29 (d := dd_look_at_bounds) rfl
    exact df_of (st := s_look_at_bounds) F (He.glo_ok X G (c.fact 29 (f := .glo "look_at_bounds") rfl)) fun _ _ _ _ _ _ us hl => match us, hl with | [_, _, _], _ => rfl
  D_ways_on := by
    obtain ⟨fd, F⟩ := c.def_ 30 (d := dd_ways_on) rfl
    exact df_of (st := s_ways_on) F (He.glo_ok X G (c.fact 30 (f := .glo "ways_on") rfl)) fun _ _ _ _ _ _ us hl => match us, hl with | [_, _, _, _, _], _ => rfl
  D_reached_from := by
    obtain ⟨fd, F⟩ := c.def_ 31 (d := dd_reached_from) rfl
    exact df_of (st := s_reached_from) F (He.glo_ok X G (c.fact 31 (f := .glo "reached_from") rfl)) fun _ _ _ _ _ _ us hl => match us, hl with | [_, _, _, _, _], _ => rfl
  D_row_to := by
    obtain ⟨fd, F⟩ := c.def_ 32 (d := dd_row_to) rfl
    exact df_of (st := s_row_to) F (He.glo_ok X G (c.fact 32 (f := .glo "row_to") rfl)) fun _ _ _ _ _ _ us hl => match us, hl with | [_, _], _ => rfl
  D_between := by
    obtain ⟨fd, F⟩ := c.def_ 33 (d := dd_between) rfl
    exact df_of (st := s_between) F (He.glo_ok X G (c.fact 33 (f := .glo "between") rfl)) fun _ _ _ _ _ _ us hl => match us, hl with | [_, _, _], _ => rfl
  D_lifted := by
    obtain ⟨fd, F⟩ := c.def_ 34 (d := dd_lifted) rfl
    exact df_of (st := s_lifted) F (He.glo_ok X G (c.fact 34 (f := .glo "lifted") rfl)) fun _ _ _ _ _ _ us hl => match us, hl with | [_, _, _], _ => rfl
  D_spread := by
    obtain ⟨fd, F⟩ := c.def_ 35 (d := dd_spread) rfl
    exact df_of (st := s_spread) F (He.glo_ok X G (c.fact 35 (f := .glo "spread") rfl)) fun _ _ _ _ _ _ us hl => match us, hl with | [_, _, _], _ => rfl
  D_ties_of := by
    obtain ⟨fd, F⟩ := c.def_ 36 (d := dd_ties_of) rfl
    exact df_of (st := s_ties_of) F (He.glo_ok X G (c.fact 36 (f := .glo "ties_of") rfl)) fun _ _ _ _ _ _ us hl => match us, hl with | [_], _ => rfl
  D_rest_beside := by
    obtain ⟨fd, F⟩ := c.def_ 37 (d := dd_rest_beside) rfl
    exact df_of (st := s_rest_beside) F (He.glo_ok X G (c.fact 37 (f := .glo "rest_beside") rfl)) fun _ _ _ _ _ _ us hl => match us, hl with | [_, _], _ => rfl
  D_ring_at := by
    obtain ⟨fd, F⟩ := c.def_ 38 (d := dd_ring_at) rfl
    exact df_of (st := s_ring_at) F (He.glo_ok X G (c.fact 38 (f := .glo "ring_at") rfl)) fun _ _ _ _ _ _ us hl => match us, hl with | [_, _, _], _ => rfl
  D_ringed := by
    obtain ⟨fd, F⟩ := c.def_ 39 (d := dd_ringed) rfl
    exact df_of (st := s_ringed) F (He.glo_ok X G (c.fact 39 (f := .glo "ringed") rfl)) fun _ _ _ _ _ _ us hl => match us, hl with | [_, _, _, _], _ => rfl
  D_thirds := by
    obtain ⟨fd, F⟩ := c.def_ 40 (d := dd_thirds) rfl
    exact df_of (st := s_thirds) F (He.glo_ok X G (c.fact 40 (f := .glo "thirds") rfl)) fun _ _ _ _ _ _ us hl => match us, hl with | [_, _], _ => rfl
  D_flow_by := by
    obtain ⟨fd, F⟩ := c.def_ 41 (d := dd_flow_by) rfl
    exact df_of (st := s_flow_by) F (He.glo_ok X G (c.fact 41 (f := .glo "flow_by") rfl)) fun _ _ _ _ _ _ us hl => match us, hl with | [_, _], _ => rfl
  D__law_cell := by
    obtain ⟨fd, F⟩ := c.def_ 42 (d := dd__law_cell) rfl
    exact df_of (st := s__law_cell) F (He.glo_ok X G (c.fact 42 (f := .glo "_law_cell") rfl)) fun _ _ _ _ _ _ us hl => match us, hl with | [_, _], _ => rfl
  D__law_drawn := by
    obtain ⟨fd, F⟩ := c.def_ 43 (d := dd__law_drawn) rfl
    exact df_of (st := s__law_drawn) F (He.glo_ok X G (c.fact 43 (f := .glo "_law_drawn") rfl)) fun _ _ _ _ _ _ us hl => match us, hl with | [_, _, _, _, _], _ => rfl
  D__law_web := by
    obtain ⟨fd, F⟩ := c.def_ 44 (d := dd__law_web) rfl
    exact df_of (st := s__law_web) F (He.glo_ok X G (c.fact 44 (f := .glo "_law_web") rfl)) fun _ _ _ _ _ _ us hl => match us, hl with | [_, _, _], _ => rfl
  D__law_gains := by
    obtain ⟨fd, F⟩ := c.def_ 45 (d := dd__law_gains) rfl
    exact df_of (st := s__law_gains) F (He.glo_ok X G (c.fact 45 (f := .glo "_law_gains") rfl)) fun _ _ _ _ _ _ us hl => match us, hl with | [_, _, _], _ => rfl
  D__law_kind := by
    obtain ⟨fd, F⟩ := c.def_ 46 (d := dd__law_kind) rfl
    exact df_of (st := s__law_kind) F (He.glo_ok X G (c.fact 46 (f := .glo "_law_kind") rfl)) fun _ _ _ _ _ _ us hl => match us, hl with | [_], _ => rfl
  D__law_rising := by
    obtain ⟨fd, F⟩ := c.def_ 47 (d := dd__law_rising) rfl
    exact df_of (st := s__law_rising) F (He.glo_ok X G (c.fact 47 (f := .glo "_law_rising") rfl)) fun _ _ _ _ _ _ us hl => match us, hl with | [_, _], _ => rfl
  D__law_between := by
    obtain ⟨fd, F⟩ := c.def_ 48 (d := dd__law_between) rfl
    exact df_of (st := s__law_between) F (He.glo_ok X G (c.fact 48 (f := .glo "_law_between") rfl)) fun _ _ _ _ _ _ us hl => match us, hl with | [_, _, _], _ => rfl
  D__law_together := by
    obtain ⟨fd, F⟩ := c.def_ 49 (d := dd__law_together) rfl
    exact df_of (st := s__law_together) F (He.glo_ok X G (c.fact 49 (f := .glo "_law_together") rfl)) fun _ _ _ _ _ _ us hl => match us, hl with | [_, _, _], _ => rfl
  D__law_even_good := by
    obtain ⟨fd, F⟩ := c.def_ 50 (d := dd__law_even_good) rfl
    exact df_of (st := s__law_even_good) F (He.glo_ok X G (c.fact 50 (f := .glo "_law_even_good") rfl)) fun _ _ _ _ _ _ us hl => match us, hl with | [_, _, _], _ => rfl
  D__law_rung_good := by
    obtain ⟨fd, F⟩ := c.def_ 51 (d := dd__law_rung_good) rfl
    exact df_of (st := s__law_rung_good) F (He.glo_ok X G (c.fact 51 (f := .glo "_law_rung_good") rfl)) fun _ _ _ _ _ _ us hl => match us, hl with | [_, _, _, _], _ => rfl
  D__law_ladder_good := by
    obtain ⟨fd, F⟩ := c.def_ 52 (d := dd__law_ladder_good) rfl
    exact df_of (st := s__law_ladder_good) F (He.glo_ok X G (c.fact 52 (f := .glo "_law_ladder_good") rfl)) fun _ _ _ _ _ _ us hl => match us, hl with | [_, _, _], _ => rfl
  D__law_bridges := by
    obtain ⟨fd, F⟩ := c.def_ 53 (d := dd__law_bridges) rfl
    exact df_of (st := s__law_bridges) F (He.glo_ok X G (c.fact 53 (f := .glo "_law_bridges") rfl)) fun _ _ _ _ _ _ us hl => match us, hl with | [_, _], _ => rfl
  D__law_rung := by
    obtain ⟨fd, F⟩ := c.def_ 54 (d := dd__law_rung) rfl
    exact df_of (st := s__law_rung) F (He.glo_ok X G (c.fact 54 (f := .glo "_law_rung") rfl)) fun _ _ _ _ _ _ us hl => match us, hl with | [_, _, _, _, _], _ => rfl
  D__law_rungs := by
    obtain ⟨fd, F⟩ := c.def_ 55 (d := dd__law_rungs) rfl
    exact df_of (st := s__law_rungs) F (He.glo_ok X G (c.fact 55 (f := .glo "_law_rungs") rfl)) fun _ _ _ _ _ _ us hl => match us, hl with | [_, _, _], _ => rfl
  D__law_ask := by
    obtain ⟨fd, F⟩ := c.def_ 56 (d := dd__law_ask) rfl
    exact df_of (st := s__law_ask) F (He.glo_ok X G (c.fact 56 (f := .glo "_law_ask") rfl)) fun _ _ _ _ _ _ us hl => match us, hl with | [_, _, _], _ => rfl
  D__law_refused := by
    obtain ⟨fd, F⟩ := c.def_ 57 (d := dd__law_refused) rfl
    exact df_of (st := s__law_refused) F (He.glo_ok X G (c.fact 57 (f := .glo "_law_refused") rfl)) fun _ _ _ _ _ _ us hl => match us, hl with | [_, _, _], _ => rfl
  D__law_flows := by
    obtain ⟨fd, F⟩ := c.def_ 58 (d := dd__law_flows) rfl
    exact df_of (st := s__law_flows) F (He.glo_ok X G (c.fact 58 (f := .glo "_law_flows") rfl)) fun _ _ _ _ _ _ us hl => match us, hl with | [_, _, _, _], _ => rfl
  D_law := by
    obtain ⟨fd, F⟩ := c.def_ 59 (d := dd_law) rfl
    exact df_of (st := s_law) F (He.glo_ok X G (c.fact 59 (f := .glo "law") rfl)) fun _ _ _ _ _ _ us hl => match us, hl with | [_], _ => rfl
theorem bt_of (X : K.In h) (G : h.Ns mainGlobals mg) (c : He.SaysD fas fns K) : Bt mg where
  len := He.free_ok X G (c.fact 73 (f := .free "len") rfl)
  range := He.free_ok X G (c.fact 74 (f := .free "range") rfl)
  sorted := He.free_ok X G (c.fact 75 (f := .free "sorted") rfl)
  list := He.free_ok X G (c.fact 76 (f := .free "list") rfl)
  tuple := He.free_ok X G (c.fact 77 (f := .free "tuple") rfl)
  set := He.free_ok X G (c.fact 78 (f := .free "set") rfl)
  sum := He.free_ok X G (c.fact 79 (f := .free "sum") rfl)
  max := He.free_ok X G (c.fact 80 (f := .free "max") rfl)
  min := He.free_ok X G (c.fact 81 (f := .free "min") rfl)
  any := He.free_ok X G (c.fact 82 (f := .free "any") rfl)
  all := He.free_ok X G (c.fact 83 (f := .free "all") rfl)
  int := He.free_ok X G (c.fact 84 (f := .free "int") rfl)
  zip := He.free_ok X G (c.fact 85 (f := .free "zip") rfl)
  enumerate := He.free_ok X G (c.fact 86 (f := .free "enumerate") rfl)
  reversed := He.free_ok X G (c.fact 87 (f := .free "reversed") rfl)
  isinstance := He.free_ok X G (c.fact 88 (f := .free "isinstance") rfl)
  bool := He.free_ok X G (c.fact 89 (f := .free "bool") rfl)
  ValueError := He.free_ok X G (c.fact 90 (f := .free "ValueError") rfl)
  MOST_PLACES := He.int_ok X G (c.fact 91 (f := .int "MOST_PLACES" 20) rfl)
  MOST_TIES := He.int_ok X G (c.fact 92 (f := .int "MOST_TIES" 40) rfl)
  MOST_REST := He.int_ok X G (c.fact 93 (f := .int "MOST_REST" (10 ^ 20)) rfl)
theorem web_of_facts (c : He.SaysD fas fns K) : WebC K (He.ga K "Web") := ⟨He.cls_ok (c.fact 94 (f := .cls "Web") rfl), He.noat_ok (c.fact 95 (f := .noat "Web" "many") rfl), He.noat_ok (c.fact 96 (f := .noat "Web" "ties") rfl)⟩
theorem mk_of_facts (X : K.In h) (G : h.Ns mainGlobals mg) (c : He.SaysD fas fns K) : ∃ f fd, Mk K (He.ga K "Web") f ∧ Fun K "__init__" "Web.__init__" s_Web___init__ f fd ∧ mg "Web" = some (.ref (He.ga K "Web")) ∧ Binds K fd ["self", "many", "ties"] [] := by
  obtain ⟨fd, F⟩ := c.def_ 60 (d := dd_init) rfl
  have M := He.mkr_ok (c.fact 97 (f := .mkr "Web") rfl)
  have F' : FunD K "__init__" "Web.__init__" (defArgs s_Web___init__) (defBody s_Web___init__) (defScope s_Web___init__) [] [] (He.ma K (He.ga K "Web") "__init__") fd := F
  have b : Binds K fd ["self", "many", "ties"] [] := F'.bindsN fun _ _ _ _ _ _ us hl => match us, hl with | [_, _, _], _ => rfl
  refine ⟨_, fd, M, ?_, He.glo_ok X G (c.fact 72 (f := .glo "Web") rfl), b⟩
  obtain ⟨oc, od, dV, kV, doc, pm, an, cdv, ct, osl, e, lk, hcd, hD, hK⟩ := F'.ex
  rcases hD with ⟨_, z⟩ | ⟨z, _⟩
  · subst z
    exact ⟨⟨oc, od, kV, doc, pm, an, cdv, ct, osl, e, lk, hcd⟩, F'.kp⟩
  · exact absurd rfl z
theorem err_of (X : K.In h) (G : h.Ns mainGlobals mg) (c : He.SaysD fas fns K) : ErrC K mg "BadPaper" (He.ga K "BadPaper") := by
  obtain ⟨h1, h2, h3, h4⟩ := He.exc_ok (c.fact 98 (f := .exc "BadPaper") rfl)
  exact ⟨He.glo_ok X G (c.fact 69 (f := .glo "BadPaper") rfl), h2, h1, h3, h4⟩
theorem ex_at (e : exB K = true) (i : Nat) {b : Bool} (hi : (exs K)[i]? = some b := by rfl) : b = true := List.all_eq_true.mp e b (List.mem_of_getElem? hi)
def kds_of (X : K.In h) (G : h.Ns mainGlobals mg) (c : He.SaysD fas fns K) (e : exB K = true) : Kds K mg (He.ga K "BadPaper") where
  ec := ⟨He.eqO_ok (ex_at e 12), He.eqO_ok (ex_at e 13), of_decide_eq_true (ex_at e 14), ex_at e 15, He.eqO_ok (ex_at e 16), He.eqO_ok (ex_at e 17), of_decide_eq_true (ex_at e 18), of_decide_eq_true (ex_at e 19)⟩
  cBadDeed := He.ga K "BadDeed"
  gBadDeed := He.glo_ok X G (c.fact 71 (f := .glo "BadDeed") rfl)
  kBadDeed := of_decide_eq_true (ex_at e 0)
  cBadFlow := He.ga K "BadFlow"
  gBadFlow := He.glo_ok X G (c.fact 65 (f := .glo "BadFlow") rfl)
  kBadFlow := of_decide_eq_true (ex_at e 1)
  cBadPaper := He.ga K "BadPaper"
  gBadPaper := He.glo_ok X G (c.fact 69 (f := .glo "BadPaper") rfl)
  kBadPaper := of_decide_eq_true (ex_at e 2)
  cBadPlace := He.ga K "BadPlace"
  gBadPlace := He.glo_ok X G (c.fact 63 (f := .glo "BadPlace") rfl)
  kBadPlace := of_decide_eq_true (ex_at e 3)
  cBadRest := He.ga K "BadRest"
  gBadRest := He.glo_ok X G (c.fact 66 (f := .glo "BadRest") rfl)
  kBadRest := of_decide_eq_true (ex_at e 4)
  cBadSet := He.ga K "BadSet"
  gBadSet := He.glo_ok X G (c.fact 68 (f := .glo "BadSet") rfl)
  kBadSet := of_decide_eq_true (ex_at e 5)
  cBadText := He.ga K "BadText"
  gBadText := He.glo_ok X G (c.fact 70 (f := .glo "BadText") rfl)
  kBadText := of_decide_eq_true (ex_at e 6)
  cBadTie := He.ga K "BadTie"
  gBadTie := He.glo_ok X G (c.fact 64 (f := .glo "BadTie") rfl)
  kBadTie := of_decide_eq_true (ex_at e 7)
  cBadWeb := He.ga K "BadWeb"
  gBadWeb := He.glo_ok X G (c.fact 61 (f := .glo "BadWeb") rfl)
  kBadWeb := of_decide_eq_true (ex_at e 8)
  cNoFlow := He.ga K "NoFlow"
  gNoFlow := He.glo_ok X G (c.fact 67 (f := .glo "NoFlow") rfl)
  kNoFlow := of_decide_eq_true (ex_at e 9)
  cTooMany := He.ga K "TooMany"
  gTooMany := He.glo_ok X G (c.fact 62 (f := .glo "TooMany") rfl)
  kTooMany := of_decide_eq_true (ex_at e 10)
  kValue := of_decide_eq_true (ex_at e 11)
  cFlowError := He.ga K "FlowError"
  gFlowError := He.glo_ok X G (c.fact 60 (f := .glo "FlowError") rfl)
  xFlowError := He.exm_ok (c.fact 99 (f := .exm "BadPaper" "FlowError" true) rfl)
theorem facts {P : Program} {w : World} {f : Addr} (X : K.In h) (G : h.Ns mainGlobals mg) (hfa : mg ("law" : Str) = some (.ref f)) (c : He.SaysD fas fns K) (e : exB K = true) :
    ∃ fd : FuncData, (∀ (s : Shared) (v : Value), BindsTo s fd ⟨[v], []⟩ [("_law_script", v)]) ∧ ∀ base : Heap, FnOk P w K mg base CX0 11 f fd ["_law_script"] (sp_law K) := by
  obtain ⟨fd, F⟩ := c.def_ 59 (d := dd_law) rfl
  have F' : FunD K "law" "law" (defArgs s_law) (defBody s_law) (defScope s_law) [] [] (He.ga K "law") fd := F
  have e1 := hfa.symm.trans (He.glo_ok X G (c.fact 59 (f := .glo "law") rfl))
  have e2 : f = He.ga K "law" := by
    have := Option.some.inj e1
    exact Value.ref.inj this
  have b := F'.bindsA (ps := ["_law_script"]) fun _ _ _ _ _ _ us hl => match us, hl with | [_], _ => rfl
  subst e2
  refine ⟨fd, fun s v => b s [v] rfl, fun base => ?_⟩
  refine whole (ds_of X G c) (bt_of X G c) (web_of_facts c) (err_of X G c) (kds_of X G c e) (mk_of_facts X G c) ?_
  obtain ⟨oc, od, dV, kV, doc, pm, an, cdv, ct, osl, e4, lk, hcd, hD, hK⟩ := F'.ex
  rcases hD with ⟨_, z⟩ | ⟨z, _⟩
  · subst z
    exact ⟨⟨oc, od, kV, doc, pm, an, cdv, ct, osl, e4, lk, hcd⟩, F'.kp⟩
  · exact absurd rfl z
end
end Bz

set_option Elab.async false
set_option linter.all false
set_option maxRecDepth 100000
set_option maxHeartbeats 0
open PySem PySem.W PySem.Calls PyProof.Rows
theorem PySem.Challenge.cw_busyweb_k50_whole_ladders_made_here_holds : PySem.Challenge.rw_busyweb_k50_whole_ladders_made_here.Holds := by
  w_on; o_law
  refine HandSHeadRun.head_any (r := OpenLaw.row PySem.Challenge.rw_busyweb_k50_whole_ladders_made_here) (q := view (OpenLaw.row PySem.Challenge.rw_busyweb_k50_whole_ladders_made_here).prog [86]) (H := Bz.hk) (ob := Bz.ob) (M := 12000) (loose := Bz.loo) (d := HandSHeadRun.topDef (OpenLaw.row PySem.Challenge.rw_busyweb_k50_whole_ladders_made_here).prog 86) (kwd := []) Bz.ob_eq
    (by kernel_rfl) (fun s => by kernel_rfl) Bz.run (by kernel_rfl) (by kernel_rfl) (by kernel_rfl) (by rfl) (by first | assumption | decide +kernel) (by decide +kernel) ⟨rfl, rfl, rfl, rfl, rfl, by decide +kernel⟩ ?hw ?hc
  case hw => w_witness2
  case hc =>
    refine L2.walk_ofE (l := PySem.Challenge.rw_busyweb_k50_whole_ladders_made_here) (n := 63) (k := 11) (x := "_law_script") (CX := L2.CX0) rfl (by decide) (by kernel_rfl) ⟨rfl, by decide, by decide⟩ ?F (fun _ _ _ _ z => z)
    intro w mg fa h Y G hmg0
    obtain ⟨K, KX, c⟩ := Y
    have hmg : mg ("law" : PySem.Str) = some (.ref fa) := by
      have e : (HandSHeadRun.topDef (OpenLaw.row PySem.Challenge.rw_busyweb_k50_whole_ladders_made_here).prog 86).name = ("law" : PySem.Str) := by kernel_rfl
      rw [← e]
      exact hmg0
    obtain ⟨fd, hb, hF⟩ := Bz.facts (P := (PySem.Challenge.rw_busyweb_k50_whole_ladders_made_here).prog) (w := w) KX G hmg c.t.d c.more
    exact ⟨K, fd, Bz.sp_law K, KX, hb, fun H a ns hl _ hS => ⟨a, ns, rfl, hS, fun _ => rfl⟩, fun base _ _ => hF base⟩
