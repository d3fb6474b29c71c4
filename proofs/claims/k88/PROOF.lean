import PyProof.Rows.All
import Wide.All
import OpenK.AllK
import Wide.FinOn
import HandS.ForMost
import HandS.Walk
import HandS.Zip
import KE.GoesNew
import KE.KDictZip
import KE.GoesEnum
import HandS.DictComp
import HandS.DictTup
import HandS.SetKeys
import HandS.Conv
import KE.SortData
import KE.DataMinMax
import KE.KDictDisplayH
import HandS.SortInts
import HandS.SortOrd
import HandS.IsInst
import HandS.TupMul
import HandS.TupAny
import HandS.Flow
import HandS.ListEq
import HandS.Exc
import HandS.Words
import HandS.WordsList
import HandS.WordsDict
import HandS.WordsExc
import HandS.Defaults
import HandS.TupLen
import HandS.Evl
import HandS.ExcInit
import HandS.ExcField
import KE.KExcSuper
import HandS.TryMany
import HandS.ExcOwn
import PyProof.InstEq
import HandS.HeadHook1
import HandS.HeadHook2
import HandS.HeadHook3
import HandS.HeadHook4
import Lean
import HandS.Head0
import HandS.Head1
import HandS.Head2
import HandS.HeadEnd
import KE.KStateDown
import HandS.Strs
import HandS.More
import HandS.TryOnly
import PySem.Challenge.RW_rerunrein_k88_replays_by_steps
set_option Elab.async false
set_option linter.all false
set_option maxRecDepth 100000
set_option maxHeartbeats 4000000
/-! Own rules: enumerate over lists and tuples from any start, zip of lists and tuples in any mix, zip of lists to one name. -/
namespace Xr
open PySem PySem.Spec PyProof.Rows L2
/-- a list or a tuple -/
inductive SK where | l | t
def SqA (K : PySem.W.Frag) (H : Hp) : SK → Addr → List V → Prop
  | .l, a, xs => SqL K H a xs
  | .t, a, xs => SqT K H a xs
def IsS (h : Heap) : SK → Addr → Array Value → Prop
  | .l, a, its => h.IsList a its
  | .t, a, its => h.IsTuple a its
def ItS (h : Heap) : SK → Addr → Addr → Nat → Prop
  | .l, it, a, i => h.IsListIter it a i
  | .t, it, a, i => h.IsTupleIter it a i
def itO : SK → Addr → Obj
  | .l, a => { cls := .type "list_iterator", data := .fields #[.ref a, .int 0 0] }
  | .t, a => { cls := .type "tuple_iterator", data := .fields #[.ref a, .int 0 0] }
section
variable {X : Cx} {pins : List (Addr × Obj)} {σ : L2.St} {H : Hp} {s : Shared} {a it : Addr} {xs : List V} {k : SK}
theorem sq_its (I : Inv X pins σ H s) (h : SqA X.K H k a xs) : ∃ its : List Value, Vals xs its ∧ IsS s.heap k a its.toArray := by
  cases k with
  | l =>
    obtain ⟨its, rv, p, _⟩ := I.list h
    exact ⟨its, rv, p.isList⟩
  | t =>
    obtain ⟨its, rv, p, _⟩ := I.tuple h
    exact ⟨its, rv, p⟩
theorem sq_inj (I : Inv X pins σ H s) {ys : List V} (h : SqA X.K H k a xs) (h' : SqA X.K H k a ys) : xs = ys := by
  cases k with
  | l => exact I.list_inj h h'
  | t => exact I.tuple_inj h h'
theorem begins_s (k : SK) (a : Addr) (its : Array Value) : Begins (.ref a) (itO k a) fun h => IsS h k a its := by
  cases k with
  | l => exact begins_list a its
  | t => exact begins_tuple a its
theorem itS_obj {h : Heap} {i : Nat} (st : ItS h k it a i) : ∃ o, h.get? it = some o ∧ ∀ v, o.data ≠ .cell v := by
  cases k with
  | l => obtain ⟨o, e, c, d⟩ := st; exact ⟨o, e, fun v z => by rw [d] at z; cases z⟩
  | t => obtain ⟨o, e, c, d⟩ := st; exact ⟨o, e, fun v z => by rw [d] at z; cases z⟩
theorem itS_at {h h' : Heap} {i : Nat} (st : ItS h k it a i) (q : ∀ o, h.get? it = some o → h'.get? it = some o) : ItS h' k it a i := by
  cases k with
  | l => exact Heap.IsListIter.at st q
  | t => exact Heap.IsTupleIter.at st q
theorem itS_0 {h : Heap} (e : h.get? it = some (itO k a)) : ItS h k it a 0 := by
  cases k with
  | l => exact ⟨_, e, rfl, rfl⟩
  | t => exact ⟨_, e, rfl, rfl⟩
theorem isS_lt {h : Heap} {its : Array Value} (p : IsS h k a its) : a < h.objs.size := by
  cases k with
  | l => obtain ⟨o, e, _⟩ := p; exact Heap.lt_size e
  | t => obtain ⟨o, e, _⟩ := p; exact Heap.lt_size e
theorem draws_s {prog : Program} {w : World} {A : Around} (hh : A.handled = none) (k : SK) (it a : Addr) (hne : a ≠ it) (items : Array Value) :
    Draws prog w A it [it, a] items.size (fun i v => items[i]? = some v) (fun i h => ItS h k it a i ∧ IsS h k a items) := by
  cases k with
  | l => exact Draws.list hh it a hne items
  | t => exact Draws.tuple hh it a hne items
end

/-! ### enumerate -/
/-- new pairs of k0 + i and the i-th item of what stands at a -/
def IteA (K : PySem.W.Frag) (k : SK) (a : Addr) (k0 : Int) : It :=
  ⟨fun i H => ∃ xs x, SqA K H k a xs ∧ xs[i]? = some x,
    fun i H v H' => ∃ T x, v = .ref T ∧ H T = none ∧ H' = upd H T (.tup [.int (k0 + (i : Nat)), x]) ∧ ∀ xs, SqA K H k a xs → xs[i]? = some x,
    fun i H => ∃ xs, SqA K H k a xs ∧ i = xs.length⟩
theorem turn_enumA {P : Program} {w : World} {K : PySem.W.Frag} {elts : List Expr} {kk : Nat} {tpos : Pos} (k : SK) (k0 : Int) (a e it : Addr) :
    Turn P w K (.Tuple elts kk tpos) (IteA K k a k0) [e, it] e (fun i h => (∃ old, IsEnum h e it (k0 + (i : Nat)) old) ∧ ItS h k it a i ∧ e ≠ it) where
  mem := by simp
  obj := fun i h st b hb => by
    obtain ⟨⟨old, he⟩, hi, _⟩ := st
    have e' : b = e ∨ b = it := by simpa using hb
    rcases e' with z | z
    · rw [z]; exact ⟨_, he, fun v q => nomatch q⟩
    · rw [z]; exact itS_obj hi
  keep := fun i h h' st kp => let ⟨⟨old, he⟩, hi, hne⟩ := st; ⟨⟨old, kp e (by simp) _ he⟩, itS_at hi fun o q => kp it (by simp) o q, hne⟩
  item := by
    intro X hP hw hK hc i pins s σ H E I hf st hg
    subst hP hw hK
    obtain ⟨⟨old, he⟩, hit, hne⟩ := st
    obtain ⟨xs, x, hq, hx⟩ := hg
    obtain ⟨its, rv, p⟩ := sq_its I hq
    obtain ⟨u, hu, ru⟩ := rv.get hx
    have hel : e < s.heap.objs.size := Heap.lt_size he
    have hil : it < s.heap.objs.size := by obtain ⟨_, q, _⟩ := itS_obj hit; exact Heap.lt_size q
    have hae : a ≠ e := fun z => by
      obtain ⟨o, ho⟩ : ∃ o, s.heap.get? a = some o := by
        cases k with
        | l => obtain ⟨o, q, _⟩ := p; exact ⟨o, q⟩
        | t => obtain ⟨o, q, _⟩ := p; exact ⟨o, q⟩
      rw [z, he] at ho
      cases k with
      | l => obtain ⟨o2, q, c2, n, d2⟩ := p; rw [z, he] at q; cases q; cases d2
      | t => obtain ⟨o2, q, c2, n, d2⟩ := p; rw [z, he] at q; cases q; cases d2
    have hai : a ≠ it := fun z => by
      cases k with
      | l => obtain ⟨o2, q, c2, n, d2⟩ := p; obtain ⟨o3, q3, c3, d3⟩ := hit; rw [z, q3] at q; cases q; rw [d3] at d2; cases d2
      | t => obtain ⟨o2, q, c2, n, d2⟩ := p; obtain ⟨o3, q3, c3, d3⟩ := hit; rw [z, q3] at q; cases q; rw [d3] at d2; cases d2
    have hsz : i < its.toArray.size := by
      have := (List.getElem?_eq_some_iff.mp hu).1
      simpa using this
    have G := GoesN.enumFrom (prog := X.prog) (w := X.w) (A := X.A) (elts := elts) (x1 := kk) (pos := tpos) k0 (draws_s (A := X.A.in1) (I.ok.hd hc) k it a hai its.toArray) e hne (fun z => by rcases List.mem_cons.mp z with q | q; exact hne q; exact hae (List.mem_singleton.mp q).symm) (by simp)
    refine wpAny_mono (G.goes i s _ E hsz ⟨⟨old, he⟩, hit, p⟩ ?_) (fun _ _ z => z) fun _ _ z => z
    intro v h' tk hY st' hk _
    obtain ⟨T, t, y, rfl, hT, hy, o2, hT2, hc2, n2, hd2⟩ := hY
    obtain ⟨⟨old', he'⟩, hit', p'⟩ := st'
    have eu : y = u := by
      have q : its[i]? = some y := by simpa using hy
      rw [hu] at q
      exact (Option.some.inj q).symm
    subst eu
    have hTe : e < T := Nat.lt_of_lt_of_le hel hT
    have hTi : it < T := Nat.lt_of_lt_of_le hil hT
    have new : ObjOk X.prog X.w (upd H T (.tup [.int (k0 + (i : Nat)), x])) h' T (.tup [.int (k0 + (i : Nat)), x]) :=
      ⟨by show 2 ≤ sizeLine; decide, [.int (k0 + (i : Nat)) t, y], .cons ⟨_, rfl⟩ (.cons ru .nil), ⟨o2, hT2, hc2, n2, hd2⟩⟩
    have I1 : Inv X pins σ (upd H T (.tup [.int (k0 + (i : Nat)), x])) { s with heap := h', toks := tk } :=
      I.turnedNew (ch := [e, it]) hk hf hT new
    refine ⟨.ref T, _, I1, rfl, ⟨T, x, rfl, I.hok.fresh hT, rfl, fun ys hy2 => by rw [sq_inj I hy2 hq]; exact hx⟩, ⟨⟨old', he'⟩, hit', hne⟩, fun b hb => ?_⟩
    have hb' : b < T := by
      have e' : b = e ∨ b = it := by simpa using hb
      rcases e' with z | z
      · rw [z]; exact hTe
      · rw [z]; exact hTi
    rw [upd_ne (Nat.ne_of_lt hb')]
    exact (hf b hb).1
  done := by
    intro X hP hw hK hc i pins s σ H E I hf st hg
    subst hP hw hK
    obtain ⟨⟨old, he⟩, hit, hne⟩ := st
    obtain ⟨xs, hq, hx⟩ := hg
    obtain ⟨its, rv, p⟩ := sq_its I hq
    obtain ⟨f0, f1, f2, f3, f4, f5⟩ := hf it (by simp)
    have hl := rv.length
    have hai : a ≠ it := fun z => by
      cases k with
      | l => obtain ⟨o2, q, c2, n, d2⟩ := p; obtain ⟨o3, q3, c3, d3⟩ := hit; rw [z, q3] at q; cases q; rw [d3] at d2; cases d2
      | t => obtain ⟨o2, q, c2, n, d2⟩ := p; obtain ⟨o3, q3, c3, d3⟩ := hit; rw [z, q3] at q; cases q; rw [d3] at d2; cases d2
    have hi : i = its.toArray.size := by simp; omega
    subst hi
    exact wpAny_pyNext_enum_endD (draws_s (A := X.A.in1) (I.ok.hd hc) k it a hai its.toArray) he ⟨hit, p⟩ fun h' eb => ⟨rfl, I.turned (t' := s.toks) (fun b o hb q => eb b o hb q) f0 f1 f3 f4 f5⟩
  self := fun A i s Q E st h => let ⟨⟨_, he⟩, _⟩ := st; wpAny_pyIter_enum he h

set_option maxHeartbeats 1000000 in
theorem meets_enum1 {v : Value} {o : Obj} {H : Heap → Prop} (B : Begins v o H) :
    Meets (Builtin.«enumerate.__new__» ⟨[.type "enumerate", v], []⟩) (fun _ R s => H s.heap ∧
      R (.ok (.ret (.ref (s.heap.push o).objs.size))) { s with heap := (s.heap.push o).push { cls := .type "enumerate", data := .fields #[.none, .bool false, .ref s.heap.objs.size, rawInt 0, .none, .none] } }) :=
  .of_wp fun prog w A R s h => by
    obtain ⟨hp, g, d, tk, os⟩ := s
    obtain ⟨h1, h⟩ := h
    have hsub := sub_enumerate
    have q1 : ∀ {A' : Around} {E : Value → Shared → Prop} {Q : Value → Shared → Prop}, Q (.ref hp.objs.size) ⟨hp.push o, g, d, tk, os⟩ → wpAny (model prog w) A' (pyIter v) Q E ⟨hp, g, d, tk, os⟩ :=
      fun q => B.iter prog w _ _ ⟨hp, g, d, tk, os⟩ _ h1 q
    wp_walk using q1
    refine wpAny_stack_any fun st => wpAny_pure ?_
    split
    · rename_i c _ _ _ _ _
      cases (c == Value.type "enumerate")
      · wp_walk using q1
        exact ⟨_, rfl, h⟩
      · wp_walk using q1
        exact ⟨_, rfl, h⟩
    · wp_walk using q1
      exact ⟨_, rfl, h⟩
theorem enum_begins1 {prog : Program} {w : World} {A : Around} {E : Value → Shared → Prop} {s : Shared} {v : Value} {o : Obj} {H : Heap → Prop} {Q : Value → Shared → Prop} (B : Begins v o H) (h1 : H s.heap)
    (h : ∀ h', IsEnum h' (s.heap.objs.size + 1) s.heap.objs.size 0 .none → h'.get? s.heap.objs.size = some o → h'.objs.size = s.heap.objs.size + 2 →
      (∀ b o, s.heap.get? b = some o → h'.get? b = some o) → Q (.ref (s.heap.objs.size + 1)) { s with heap := h' }) :
    wpAny (model prog w) A (call (.type "enumerate") [v]) Q E s := by
  refine callType_new F.called_enumerate (by decide) (F.typeCall_enumerate_1 _) (F.newCall_enumerate_1 _) (fun obj => F.args_object_init_2 obj _) F.entry_enumerate_new (meets_enum1 B) ⟨h1, ?_⟩
  have hz : (s.heap.push o).objs.size = s.heap.objs.size + 1 := Heap.size_push ..
  show _ ∧ _
  rw [hz]
  have he : IsEnum ((s.heap.push o).push { cls := .type "enumerate", data := .fields #[.none, .bool false, .ref s.heap.objs.size, rawInt 0, .none, .none] }) (s.heap.objs.size + 1) s.heap.objs.size 0 .none := by
    have := Heap.get?_push_size (s.heap.push o) (o := { cls := .type "enumerate", data := .fields #[.none, .bool false, .ref s.heap.objs.size, rawInt 0, .none, .none] }) rfl
    rw [hz] at this
    exact this
  refine ⟨⟨_, he, rfl⟩, h _ he (Heap.get?_push_of_some _ (Heap.get?_push_size _ B.free)) (by rw [Heap.size_push, hz]) fun b o x => Heap.get?_push_of_some _ (Heap.get?_push_of_some _ x)⟩
theorem itO_free (k : SK) (a : Addr) : (itO k a).isFreed = false := by
  cases k <;> rfl
/-- the new iterator, for both ways -/
theorem enum_it {X : Cx} {pins : List (Addr × Obj)} {σ : L2.St} {H1 : Hp} {s1 : Shared} {h' : Heap} {tk : Nat} {R : It → Hp → Prop} {elts : List Expr} {kk : Nat} {tpos : Pos} {k : SK} {a : Addr} {k0 : Int} (I1 : Inv X pins σ H1 s1)
    (he : IsEnum h' (s1.heap.objs.size + 1) s1.heap.objs.size k0 .none) (hit : h'.get? s1.heap.objs.size = some (itO k a)) (hk : ∀ b o, s1.heap.get? b = some o → h'.get? b = some o) (q : R (IteA X.K k a k0) H1) :
    PIE X pins σ (.Tuple elts kk tpos) R (.ref (s1.heap.objs.size + 1)) { s1 with heap := h', toks := tk } := by
  have I2 : Inv X pins σ H1 { s1 with heap := h', toks := tk } := I1.kept (t' := tk) hk
  refine ⟨s1.heap.objs.size + 1, [s1.heap.objs.size + 1, s1.heap.objs.size], _, _, H1, rfl, I2, turn_enumA k k0 a (s1.heap.objs.size + 1) s1.heap.objs.size, ⟨⟨.none, ?_⟩, itS_0 hit, Nat.succ_ne_self _⟩, fun b hb => ?_, q⟩
  · have e0 : k0 + ((0 : Nat) : Int) = k0 := by omega
    rw [e0]
    exact he
  · have e' : b = s1.heap.objs.size + 1 ∨ b = s1.heap.objs.size := by simpa using hb
    have hle : s1.heap.objs.size ≤ b := by
      rcases e' with z | z
      · rw [z]; exact Nat.le_add_right _ _
      · rw [z]; exact Nat.le_refl _
    exact I1.fpOk hle (I1.hok.fresh hle)
def iEnumA (K : PySem.W.Frag) (k : SK) (ta : TA) : TI := fun σ H R => ta σ H fun vs H1 => ∃ a xs, vs = [.ref a] ∧ SqA K H1 k a xs ∧ R (IteA K k a 0) H1
theorem pi_enumA (k : SK) {X : Cx} {e : Expr} {ta : TA} {p pos tpos : Pos} {elts : List Expr} {kk : Nat} (hg : Gl X "enumerate") (hm : X.mg "enumerate" = none) (ha : PA X [e] ta) (hs : starEach [e] X.env = [(false, eval e X.env)] := by rfl) :
    PI X (.Tuple elts kk tpos) (.Call (.Name "enumerate" p) [e] [] pos) (iEnumA X.K k ta) := by
  refine ⟨fun pins s σ H R I h => ?_⟩
  refine Call_ (ld_blt I hg hm boot_enumerate (PyProof.Rows.callWith_type1 (thn (ha.run pos pins s σ H _ I h) fun us s1 ⟨vs, H1, I1, r1, q1⟩ => ?_) hs rfl))
  obtain ⟨a, xs, ex, hq, q⟩ := q1
  subst ex
  cases r1 with
  | cons r rr =>
    cases rr
    cases r
    obtain ⟨its, rv, p'⟩ := sq_its I1 hq
    refine enum_begins1 (begins_s k a its.toArray) p' fun h' he hit hsz hk => wpAny_pyIter_enum he ?_
    exact enum_it (tk := s1.toks) I1 he hit hk q
def iEnumS (K : PySem.W.Frag) (k : SK) (ta : TA) : TI := fun σ H R => ta σ H fun vs H1 => ∃ a xs k0, vs = [.ref a, .int k0] ∧ SqA K H1 k a xs ∧ -(2 ^ 63) ≤ k0 ∧ k0 < 2 ^ 63 ∧ R (IteA K k a k0) H1
theorem pi_enumS (k : SK) {X : Cx} {e e2 : Expr} {ta : TA} {p pos tpos : Pos} {elts : List Expr} {kk : Nat} (hg : Gl X "enumerate") (hm : X.mg "enumerate" = none) (ha : PA X [e, e2] ta)
    (hs : starEach [e, e2] X.env = (false, eval e X.env) :: starEach [e2] X.env := by rfl) (hpl : (backTo pos (starEach [e2] X.env)).any (·.1) = false := by rfl) :
    PI X (.Tuple elts kk tpos) (.Call (.Name "enumerate" p) [e, e2] [] pos) (iEnumS X.K k ta) := by
  refine ⟨fun pins s σ H R I h => ?_⟩
  refine Call_ (ld_blt I hg hm boot_enumerate (PyProof.Rows.callWith_type1 (thn (ha.run pos pins s σ H _ I h) fun us s1 ⟨vs, H1, I1, r1, q1⟩ => ?_) hs hpl))
  obtain ⟨a, xs, k0, ex, hq, h0, h1, q⟩ := q1
  subst ex
  cases r1 with
  | cons r rr =>
    cases rr with
    | cons r' rr =>
      cases rr
      cases r
      obtain ⟨t, rfl⟩ := r'
      obtain ⟨its, rv, p'⟩ := sq_its I1 hq
      refine enum_begins (begins_s k a its.toArray) p' h0 h1 fun h' he hit hsz hk => wpAny_pyIter_enum he ?_
      exact enum_it (tk := s1.toks) I1 he hit hk q
theorem walk_enumA {K : PySem.W.Frag} {k : SK} {a : Addr} {k0 : Int} {xs : List V} : Walk (IteA K k a k0) xs.length (fun H => SqA K H k a xs) (YPair (fun i => some (.int (k0 + (i : Nat)))) (fun i => xs[i]?)) := by
  refine ⟨fun i _ hi q => ⟨xs, xs[i], q, by simp [hi]⟩, fun _ q => ⟨xs, q, rfl⟩, fun i H v H' _ q y => ?_⟩
  obtain ⟨T, x, h1, h2, h3, h4⟩ := y
  exact ⟨T, .int (k0 + (i : Nat)), x, h1, h2, h3, rfl, h4 xs q⟩

/-! ### zip of lists and tuples in any mix, to a target of several names -/
def ItzA (K : PySem.W.Frag) (k1 k2 : SK) (a b : Addr) : It :=
  ⟨fun i H => ∃ (xs ys : List V) (x y : V), SqA K H k1 a xs ∧ SqA K H k2 b ys ∧ xs[i]? = some x ∧ ys[i]? = some y,
    fun i H v H' => ∃ T x y, v = .ref T ∧ H T = none ∧ H' = upd H T (.tup [x, y]) ∧ (∀ xs, SqA K H k1 a xs → xs[i]? = some x) ∧ ∀ ys, SqA K H k2 b ys → ys[i]? = some y,
    fun i H => ∃ xs ys : List V, SqA K H k1 a xs ∧ SqA K H k2 b ys ∧ i = min xs.length ys.length⟩
structure ZA (z TI TO i1 i2 a b : Addr) : Prop where
  s : ∀ a' b', a' < i1 → b' < i1 → ZipSep2 z TI TO i1 i2 [i1, a'] [i2, b']
  la : a < i1
  lb : b < i1
  l12 : i1 < i2
theorem turn_zipA2 {P : Program} {w : World} {K : PySem.W.Frag} {elts : List Expr} {kk : Nat} {tpos : Pos} {k1 k2 : SK} {a b z TI TO i1 i2 : Addr} (D : ZA z TI TO i1 i2 a b) :
    Turn P w K (.Tuple elts kk tpos) (ItzA K k1 k2 a b) [z, TI, TO, i1, i2] z (fun i h => IsZip h z TI TO .none ∧ IsTupOf2 h TI (.ref i1) (.ref i2) ∧ (∃ x y, IsTupOf2 h TO x y) ∧ ItS h k1 i1 a i ∧ ItS h k2 i2 b i) where
  mem := by simp
  obj := fun i h st c hc => by
    obtain ⟨hz, hTI, ⟨x, y, hTO⟩, h1, h2⟩ := st
    have e' : c = z ∨ c = TI ∨ c = TO ∨ c = i1 ∨ c = i2 := by simpa using hc
    rcases e' with q | q | q | q | q
    · rw [q]; exact ⟨_, hz, fun v q => nomatch q⟩
    · rw [q]; exact ⟨_, hTI, fun v q => nomatch q⟩
    · rw [q]; exact ⟨_, hTO, fun v q => nomatch q⟩
    · rw [q]; exact itS_obj h1
    · rw [q]; exact itS_obj h2
  keep := fun i h h' st kp => by
    obtain ⟨hz, hTI, ⟨x, y, hTO⟩, h1, h2⟩ := st
    exact ⟨kp z (by simp) _ hz, kp TI (by simp) _ hTI, ⟨x, y, kp TO (by simp) _ hTO⟩, itS_at h1 fun o q => kp i1 (by simp) o q, itS_at h2 fun o q => kp i2 (by simp) o q⟩
  item := by
    intro X hP hw hK hc i pins s σ H E I hf st hg
    subst hP hw hK
    obtain ⟨hz, hTI, ⟨x0, y0, hTO⟩, h1, h2⟩ := st
    obtain ⟨xs, ys, x, y, hqx, hqy, hx, hy⟩ := hg
    obtain ⟨its, rv, p⟩ := sq_its I hqx
    obtain ⟨its2, rv2, p2⟩ := sq_its I hqy
    obtain ⟨u, hu, ru⟩ := rv.get hx
    obtain ⟨u2, hu2, ru2⟩ := rv2.get hy
    have l1 : i < its.toArray.size := by simpa using (List.getElem?_eq_some_iff.mp hu).1
    have l2 : i < its2.toArray.size := by simpa using (List.getElem?_eq_some_iff.mp hu2).1
    have hai1 : a ≠ i1 := Nat.ne_of_lt D.la
    have hbi2 : b ≠ i2 := Nat.ne_of_lt (Nat.lt_trans D.lb D.l12)
    have G := GoesN.zip2 (prog := X.prog) (w := X.w) (A := X.A) (elts := elts) (x1 := kk) (pos := tpos) (D.s a b D.la D.lb) (draws_s (A := X.A.in1) (I.ok.hd hc) k1 i1 a hai1 its.toArray) (draws_s (A := X.A.in1) (I.ok.hd hc) k2 i2 b hbi2 its2.toArray)
    refine wpAny_mono (G.goes i s _ E (by omega) ⟨hz, hTI, ⟨x0, y0, hTO⟩, ⟨h1, p⟩, ⟨h2, p2⟩⟩ ?_) (fun _ _ z => z) fun _ _ z => z
    intro v h' tk hY st' hk _
    obtain ⟨T, x', y', rfl, hT, hx', hy', o2, hT2, hc2, n2, hd2⟩ := hY
    obtain ⟨z', TI', TO', ⟨h1', p'⟩, ⟨h2', p2'⟩⟩ := st'
    have eu : x' = u := by
      have q : its[i]? = some x' := by simpa using hx'
      rw [hu] at q
      exact (Option.some.inj q).symm
    have eu2 : y' = u2 := by
      have q : its2[i]? = some y' := by simpa using hy'
      rw [hu2] at q
      exact (Option.some.inj q).symm
    subst eu eu2
    have new : ObjOk X.prog X.w (upd H T (.tup [x, y])) h' T (.tup [x, y]) :=
      ⟨by show 2 ≤ sizeLine; decide, [x', y'], .cons ru (.cons ru2 .nil), ⟨o2, hT2, hc2, n2, hd2⟩⟩
    have I1 : Inv X pins σ (upd H T (.tup [x, y])) { s with heap := h', toks := tk } :=
      I.turnedNew (ch := [z, TI, TO, i1, i2]) (fun c o hb e => hk c o (fun q => hb (by rcases List.mem_cons.mp q with q | q; exact q ▸ List.mem_cons_self; exact List.mem_cons_of_mem _ (List.mem_cons_of_mem _ q))) e) hf hT new
    refine ⟨.ref T, _, I1, rfl, ⟨T, x, y, rfl, I.hok.fresh hT, rfl, fun l hl => by rw [sq_inj I hl hqx]; exact hx, fun l hl => by rw [sq_inj I hl hqy]; exact hy⟩, ⟨z', TI', TO', h1', h2'⟩, fun c hcm => ?_⟩
    have hlt : c < T := by
      refine Nat.lt_of_lt_of_le ?_ hT
      have e' : c = z ∨ c = TI ∨ c = TO ∨ c = i1 ∨ c = i2 := by simpa using hcm
      rcases e' with q | q | q | q | q
      · rw [q]; exact Heap.lt_size hz
      · rw [q]; exact Heap.lt_size hTI
      · rw [q]; exact Heap.lt_size hTO
      · rw [q]; obtain ⟨_, e1, _⟩ := itS_obj h1; exact Heap.lt_size e1
      · rw [q]; obtain ⟨_, e2, _⟩ := itS_obj h2; exact Heap.lt_size e2
    rw [upd_ne (Nat.ne_of_lt hlt)]
    exact (hf c hcm).1
  done := by
    intro X hP hw hK hc i pins s σ H E I hf st hg
    subst hP hw hK
    obtain ⟨hz, hTI, ⟨x0, y0, hTO⟩, h1, h2⟩ := st
    obtain ⟨xs, ys, hqx, hqy, hend⟩ := hg
    obtain ⟨its, rv, p⟩ := sq_its I hqx
    obtain ⟨its2, rv2, p2⟩ := sq_its I hqy
    have l1 := rv.length
    have l2 := rv2.length
    have hi : i = min its.toArray.size its2.toArray.size := by simp; omega
    subst hi
    have hai1 : a ≠ i1 := Nat.ne_of_lt D.la
    have hbi2 : b ≠ i2 := Nat.ne_of_lt (Nat.lt_trans D.lb D.l12)
    have G := GoesN.zip2 (prog := X.prog) (w := X.w) (A := X.A) (elts := elts) (x1 := kk) (pos := tpos) (D.s a b D.la D.lb) (draws_s (A := X.A.in1) (I.ok.hd hc) k1 i1 a hai1 its.toArray) (draws_s (A := X.A.in1) (I.ok.hd hc) k2 i2 b hbi2 its2.toArray)
    refine G.stops s _ E ⟨hz, hTI, ⟨x0, y0, hTO⟩, ⟨h1, p⟩, ⟨h2, p2⟩⟩ fun h' tk hk _ => ?_
    exact I.turnedL (t' := tk) (ch := [z, TI, TO, i1, i2]) (fun c o hb e => hk c o (fun q => hb (by rcases List.mem_cons.mp q with q | q; exact q ▸ List.mem_cons_self; exact List.mem_cons_of_mem _ (List.mem_cons_of_mem _ q))) e) hf
  self := fun A i s Q E st h => wpAny_pyIter_zip st.1 h
def iZipA2 (K : PySem.W.Frag) (k1 k2 : SK) (ta : TA) : TI := fun σ H R => ta σ H fun vs H1 => ∃ a b xs ys, vs = [.ref a, .ref b] ∧ SqA K H1 k1 a xs ∧ SqA K H1 k2 b ys ∧ R (ItzA K k1 k2 a b) H1
theorem pi_zipA2 (k1 k2 : SK) {X : Cx} {e e2 : Expr} {ta : TA} {p pos tpos : Pos} {elts : List Expr} {kk : Nat} (hg : Gl X "zip") (hm : X.mg "zip" = none) (ha : PA X [e, e2] ta)
    (hs : starEach [e, e2] X.env = (false, eval e X.env) :: starEach [e2] X.env := by rfl) (hpl : (backTo pos (starEach [e2] X.env)).any (·.1) = false := by rfl) :
    PI X (.Tuple elts kk tpos) (.Call (.Name "zip" p) [e, e2] [] pos) (iZipA2 X.K k1 k2 ta) := by
  refine ⟨fun pins s σ H R I h => ?_⟩
  refine Call_ (ld_blt I hg hm PyProof.Rows.boot_zip (PyProof.Rows.callWith_type1 (thn (ha.run pos pins s σ H _ I h) fun us s1 ⟨vs, H1, I1, r1, q1⟩ => ?_) hs hpl))
  obtain ⟨a, b, xs, ys, ex, hqx, hqy, q⟩ := q1
  subst ex
  cases r1 with
  | cons r rr =>
    cases rr with
    | cons r' rr =>
      cases rr
      cases r
      cases r'
      obtain ⟨its, rv, p1⟩ := sq_its I1 hqx
      obtain ⟨its2, rv2, p2⟩ := sq_its I1 hqy
      have la := isS_lt p1
      have lb := isS_lt p2
      refine zip_begins2 (begins_s k1 a its.toArray) (begins_s k2 b its2.toArray) p1 p2 fun h' hz hTI hTO h1 h2 hsz hk => wpAny_pyIter_zip hz ?_
      have I2 : Inv X pins σ H1 { s1 with heap := h' } := I1.kept (t' := s1.toks) hk
      have D : ZA (s1.heap.objs.size + 4) (s1.heap.objs.size + 2) (s1.heap.objs.size + 3) s1.heap.objs.size (s1.heap.objs.size + 1) a b :=
        ⟨fun a' b' ha' hb' => zip_sep2 (N := s1.heap.objs.size) (fp1 := [a']) (fp2 := [b']) (fun c hc => by rw [List.mem_singleton.mp hc]; exact ha') (fun c hc => by rw [List.mem_singleton.mp hc]; exact hb'), la, lb, Nat.lt_succ_self _⟩
      refine ⟨s1.heap.objs.size + 4, [s1.heap.objs.size + 4, s1.heap.objs.size + 2, s1.heap.objs.size + 3, s1.heap.objs.size, s1.heap.objs.size + 1], _, _, H1, rfl, I2, turn_zipA2 D, ⟨hz, hTI, ⟨_, _, hTO⟩, itS_0 h1, itS_0 h2⟩, fun c hcm => ?_, q⟩
      have e' : c = s1.heap.objs.size + 4 ∨ c = s1.heap.objs.size + 2 ∨ c = s1.heap.objs.size + 3 ∨ c = s1.heap.objs.size ∨ c = s1.heap.objs.size + 1 := by simpa using hcm
      have hle : s1.heap.objs.size ≤ c := by
        rcases e' with z | z | z | z | z <;> rw [z] <;> first | exact Nat.le_refl _ | exact Nat.le_add_right _ _
      exact I1.fpOk hle (I1.hok.fresh hle)
theorem walk_zipA2 {K : PySem.W.Frag} {k1 k2 : SK} {a b : Addr} {xs ys : List V} {n : Nat} (hn : n = min xs.length ys.length) : Walk (ItzA K k1 k2 a b) n (fun H => SqA K H k1 a xs ∧ SqA K H k2 b ys) (YPair (fun i => xs[i]?) (fun i => ys[i]?)) := by
  subst hn
  refine ⟨fun i _ hi q => ?_, fun _ q => ⟨xs, ys, q.1, q.2, rfl⟩, fun i H v H' _ q y => ?_⟩
  · have h1 : i < xs.length := by omega
    have h2 : i < ys.length := by omega
    exact ⟨xs, ys, xs[i], ys[i], q.1, q.2, by simp [h1], by simp [h2]⟩
  · obtain ⟨T, x, y', h1, h2, h3, h4, h5⟩ := y
    exact ⟨T, x, y', h1, h2, h3, h4 xs q.1, h5 ys q.2⟩
end Xr

set_option Elab.async false
set_option linter.all false
set_option maxRecDepth 100000
set_option maxHeartbeats 4000000
namespace Xr
open PySem PySem.Spec PyProof.Rows L2
/-- all tuples stay -/
def TupS (H H' : Hp) : Prop := ∀ t zs, H t = some (.tup zs) → H' t = some (.tup zs)
/-! ### [e for x in zip(l1, l2) if ..], x one name, two lists -/
def tLcZ (K : PySem.W.Frag) (ta : TA) (g : TG) (tt : TT) (te : TE) (vs : List Nat) : TE := fun σ H Q => ta σ H fun us H1 => ∃ a b xs ys, us = [.ref a, .ref b] ∧ SqL K H1 a xs ∧ SqL K H1 b ys ∧ ∀ D, H1 D = none →
  ∃ W : Nat → Hp → Prop, W 0 (upd H1 D (.lst [])) ∧ (∀ i H, W i H → SqL K H a xs ∧ SqL K H b ys) ∧
    (∀ i x y T H, xs[i]? = some x → ys[i]? = some y → W i H → H T = none → g (.ref T) (wipe σ vs) (upd H T (.tup [x, y])) fun σ2 H2 => wipe σ2 vs = wipe σ vs ∧ tt σ2 H2 fun bb H3 =>
      if bb = true then te σ2 H3 fun v H4 => ∃ acc, H4 D = some (.lst acc) ∧ acc.length < sizeLine ∧ TupS (upd H T (.tup [x, y])) H4 ∧ W (i + 1) (upd H4 D (.lst (acc ++ [v]))) else TupS (upd H T (.tup [x, y])) H3 ∧ W (i + 1) H3) ∧
    ∀ H, W (min xs.length ys.length) H → Q (.ref D) H
/-- the zip's cells ahead of turn i; T the tuple that is out -/
def ZSt (z TI TO i1 i2 a b : Addr) (H : Hp) (i : Nat) (h : Heap) : Prop :=
  IsPair h TI (.ref i1) (.ref i2) ∧ h.IsListIter i1 a i ∧ h.IsListIter i2 b i ∧ ((IsZip h z TI TO .none ∧ ∃ u v, IsPair h TO u v) ∨ ((∃ T f xs, IsZipHeld h z TI TO T f ∧ H T = some (.tup xs)) ∧ ∃ o : Obj, h.get? TO = some o ∧ ∀ v, o.data ≠ .cell v))
theorem ZSt.keep {z TI TO i1 i2 a b : Addr} {H H' : Hp} {i : Nat} {h h' : Heap} (st : ZSt z TI TO i1 i2 a b H i h) (k : ∀ c ∈ [z, TI, TO, i1, i2], ∀ o, h.get? c = some o → h'.get? c = some o) (t : ∀ T xs, H T = some (.tup xs) → ∃ ys, H' T = some (.tup ys)) : ZSt z TI TO i1 i2 a b H' i h' := by
  obtain ⟨hTI, h1, h2, hz⟩ := st
  refine ⟨k TI (by simp) _ hTI, h1.at fun o q => k i1 (by simp) o q, h2.at fun o q => k i2 (by simp) o q, ?_⟩
  rcases hz with ⟨hz, u, v, hTO⟩ | ⟨⟨T, f, xs, hz, hT⟩, o, ho, hd⟩
  · exact .inl ⟨k z (by simp) _ hz, u, v, k TO (by simp) _ hTO⟩
  · obtain ⟨ys, hT'⟩ := t T xs hT
    exact .inr ⟨⟨T, f, ys, k z (by simp) _ hz, hT'⟩, o, k TO (by simp) _ ho, hd⟩
theorem ZSt.obj {z TI TO i1 i2 a b : Addr} {H : Hp} {i : Nat} {h : Heap} (st : ZSt z TI TO i1 i2 a b H i h) : ∀ c ∈ [z, TI, TO, i1, i2], ∃ o, h.get? c = some o ∧ ∀ v, o.data ≠ .cell v := by
  obtain ⟨hTI, ⟨o1, e1, _, d1⟩, ⟨o2, e2, _, d2⟩, hz⟩ := st
  intro c hc
  have e' : c = z ∨ c = TI ∨ c = TO ∨ c = i1 ∨ c = i2 := by simpa using hc
  rcases e' with q | q | q | q | q
  · rw [q]
    rcases hz with ⟨hz, _⟩ | ⟨⟨T, f, xs, hz, _⟩, _⟩
    · exact ⟨_, hz, fun v q => nomatch q⟩
    · exact ⟨_, hz, fun v q => nomatch q⟩
  · rw [q]; exact ⟨_, hTI, fun v q => nomatch q⟩
  · rw [q]
    rcases hz with ⟨_, u, v, hTO⟩ | ⟨_, o, ho, hd⟩
    · exact ⟨_, hTO, fun v q => nomatch q⟩
    · exact ⟨o, ho, hd⟩
  · rw [q]; exact ⟨o1, e1, fun v q => by rw [d1] at q; cases q⟩
  · rw [q]; exact ⟨o2, e2, fun v q => by rw [d2] at q; cases q⟩
section
variable {X : Cx}
theorem zst_item {pins : List (Addr × Obj)} {σ : L2.St} {H : Hp} {s : Shared} {z TI TO i1 i2 a b : Addr} {i : Nat} {xs ys : List V} {x y : V} {E : Value → Shared → Prop} (D : ZipApart z TI TO i1 i2 a b) (I : Inv X pins σ H s) (hf : ∀ c ∈ [z, TI, TO, i1, i2], FpOk X pins H c)
    (st : ZSt z TI TO i1 i2 a b H i s.heap) (ha : SqL X.K H a xs) (hb : SqL X.K H b ys) (hx : xs[i]? = some x) (hy : ys[i]? = some y) :
    wpAny (model X.prog X.w) X.A (pyNext (.ref z)) (fun r s1 => ∃ T, r = some (.ref T) ∧ H T = none ∧ Inv X pins σ (upd H T (.tup [x, y])) s1 ∧ ZSt z TI TO i1 i2 a b (upd H T (.tup [x, y])) (i + 1) s1.heap ∧ ∀ c ∈ [z, TI, TO, i1, i2], (upd H T (.tup [x, y])) c = none) E s := by
  obtain ⟨its, rv, p, _⟩ := I.list ha
  obtain ⟨its2, rv2, p2, _⟩ := I.list hb
  obtain ⟨u, hu, ru⟩ := rv.get hx
  obtain ⟨u2, hu2, ru2⟩ := rv2.get hy
  have hlt : ∀ c ∈ [z, TI, TO, i1, i2], c < s.heap.objs.size := fun c hc => by
    obtain ⟨o, e, _⟩ := st.obj c hc
    exact Heap.lt_size e
  have hfree := I.hok.fresh (Nat.le_refl s.heap.objs.size)
  have fin : ∀ h' f T0, IsZipHeld h' z TI TO T0 f → (∃ ts, (upd H s.heap.objs.size (.tup [x, y])) T0 = some (.tup ts)) → (∃ o : Obj, h'.get? TO = some o ∧ ∀ v, o.data ≠ .cell v) → IsPair h' TI (.ref i1) (.ref i2) → h'.IsListIter i1 a (i + 1) → h'.IsListIter i2 b (i + 1) → IsPair h' s.heap.objs.size u u2 →
      (∀ c o, c ∉ [z, TI, TO, i1, i2] → s.heap.get? c = some o → h'.get? c = some o) →
      Inv X pins σ (upd H s.heap.objs.size (.tup [x, y])) { s with heap := h' } ∧ ZSt z TI TO i1 i2 a b (upd H s.heap.objs.size (.tup [x, y])) (i + 1) h' ∧ ∀ c ∈ [z, TI, TO, i1, i2], (upd H s.heap.objs.size (.tup [x, y])) c = none := by
    intro h' f T0 hz hT0 hTO hTI h1 h2 hT hk
    have new : ObjOk X.prog X.w (upd H s.heap.objs.size (.tup [x, y])) h' s.heap.objs.size (.tup [x, y]) :=
      ⟨by show 2 ≤ sizeLine; decide, [u, u2], .cons ru (.cons ru2 .nil), ⟨_, hT, rfl, _, rfl⟩⟩
    refine ⟨I.turnedNew (t' := s.toks) (ch := [z, TI, TO, i1, i2]) hk hf (Nat.le_refl _) new, ⟨hTI, h1, h2, .inr ⟨⟨T0, f, hT0.choose, hz, hT0.choose_spec⟩, hTO⟩⟩, fun c hc => ?_⟩
    rw [upd_ne (Nat.ne_of_lt (hlt c hc))]
    exact (hf c hc).1
  obtain ⟨hTI, h1, h2, hz⟩ := id st
  rcases hz with ⟨hz, u0, v0, hTO⟩ | ⟨⟨T, f, ts, hz, hT⟩, o, ho, hd⟩
  · refine wpAny_pyNext_zip_item D hz hTI hTO h1 h2 p.isList p2.isList (x := u) (y := u2) (by simpa using hu) (by simpa using hu2) fun h' z' TO' h1' h2' hT hsz hk => ?_
    refine ⟨_, rfl, hfree, fin h' false _ z' ⟨_, upd_same⟩ ⟨_, TO', fun v q => nomatch q⟩ ?_ h1' h2' hT fun c o hc e => hk c o (fun q => hc (by simp [q])) (fun q => hc (by simp [q])) (fun q => hc (by simp [q])) (fun q => hc (by simp [q])) e⟩
    exact hk TI _ D.TIz D.TITO D.TIi1 D.TIi2 hTI
  · obtain ⟨_, its3, _, oT, hoT, _⟩ := I.hok T _ hT
    refine wpAny_pyNext_zip_item_held D hz hoT hTI h1 h2 p.isList p2.isList (x := u) (y := u2) (by simpa using hu) (by simpa using hu2) fun h' z' h1' h2' hT' hsz hk => ?_
    refine ⟨_, rfl, hfree, fin h' true T z' ⟨ts, by rw [upd_ne (ne_of_none hT hfree)]; exact hT⟩ ⟨o, ?_, hd⟩ ?_ h1' h2' hT' fun c o hc e => hk c o (fun q => hc (by simp [q])) (fun q => hc (by simp [q])) (fun q => hc (by simp [q])) e⟩
    · exact hk TO _ D.TOz D.TOi1 D.TOi2 ho
    · exact hk TI _ D.TIz D.TIi1 D.TIi2 hTI
theorem zst_end {pins : List (Addr × Obj)} {σ : L2.St} {H : Hp} {s : Shared} {z TI TO i1 i2 a b : Addr} {xs ys : List V} {E : Value → Shared → Prop} (hc : X.calm = true) (D : ZipApart z TI TO i1 i2 a b) (I : Inv X pins σ H s) (hf : ∀ c ∈ [z, TI, TO, i1, i2], FpOk X pins H c)
    (st : ZSt z TI TO i1 i2 a b H (min xs.length ys.length) s.heap) (ha : SqL X.K H a xs) (hb : SqL X.K H b ys) :
    wpAny (model X.prog X.w) X.A (pyNext (.ref z)) (fun r s1 => r = none ∧ Inv X pins σ H s1) E s := by
  obtain ⟨its, rv, p, _⟩ := I.list ha
  obtain ⟨its2, rv2, p2, _⟩ := I.list hb
  have l1 := rv.length
  have l2 := rv2.length
  have he : its.toArray[min xs.length ys.length]? = none ∨ its2.toArray[min xs.length ys.length]? = none := by
    rcases Nat.le_total xs.length ys.length with q | q
    · exact .inl (by simp; omega)
    · exact .inr (by simp; omega)
  obtain ⟨hTI, h1, h2, hz⟩ := id st
  rcases hz with ⟨hz, u0, v0, hTO⟩ | ⟨⟨T, f, ts, hz, hT⟩, o, ho, hd⟩
  · exact wpAny_pyNext_zip_end (I.ok.hd hc) D hz hTI hTO h1 h2 p.isList p2.isList he fun h' hk => ⟨rfl, I.turnedL (t' := s.toks) (ch := [z, TI, TO, i1, i2]) (fun c o hb q =>
      hk c o (fun q' => hb (by simp [q'])) (fun q' => hb (by simp [q'])) (fun q' => hb (by simp [q'])) (fun q' => hb (by simp [q'])) q) hf⟩
  · obtain ⟨_, its3, _, oT, hoT, _⟩ := I.hok T _ hT
    exact wpAny_pyNext_zip_end_held (I.ok.hd hc) D hz hoT hTI h1 h2 p.isList p2.isList he fun h' hk => ⟨rfl, I.turnedL (t' := s.toks) (ch := [z, TI, TO, i1, i2]) (fun c o hb q =>
      hk c o (fun q' => hb (by simp [q'])) (fun q' => hb (by simp [q'])) (fun q' => hb (by simp [q'])) q) hf⟩
theorem self_held {prog : Program} {w : World} {A : Around} {E : Value → Shared → Prop} {s : Shared} {z TI TO T : Addr} {f : Bool} {Q : Value → Shared → Prop} (hz : IsZipHeld s.heap z TI TO T f) (h : Q (.ref z) s) : wpAny (model prog w) A (pyIter (.ref z)) Q E s := by
  have hT : s.TypeIs (.ref z) "zip" := ⟨_, hz, rfl⟩
  refine wpAny_pyIter_slot hT F.slot_zip_iter (wpAny_call_entry F.slot_zip_iter hT F.entry_zip_iter ?_ (F.args_zip_iter_1 _))
  show wpAny _ _ (ret (.ref z)) _ _ s
  exact wpAny_pure ⟨_, rfl, "zip", _, hT, F.slot_zip_next.lookup, h⟩
theorem go_name {M : Model} {A : Around} {E : Value → Shared → Prop} {s : Shared} {x : Str} {px : Pos} {it v : Value} {Q : Unit → Shared → Prop} (h : Q () s) : wpAny M A (letOwnedTupleGo (.Name x px) it v) Q E s := wpAny_pure h

theorem lc_coreZ {pins : List (Addr × Obj)} {s : Shared} {σ : L2.St} {H : Hp} {Q : VK} {elt e1 e2 : Expr} {x : Str} {px p pz : Pos} {ifs : List Expr} {scope : Scope} {own : List (Str × Nat)} {pos pos' : Pos} {ta : TA} {g : TG} {tt : TT} {te : TE} {use : Option (Value → Sem Unit)} {Qf : Value → Shared → Prop}
    (hc : X.calm = true) (hN : X.N.Nodup) (I : Inv X pins σ H s) (hgz : Gl X "zip") (hmz : X.mg "zip" = none) (ha : PA X [e1, e2] ta) (ok : BlkOk X.N X.env.scope scope own)
    (hg : ∀ (s : Shared) (H : Hp) (C : Addr) (cl : List (Str × Addr)) (fp : List Addr), PG (X.blk s H scope (compEnvC scope cl C X.env) fp) (.Name x px) g) (ht : ∀ (s : Shared) (H : Hp) (C : Addr) (cl : List (Str × Addr)) (fp : List Addr), PTs (X.blk s H scope (compEnvC scope cl C X.env) fp) ifs tt)
    (he : ∀ (s : Shared) (H : Hp) (C : Addr) (cl : List (Str × Addr)) (fp : List Addr), PE (X.blk s H scope (compEnvC scope cl C X.env) fp) elt te) (hs : ∀ x, foldedSetIterable (.Call (.Name "zip" p) [e1, e2] [] pz) X.env x = pure x)
    (hse : starEach [e1, e2] X.env = (false, eval e1 X.env) :: starEach [e2] X.env) (hpl : (backTo pz (starEach [e2] X.env)).any (·.1) = false)
    (h : tLcZ X.K ta g tt te (own.map (·.2)) σ H Q)
    (hRR : ∀ D C s' m H', Inv X pins σ H' s' → Q (.ref D) H' → s'.heap.Ns C m → FpOk X pins H' C → compPost (model X.prog X.w) X.A X.xe use Qf (.ref D) C (.ok .next) s') :
    wpAny (model X.prog X.w) X.A (comprehension (.ListComp elt [⟨.Name x px, .Call (.Name "zip" p) [e1, e2] [] pz, ifs, 0⟩] scope pos) scope X.env pos' (newList []) false (eval (.Call (.Name "zip" p) [e1, e2] [] pz) X.env) use) Qf X.xe s := by
  have hfree : ∀ y ∈ scope.names, y.2 = .free → ∃ c, X.env.cells.lookup y.1 = some c := fun y hy e => by
    rcases ok.free y hy e with k | k
    · exact I.ok.has _ (.inl k)
    · exact I.ok.has _ (.inr k)
  refine wpAny_comprehension_free (use := use) rfl hs (closure_ok hfree) ok.kind (fun y hy e => by rw [ok.uniq y hy, e]) ?_
  refine Call_ (ld_blt I hgz hmz PyProof.Rows.boot_zip (PyProof.Rows.callWith_type1 (thn (ha.run pz pins s σ H _ I h) fun us s1 ⟨vs, H1, I1, r1, q1⟩ => ?_) hse hpl))
  obtain ⟨a, b, xs, ys, ex, hqx, hqy, q⟩ := q1
  subst ex
  cases r1 with
  | cons r rr =>
  cases rr with
  | cons r' rr =>
  cases rr
  cases r
  cases r'
  obtain ⟨its, rv, p1, _⟩ := I1.list hqx
  obtain ⟨its2, rv2, p2, _⟩ := I1.list hqy
  have la : a < s1.heap.objs.size := p1.lt
  have lb : b < s1.heap.objs.size := p2.lt
  refine call_zip_2 p1.isList p2.isList fun h' hz hTI hTO h1 h2 hsz hk => wpAny_pyIter_zip hz ?_
  have I2 : Inv X pins σ H1 { s1 with heap := h' } := I1.kept (t' := s1.toks) hk
  have AP : ZipApart (s1.heap.objs.size + 4) (s1.heap.objs.size + 2) (s1.heap.objs.size + 3) s1.heap.objs.size (s1.heap.objs.size + 1) a b := PySem.W.ktu_apart s1.heap.objs.size a b la lb
  have f2 : ∀ c ∈ [s1.heap.objs.size + 4, s1.heap.objs.size + 2, s1.heap.objs.size + 3, s1.heap.objs.size, s1.heap.objs.size + 1], FpOk X pins H1 c := fun c hcm => by
    have e' : c = s1.heap.objs.size + 4 ∨ c = s1.heap.objs.size + 2 ∨ c = s1.heap.objs.size + 3 ∨ c = s1.heap.objs.size ∨ c = s1.heap.objs.size + 1 := by simpa using hcm
    have hle : s1.heap.objs.size ≤ c := by
      rcases e' with z | z | z | z | z <;> rw [z] <;> first | exact Nat.le_refl _ | exact Nat.le_add_right _ _
    exact I1.fpOk hle (I1.hok.fresh hle)
  have st2 : ZSt (s1.heap.objs.size + 4) (s1.heap.objs.size + 2) (s1.heap.objs.size + 3) s1.heap.objs.size (s1.heap.objs.size + 1) a b H1 0 h' := ⟨hTI, h1, h2, .inl ⟨hz, _, _, hTO⟩⟩
  generalize hit : s1.heap.objs.size + 4 = it at hz st2 f2 AP ⊢
  generalize s1.heap.objs.size + 2 = TI at st2 f2 AP
  generalize s1.heap.objs.size + 3 = TO at st2 f2 AP
  generalize s1.heap.objs.size + 1 = i2 at st2 f2 AP
  generalize s1.heap.objs.size = i1 at st2 f2 AP
  generalize hs2 : ({ s1 with heap := h' } : Shared) = s2 at I2 ⊢
  have est2 : h' = s2.heap := by rw [← hs2]
  rw [est2] at st2
  clear hz hTI hTO h1 h2 hsz hk
  refine wpAny_newObj_type (newEnv_comp ?_) (by show 0 ≤ sizeLine; decide)
  generalize hD : s2.heap.objs.size = D
  have hDn : H1 D = none := I2.hok.fresh (Nat.le_of_eq hD)
  obtain ⟨W, w0, wq, turn, wd⟩ := q D hDn
  generalize hs3 : ({ s2 with heap := s2.heap.push { cls := .type "list", data := .seq ([] : List Value).toArray } } : Shared) = s3
  have I3 : Inv X pins σ (upd H1 D (.lst [])) s3 := by
    rw [← hs3]
    refine I2.laid (t' := s2.toks) (fun b o e => Heap.get?_push_of_some _ e) (Nat.le_of_eq hD) ⟨Nat.zero_le _, [], 0, .nil, ?_⟩
    rw [← hD]
    exact Heap.get?_push_size _ rfl
  have h3 : s3.heap = s2.heap.push { cls := .type "list", data := .seq ([] : List Value).toArray } := by rw [← hs3]
  have sz : ∀ b ∈ [it, TI, TO, i1, i2], b < s2.heap.objs.size := fun b hb => by
    obtain ⟨o, e, _⟩ := st2.obj b hb
    exact Heap.lt_size e
  have f3 : ∀ b ∈ [it, TI, TO, i1, i2], FpOk X pins (upd H1 D (.lst [])) b ∧ b < s3.heap.objs.size := fun b hb => by
    have hlt := sz b hb
    refine ⟨⟨?_, (f2 b hb).2⟩, by rw [h3, Heap.size_push]; exact Nat.lt_succ_of_lt hlt⟩
    rw [upd_ne (by rw [← hD]; exact Nat.ne_of_lt hlt)]
    exact (f2 b hb).1
  have tup1 : ∀ T xs, H1 T = some (.tup xs) → ∃ ys, (upd H1 D (.lst [])) T = some (.tup ys) := fun T xs e => ⟨xs, by rw [upd_ne (ne_of_none e hDn)]; exact e⟩
  have st3 : ZSt it TI TO i1 i2 a b (upd H1 D (.lst [])) 0 s3.heap := st2.keep (fun c _ o e => by rw [h3]; exact Heap.get?_push_of_some _ e) tup1
  have I4 := block_start I3 ok hN f3
  have pg := hg s3 (upd H1 D (.lst [])) s3.heap.objs.size (cellsFrom (s3.heap.objs.size + 1) scope.names (cloFrom X.env.cells scope.names [])) [it, TI, TO, i1, i2]
  have pt := ht s3 (upd H1 D (.lst [])) s3.heap.objs.size (cellsFrom (s3.heap.objs.size + 1) scope.names (cloFrom X.env.cells scope.names [])) [it, TI, TO, i1, i2]
  have pe := he s3 (upd H1 D (.lst [])) s3.heap.objs.size (cellsFrom (s3.heap.objs.size + 1) scope.names (cloFrom X.env.cells scope.names [])) [it, TI, TO, i1, i2]
  show codeAny _ _ (.compStart (.ListComp elt [⟨.Name x px, .Call (.Name "zip" p) [e1, e2] [] pz, ifs, 0⟩] scope pos) 0 (.ref it) (.ref D) (compEnvC scope (cellsFrom (s3.heap.objs.size + 1) scope.names (cloFrom X.env.cells scope.names [])) s3.heap.objs.size X.env)) (compPost (model X.prog X.w) X.A X.xe use Qf (.ref D) s3.heap.objs.size) { s3 with heap := pushCells (s3.heap.push { cls := .type "dict", data := .dict #[] }) scope.names }
  have nfp : ∀ b ∈ [it, TI, TO, i1, i2], (upd H1 D (.lst [])) b = none := fun b hb => (f3 b hb).1.1
  generalize hce : compEnvC scope (cellsFrom (s3.heap.objs.size + 1) scope.names (cloFrom X.env.cells scope.names [])) s3.heap.objs.size X.env = ce at I4 pg pt pe ⊢
  have cL : ce.locals = s3.heap.objs.size := by subst hce; rfl
  generalize hH3 : upd H1 D (.lst []) = H3 at I3 I4 pg pt pe w0 nfp f3 st3
  generalize hs4 : ({ s3 with heap := pushCells (s3.heap.push { cls := .type "dict", data := .dict #[] }) scope.names } : Shared) = s4 at I4 ⊢
  have st4 : ZSt it TI TO i1 i2 a b H3 0 s4.heap := st3.keep (fun c _ o e => by rw [← hs4]; exact pushCells_keeps _ _ _ _ (Heap.get?_push_of_some _ e)) fun T xs e => ⟨xs, e⟩
  have stat : ∀ {σ' : L2.St} {H' : Hp} {s' : Shared}, Inv (X.blk s3 H3 scope ce [it, TI, TO, i1, i2]) [] σ' H' s' → (∀ b ∈ [it, TI, TO, i1, i2], H' b = none) → ∀ b ∈ [it, TI, TO, i1, i2], FpOk (X.blk s3 H3 scope ce [it, TI, TO, i1, i2]) [] H' b := fun {σ' H' s'} I' hn b hb =>
    ⟨hn b hb, (I'.ok.exf b hb).1, I'.ok.exfs b hb, .inl hb, fun x c e => (I'.ok.exf b hb).2 x c e, fun p hp => absurd (show p ∈ ([] : List (Addr × Obj)) ++ [] from hp) (by simp)⟩
  have loop : codeAny (model X.prog X.w) X.A (.compLoop (.ListComp elt [⟨.Name x px, .Call (.Name "zip" p) [e1, e2] [] pz, ifs, 0⟩] scope pos) 0 (.ref it) (.ref D) ce) (compPost (model X.prog X.w) X.A X.xe use Qf (.ref D) s3.heap.objs.size) s4 := by
    refine compLoop_any (fun n s' => ∃ i H', n = min xs.length ys.length - i ∧ i ≤ min xs.length ys.length ∧ Inv (X.blk s3 H3 scope ce [it, TI, TO, i1, i2]) [] (wipe σ (own.map (·.2))) H' s' ∧ ZSt it TI TO i1 i2 a b H' i s'.heap ∧ (∀ b ∈ [it, TI, TO, i1, i2], H' b = none) ∧ W i H') ?_ (min xs.length ys.length) ⟨0, H3, rfl, Nat.zero_le _, I4, st4, nfp, w0⟩
    rintro n s5 ⟨i, H5, rfl, hi, I5, st5, n5, w5⟩
    obtain ⟨sa, sb⟩ := wq i H5 w5
    by_cases hlt : i < min xs.length ys.length
    · have hx : xs[i]? = some (xs[i]'(by omega)) := by simp
      have hy : ys[i]? = some (ys[i]'(by omega)) := by simp
      have ti := zst_item (X := X.blk s3 H3 scope ce [it, TI, TO, i1, i2]) (E := fun _ _ => False) AP I5 (stat I5 n5) st5 sa sb hx hy
      refine thnF ti fun r s6 ⟨T, hr, hTn, I7, st7, n7⟩ => ?_
      subst hr
      refine go_name ?_
      have I7' := I7.pinned (stat I7 n7) st7.obj
      refine thnF (pg.run _ s6 _ _ (.ref T) (.ref T) _ I7' rfl (turn i _ _ T H5 hx hy w5 hTn)) fun _ s8 ⟨σ8, H8, I8, hw8, q8⟩ => ?_
      refine thnF (pt.run _ s8 σ8 H8 _ I8 q8) fun bb s9 ⟨H9, I9, q9⟩ => ?_
      have fin : ∀ {s' : Shared} {H' : Hp}, Inv (X.blk s3 H3 scope ce [it, TI, TO, i1, i2]) ([] ++ pinsAt [it, TI, TO, i1, i2] s6.heap) σ8 H' s' → TupS (upd H5 T (.tup [xs[i]'(by omega), ys[i]'(by omega)])) H' → W (i + 1) H' → ∃ m, m < min xs.length ys.length - i ∧ ∃ i' H', m = min xs.length ys.length - i' ∧ i' ≤ min xs.length ys.length ∧ Inv (X.blk s3 H3 scope ce [it, TI, TO, i1, i2]) [] (wipe σ (own.map (·.2))) H' s' ∧ ZSt it TI TO i1 i2 a b H' i' s'.heap ∧ (∀ b ∈ [it, TI, TO, i1, i2], H' b = none) ∧ W i' H' := fun {s' H'} I' hT' w' => by
        have pin' : ∀ b ∈ [it, TI, TO, i1, i2], ∀ o, s6.heap.get? b = some o → s'.heap.get? b = some o ∧ H' b = none := fun b hb o e =>
          let z := I'.pin (b, o) (List.mem_append_right _ (List.mem_append_right _ (mem_pinsAt hb e)))
          ⟨z.1, z.2.1⟩
        have hl : (wipe σ (own.map (·.2))).length = σ8.length := by rw [← hw8, wipe_length]
        refine ⟨min xs.length ys.length - (i + 1), by omega, i + 1, H', rfl, hlt, (I'.unpinned (pins := [])).weak hl (fun j v e => ?_), ?_, fun b hb => ?_, w'⟩
        · rw [← hw8] at e
          exact (wipe_some e).1
        · obtain ⟨hTI7, h17, h27, hz7⟩ := st7
          have kp : ∀ c ∈ [it, TI, TO, i1, i2], ∀ o, s6.heap.get? c = some o → s'.heap.get? c = some o := fun c hc o e => (pin' c hc o e).1
          refine ⟨kp TI (by simp) _ hTI7, h17.at fun o q => kp i1 (by simp) o q, h27.at fun o q => kp i2 (by simp) o q, ?_⟩
          rcases hz7 with ⟨hz7, u, v, hTO⟩ | ⟨⟨T7, f, zs, hz7, hT7⟩, o, ho, hd⟩
          · exact .inl ⟨kp it (by simp) _ hz7, u, v, kp TO (by simp) _ hTO⟩
          · exact .inr ⟨⟨T7, f, zs, kp it (by simp) _ hz7, hT' T7 zs hT7⟩, o, kp TO (by simp) _ ho, hd⟩
        · obtain ⟨o, e, _⟩ := st7.obj b hb
          exact (pin' b hb o e).2
      cases bb with
      | false =>
        simp only [Bool.false_eq_true, if_false] at q9 ⊢
        exact fin I9 q9.1 q9.2
      | true =>
        simp only [if_true] at q9 ⊢
        refine thnF (pe.run _ s9 σ8 H9 _ I9 q9) fun z s10 ⟨yv, H10, I10, r10, acc, hD10, hz10, hT10, nx⟩ => ?_
        refine app_ok (X := X.blk s3 H3 scope ce [it, TI, TO, i1, i2]) I10 hD10 hz10 r10 fun s11 I11 => fin I11 (fun t zs e => ?_) nx
        have e2 := hT10 t zs e
        rw [upd_ne (fun q => by rw [q, hD10] at e2; cases e2)]
        exact e2
    · have ei : i = min xs.length ys.length := by omega
      subst ei
      have td := zst_end (X := X.blk s3 H3 scope ce [it, TI, TO, i1, i2]) (E := fun _ _ => False) hc AP I5 (stat I5 n5) st5 sa sb
      refine thnF td fun r s6 ⟨hr, I6⟩ => ?_
      subst hr
      have I7 : Inv X pins σ H5 s6 := I3.call' (ch := [it, TI, TO, i1, i2]) I6.os I6.base I6.hok I6.bare fun b hb => ⟨(f3 b hb).1.2.2.2.1, (f3 b hb).1.2.1, (f3 b hb).1.2.2.2.2.1, (f3 b hb).1.2.2.2.2.2⟩
      have nC : H5 s3.heap.objs.size = none := by
        have z : H5 ce.locals = none := I6.free
        rw [cL] at z
        exact z
      obtain ⟨m, hn, _⟩ := I6.loc
      have hn : s6.heap.Ns ce.locals m := hn
      rw [cL] at hn
      exact hRR D s3.heap.objs.size s6 m H5 I7 (wd H5 w5) hn (I3.fpOk (Nat.le_refl _) nC)
  refine codeAny_compStart_list loop ?_
  obtain ⟨_, _, _, hz4⟩ := st4
  rcases hz4 with ⟨hz4, _⟩ | ⟨⟨T, f, xs, hz4, _⟩, _⟩
  · exact wpAny_pyIter_zip hz4 loop
  · exact self_held hz4 loop
/-- as a value -/
theorem pe_lcZ {elt e1 e2 : Expr} {x : Str} {px p pz : Pos} {ifs : List Expr} {scope : Scope} {own : List (Str × Nat)} {pos : Pos} {ta : TA} {g : TG} {tt : TT} {te : TE}
    (hc : X.calm = true) (hN : X.N.Nodup) (hgz : Gl X "zip") (hmz : X.mg "zip" = none) (ha : PA X [e1, e2] ta) (ok : BlkOk X.N X.env.scope scope own)
    (hg : ∀ (s : Shared) (H : Hp) (C : Addr) (cl : List (Str × Addr)) (fp : List Addr), PG (X.blk s H scope (compEnvC scope cl C X.env) fp) (.Name x px) g) (ht : ∀ (s : Shared) (H : Hp) (C : Addr) (cl : List (Str × Addr)) (fp : List Addr), PTs (X.blk s H scope (compEnvC scope cl C X.env) fp) ifs tt)
    (he : ∀ (s : Shared) (H : Hp) (C : Addr) (cl : List (Str × Addr)) (fp : List Addr), PE (X.blk s H scope (compEnvC scope cl C X.env) fp) elt te) (hs : ∀ x, foldedSetIterable (.Call (.Name "zip" p) [e1, e2] [] pz) X.env x = pure x := by intro _; rfl)
    (hse : starEach [e1, e2] X.env = (false, eval e1 X.env) :: starEach [e2] X.env := by rfl) (hpl : (backTo pz (starEach [e2] X.env)).any (·.1) = false := by rfl) :
    PE X (.ListComp elt [⟨.Name x px, .Call (.Name "zip" p) [e1, e2] [] pz, ifs, 0⟩] scope pos) (tLcZ X.K ta g tt te (own.map (·.2))) := by
  refine ⟨fun pins s σ H Q I h => ?_⟩
  rw [eval_ListComp]
  refine lc_coreZ hc hN I hgz hmz ha ok hg ht he hs hse hpl h fun D C s' m H' I' q hn f => ⟨m, hn, fun h'' sb => ?_⟩
  obtain ⟨f0, f1, f2, f3, f4, f5⟩ := f
  exact ⟨.ref D, H', I'.turned (t' := s'.toks) (fun b o hb e => (sb.2 b hb).trans e) f0 f1 f3 f4 f5, rfl, q⟩
/-- name = [..] on one line, the name a local -/
theorem ps_setLcZ {i : Nat} {y : Str} {py : Pos} {elt e1 e2 : Expr} {x : Str} {px p pz : Pos} {ifs : List Expr} {scope : Scope} {own : List (Str × Nat)} {pos spos : Pos} {ta : TA} {g : TG} {tt : TT} {te : TE}
    (hc : X.calm = true) (hN : X.N.Nodup) (hy : X.N[i]? = some y) (hyl : X.env.scope.names.lookup y = some .local)
    (hsw : swapsWith (.ListComp elt [⟨.Name x px, .Call (.Name "zip" p) [e1, e2] [] pz, ifs, 0⟩] scope pos) (some (.Name y py)) spos.line X.env = pure true) (hgz : Gl X "zip") (hmz : X.mg "zip" = none) (ha : PA X [e1, e2] ta) (ok : BlkOk X.N X.env.scope scope own)
    (hg : ∀ (s : Shared) (H : Hp) (C : Addr) (cl : List (Str × Addr)) (fp : List Addr), PG (X.blk s H scope (compEnvC scope cl C X.env) fp) (.Name x px) g) (ht : ∀ (s : Shared) (H : Hp) (C : Addr) (cl : List (Str × Addr)) (fp : List Addr), PTs (X.blk s H scope (compEnvC scope cl C X.env) fp) ifs tt)
    (he : ∀ (s : Shared) (H : Hp) (C : Addr) (cl : List (Str × Addr)) (fp : List Addr), PE (X.blk s H scope (compEnvC scope cl C X.env) fp) elt te) (hs : ∀ x, foldedSetIterable (.Call (.Name "zip" p) [e1, e2] [] pz) X.env x = pure x := by intro _; rfl)
    (hse : starEach [e1, e2] X.env = (false, eval e1 X.env) :: starEach [e2] X.env := by rfl) (hpl : (backTo pz (starEach [e2] X.env)).any (·.1) = false := by rfl) :
    PS X (.Assign [.Name y py] (.ListComp elt [⟨.Name x px, .Call (.Name "zip" p) [e1, e2] [] pz, ifs, 0⟩] scope pos) spos) (tAsg (tLcZ X.K ta g tt te (own.map (·.2))) (gName i)) := by
  refine ⟨fun pins s σ H D I h => ?_⟩
  rw [exec_Assign_Name_used _ _ _ _ hsw]
  refine wpAny_bind (wpAny_standAt (wpAny_bind ?_))
  show wpAny _ X.A (do let _ ← comprehension (.ListComp elt [⟨.Name x px, .Call (.Name "zip" p) [e1, e2] [] pz, ifs, 0⟩] scope pos) scope X.env (firstIterPos [⟨.Name x px, .Call (.Name "zip" p) [e1, e2] [] pz, ifs, 0⟩] pos) (newList []) false (eval (.Call (.Name "zip" p) [e1, e2] [] pz) X.env) (some (assign (.Name y py) X.env))) _ _ s
  have h : tLcZ X.K ta g tt te (own.map (·.2)) σ H (fun x H1 => gName i x σ H1 D.nx) := h
  refine wpAny_bind (thn (lc_coreZ (Qf := fun _ s' => SP X pins D .next s') hc hN I hgz hmz ha ok hg ht he hs hse hpl h fun L C s' m H' I' q hn f => ?_) fun _ s' hq => wpAny_pure (wpAny_pure hq))
  show wpAny _ _ (assign (.Name y py) X.env (.ref L)) _ _ _
  refine wpAny_assign_Name (store_ok2 (v := V.ref L) I' hN hy (.inl hyl) rfl (fun s2 I2 ⟨a, sb, ha⟩ => ?_) (.inr hyl))
  obtain ⟨f0, f1, f2, f3, f4, f5⟩ := f
  have haC : C ≠ a := by
    rcases ha with z | z
    · rw [z]; exact f1
    · exact fun e => f4 y a z e.symm
  refine ⟨m, hn.sameBut sb haC, fun h3 sb3 => ?_⟩
  exact ⟨_, H', I2.turned (t' := s2.toks) (fun b o hb e => (sb3.2 b hb).trans e) f0 f1 f3 f4 f5, q⟩
end
end Xr

set_option Elab.async false
set_option linter.all false
set_option maxRecDepth 100000
set_option maxHeartbeats 4000000
namespace Xr
open PySem PySem.Spec PyProof.Rows L2
/-! ### {k: v for ..} whose keys are tuples -/
theorem d_dictSetT {X : Cx} {pins : List (Addr × Obj)} {σ : L2.St} {H : Hp} {s : Shared} {E : Value → Shared → Prop} {D b : Addr} {kvs : List (List Key × V)} {k : List Key} {v : V} {u r : Value} {Q : Unit → Shared → Prop} (hu : X.A.units + 1 < cLine) (I : Inv X pins σ H s) (hD : H D = some (.dT kvs))
    (eb : H b = some (.tup (k.map kV))) (hz : kvs.length < sizeLine) (ry : RelV (.ref b) u) (rv : RelV v r) (h : ∀ s', Inv X pins σ (upd H D (.dT (putK kvs k v))) s' → Q () s') : wpAny (model X.prog X.w) X.A (dictSet D u r) Q E s := by
  cases (show u = Value.ref b from ry)
  obtain ⟨z, hd, xs, rel, dd⟩ := dt_of I.hok hD
  have hzv : xs.length ≤ sizeLine := by rw [← Paired.length rel]; exact z
  have hl : (putK kvs k v).length ≤ sizeLine := by have := length_putK kvs k v; omega
  refine wpAny_dictSet_heap (hsz := hzv) (show X.A.units < cLine by omega) (key_of I.hok eb) dd fun h' dd' hs => h _ ?_
  obtain ⟨q, es, ep, hq, h2, h3, h4, _, h5⟩ := dd'
  refine d_write I (by rw [hD]; exact True.intro) hs ⟨q, hq⟩ ⟨hl, hd, _, (rel.put k eb rv).keeps fun c ys ec => ?_, q, es, ep, hq, h2, h3, h4, h5⟩
  rw [upd_ne (ne_of ec hD (fun z => nomatch z))]
  exact ec
section
variable {X : Cx}
def tDcT (wi : TI) (g : TG) (tt : TT) (tk tv : TE) (vs : List Nat) : TE := fun σ H Q => wi σ H fun J H1 => ∀ D, H1 D = none → ∃ W : Nat → Nat → Hp → Prop, (∃ m, W 0 m (upd H1 D (.dT []))) ∧ ∀ i m H, W i m H →
  (J.stop i H ∧ Q (.ref D) H) ∨ (J.go i H ∧ ∃ Nx : Hp → Prop, (∀ H', Nx H' → ∃ m', m' < m ∧ W (i + 1) m' H') ∧ ∀ x H', J.yld i H x H' → g x (wipe σ vs) H' fun σ2 H2 => wipe σ2 vs = wipe σ vs ∧ tt σ2 H2 fun b H3 =>
    if b = true then tk σ2 H3 fun y H4 => tv σ2 H4 fun z H5 => ∃ kvs k b, y = .ref b ∧ H5 b = some (.tup (k.map kV)) ∧ H5 D = some (.dT kvs) ∧ kvs.length < sizeLine ∧ Nx (upd H5 D (.dT (putK kvs k z))) else Nx H3)
theorem dc_coreT (hu : X.A.units + 1 < cLine) {pins : List (Addr × Obj)} {s : Shared} {σ : L2.St} {H : Hp} {Q : VK} {kx vx tg iter : Expr} {ifs : List Expr} {scope : Scope} {own : List (Str × Nat)} {pos pos' : Pos} {wi : TI} {g : TG} {tt : TT} {tk tv : TE} {use : Option (Value → Sem Unit)} {Qf : Value → Shared → Prop}
    (hc : X.calm = true) (hN : X.N.Nodup) (I : Inv X pins σ H s) (hi : PI X tg iter wi) (ok : BlkOk X.N X.env.scope scope own)
    (hg : ∀ (s : Shared) (H : Hp) (C : Addr) (cl : List (Str × Addr)) (fp : List Addr), PG (X.blk s H scope (compEnvC scope cl C X.env) fp) tg g) (ht : ∀ (s : Shared) (H : Hp) (C : Addr) (cl : List (Str × Addr)) (fp : List Addr), PTs (X.blk s H scope (compEnvC scope cl C X.env) fp) ifs tt)
    (hk : ∀ (s : Shared) (H : Hp) (C : Addr) (cl : List (Str × Addr)) (fp : List Addr), PE (X.blk s H scope (compEnvC scope cl C X.env) fp) kx tk)
    (he : ∀ (s : Shared) (H : Hp) (C : Addr) (cl : List (Str × Addr)) (fp : List Addr), PE (X.blk s H scope (compEnvC scope cl C X.env) fp) vx tv) (hs : ∀ x, foldedSetIterable iter X.env x = pure x)
    (h : tDcT wi g tt tk tv (own.map (·.2)) σ H Q)
    (hRR : ∀ D C s' m H', Inv X pins σ H' s' → Q (.ref D) H' → s'.heap.Ns C m → FpOk X pins H' C → compPost (model X.prog X.w) X.A X.xe use Qf (.ref D) C (.ok .next) s') :
    wpAny (model X.prog X.w) X.A (comprehension (.DictComp kx vx [⟨tg, iter, ifs, 0⟩] scope pos) scope X.env pos' newDict false (eval iter X.env) use) Qf X.xe s := by
  have hfree : ∀ y ∈ scope.names, y.2 = .free → ∃ c, X.env.cells.lookup y.1 = some c := fun y hy e => by
    rcases ok.free y hy e with k | k
    · exact I.ok.has _ (.inl k)
    · exact I.ok.has _ (.inr k)
  refine wpAny_comprehension_free (use := use) rfl hs (closure_ok hfree) ok.kind (fun y hy e => by rw [ok.uniq y hy, e])
    (thn (hi.run pins s σ H _ I h) fun xv s1 hx => thn hx fun itv s2 h2 => ?_)
  obtain ⟨it, fp, tn, J, H2, e, I2, T, st2, f2, q⟩ := h2
  subst e
  refine wpAny_newObj_type (newEnv_comp ?_)
  generalize hD : s2.heap.objs.size = D
  have hDn : H2 D = none := I2.hok.fresh (Nat.le_of_eq hD)
  obtain ⟨W, ⟨m0, w0⟩, turn⟩ := q D hDn
  -- the new list
  generalize hs3 : ({ s2 with heap := s2.heap.push { cls := .type "dict", data := .dict #[] } } : Shared) = s3
  have I3 : Inv X pins σ (upd H2 D (.dT [])) s3 := by
    rw [← hs3]
    refine I2.laid (t' := s2.toks) (fun b o e => Heap.get?_push_of_some _ e) (Nat.le_of_eq hD) ?_
    rw [← hD]
    exact dt_empty s2.heap I2.big
  have h3 : s3.heap = s2.heap.push { cls := .type "dict", data := .dict #[] } := by rw [← hs3]
  have sz : ∀ b ∈ fp, b < s2.heap.objs.size := fun b hb => by
    obtain ⟨o, e, _⟩ := T.obj _ _ st2 b hb
    exact Heap.lt_size e
  have f3 : ∀ b ∈ fp, FpOk X pins (upd H2 D (.dT [])) b ∧ b < s3.heap.objs.size := fun b hb => by
    have hlt := sz b hb
    refine ⟨⟨?_, (f2 b hb).2⟩, by rw [h3, Heap.size_push]; exact Nat.lt_succ_of_lt hlt⟩
    rw [upd_ne (by rw [← hD]; exact Nat.ne_of_lt hlt)]
    exact (f2 b hb).1
  have st3 : tn 0 s3.heap := T.keep _ _ _ st2 fun b _ o e => by rw [h3]; exact Heap.get?_push_of_some _ e
  have I4 := block_start I3 ok hN f3
  have pg := hg s3 (upd H2 D (.dT [])) s3.heap.objs.size (cellsFrom (s3.heap.objs.size + 1) scope.names (cloFrom X.env.cells scope.names [])) fp
  have pt := ht s3 (upd H2 D (.dT [])) s3.heap.objs.size (cellsFrom (s3.heap.objs.size + 1) scope.names (cloFrom X.env.cells scope.names [])) fp
  have pk := hk s3 (upd H2 D (.dT [])) s3.heap.objs.size (cellsFrom (s3.heap.objs.size + 1) scope.names (cloFrom X.env.cells scope.names [])) fp
  have pe := he s3 (upd H2 D (.dT [])) s3.heap.objs.size (cellsFrom (s3.heap.objs.size + 1) scope.names (cloFrom X.env.cells scope.names [])) fp
  show codeAny _ _ (.compStart (.DictComp kx vx [⟨tg, iter, ifs, 0⟩] scope pos) 0 (.ref it) (.ref D) (compEnvC scope (cellsFrom (s3.heap.objs.size + 1) scope.names (cloFrom X.env.cells scope.names [])) s3.heap.objs.size X.env)) (compPost (model X.prog X.w) X.A X.xe use Qf (.ref D) s3.heap.objs.size) { s3 with heap := pushCells (s3.heap.push { cls := .type "dict", data := .dict #[] }) scope.names }
  have nfp : ∀ b ∈ fp, (upd H2 D (.dT [])) b = none := fun b hb => (f3 b hb).1.1
  generalize hce : compEnvC scope (cellsFrom (s3.heap.objs.size + 1) scope.names (cloFrom X.env.cells scope.names [])) s3.heap.objs.size X.env = ce at I4 pg pt pk pe ⊢
  have cL : ce.locals = s3.heap.objs.size := by subst hce; rfl
  generalize hH3 : upd H2 D (.dT []) = H3 at I3 I4 pg pt pk pe w0 nfp f3
  generalize hs4 : ({ s3 with heap := pushCells (s3.heap.push { cls := .type "dict", data := .dict #[] }) scope.names } : Shared) = s4 at I4 ⊢
  have st4 : tn 0 s4.heap := T.keep _ _ _ st3 fun b _ o e => by rw [← hs4]; exact pushCells_keeps _ _ _ _ (Heap.get?_push_of_some _ e)
  have stat : ∀ {σ' : L2.St} {H' : Hp} {s' : Shared}, Inv (X.blk s3 H3 scope ce fp) [] σ' H' s' → (∀ b ∈ fp, H' b = none) → ∀ b ∈ fp, FpOk (X.blk s3 H3 scope ce fp) [] H' b := fun {σ' H' s'} I' hn b hb =>
    ⟨hn b hb, (I'.ok.exf b hb).1, I'.ok.exfs b hb, .inl hb, fun x c e => (I'.ok.exf b hb).2 x c e, fun p hp => absurd (show p ∈ ([] : List (Addr × Obj)) ++ [] from hp) (by simp)⟩
  have loop : codeAny (model X.prog X.w) X.A (.compLoop (.DictComp kx vx [⟨tg, iter, ifs, 0⟩] scope pos) 0 (.ref it) (.ref D) ce) (compPost (model X.prog X.w) X.A X.xe use Qf (.ref D) s3.heap.objs.size) s4 := by
    refine compLoop_anyD (fun n s' => ∃ i H', Inv (X.blk s3 H3 scope ce fp) [] (wipe σ (own.map (·.2))) H' s' ∧ tn i s'.heap ∧ (∀ b ∈ fp, H' b = none) ∧ W i n H') ?_ m0 ⟨0, H3, I4, st4, nfp, w0⟩
    rintro n s5 ⟨i, H5, I5, st5, n5, w5⟩
    rcases turn i n H5 w5 with ⟨stop, qq⟩ | ⟨go, Nx, hNx, step⟩
    · have td := T.done (X.blk s3 H3 scope ce fp) rfl rfl rfl hc i [] s5 _ H5 (fun _ _ => False) I5 (stat I5 n5) st5 stop
      refine thnF td fun r s6 ⟨hr, I6⟩ => ?_
      subst hr
      -- back in the def's context
      have I7 : Inv X pins σ H5 s6 := I3.call' (ch := fp) I6.os I6.base I6.hok I6.bare fun b hb => ⟨(f3 b hb).1.2.2.2.1, (f3 b hb).1.2.1, (f3 b hb).1.2.2.2.2.1, (f3 b hb).1.2.2.2.2.2⟩
      have nC : H5 s3.heap.objs.size = none := by
        have z : H5 ce.locals = none := I6.free
        rw [cL] at z
        exact z
      obtain ⟨m, hn, _⟩ := I6.loc
      have hn : s6.heap.Ns ce.locals m := hn
      rw [cL] at hn
      exact hRR D s3.heap.objs.size s6 m H5 I7 qq hn (I3.fpOk (Nat.le_refl _) nC)
    · have ti := T.item (X.blk s3 H3 scope ce fp) rfl rfl rfl hc i [] s5 _ H5 (fun _ _ => False) I5 (stat I5 n5) st5 go
      refine thnF ti fun r s6 ⟨u, hr, h6⟩ => ?_
      subst hr
      refine thnF h6 fun _ s7 ⟨x, H7, I7, r7, y7, st7, n7⟩ => ?_
      have I7' := I7.pinned (stat I7 n7) (T.obj _ _ st7)
      refine thnF (pg.run _ s7 _ H7 x u _ I7' r7 (step x H7 y7)) fun _ s8 ⟨σ8, H8, I8, hw8, q8⟩ => ?_
      refine thnF (pt.run _ s8 σ8 H8 _ I8 q8) fun b s9 ⟨H9, I9, q9⟩ => ?_
      -- the turn's end
      have fin : ∀ {s' : Shared} {H' : Hp}, Inv (X.blk s3 H3 scope ce fp) ([] ++ pinsAt fp s7.heap) σ8 H' s' → Nx H' → ∃ m, m < n ∧ ∃ i H', Inv (X.blk s3 H3 scope ce fp) [] (wipe σ (own.map (·.2))) H' s' ∧ tn i s'.heap ∧ (∀ b ∈ fp, H' b = none) ∧ W i m H' := fun {s' H'} I' nx => by
        obtain ⟨m', hm, w'⟩ := hNx H' nx
        have pin' : ∀ b ∈ fp, ∀ o, s7.heap.get? b = some o → s'.heap.get? b = some o ∧ H' b = none := fun b hb o e =>
          let z := I'.pin (b, o) (List.mem_append_right _ (List.mem_append_right _ (mem_pinsAt hb e)))
          ⟨z.1, z.2.1⟩
        have hl : (wipe σ (own.map (·.2))).length = σ8.length := by rw [← hw8, wipe_length]
        refine ⟨m', hm, i + 1, H', (I'.unpinned (pins := [])).weak hl (fun j v e => ?_), T.keep _ _ _ st7 fun b hb o e => (pin' b hb o e).1, fun b hb => ?_, w'⟩
        · rw [← hw8] at e
          exact (wipe_some e).1
        · obtain ⟨o, e, _⟩ := T.obj _ _ st7 b hb
          exact (pin' b hb o e).2
      cases b with
      | false =>
        simp only [Bool.false_eq_true, if_false] at q9 ⊢
        exact fin I9 q9
      | true =>
        simp only [if_true] at q9 ⊢
        refine thnF (pk.run _ s9 σ8 H9 _ I9 q9) fun z s10 ⟨yk, H10, I10, r10, q10⟩ => ?_
        refine thnF (pe.run _ s10 σ8 H10 _ I10 q10) fun z2 s11 ⟨yv, H11, I11, r11, kvs, k, b, ek, eb, hD11, hz11, nx⟩ => ?_
        subst ek
        exact d_dictSetT (X := X.blk s3 H3 scope ce fp) hu I11 hD11 eb hz11 r10 r11 fun s12 I12 => fin I12 nx
  exact codeAny_compStart_dict loop (T.self X.A 0 _ _ _ st4 loop)
theorem pe_dcT {kx vx tg iter : Expr} {ifs : List Expr} {scope : Scope} {own : List (Str × Nat)} {pos : Pos} {wi : TI} {g : TG} {tt : TT} {tk tv : TE} (hu : X.A.units + 1 < cLine) (hc : X.calm = true) (hN : X.N.Nodup) (hi : PI X tg iter wi) (ok : BlkOk X.N X.env.scope scope own)
    (hg : ∀ (s : Shared) (H : Hp) (C : Addr) (cl : List (Str × Addr)) (fp : List Addr), PG (X.blk s H scope (compEnvC scope cl C X.env) fp) tg g) (ht : ∀ (s : Shared) (H : Hp) (C : Addr) (cl : List (Str × Addr)) (fp : List Addr), PTs (X.blk s H scope (compEnvC scope cl C X.env) fp) ifs tt)
    (hk : ∀ (s : Shared) (H : Hp) (C : Addr) (cl : List (Str × Addr)) (fp : List Addr), PE (X.blk s H scope (compEnvC scope cl C X.env) fp) kx tk)
    (he : ∀ (s : Shared) (H : Hp) (C : Addr) (cl : List (Str × Addr)) (fp : List Addr), PE (X.blk s H scope (compEnvC scope cl C X.env) fp) vx tv) (hs : ∀ x, foldedSetIterable iter X.env x = pure x := by intro _; rfl) :
    PE X (.DictComp kx vx [⟨tg, iter, ifs, 0⟩] scope pos) (tDcT wi g tt tk tv (own.map (·.2))) := by
  refine ⟨fun pins s σ H Q I h => ?_⟩
  rw [arm_eval_DictComp]
  refine dc_coreT hu hc hN I hi ok hg ht hk he hs h fun D C s' m H' I' q hn f => ⟨m, hn, fun h'' sb => ?_⟩
  obtain ⟨f0, f1, f2, f3, f4, f5⟩ := f
  exact ⟨.ref D, H', I'.turned (t' := s'.toks) (fun b o hb e => (sb.2 b hb).trans e) f0 f1 f3 f4 f5, rfl, q⟩
theorem dc_itT {J : It} {n : Nat} {G : Hp → Prop} {Y : Nat → Hp → V → Hp → Prop} (w : Walk J n G Y) {g : TG} {tt : TT} {tk tv : TE} {vs : List Nat} {σ : L2.St} {H1 : Hp} {D : Addr} {Qd : Hp → Prop} (Pv : Nat → Hp → Prop) (h0 : Pv 0 (upd H1 D (.dT []))) (hG : ∀ i H, i ≤ n → Pv i H → G H)
    (hs : ∀ i x H H', i < n → Pv i H → Y i H x H' → g x (wipe σ vs) H' fun σ2 H2 => wipe σ2 vs = wipe σ vs ∧ tt σ2 H2 fun b H3 =>
      if b = true then tk σ2 H3 fun y H4 => tv σ2 H4 fun z H5 => ∃ kvs k b, y = .ref b ∧ H5 b = some (.tup (k.map kV)) ∧ H5 D = some (.dT kvs) ∧ kvs.length < sizeLine ∧ Pv (i + 1) (upd H5 D (.dT (putK kvs k z))) else Pv (i + 1) H3) (hd : ∀ H, Pv n H → Qd H) :
    ∃ W : Nat → Nat → Hp → Prop, (∃ m, W 0 m (upd H1 D (.dT []))) ∧ ∀ i m H, W i m H →
      (J.stop i H ∧ Qd H) ∨ (J.go i H ∧ ∃ Nx : Hp → Prop, (∀ H', Nx H' → ∃ m', m' < m ∧ W (i + 1) m' H') ∧ ∀ x H', J.yld i H x H' → g x (wipe σ vs) H' fun σ2 H2 => wipe σ2 vs = wipe σ vs ∧ tt σ2 H2 fun b H3 =>
        if b = true then tk σ2 H3 fun y H4 => tv σ2 H4 fun z H5 => ∃ kvs k b, y = .ref b ∧ H5 b = some (.tup (k.map kV)) ∧ H5 D = some (.dT kvs) ∧ kvs.length < sizeLine ∧ Nx (upd H5 D (.dT (putK kvs k z))) else Nx H3) := by
  refine ⟨fun i m H => m = n - i ∧ i ≤ n ∧ Pv i H, ⟨n, by simp, Nat.zero_le _, h0⟩, ?_⟩
  rintro i m H ⟨rfl, hi, p⟩
  have q := hG i H hi p
  by_cases hlt : i < n
  · refine .inr ⟨w.goes i H hlt q, Pv (i + 1), fun H' p' => ⟨n - (i + 1), by omega, rfl, hlt, p'⟩, fun x H' y => hs i x H H' hlt p (w.yields i H x H' hlt q y)⟩
  · have e : i = n := by omega
    subst e
    exact .inl ⟨w.stops H q, hd H p⟩
theorem dc_it {J : It} {n : Nat} {G : Hp → Prop} {Y : Nat → Hp → V → Hp → Prop} (w : Walk J n G Y) {g : TG} {tt : TT} {tk tv : TE} {vs : List Nat} {σ : L2.St} {H1 : Hp} {D : Addr} {Qd : Hp → Prop} (Pv : Nat → Hp → Prop) (h0 : Pv 0 (upd H1 D (.dK []))) (hG : ∀ i H, i ≤ n → Pv i H → G H)
    (hs : ∀ i x H H', i < n → Pv i H → Y i H x H' → g x (wipe σ vs) H' fun σ2 H2 => wipe σ2 vs = wipe σ vs ∧ tt σ2 H2 fun b H3 =>
      if b = true then tk σ2 H3 fun y H4 => tv σ2 H4 fun z H5 => ∃ kvs k, y = kV k ∧ H5 D = some (.dK kvs) ∧ kvs.length < sizeLine ∧ Pv (i + 1) (upd H5 D (.dK (putK kvs k z))) else Pv (i + 1) H3) (hd : ∀ H, Pv n H → Qd H) :
    ∃ W : Nat → Nat → Hp → Prop, (∃ m, W 0 m (upd H1 D (.dK []))) ∧ ∀ i m H, W i m H →
      (J.stop i H ∧ Qd H) ∨ (J.go i H ∧ ∃ Nx : Hp → Prop, (∀ H', Nx H' → ∃ m', m' < m ∧ W (i + 1) m' H') ∧ ∀ x H', J.yld i H x H' → g x (wipe σ vs) H' fun σ2 H2 => wipe σ2 vs = wipe σ vs ∧ tt σ2 H2 fun b H3 =>
        if b = true then tk σ2 H3 fun y H4 => tv σ2 H4 fun z H5 => ∃ kvs k, y = kV k ∧ H5 D = some (.dK kvs) ∧ kvs.length < sizeLine ∧ Nx (upd H5 D (.dK (putK kvs k z))) else Nx H3) := by
  refine ⟨fun i m H => m = n - i ∧ i ≤ n ∧ Pv i H, ⟨n, by simp, Nat.zero_le _, h0⟩, ?_⟩
  rintro i m H ⟨rfl, hi, p⟩
  have q := hG i H hi p
  by_cases hlt : i < n
  · refine .inr ⟨w.goes i H hlt q, Pv (i + 1), fun H' p' => ⟨n - (i + 1), by omega, rfl, hlt, p'⟩, fun x H' y => hs i x H H' hlt p (w.yields i H x H' hlt q y)⟩
  · have e : i = n := by omega
    subst e
    exact .inl ⟨w.stops H q, hd H p⟩
/-! ### d.setdefault(k, x), the keys tuples -/
theorem d_setdefT {pins : List (Addr × Obj)} {σ : L2.St} {H : Hp} {s : Shared} {E : Value → Shared → Prop} {a b : Addr} {kvs : List (List Key × V)} {k : List Key} {v : V} {r : Value} {Q : Value → Shared → Prop} (hu : X.A.units + 1 < cLine) (I : Inv X pins σ H s) (e : H a = some (.dT kvs))
    (eb : H b = some (.tup (k.map kV))) (hz : kvs.length < sizeLine) (rv : RelV v r) (h1 : ∀ w' u s', valV kvs k = some w' → RelV w' u → Inv X pins σ H s' → Q u s') (h2 : ∀ s', valV kvs k = none → Inv X pins σ (upd H a (.dT (putK kvs k v))) s' → Q r s') :
    wpAny (model X.prog X.w) X.A (call (.builtin "dict.setdefault") [.ref a, .ref b, r]) Q E s := by
  obtain ⟨z, hd, xs, rel, dd⟩ := dt_of I.hok e
  have hzv : xs.length ≤ sizeLine := by rw [← Paired.length rel]; exact z
  have hl : (putK kvs k v).length ≤ sizeLine := by have := length_putK kvs k v; omega
  have rk := rel.val k
  refine call_setdefault_heap (hsz := hzv) (tupleKind_room_in1 hu) (key_of I.hok eb) hd dd (fun p hp => ?_) fun hn h' dd' hs => ?_
  · cases hv : valV kvs k with
    | none =>
      rw [hv, show PySem.atKey xs k = some p from hp] at rk
      exact rk.elim
    | some w' =>
      rw [hv, show PySem.atKey xs k = some p from hp] at rk
      exact h1 w' p.2 _ hv rk (I.tok _)
  · obtain ⟨q, es, ep, hq, h2', h3, h4, _, h5⟩ := dd'
    have hv : valV kvs k = none := by
      cases hv : valV kvs k with
      | none => rfl
      | some w' =>
        rw [hv, show PySem.atKey xs k = none from hn] at rk
        exact rk.elim
    refine h2 _ hv (d_write I (by rw [e]; exact True.intro) hs ⟨q, hq⟩ ⟨hl, hd, _, (rel.put k eb rv).keeps fun c ys ec => ?_, q, es, ep, hq, h2', h3, h4, h5⟩)
    rw [upd_ne (ne_of ec e (fun z => nomatch z))]
    exact ec
def tDSd (td ty tx : TE) : TE := fun σ H Q => td σ H fun x H1 => ∃ a, x = .ref a ∧ IsD H1 a ∧ ty σ H1 fun y H2 => tx σ H2 fun z H3 => ∃ kvs k b, H3 a = some (.dT kvs) ∧ y = .ref b ∧ H3 b = some (.tup (k.map kV)) ∧ kvs.length < sizeLine ∧
  ∀ kvs' H' v, ((kvs' = kvs ∧ H' = H3 ∧ valV kvs k = some v) ∨ (kvs' = putK kvs k z ∧ H' = upd H3 a (.dT (putK kvs k z)) ∧ v = z ∧ valV kvs k = none)) → Q v H'
theorem pe_dsd {o e f : Expr} {apos cpos : Pos} {td ty tx : TE} (hu : X.A.units + 1 < cLine) (ho : PE X o td) (he : PE X e ty) (hf : PE X f tx) (m : M2 X o "setdefault" apos e f cpos) : PE X (.Call (.Attribute o "setdefault" apos) [e, f] [] cpos) (tDSd td ty tx) := by
  refine ⟨fun pins s σ H Q I h => ?_⟩
  refine wpAny_Call_method m.base m.few m.line PySem.F.plainAttrs_dict PySem.F.slot_dict_setdefault PySem.F.type_dict_setdefault (thn (ho.run pins s σ H _ I h) fun u s1 ⟨x, H1, I1, rx, a, ex, d, q1⟩ => ?_)
  subst ex
  obtain rfl : u = Value.ref a := rx
  obtain ⟨t1, t2, _⟩ := isD_at I1 d
  refine ⟨t1, t2, ?_⟩
  rw [m.trees]
  refine Calls.callWith_builtin rfl (Calls.evalArgs_plain (Calls.spliced_cons (thn (he.run pins s1 σ H1 _ I1 q1) fun iv s2 ⟨y, H2, I2, ry, q2⟩ =>
    Calls.spliced_cons (thn (hf.run pins s2 σ H2 _ I2 q2) fun fv s3 ⟨z, H3, I3, rz, kvs, k, b, hd, ey, eb, hl, q3⟩ => Calls.spliced_nil ?_))))
  subst ey
  obtain rfl : iv = Value.ref b := ry
  exact d_setdefT hu I3 hd eb hl rz (fun w' u s' hv rw' I' => ⟨w', H3, I', rw', q3 _ _ w' (.inl ⟨rfl, rfl, hv⟩)⟩) fun s' hv I' => ⟨z, _, I', rz, q3 _ _ z (.inr ⟨rfl, rfl, rfl, hv⟩)⟩

end
end Xr

set_option Elab.async false
set_option linter.all false
set_option maxRecDepth 100000
set_option maxHeartbeats 2000000
/-! x = {..: .. for ..}, x a local -/
namespace Xr
open PySem PySem.Spec PyProof.Rows L2
section
variable {X : Cx}
theorem sw_trueD {kx vx : Expr} {gs : List Comprehension} {scope : Scope} {pos py : Pos} {y : Str} {l : Nat} {env : Env} (hk : env.scope.kind = .function) (hy : env.scope.names.lookup y = some .local) (hl : (py.line == pos.line) = true)
    (ha : (scope.names.any fun (n, k) => n == y && (k == .local || k == .cell)) = false) : swapsWith (.DictComp kx vx gs scope pos) (some (.Name y py)) l env = pure true := by
  have ky : env.kindOf y = some .local := hy
  have hb : env.blockKind = .function := by unfold Env.blockKind; rw [hk]; rfl
  unfold swapsWith
  simp only [hb, ky, ha, Expr.pos, hl]
  rfl
theorem ps_setDc {i : Nat} {y : Str} {py : Pos} {kx vx tg iter : Expr} {ifs : List Expr} {scope : Scope} {own : List (Str × Nat)} {pos spos : Pos} {wi : TI} {g : TG} {tt : TT} {tk tv : TE} (hc : X.calm = true) (hN : X.N.Nodup) (hy : X.N[i]? = some y) (hyl : X.env.scope.names.lookup y = some .local)
    (hsw : swapsWith (.DictComp kx vx [⟨tg, iter, ifs, 0⟩] scope pos) (some (.Name y py)) spos.line X.env = pure true) (hi : PI X tg iter wi) (ok : BlkOk X.N X.env.scope scope own)
    (hg : ∀ (s : Shared) (H : Hp) (C : Addr) (cl : List (Str × Addr)) (fp : List Addr), PG (X.blk s H scope (compEnvC scope cl C X.env) fp) tg g) (ht : ∀ (s : Shared) (H : Hp) (C : Addr) (cl : List (Str × Addr)) (fp : List Addr), PTs (X.blk s H scope (compEnvC scope cl C X.env) fp) ifs tt)
    (hk : ∀ (s : Shared) (H : Hp) (C : Addr) (cl : List (Str × Addr)) (fp : List Addr), PE (X.blk s H scope (compEnvC scope cl C X.env) fp) kx tk)
    (he : ∀ (s : Shared) (H : Hp) (C : Addr) (cl : List (Str × Addr)) (fp : List Addr), PE (X.blk s H scope (compEnvC scope cl C X.env) fp) vx tv) (hs : ∀ x, foldedSetIterable iter X.env x = pure x := by intro _; rfl) :
    PS X (.Assign [.Name y py] (.DictComp kx vx [⟨tg, iter, ifs, 0⟩] scope pos) spos) (tAsg (tDc wi g tt tk tv (own.map (·.2))) (gName i)) := by
  refine ⟨fun pins s σ H D I h => ?_⟩
  rw [exec_Assign_Name_used _ _ _ _ hsw]
  refine wpAny_bind (wpAny_standAt (wpAny_bind ?_))
  show wpAny _ X.A (do let _ ← comprehension (.DictComp kx vx [⟨tg, iter, ifs, 0⟩] scope pos) scope X.env (firstIterPos [⟨tg, iter, ifs, 0⟩] pos) newDict false (eval iter X.env) (some (assign (.Name y py) X.env))) _ _ s
  have h : tDc wi g tt tk tv (own.map (·.2)) σ H (fun x H1 => gName i x σ H1 D.nx) := h
  refine wpAny_bind (thn (dc_core (Qf := fun _ s' => SP X pins D .next s') hc hN I hi ok hg ht hk he hs h fun L C s' m H' I' q hn f => ?_) fun _ s' hq => wpAny_pure (wpAny_pure hq))
  show wpAny _ _ (assign (.Name y py) X.env (.ref L)) _ _ _
  refine wpAny_assign_Name (store_ok2 (v := V.ref L) I' hN hy (.inl hyl) rfl (fun s2 I2 ⟨a, sb, ha⟩ => ?_) (.inr hyl))
  obtain ⟨f0, f1, f2, f3, f4, f5⟩ := f
  have haC : C ≠ a := by
    rcases ha with z | z
    · rw [z]; exact f1
    · exact fun e => f4 y a z e.symm
  refine ⟨m, hn.sameBut sb haC, fun h3 sb3 => ?_⟩
  exact ⟨_, H', I2.turned (t' := s2.toks) (fun b o hb e => (sb3.2 b hb).trans e) f0 f1 f3 f4 f5, q⟩
theorem ps_setDcT {i : Nat} {y : Str} {py : Pos} {kx vx tg iter : Expr} {ifs : List Expr} {scope : Scope} {own : List (Str × Nat)} {pos spos : Pos} {wi : TI} {g : TG} {tt : TT} {tk tv : TE} (hu : X.A.units + 1 < cLine) (hc : X.calm = true) (hN : X.N.Nodup) (hy : X.N[i]? = some y) (hyl : X.env.scope.names.lookup y = some .local)
    (hsw : swapsWith (.DictComp kx vx [⟨tg, iter, ifs, 0⟩] scope pos) (some (.Name y py)) spos.line X.env = pure true) (hi : PI X tg iter wi) (ok : BlkOk X.N X.env.scope scope own)
    (hg : ∀ (s : Shared) (H : Hp) (C : Addr) (cl : List (Str × Addr)) (fp : List Addr), PG (X.blk s H scope (compEnvC scope cl C X.env) fp) tg g) (ht : ∀ (s : Shared) (H : Hp) (C : Addr) (cl : List (Str × Addr)) (fp : List Addr), PTs (X.blk s H scope (compEnvC scope cl C X.env) fp) ifs tt)
    (hk : ∀ (s : Shared) (H : Hp) (C : Addr) (cl : List (Str × Addr)) (fp : List Addr), PE (X.blk s H scope (compEnvC scope cl C X.env) fp) kx tk)
    (he : ∀ (s : Shared) (H : Hp) (C : Addr) (cl : List (Str × Addr)) (fp : List Addr), PE (X.blk s H scope (compEnvC scope cl C X.env) fp) vx tv) (hs : ∀ x, foldedSetIterable iter X.env x = pure x := by intro _; rfl) :
    PS X (.Assign [.Name y py] (.DictComp kx vx [⟨tg, iter, ifs, 0⟩] scope pos) spos) (tAsg (tDcT wi g tt tk tv (own.map (·.2))) (gName i)) := by
  refine ⟨fun pins s σ H D I h => ?_⟩
  rw [exec_Assign_Name_used _ _ _ _ hsw]
  refine wpAny_bind (wpAny_standAt (wpAny_bind ?_))
  show wpAny _ X.A (do let _ ← comprehension (.DictComp kx vx [⟨tg, iter, ifs, 0⟩] scope pos) scope X.env (firstIterPos [⟨tg, iter, ifs, 0⟩] pos) newDict false (eval iter X.env) (some (assign (.Name y py) X.env))) _ _ s
  have h : tDcT wi g tt tk tv (own.map (·.2)) σ H (fun x H1 => gName i x σ H1 D.nx) := h
  refine wpAny_bind (thn (dc_coreT hu (Qf := fun _ s' => SP X pins D .next s') hc hN I hi ok hg ht hk he hs h fun L C s' m H' I' q hn f => ?_) fun _ s' hq => wpAny_pure (wpAny_pure hq))
  show wpAny _ _ (assign (.Name y py) X.env (.ref L)) _ _ _
  refine wpAny_assign_Name (store_ok2 (v := V.ref L) I' hN hy (.inl hyl) rfl (fun s2 I2 ⟨a, sb, ha⟩ => ?_) (.inr hyl))
  obtain ⟨f0, f1, f2, f3, f4, f5⟩ := f
  have haC : C ≠ a := by
    rcases ha with z | z
    · rw [z]; exact f1
    · exact fun e => f4 y a z e.symm
  refine ⟨m, hn.sameBut sb haC, fun h3 sb3 => ?_⟩
  exact ⟨_, H', I2.turned (t' := s2.toks) (fun b o hb e => (sb3.2 b hb).trans e) f0 f1 f3 f4 f5, q⟩
end
end Xr

set_option Elab.async false
set_option linter.all false
set_option maxRecDepth 100000
set_option maxHeartbeats 4000000
namespace Xr
open PySem PySem.Spec PyProof.Rows L2
section
variable {X : Cx}
/-! ### max of a pair -/
def rMaxT (K : PySem.W.Frag) : List V → Hp → VK → Prop := fun vs H Q => ∃ (p : Addr) (i j : Int), vs = [V.ref p] ∧ SqT K H p [.int i, .int j] ∧ Q (.int (max i j)) H
theorem cr_maxT (hc : X.calm = true) (hu : X.A.units + 64 < cLine) : CallR X (.builtin "max") (rMaxT X.K) := by
  intro pins s σ H vs us Q I r h
  obtain ⟨p, i, j, rfl, hs, q⟩ := h
  obtain ⟨its, rv, hl, _⟩ := I.tuple hs
  rw [Vals.ref1 r]
  cases rv with
  | cons r1 rr =>
  cases rr with
  | cons r2 rr =>
  cases rr
  obtain ⟨t, rfl⟩ := r1
  obtain ⟨t', rfl⟩ := r2
  refine PySem.W.max_tuple_data (x := .int i) (xs := [.int j]) (I.ok.hd hc) (show s.heap.IsTuple p _ from hl) (ReadsAll.cons (Reads.int i t) (ReadsAll.cons (Reads.int j t') ReadsAll.nil)) ⟨fun x hx y hy => ?_, fun x hx => ?_⟩ ?_ fun k v h' tk bs hv hr hk => ?_
  · have e1 : x = .int i ∨ x = .int j := by simpa using hx
    have e2 : y = .int i ∨ y = .int j := by simpa using hy
    rcases e1 with rfl | rfl <;> rcases e2 with rfl | rfl <;> rfl
  · have e1 : x = .int i ∨ x = .int j := by simpa using hx
    rcases e1 with rfl | rfl <;> exact fun z => nomatch z
  · have e : PyData.depthAll [.int i, .int j] ≤ 3 := by simp [PyData.depthAll, PyData.depth]
    omega
  · have e : PySem.W.maxD (.int i) [.int j] = .int (max i j) := by
      have := PySem.W.maxD_ints i [j]
      simpa using this
    rw [e] at hr
    cases hr with
    | int _ tt => exact ⟨.int (max i j), H, I.kept hk, ⟨_, rfl⟩, q⟩
/-! ### sorted of data -/
def rSortD (K : PySem.W.Frag) : List V → Hp → VK → Prop := fun vs H Q => ∃ (a : Addr) (bs : List (V × PyData)), vs = [V.ref a] ∧ SqL K H a (bs.map (·.1)) ∧ (∀ b ∈ bs, Dp K H b.1 b.2) ∧ PySem.W.AllAlike (bs.map (·.2)) ∧ PySem.W.Sortable (bs.map (·.2)) ∧ (∀ b ∈ bs, b.2.depth ≤ 60) ∧
  ∀ p, H p = none → Q (.ref p) (upd H p (.lst ((bs.mergeSort (PySem.W.dataLe false fun b => b.2)).map (·.1))))
theorem each_rel {bs : List (V × PyData)} : ∀ {its : List Value}, Vals (bs.map (·.1)) its → PySem.W.EachIs (fun v (b : V × PyData) => RelV b.1 v) its bs := by
  induction bs with
  | nil =>
    intro its h
    cases h
    exact .nil
  | cons b r ih =>
    intro its h
    cases h with
    | cons h1 h2 => exact .cons h1 (ih h2)
theorem rel_each {bs : List (V × PyData)} : ∀ {its : List Value}, PySem.W.EachIs (fun v (b : V × PyData) => RelV b.1 v) its bs → Vals (bs.map (·.1)) its := by
  induction bs with
  | nil =>
    intro its h
    cases h
    exact .nil
  | cons b r ih =>
    intro its h
    cases h with
    | cons h1 h2 => exact .cons h1 (ih h2)
theorem cr_sortedD (hu : X.A.units + 64 < cLine) : CallR X (.builtin "sorted") (rSortD X.K) := by
  intro pins s σ H vs us Q I r h
  obtain ⟨a, bs, rfl, hs, hD, hal, hk, hd, q⟩ := h
  obtain ⟨its, rv, hl, hz⟩ := I.list hs
  rw [Vals.ref1 r]
  have e := each_rel rv
  have hlen : bs.length ≤ sizeLine := by simpa using hz
  have er : PySem.W.EachIs (fun v (b : V × PyData) => ∃ as, Reads s.heap v b.2 as) its bs := (PySem.W.each_mem e).mono fun v b ⟨hr, hb⟩ => Dp.reads I b.2 b.1 v (hD b hb) hr
  refine PySem.W.sorted_data (enc := fun b : V × PyData => b.2) hl.isList e er hal hk hlen (fun b hb => by have := hd b hb; omega) fun out ho he => ?_
  have hn : H (s.heap.objs.size + 1) = none := I.hok.fresh (Nat.le_succ _)
  obtain ⟨ep, he'⟩ := PyProof.Rows.sortedAll_at s.heap its out.toArray
  have hl2 : ((bs.mergeSort (PySem.W.dataLe false fun b => b.2)).map (·.1)).length ≤ sizeLine := by
    rw [List.length_map, List.length_mergeSort]
    exact hlen
  exact ⟨.ref _, upd H (s.heap.objs.size + 1) (.lst ((bs.mergeSort (PySem.W.dataLe false fun b => b.2)).map (·.1))), I.laid (t' := s.toks) (fun _ _ => PyProof.Rows.sortedAll_old) (Nat.le_succ _) ⟨hl2, out, ep, rel_each he, he'⟩, rfl, q _ hn⟩
/-! ### xs[i] += e -/
theorem get_list : PGet X (rIxL X.K) := by
  intro pins s σ H o i ov iv Q I rx ry h
  obtain ⟨p, xs, i, z, rfl, rfl, hq, he, q⟩ := h
  cases rx
  obtain ⟨t, rfl⟩ := ry
  obtain ⟨its, r, pl, hz⟩ := I.list hq
  obtain ⟨j, h1, h2, h3, h4, h5⟩ := atI_get he
  obtain ⟨w, ew, rw'⟩ := r.get h2
  have hl := r.length
  have hn := line63
  have fin : EP X pins σ Q w s := ⟨z, H, I, rw', q⟩
  by_cases h0 : 0 ≤ i
  · have hj : i.toNat = j := by
      rw [seqIndex_of h0 h5] at h1
      exact Option.some.inj h1
    exact wpAny_getItem_list pl.isList h0 (by omega) (by rw [hj]; simpa using ew) fin
  · have hj : (i + (its.toArray.size : Int)).toNat = j := by
      rw [seqIndex_neg (by omega) h4] at h1
      rw [List.size_toArray, ← hl]
      exact Option.some.inj h1
    exact wpAny_getItem_list_neg pl.isList (by omega) (by rw [List.size_toArray] <;> omega) (by omega) (by rw [hj]; simpa using ew) fin
/-! ### {k: v}, k one tuple -/
def tDisp1 (tk tv : TE) : TE := fun σ H Q => ∀ p, H p = none → tPairs [(tk, tv)] σ (upd H p (.dT [])) fun ps H2 => ∃ y z, ps = [(y, z)] ∧ ∃ b k, y = .ref b ∧ H2 b = some (.tup (k.map kV)) ∧ H2 p = some (.dT []) ∧ Q (.ref p) (upd H2 p (.dT [(k, z)]))
theorem pe_disp1 {k v : Expr} {tk tv : TE} {pos : Pos} (hu : X.A.units + 1 < cLine) (hk : PE X k tk) (hv : PE X v tv) : PE X (.Dict [some k] [v] pos) (tDisp1 tk tv) := by
  refine ⟨fun pins s σ H Q I q => ?_⟩
  have hn := I.hok.fresh (Nat.le_refl s.heap.objs.size)
  have I1 := I.laid (a := s.heap.objs.size) (o := .dT []) (h' := s.heap.push { cls := .type "dict", data := .dict #[] }) (t' := s.toks) (fun _ _ q => Heap.get?_push_of_some _ q) (Nat.le_refl _) (dt_empty s.heap I.big)
  have P : PPs X pos [some k] [v] [(tk, tv)] := pps_cons hk hv pps_nil
  have hshape : (evalEachOpt [some k] X.env).zip ((evalEach [v] X.env).map fun v => do let x ← v; standAt pos; pure x) = (pairTrees [some k] [v] X.env pos).map fun p => (some p.1, p.2) := by rfl
  have hl1 : (pairTrees [some k] [v] X.env pos).length = 1 := by rfl
  rw [arm_eval_Dict, hshape, dictDisplay_pairs _ (fun z => by rw [z] at hl1; cases hl1) (by omega)]
  refine wpAny_bind (wpAny_standAt (wpAny_bind (wpAny_subDictH (knd := tupleKind (mixKind X.prog X.w)) (Q := fun d s' => wpAny (model X.prog X.w) X.A (pure (Value.ref d)) (EP X pins σ Q) X.xe s') (show X.A.units < cLine by omega) (by omega) ?_)))
  refine thn (P.run pins _ σ _ (fun ps H2 => ∃ y z, ps = [(y, z)] ∧ ∃ b k, y = .ref b ∧ H2 b = some (.tup (k.map kV)) ∧ H2 s.heap.objs.size = some (.dT []) ∧ Q (.ref s.heap.objs.size) (upd H2 s.heap.objs.size (.dT [(k, z)]))) I1 (q _ hn)) fun vs s2 ⟨ps, H2, I2, rel, y, z, eps, b, kk, ey, eb, e0, q2⟩ => ?_
  subst eps ey
  rcases vs with _ | ⟨⟨u, r⟩, vs'⟩
  · cases rel
  cases rel with
  | cons r1 rr =>
  cases rr
  obtain ⟨ry, rz⟩ := r1
  obtain rfl : u = Value.ref b := ry
  obtain ⟨_, hd, xs, rel, dd⟩ := dt_of I2.hok e0
  cases rel
  refine ⟨[(kk, b, r)], ⟨rfl, rfl, key_of I2.hok eb, trivial⟩, dd, fun h' tk' dd' hs => wpAny_pure ⟨.ref s.heap.objs.size, _, ?_, rfl, q2⟩⟩
  obtain ⟨q, es, ep, hq, h2, h3, h4, _, h5⟩ := dd'
  refine d_write I2 (by rw [e0]; exact True.intro) hs ⟨q, hq⟩ ⟨by show 1 ≤ sizeLine; decide, hd, [(kk, b, r)], .cons ⟨rfl, ?_, rz⟩ .nil, q, es, ep, hq, h2, h3, h4, h5⟩
  rw [upd_ne (ne_of eb e0 (fun z => nomatch z))]
  exact eb
end
end Xr

set_option Elab.async false
set_option linter.all false
set_option maxRecDepth 100000
set_option maxHeartbeats 2000000
/-! what the defs speak of: flat tuples, events, rows; bundles of a def's facts -/
namespace Rr
open PySem PySem.Spec PyProof.Rows L2 Xr
/-! ### bundles -/
structure Gf (P : Program) (w : World) (K : PySem.W.Frag) (mg : Str → Option Value) (base : Heap) (k : Nat) (x : Str) (ps : List Str) (sp : Sp) where
  f : Addr
  fd : FuncData
  F : FnOk P w K mg base CX0 k f fd ps sp
  mg : mg x = some (.ref f)
  kp : PySem.W.keepIn K (.ref f) = true
  b : Binds K fd ps []
structure Gm (P : Program) (w : World) (K : PySem.W.Frag) (mg : Str → Option Value) (base : Heap) (k : Nat) (C : Addr) (m : Str) (ps : List Str) (sp : Sp) where
  f : Addr
  fd : FuncData
  cl : Cls K C
  F : FnOk P w K mg base CX0 k f fd ps sp
  m : Meth K C m f
  b : Binds K fd ps []
structure Gk (P : Program) (w : World) (K : PySem.W.Frag) (mg : Str → Option Value) (base : Heap) (k : Nat) (x : Str) (C : Addr) (ps : List Str) (sp : Sp) where
  f : Addr
  fd : FuncData
  M : Mk K C f
  F : FnOk P w K mg base CX0 k f fd ps sp
  mg : mg x = some (.ref C)
  b : Binds K fd ps []
section
variable {P : Program} {w : World} {K : PySem.W.Frag} {mg : Str → Option Value} {base : Heap} {k n : Nat} {x m : Str} {C : Addr} {ps : List Str} {sp : Sp} {A : Around}
theorem Gf.room (_ : Gf P w K mg base k x ps sp) (hr : Room n A) (h : k ≤ n := by first | decide | exact Nat.le_refl _) : Room k A := hr.mono h
theorem Gm.room (_ : Gm P w K mg base k C m ps sp) (hr : Room n A) (h : k ≤ n := by first | decide | exact Nat.le_refl _) : Room k A := hr.mono h
theorem Gk.room (_ : Gk P w K mg base k x C ps sp) (hr : Room n A) (h : k + 1 ≤ n := by first | decide | exact Nat.le_refl _) : Room (k + 1) A := hr.mono h
theorem ok0 {x qual : Str} {pa : Arguments} {bd : List Stmt} {sc : Scope} {dvs : List V} {f : Addr} {fd : FuncData} {N ps : List Str} {k : Nat} {sp : Sp} (F : FunD K x qual pa bd sc dvs [] f fd) (S : FnScope N ps sc) (len : ∀ vs H Q E, sp vs H Q E → vs.length = ps.length)
    (hb : ∀ (cdv : Value) (A : Around) (outer : List Env) (s : Shared) (H : Hp) (vs : List V) (Q : VK) (E : XK), Room k (A.deeper (envOfC qual sc s.heap.objs.size f cdv)) → sp vs H Q E →
      ∃ t, PSs (cxOf CX0 P w K mg base N qual sc f cdv A outer s H E).nox bd t ∧ t { nx := fun _ H' => Q .non H', rt := Q } (start N vs) H) : FnOk P w K mg base CX0 (k + 1) f fd ps sp :=
  F.ok S len fun cdv A outer s H vs Q E hr h => let ⟨t, a, q⟩ := hb cdv A outer s H vs Q E hr h; ⟨t, a.nox, q⟩
end
/-! ### heaps -/
theorem stups {H H' : Hp} (e : Same H H') : TupS H H' := fun t zs h => e t _ h
theorem tur (H : Hp) : TupS H H := fun _ _ h => h
theorem tut {H H1 H2 : Hp} (a : TupS H H1) (b : TupS H1 H2) : TupS H H2 := fun t zs h => b t zs (a t zs h)
theorem same_new {H : Hp} {p : Addr} {o : HO} (h : H p = none) : Same H (upd H p o) := fun a u e => by
  rw [upd_ne (ne_of_none e h)]
  exact e
/-- a change of what H does not know -/
theorem same_mut {H H' : Hp} {p : Addr} {o : HO} (e : Same H H') (h : H p = none) : Same H (upd H' p o) := fun a u ha => by
  rw [upd_ne (ne_of_none ha h)]
  exact e a u ha
theorem tups_mut {H : Hp} {p : Addr} {o u : HO} (h : H p = some u) (hu : ∀ zs, u ≠ .tup zs) : TupS H (upd H p o) := fun t zs e => by
  rw [upd_ne (fun q => hu zs (Option.some.inj (by rw [← h, ← q, e])))]
  exact e
theorem tups_new {H : Hp} {p : Addr} {o : HO} (h : H p = none) : TupS H (upd H p o) := stups (same_new h)
/-! ### flat tuples -/
def TupV (H : Hp) (v : V) (xs : List V) : Prop := ∃ a, v = .ref a ∧ H a = some (.tup xs)
theorem TupV.mono {H H' : Hp} {v : V} {xs : List V} (e : TupS H H') (h : TupV H v xs) : TupV H' v xs := let ⟨a, q, z⟩ := h; ⟨a, q, e a xs z⟩
theorem TupV.new {H : Hp} {p : Addr} {xs : List V} : TupV (upd H p (.tup xs)) (.ref p) xs := ⟨p, rfl, upd_same⟩
theorem TupV.inj {H : Hp} {v : V} {xs ys : List V} (a : TupV H v xs) (b : TupV H v ys) : xs = ys := by
  obtain ⟨p, rfl, h⟩ := a
  obtain ⟨q, e, h'⟩ := b
  cases e
  rw [h] at h'
  cases h'
  rfl
/-- an event's name and number -/
abbrev Id := Str × Nat
def kE (e : Id) : List Key := [.inr e.1, .inl (e.2 : Int)]
def idVs (e : Id) : List V := [.str e.1, .int (e.2 : Int)]
theorem kE_map (e : Id) : (kE e).map kV = idVs e := rfl
theorem kE_inj {e f : Id} (h : kE e = kE f) : e = f := by
  obtain ⟨a, b⟩ := e
  obtain ⟨c, d⟩ := f
  simp only [kE, List.cons.injEq, Sum.inr.injEq, Sum.inl.injEq, and_true] at h
  obtain ⟨h1, h2⟩ := h
  subst h1
  have : b = d := by omega
  rw [this]
def IdV (H : Hp) (v : V) (e : Id) : Prop := TupV H v (idVs e)
def IdP (H : Hp) (v : V) (p : Id × Id) : Prop := ∃ x y, TupV H v [x, y] ∧ IdV H x p.1 ∧ IdV H y p.2
theorem IdV.mono {H H' : Hp} {v : V} {e : Id} (t : TupS H H') (h : IdV H v e) : IdV H' v e := TupV.mono t h
theorem IdP.mono {H H' : Hp} {v : V} {p : Id × Id} (t : TupS H H') (h : IdP H v p) : IdP H' v p := let ⟨x, y, a, b, c⟩ := h; ⟨x, y, a.mono t, b.mono t, c.mono t⟩
/-- a recorded event -/
inductive Ev where
  | set (x : Str) (v : Int) | inp (x : Str) (v : Int) | snd (q : Str) (v : Int) | rcv (t : Bool) (q x : Str) (v : Int) | chk
  deriving DecidableEq
def Ev.word : Ev → Str
  | .set _ _ => "set"
  | .inp _ _ => "input"
  | .snd _ _ => "send"
  | .rcv false _ _ _ => "receive"
  | .rcv true _ _ _ => "take"
  | .chk => "checkpoint"
def Ev.vs : Ev → List V
  | .set x v => [.str "set", .str x, .int v]
  | .inp x v => [.str "input", .str x, .int v]
  | .snd q v => [.str "send", .str q, .int v]
  | .rcv t q x v => [.str (Ev.rcv t q x v).word, .str q, .str x, .int v]
  | .chk => [.str "checkpoint"]
def EvV (H : Hp) (v : V) (e : Ev) : Prop := TupV H v e.vs
abbrev Row := Str × List Ev
def EvsV (H : Hp) (v : V) (l : List Ev) : Prop := ∃ xs, TupV H v xs ∧ Paired (EvV H) xs l
def RowV (H : Hp) (v : V) (r : Row) : Prop := ∃ y, TupV H v [.str r.1, y] ∧ EvsV H y r.2
def RowsV (H : Hp) (v : V) (rs : List Row) : Prop := ∃ xs, TupV H v xs ∧ Paired (RowV H) xs rs
theorem EvV.mono {H H' : Hp} {v : V} {e : Ev} (t : TupS H H') (h : EvV H v e) : EvV H' v e := TupV.mono t h
theorem EvsV.mono {H H' : Hp} {v : V} {l : List Ev} (t : TupS H H') (h : EvsV H v l) : EvsV H' v l := let ⟨xs, a, b⟩ := h; ⟨xs, a.mono t, L2.Paired.mapP b fun _ _ z => z.mono t⟩
theorem RowV.mono {H H' : Hp} {v : V} {r : Row} (t : TupS H H') (h : RowV H v r) : RowV H' v r := let ⟨y, a, b⟩ := h; ⟨y, a.mono t, b.mono t⟩
theorem RowsV.mono {H H' : Hp} {v : V} {l : List Row} (t : TupS H H') (h : RowsV H v l) : RowsV H' v l := let ⟨xs, a, b⟩ := h; ⟨xs, a.mono t, L2.Paired.mapP b fun _ _ z => z.mono t⟩
/-! ### pairs of lists -/
theorem pget {α β : Type} {F : α → β → Prop} : ∀ {xs : List α} {ys : List β} {i : Nat} {x : α}, Paired F xs ys → xs[i]? = some x → ∃ y, ys[i]? = some y ∧ F x y
  | _, _, _, _, .nil, e => by simp at e
  | _, _, 0, _, .cons r _, e => by
    simp at e
    subst e
    exact ⟨_, rfl, r⟩
  | _, _, i + 1, x, .cons _ t, e => by
    obtain ⟨y, h1, h2⟩ := pget (i := i) (x := x) t (by simpa using e)
    exact ⟨y, by simpa using h1, h2⟩
theorem pget' {α β : Type} {F : α → β → Prop} : ∀ {xs : List α} {ys : List β} {i : Nat} {y : β}, Paired F xs ys → ys[i]? = some y → ∃ x, xs[i]? = some x ∧ F x y
  | _, _, _, _, .nil, e => by simp at e
  | _, _, 0, _, .cons r _, e => by
    simp at e
    subst e
    exact ⟨_, rfl, r⟩
  | _, _, i + 1, x, .cons _ t, e => by
    obtain ⟨y, h1, h2⟩ := pget' (i := i) (y := x) t (by simpa using e)
    exact ⟨y, by simpa using h1, h2⟩
theorem plen {α β : Type} {F : α → β → Prop} {xs : List α} {ys : List β} (h : Paired F xs ys) : xs.length = ys.length := Paired.length h
theorem pappend {α β : Type} {F : α → β → Prop} : ∀ {xs zs : List α} {ys ws : List β}, Paired F xs ys → Paired F zs ws → Paired F (xs ++ zs) (ys ++ ws)
  | _, _, _, _, .nil, s => s
  | _, _, _, _, .cons r t, s => .cons r (pappend t s)
theorem pmap {α β : Type} (f : β → α) : ∀ (ys : List β), Paired (fun x y => x = f y) (ys.map f) ys
  | [] => .nil
  | _ :: ys => .cons rfl (pmap f ys)
theorem plist {α β : Type} {f : β → α} : ∀ {xs : List α} {ys : List β}, Paired (fun x y => x = f y) xs ys → xs = ys.map f
  | _, _, .nil => rfl
  | _, _, .cons h t => by rw [List.map_cons, h, plist t]
/-! ### small -/
theorem sz {n : Nat} (h : n ≤ 100000) : n ≤ sizeLine := Nat.le_trans h (by decide)
theorem s0 : 0 ≤ sizeLine := Nat.zero_le _
theorem s1 : 1 ≤ sizeLine := by decide
theorem s2 : 2 ≤ sizeLine := by decide
theorem s3 : 3 ≤ sizeLine := by decide
theorem s4 : 4 ≤ sizeLine := by decide
theorem szl {n : Nat} (h : n ≤ 100000) : n < sizeLine := Nat.lt_of_le_of_lt h (by decide)
theorem sq {K : PySem.W.Frag} {H : Hp} {a : Addr} {xs : List V} (h : H a = some (.lst xs)) : SqL K H a xs := .inl (.inl h)
theorem sqt {K : PySem.W.Frag} {H : Hp} {a : Addr} {xs : List V} (h : H a = some (.tup xs)) : SqT K H a xs := .inl (.inl h)
theorem tyl {K : PySem.W.Frag} {H : Hp} {a : Addr} {xs : List V} (h : H a = some (.lst xs)) : tyV K "list" (.ref a) H := .inl ⟨rfl, _, .inl (.inl h)⟩
end Rr

set_option Elab.async false
set_option linter.all false
set_option maxRecDepth 100000
set_option maxHeartbeats 2000000
/-! loops and comprehensions with pure parts -/
namespace Rr
open PySem PySem.Spec PyProof.Rows L2 Xr
theorem yat_same {xs : List V} {i : Nat} {H H' : Hp} {x : V} (y : YAt xs i H x H') : Same H H' := by
  rw [y.1]
  exact Same.refl H
theorem ypair_same {f g : Nat → Option V} {i : Nat} {H H' : Hp} {x : V} (y : YPair f g i H x H') : Same H H' := by
  obtain ⟨T, x, y, _, h, rfl, _⟩ := y
  exact same_new h
/-- a comprehension whose parts are pure: R tells of an item's element, p whether it is taken -/
theorem lc_pure {J : It} {n : Nat} {G : Hp → Prop} {Y : Nat → Hp → V → Hp → Prop} (w : Walk J n G Y) {β : Type} {g : TG} {tt : TT} {te : TE} {vs : List Nat} {σ : L2.St} {H : Hp} {D : Addr} {Qd : Hp → Prop} (hD : H D = none) (items : List β) (hn : items.length = n) (hz : n ≤ 100000)
    (R : β → V → Hp → Prop) (hR : ∀ b v H H', TupS H H' → R b v H → R b v H') (p : β → Bool) (hG : ∀ H', Same H H' → G H') (hY : ∀ i H1 x H2, Y i H1 x H2 → Same H1 H2)
    (hs : ∀ i b x H1 H2 (k : Bool → V → Hp → Prop), items[i]? = some b → Same H H1 → Y i H1 x H2 → (∀ v H', Same H2 H' → p b = true → R b v H' → k true v H') → (∀ H', Same H2 H' → p b = false → k false .non H') →
      g x (wipe σ vs) H2 fun σ2 H3 => wipe σ2 vs = wipe σ vs ∧ tt σ2 H3 fun bb H4 => if bb = true then te σ2 H4 fun v H5 => k true v H5 else k false .non H4)
    (hd : ∀ ys H', Same H H' → H' D = some (.lst ys) → Paired (fun v b => R b v H') ys (items.filter p) → Qd H') :
    ∃ W : Nat → Nat → Hp → Prop, (∃ m, W 0 m (upd H D (.lst []))) ∧ ∀ i m H, W i m H →
      (J.stop i H ∧ Qd H) ∨ (J.go i H ∧ ∃ Nx : Hp → Prop, (∀ H', Nx H' → ∃ m', m' < m ∧ W (i + 1) m' H') ∧ ∀ x H', J.yld i H x H' → g x (wipe σ vs) H' fun σ2 H2 => wipe σ2 vs = wipe σ vs ∧ tt σ2 H2 fun b H3 =>
        if b = true then te σ2 H3 fun y H4 => ∃ acc, H4 D = some (.lst acc) ∧ acc.length < sizeLine ∧ Nx (upd H4 D (.lst (acc ++ [y]))) else Nx H3) := by
  refine lc_it w (fun i H1 => Same H H1 ∧ ∃ ys, H1 D = some (.lst ys) ∧ Paired (fun v b => R b v H1) ys ((items.take i).filter p) ∧ ys.length ≤ i) ⟨same_new hD, [], upd_same, by simpa using Paired.nil, Nat.le_refl _⟩ (fun i H1 _ h => hG H1 h.1) ?_ ?_
  · rintro i x H1 H2 hi ⟨e, ys, hy, hp, hl⟩ y
    have hi' : i < items.length := by omega
    have hb : items[i]? = some items[i] := by simp [hi']
    have etake : items.take (i + 1) = items.take i ++ [items[i]] := by rw [List.take_succ, hb] <;> rfl
    refine hs i items[i] x H1 H2 (fun bb v H5 => if bb = true then ∃ acc, H5 D = some (.lst acc) ∧ acc.length < sizeLine ∧ (fun H1 => Same H H1 ∧ ∃ ys, H1 D = some (.lst ys) ∧ Paired (fun v b => R b v H1) ys ((items.take (i + 1)).filter p) ∧ ys.length ≤ i + 1) (upd H5 D (.lst (acc ++ [v])))
      else (fun H1 => Same H H1 ∧ ∃ ys, H1 D = some (.lst ys) ∧ Paired (fun v b => R b v H1) ys ((items.take (i + 1)).filter p) ∧ ys.length ≤ i + 1) H5) hb e y ?_ ?_
    · intro v H5 e5 hpb r
      rw [if_pos rfl]
      have hy5 := e5 _ _ (hY i H1 x H2 y _ _ hy)
      have t5 : TupS H5 (upd H5 D (.lst (ys ++ [v]))) := tups_mut hy5 (fun zs z => nomatch z)
      refine ⟨ys, hy5, szl (by omega), same_mut ((e.trans (hY i H1 x H2 y)).trans e5) hD, ys ++ [v], upd_same, ?_, by simp; omega⟩
      rw [etake, List.filter_append, List.filter_cons, if_pos hpb, List.filter_nil]
      exact Paired.snoc (L2.Paired.mapP hp fun a b z => hR b a _ _ (tut (stups (hY i H1 x H2 y)) (tut (stups e5) t5)) z) (hR _ _ _ _ t5 r)
    · intro H5 e5 hpb
      rw [if_neg Bool.false_ne_true]
      refine ⟨(e.trans (hY i H1 x H2 y)).trans e5, ys, e5 _ _ (hY i H1 x H2 y _ _ hy), ?_, by omega⟩
      rw [etake, List.filter_append, List.filter_cons, if_neg (by rw [hpb]; exact Bool.false_ne_true), List.filter_nil, List.append_nil]
      exact L2.Paired.mapP hp fun a b z => hR b a _ _ (tut (stups (hY i H1 x H2 y)) (stups e5)) z
  · rintro H1 ⟨e, ys, hy, hp, _⟩
    refine hd ys H1 e hy ?_
    rw [← hn, List.take_length] at hp
    exact hp
end Rr

set_option Elab.async false
set_option linter.all false
set_option maxRecDepth 100000
set_option maxHeartbeats 2000000
/-! the rules whose readings name the written part, that part told -/
namespace Rr
open PySem PySem.Spec PyProof.Rows L2 Xr
section
variable {X : Cx} (K : PySem.W.Frag) (hK : X.K = K)
include hK
theorem q_eqD (hu : X.A.units + 64 < cLine) : OpR X (compareOp .Eq) (rEqD K) := hK ▸ op_eqD hu
theorem q_neD (hu : X.A.units + 64 < cLine) : OpR X (compareOp .NotEq) (rNeD K) := hK ▸ op_neD hu
theorem q_in : OpR X (compareOp .In) (rIn K false) := hK ▸ op_in_seq
theorem q_notIn : OpR X (compareOp .NotIn) (rIn K true) := hK ▸ op_notIn_seq
theorem q_catA : OpR X (binaryOp .Add) (rCatA K) := hK ▸ op_catA
theorem q_repT : OpR X (binaryOp .Mult) (rRepT K) := hK ▸ op_repT
theorem q_ixl : IxR X (rIxL K) := hK ▸ ix_list
theorem q_ixt : IxR X (rIxT K) := hK ▸ ix_tup
theorem q_sll : SlR X (rSlL K) := hK ▸ sl_list
theorem q_slt : SlR X (rSlA K) := hK ▸ sl_tupA
theorem q_get : PGet X (rIxL K) := hK ▸ get_list
def rLenA (K : PySem.W.Frag) : List V → Hp → VK → Prop := fun xs H Q => ∃ x n, xs = [x] ∧ LenV K x H n ∧ Q (.int n) H
def rListO (K : PySem.W.Frag) : List V → Hp → VK → Prop := fun xs H Q => ∃ p ys, xs = [.ref p] ∧ (SqL K H p ys ∨ SqT K H p ys) ∧ ∀ l, H l = none → Q (.ref l) (upd H l (.lst ys))
def rTupO (K : PySem.W.Frag) : List V → Hp → VK → Prop := fun xs H Q => ∃ p ys, xs = [.ref p] ∧ ((SqL K H p ys ∧ ∀ l, H l = none → Q (.ref l) (upd H l (.tup ys))) ∨ (SqT K H p ys ∧ Q (.ref p) H))
theorem q_len : CallR X (.builtin "len") (rLenA K) := hK ▸ call_len
theorem q_list : CallR X (.type "list") (rListO K) := hK ▸ call_list_of
theorem q_tuple : CallR X (.type "tuple") (rTupO K) := hK ▸ call_tuple_of
theorem q_all (hc : X.calm = true) : CallR X (.builtin "all") (rAll K) := hK ▸ cr_all hc
theorem q_any (hc : X.calm = true) : CallR X (.builtin "any") (rAny K) := hK ▸ cr_any hc
theorem q_max (hc : X.calm = true) : CallR X (.builtin "max") (rMax K) := hK ▸ cr_max hc
theorem q_maxT (hc : X.calm = true) (hu : X.A.units + 64 < cLine) : CallR X (.builtin "max") (rMaxT K) := hK ▸ cr_maxT hc hu
theorem q_sortedD (hu : X.A.units + 64 < cLine) : CallR X (.builtin "sorted") (rSortD K) := hK ▸ cr_sortedD hu
theorem q_isi : CallR X (.builtin "isinstance") (rIsi K) := hK ▸ call_isi
theorem q_isiT : CallR X (.builtin "isinstance") (rIsiT K) := hK ▸ call_isiT
theorem q_index : MtR X "list.index" (rIndex K) := hK ▸ mt_index
section
variable {e o l value : Expr} {ta to tv tl : TE} {f name : Str} {pos pos' apos cpos : Pos} {es : List Expr} {t : TA} {T id : String} {r : V → List V → Hp → VK → Prop}
theorem q_fld (he : PE X e ta) (hb : attributeBase e f X.env (eval e X.env) = eval e X.env) : PE X (.Attribute e f pos) (tFld K ta f) := hK ▸ pe_fld he hb
theorem q_sfld (ha : PE X o ta) (hv : PE X value tv) (hs : swapsWith value (some (.Attribute o f pos')) pos.line X.env = pure false) : PS X (.Assign [.Attribute o f pos'] value pos) (sFld K ta tv f) := hK ▸ ps_fld ha hv hs
theorem q_bm0 (pa : PlainAttrs T) (slot : Slot T name id) (hty : typeOf (.builtin id) = pure (.type "method_descriptor")) (hm : MtR X id r) (ho : PE X o to)
    (hbase : attributeBase o name X.env (eval o X.env) = eval o X.env := by rfl) (hline : (apos.endLine == cpos.line) = true := by rfl) : PE X (.Call (.Attribute o name apos) [] [] cpos) (tBM0 K T r to) := hK ▸ pe_bm0 pa slot hty hm ho hbase hline
theorem q_bm (pa : PlainAttrs T) (slot : Slot T name id) (hty : typeOf (.builtin id) = pure (.type "method_descriptor")) (hm : MtR X id r) (ho : PE X o to) (ha : PA X (e :: es) t)
    (hbase : attributeBase o name X.env (eval o X.env) = eval o X.env := by rfl)
    (hfew : ((backTo cpos (starEach (e :: es) X.env)).all (fun x => !x.1) && (backToKw cpos (keywordEach [] X.env)).all (fun x => x.1.isSome)
      && decide ((e :: es).length + ([] : List Keyword).length + (if ([] : List Keyword).isEmpty then 0 else 1) < 30)) = true := by rfl)
    (hline : (apos.endLine == cpos.line) = true := by rfl) (hst : starEach (e :: es) X.env = (false, eval e X.env) :: starEach es X.env := by rfl) (hpl : (backTo cpos (starEach es X.env)).any (·.1) = false := by rfl) :
    PE X (.Call (.Attribute o name apos) (e :: es) [] cpos) (tBM K T r to t) := hK ▸ pe_bm pa slot hty hm ho ha hbase hfew hline hst hpl
def tTruK (K : PySem.W.Frag) (ta : TE) : TT := fun σ H Q => ta σ H fun x H' => ∃ k, TruV K x H' k ∧ Q k H'
theorem q_truth (ha : PE X e ta) (he : ∀ whole, isTrue e X.env whole = (do let v ← whole; standAt e.pos; holding [v] (truthy v))) : PT X e (tTruK K ta) := hK ▸ pt_truth ha he
variable {tg : Expr}
theorem q_plist (hl : PE X l tl) : PI X tg l (iList K tl) := hK ▸ pi_list hl
theorem q_ptup (hl : PE X l tl) : PI X tg l (iTup K tl) := hK ▸ pi_tup hl
theorem q_tup {es : List Expr} {k : Nat} {t : TGs} {n : Nat} (hc : X.calm = true) (h : PGs X es t)
    (hn : (assignEach es X.env).length = n := by rfl) (hst : (assignEach es X.env).findIdx? (·.1) = none := by rfl) : PG X (.Tuple es k pos) (gTup K n t) := hK ▸ pg_tup hc h hn hst
theorem q_enumA (k : SK) {p pos tpos : Pos} {elts : List Expr} {kk : Nat} (hg : Gl X "enumerate") (hm : X.mg "enumerate" = none) (ha : PA X [e] t) (hs : starEach [e] X.env = [(false, eval e X.env)] := by rfl) :
    PI X (.Tuple elts kk tpos) (.Call (.Name "enumerate" p) [e] [] pos) (iEnumA K k t) := hK ▸ pi_enumA k hg hm ha hs
theorem q_enumS (k : SK) {e2 : Expr} {p pos tpos : Pos} {elts : List Expr} {kk : Nat} (hg : Gl X "enumerate") (hm : X.mg "enumerate" = none) (ha : PA X [e, e2] t)
    (hs : starEach [e, e2] X.env = (false, eval e X.env) :: starEach [e2] X.env := by rfl) (hpl : (backTo pos (starEach [e2] X.env)).any (·.1) = false := by rfl) :
    PI X (.Tuple elts kk tpos) (.Call (.Name "enumerate" p) [e, e2] [] pos) (iEnumS K k t) := hK ▸ pi_enumS k hg hm ha hs hpl
theorem q_zip (k1 k2 : SK) {e2 : Expr} {p pos tpos : Pos} {elts : List Expr} {kk : Nat} (hg : Gl X "zip") (hm : X.mg "zip" = none) (ha : PA X [e, e2] t)
    (hs : starEach [e, e2] X.env = (false, eval e X.env) :: starEach [e2] X.env := by rfl) (hpl : (backTo pos (starEach [e2] X.env)).any (·.1) = false := by rfl) :
    PI X (.Tuple elts kk tpos) (.Call (.Name "zip" p) [e, e2] [] pos) (iZipA2 K k1 k2 t) := hK ▸ pi_zipA2 k1 k2 hg hm ha hs hpl
end
end
end Rr

set_option Elab.async false
set_option linter.all false
set_option maxRecDepth 100000
set_option maxHeartbeats 2000000
namespace Rr
open PySem PySem.Spec PyProof.Rows L2 Xr
def top (i : Nat) : Stmt := PySem.Challenge.pw_rerunrein_k88_replays_by_steps.main.body.getD i (.Pass ⟨0, 0, 0, 0⟩)
abbrev s_frozen : Stmt := top 5
abbrev s_is_integer : Stmt := top 6
abbrev s_is_small : Stmt := top 7
abbrev s_is_name : Stmt := top 8
abbrev s_UnknownProcess_init : Stmt := inClass (top 11) 0
abbrev s_NotReady_init : Stmt := inClass (top 12) 0
abbrev s_BadRecord_init : Stmt := inClass (top 13) 0
abbrev s_BadEvent_init : Stmt := inClass (top 14) 0
abbrev s_BadWait_init : Stmt := inClass (top 15) 0
abbrev s_NotLive_init : Stmt := inClass (top 16) 0
abbrev s_arrows_of : Stmt := top 18
abbrev s_Reach_init : Stmt := inClass (top 19) 0
abbrev s_Reach_close : Stmt := inClass (top 19) 1
abbrev s_Reach_joined : Stmt := inClass (top 19) 2
abbrev s_Reach_with_itself : Stmt := inClass (top 19) 3
abbrev s_Reach_ahead : Stmt := inClass (top 19) 4
abbrev s_Reach_least_cut : Stmt := inClass (top 19) 5
abbrev s_Reach_around : Stmt := inClass (top 19) 6
abbrev s_ring_of : Stmt := top 20
abbrev s_check_rows : Stmt := top 26
abbrev s_fits : Stmt := top 27
abbrev s_is_form : Stmt := top 28
abbrev s_check_events : Stmt := top 29
abbrev s_sends_of : Stmt := top 30
abbrev s_linked : Stmt := top 31
abbrev s_executable : Stmt := top 32
abbrev s_Record_init : Stmt := inClass (top 33) 0
abbrev s_Record_eq : Stmt := inClass (top 33) 1
abbrev s_Record_names : Stmt := inClass (top 33) 2
abbrev s_Record_check_name : Stmt := inClass (top 33) 3
abbrev s_Record_events : Stmt := inClass (top 33) 4
abbrev s_Record_length : Stmt := inClass (top 33) 5
abbrev s_Record_variables : Stmt := inClass (top 33) 6
abbrev s_Record_state : Stmt := inClass (top 33) 7
abbrev s_Record_has_event : Stmt := inClass (top 33) 8
abbrev s_Record_form_of : Stmt := inClass (top 33) 9
abbrev s_Record_partner : Stmt := inClass (top 33) 10
abbrev s_event_of : Stmt := top 34
abbrev s_checked_waits : Stmt := top 36
abbrev s_Order_init : Stmt := inClass (top 37) 0
abbrev s_Order_ahead : Stmt := inClass (top 37) 1
abbrev s_Order_includes : Stmt := inClass (top 37) 2
abbrev s_Order_is_cut : Stmt := inClass (top 37) 3
abbrev s_Order_least_cut : Stmt := inClass (top 37) 4
abbrev s_Order_waits : Stmt := inClass (top 37) 5
abbrev s_Order_open_places : Stmt := inClass (top 37) 6
abbrev s_Replay_init : Stmt := inClass (top 39) 0
abbrev s_Replay_reached : Stmt := inClass (top 39) 1
abbrev s_Replay_is_ready : Stmt := inClass (top 39) 2
abbrev s_Replay_ready : Stmt := inClass (top 39) 3
abbrev s_Replay_step : Stmt := inClass (top 39) 4
abbrev s_Replay_copy : Stmt := inClass (top 39) 5
abbrev s_w_draw : Stmt := top 41
abbrev s_w_value : Stmt := top 42
abbrev s_w_event : Stmt := top 43
abbrev s_w_rows : Stmt := top 44
abbrev s_w_messages : Stmt := top 45
abbrev s_w_needs : Stmt := top 46
abbrev s_w_names : Stmt := top 47
abbrev s_w_replayed : Stmt := top 48
abbrev s_w_waits : Stmt := top 49
abbrev s_w_open : Stmt := top 50
abbrev s_w_after : Stmt := top 51
abbrev s_w_stepped : Stmt := top 52
abbrev s_w_stands : Stmt := top 53
abbrev s_w_some_waits : Stmt := top 54
abbrev s_law : Stmt := top 55
/-- what the walk asks of the module's names -/
structure Txt (K : PySem.W.Frag) (mg : Str → Option Value) : Prop where
  z_isinstance : mg "isinstance" = none
  z_int : mg "int" = none
  z_bool : mg "bool" = none
  z_str : mg "str" = none
  z_tuple : mg "tuple" = none
  z_list : mg "list" = none
  z_len : mg "len" = none
  z_all : mg "all" = none
  z_any : mg "any" = none
  z_abs : mg "abs" = none
  z_max : mg "max" = none
  z_range : mg "range" = none
  z_enumerate : mg "enumerate" = none
  z_zip : mg "zip" = none
  z_sorted : mg "sorted" = none
  LETTERS : ∃ t, mg "LETTERS" = some (.str "abcdefghijklmnopqrstuvwxyz" t)
  LONGEST : ∃ t, mg "LONGEST_NAME" = some (.int 8 t)
  MOST : ∃ t, mg "MOST_PROCESSES" = some (.int 40 t)
/-! ### the stream of draws -/
structure StrAt (H : Hp) (p q : Addr) (B : Nat) : Prop where
  ex : ∃ (ns : List Int) (a b c : Int), H p = some (.lst [.ref q, .int a, .int b, .int c]) ∧ H q = some (.lst (ns.map V.int)) ∧ 0 ≤ a ∧ 0 ≤ b ∧ b ≤ B ∧ 0 ≤ c ∧ c < 2147483647 ∧ ns.length ≤ 63
/-- all but p and q stay -/
def Fr2 (p q : Addr) (H H' : Hp) : Prop := ∀ b o, H b = some o → b ≠ p → b ≠ q → H' b = some o
theorem Fr2.refl (p q : Addr) (H : Hp) : Fr2 p q H H := fun _ _ h _ _ => h
theorem Fr2.trans {p q : Addr} {H H1 H2 : Hp} (a : Fr2 p q H H1) (b : Fr2 p q H1 H2) : Fr2 p q H H2 := fun c o h h1 h2 => b c o (a c o h h1 h2) h1 h2
theorem Fr2.up {p q : Addr} {H : Hp} {o : HO} : Fr2 p q H (upd H p o) := fun c u h h1 _ => by rw [upd_ne h1]; exact h
theorem Fr2.uq {p q : Addr} {H : Hp} {o : HO} : Fr2 p q H (upd H q o) := fun c u h _ h2 => by rw [upd_ne h2]; exact h
theorem Fr2.new {p q x : Addr} {H : Hp} {o : HO} (h : H x = none) : Fr2 p q H (upd H x o) := fun c u e _ _ => by rw [upd_ne (ne_of_none e h)]; exact e
theorem StrAt.ne {H : Hp} {p q : Addr} {B : Nat} (s : StrAt H p q B) : p ≠ q := by
  obtain ⟨ns, a, b, c, hp, hq, _⟩ := s.ex
  rintro rfl
  rw [hp] at hq
  have e := HO.lst.inj (Option.some.inj hq)
  cases ns with
  | nil => cases e
  | cons z r =>
    rw [List.map_cons] at e
    injection e with e1 _
    cases e1
theorem Fr2.tups {p q : Addr} {H H' : Hp} {B : Nat} (s : StrAt H p q B) (f : Fr2 p q H H') : TupS H H' := fun t zs e => by
  obtain ⟨ns, a, b, c, hp, hq, _⟩ := s.ex
  exact f t _ e (ne_of e hp (fun z => nomatch z)) (ne_of e hq (fun z => nomatch z))
theorem StrAt.frame {H H' : Hp} {p q : Addr} {B : Nat} (s : StrAt H p q B) (e : Same H H') : StrAt H' p q B := by
  obtain ⟨ns, a, b, c, hp, hq, r⟩ := s.ex
  exact ⟨ns, a, b, c, e _ _ hp, e _ _ hq, r⟩
section
variable {P : Program} {w : World} {K : PySem.W.Frag} {mg : Str → Option Value} {base : Heap}
theorem isi {σ : L2.St} {H : Hp} {Q : VK} {i : Nat} {x : V} {n m : String} {b : Bool} (hx : σ[i]? = some (some x)) (ty : TyX K H x (.type n)) (hb : kitB n m = some b) (q : Q (.bl b) H) : tCB (rIsi K) (tCons (tVar i) (tCons (tC (.ty m)) tNil)) σ H Q :=
  ⟨x, hx, x, .ty m, .type n, .type m, b, rfl, .ty m, ty, kit_ty hb, q⟩
theorem fm (z : Int) {m : Int} (h : 0 < m) : 0 ≤ Int.fmod z m ∧ Int.fmod z m < m := by
  rw [Int.fmod_eq_emod_of_nonneg _ (by omega)]
  exact ⟨Int.emod_nonneg _ (by omega), Int.emod_lt_of_pos _ h⟩
theorem dpInts {H : Hp} : ∀ ns : List Int, DpAll K H (ns.map V.int) (ns.map PyData.int)
  | [] => .nil
  | n :: r => .cons (.int n) (dpInts r)
theorem layInts : ∀ ns : List Int, PyData.canLayAll0 (ns.map PyData.int) = true
  | [] => by simp [PyData.canLayAll0]
  | n :: r => by simp [PyData.canLayAll0, PyData.canLay0, layInts r]
theorem depInts : ∀ ns : List Int, PyData.depthAll (ns.map PyData.int) = 0
  | [] => by simp [PyData.depthAll]
  | n :: r => by simp [PyData.depthAll, PyData.depth, depInts r]
theorem shapedInts (ns : List Int) : SeqAt.shaped (.list (ns.map PyData.int)) = true := by
  unfold SeqAt.shaped
  have h1 : PyData.canLay0 (.list (ns.map PyData.int)) = true := by simp [PyData.canLay0, layInts]
  have h2 : PyData.depth (.list (ns.map PyData.int)) ≤ 64 := by simp [PyData.depth, depInts]
  rw [h1, decide_eq_true h2] <;> rfl
/-! ### is_integer -/
abbrev N_is_integer : List Str := ["thing"]
theorem sc_is_integer : FnScope N_is_integer ["thing"] (defScope s_is_integer) := ⟨rfl, rfl, rfl, by decide +kernel, rfl, by decide +kernel, by decide +kernel⟩
def sp_is_integer : Sp := fun vs H Q _ => ∃ i : Int, vs = [.int i] ∧ Q (.bl true) H
theorem ok_is_integer (T : Txt K mg) {f : Addr} {fd : FuncData} (F : FunD K "is_integer" "is_integer" (defArgs s_is_integer) (defBody s_is_integer) (defScope s_is_integer) [] [] f fd) : FnOk P w K mg base CX0 1 f fd ["thing"] sp_is_integer := by
  refine ok0 F sc_is_integer (fun vs H Q E h => ?_) (fun cdv A outer s H vs Q E hr h => ?_)
  · obtain ⟨i, rfl, _⟩ := h
    rfl
  · obtain ⟨i, rfl, k⟩ := h
    refine ⟨_, (pss_one (ps_ret (pe_and (pe_callB (q_isi K rfl) (by rfl) T.z_isinstance (by decide +kernel) (pa_cons (pv 0) (pa_cons (pe_bltn (v := .ty "int") (u := .type "int") (by rfl) T.z_int (by decide +kernel) rfl) pa_nil))) (pe_one (pe_not (pe_callB (q_isi K rfl) (by rfl) T.z_isinstance (by decide +kernel) (pa_cons (pv 0) (pa_cons (pe_bltn (v := .ty "bool") (u := .type "bool") (by rfl) T.z_bool (by decide +kernel) rfl) pa_nil)))))))), ?_⟩
    refine isi rfl (.base (.int i)) (b := true) (by decide +kernel) ⟨true, rfl, iteT ?_⟩
    exact isi rfl (.base (.int i)) (b := false) (by decide +kernel) ⟨false, rfl, k⟩
/-! ### is_small -/
abbrev N_is_small : List Str := ["thing"]
theorem sc_is_small : FnScope N_is_small ["thing"] (defScope s_is_small) := ⟨rfl, rfl, rfl, by decide +kernel, rfl, by decide +kernel, by decide +kernel⟩
def sp_is_small : Sp := fun vs H Q _ => ∃ i : Int, vs = [.int i] ∧ Q (.bl (decide ((i.natAbs : Int) < 10 ^ 30))) H
theorem ok_is_small (T : Txt K mg) (G_is_integer : Gf P w K mg base 1 "is_integer" ["thing"] sp_is_integer) {f : Addr} {fd : FuncData} (F : FunD K "is_small" "is_small" (defArgs s_is_small) (defBody s_is_small) (defScope s_is_small) [] [] f fd) : FnOk P w K mg base CX0 2 f fd ["thing"] sp_is_small := by
  refine ok0 F sc_is_small (fun vs H Q E h => ?_) (fun cdv A outer s H vs Q E hr h => ?_)
  · obtain ⟨i, rfl, _⟩ := h
    rfl
  · obtain ⟨i, rfl, k⟩ := h
    refine ⟨_, (pss_one (ps_ret (pe_and (pe_call G_is_integer.F (G_is_integer.room hr) (by rfl) G_is_integer.mg G_is_integer.kp G_is_integer.b .nil pass0 (pa_cons (pv 0) pa_nil)) (pe_one (pe_cmpR op_lt (pe_callB call_abs (by rfl) T.z_abs (by decide +kernel) (pa_cons (pv 0) pa_nil)) (pe_op op_pow pe_int pe_int) (nomark _)))))), ?_⟩
    refine ⟨_, rfl, i, rfl, true, rfl, iteT ?_⟩
    refine ⟨_, rfl, i, rfl, _, _, rfl, rfl, ⟨by decide, by decide, by decide⟩, _, _, rfl, rfl, ?_⟩
    have e : (if i < 0 then -i else i) = (i.natAbs : Int) := by split <;> omega
    rw [e]
    exact k
/-! ### draws -/
abbrev N_w_draw : List Str := ["_law_stream", "_law_many", "_law_digit", "_law_mixed"]
theorem sc_w_draw : FnScope N_w_draw ["_law_stream", "_law_many"] (defScope s_w_draw) := ⟨rfl, rfl, rfl, by decide +kernel, rfl, by decide +kernel, by decide +kernel⟩
def sp_draw : Sp := fun vs H Q _ => ∃ (p q : Addr) (n : Int) (B : Nat), vs = [.ref p, .int n] ∧ StrAt H p q B ∧ B ≤ 1000000 ∧ 0 < n ∧ n ≤ 1000000 ∧ ∀ r H', 0 ≤ r → r < n → StrAt H' p q (B + 1) → Fr2 p q H H' → Q (.int r) H'
theorem ok_draw (T : Txt K mg) {f : Addr} {fd : FuncData} (F : FunD K "_law_draw" "_law_draw" (defArgs s_w_draw) (defBody s_w_draw) (defScope s_w_draw) [] [] f fd) : FnOk P w K mg base CX0 1 f fd ["_law_stream", "_law_many"] sp_draw := by
  refine ok0 F sc_w_draw (fun vs H Q E h => ?_) (fun cdv A outer s H vs Q E hr h => ?_)
  · obtain ⟨p, q, n, B, rfl, _⟩ := h
    rfl
  · obtain ⟨p, q, n, B, rfl, S, hB, n0, n1, k⟩ := h
    obtain ⟨ns, a, b, c, hp, hq, a0, b0, bB, c0, c1, hn⟩ := S.ex
    have npq := S.ne
    refine ⟨_, (pss_cons (ps_asg (pe_op op_add (pe_ix (q_ixl K rfl) (pv 0) pe_int (fun _ _ => rfl)) pe_int) (pg_sub (pv 0) pe_int set_list))
      (Evl.pss_cut (ps_if (PW.pt (pw_and (pt_cmpR op_eq (pe_ix (q_ixl K rfl) (pv 0) pe_int (fun _ _ => rfl)) pe_int (nomark _)) (pw_and1 (pt_cmpR (q_neD K rfl hr.units) (pe_ix (q_ixl K rfl) (pv 0) pe_int (fun _ _ => rfl)) (pe_lst pa_nil) (nomark _)))))
        (pss_cons (ps_asg (q_bm K rfl PySem.F.plainAttrs_list PySem.F.slot_list_pop PySem.F.type_list_pop mt_popAt (pe_ix (q_ixl K rfl) (pv 0) pe_int (fun _ _ => rfl)) (pa_cons pe_int pa_nil)) (pg_sub (pv 0) pe_int set_list))
        (pss_one (ps_if (pt_cmpR op_lt (pe_ix (q_ixl K rfl) (pv 0) pe_int (fun _ _ => rfl)) (pe_op op_pow pe_int pe_int) (nomark _))
          (pss_cons (ps_asg (pe_op op_modN (pe_op op_add (pe_op op_add (pe_op op_mul (pe_ix (q_ixl K rfl) (pv 0) pe_int (fun _ _ => rfl)) pe_int) (pe_ix (q_ixl K rfl) (pv 0) pe_int (fun _ _ => rfl))) pe_int) pe_int) (pg_sub (pv 0) pe_int set_list))
          (pss_one (ps_asg pe_int (pg_sub (pv 0) pe_int set_list))))
          pss_nil)))
        pss_nil)
      (pss_cons (ps_if (pt_cmpR op_gt (pe_ix (q_ixl K rfl) (pv 0) pe_int (fun _ _ => rfl)) pe_int (nomark _))
        (pss_cons (ps_set (i := 2) sc_w_draw.nd rfl (Or.inl rfl) (pe_op op_modN (pe_ix (q_ixl K rfl) (pv 0) pe_int (fun _ _ => rfl)) (pv 1)))
        (pss_cons (ps_asg (pe_op op_fdivN (pe_ix (q_ixl K rfl) (pv 0) pe_int (fun _ _ => rfl)) (pv 1)) (pg_sub (pv 0) pe_int set_list))
        (pss_one (ps_ret (pv 2)))))
        pss_nil)
      (pss_cons (ps_set (i := 3) sc_w_draw.nd rfl (Or.inl rfl) (pe_op op_modN (pe_op op_pow (pe_op op_add (pe_op op_add (pe_ix (q_ixl K rfl) (pv 0) pe_int (fun _ _ => rfl)) (pe_op op_mul pe_int (pe_ix (q_ixl K rfl) (pv 0) pe_int (fun _ _ => rfl)))) pe_int) pe_int) pe_int))
      (pss_one (ps_ret (pe_op op_modN (pe_op op_modN (pe_op op_pow (pe_op op_add (pe_op op_add (pe_op op_mul (pv 3) pe_int) (pe_op op_mul (pe_op op_mul pe_int (pe_ix (q_ixl K rfl) (pv 0) pe_int (fun _ _ => rfl))) (pe_ix (q_ixl K rfl) (pv 0) pe_int (fun _ _ => rfl)))) pe_int) pe_int) pe_int) (pv 1)))))))), ?_⟩
    refine ⟨_, rfl, p, _, 2, _, rfl, rfl, sq hp, rfl, b, 1, rfl, rfl, _, rfl, p, _, 2, 2, rfl, rfl, hp, rfl, ?_⟩
    generalize hH1 : upd H p (.lst (List.set [V.ref q, .int a, .int b, .int c] 2 (.int (b + 1)))) = H1
    have hp1 : H1 p = some (.lst [.ref q, .int a, .int (b + 1), .int c]) := by rw [← hH1]; exact upd_same
    have hq1 : H1 q = some (.lst (ns.map V.int)) := by rw [← hH1, upd_ne npq.symm]; exact hq
    have f1 : Fr2 p q H H1 := by rw [← hH1]; exact Fr2.up
    refine ⟨fun σ' H2 => σ' = [some (.ref p), some (.int n), none, none] ∧ Fr2 p q H H2 ∧ ∃ (ms : List Int) (a2 c2 : Int), H2 p = some (.lst [.ref q, .int a2, .int (b + 1), .int c2]) ∧ H2 q = some (.lst (ms.map V.int)) ∧ 0 ≤ a2 ∧ 0 ≤ c2 ∧ c2 < 2147483647 ∧ ms.length ≤ 63, ?_, ?_⟩
    · -- if stream[1] == 0 and stream[0] != []
      refine ⟨_, rfl, p, _, 1, _, rfl, rfl, sq hp1, rfl, rfl, _, rfl, ?_⟩
      by_cases ha : a = 0
      · subst ha
        refine iteT ?_
        refine ⟨_, rfl, p, _, 0, _, rfl, rfl, sq hp1, rfl, by decide, fun l hl => ?_⟩
        have nlp : p ≠ l := ne_of_none hp1 hl
        have nlq : q ≠ l := ne_of_none hq1 hl
        have hp2 : (upd H1 l (.lst [])) p = some (.lst [.ref q, .int 0, .int (b + 1), .int c]) := by rw [upd_ne nlp]; exact hp1
        have hq2 : (upd H1 l (.lst [])) q = some (.lst (ns.map V.int)) := by rw [upd_ne nlq]; exact hq1
        have f2 : Fr2 p q H (upd H1 l (.lst [])) := f1.trans (Fr2.new hl)
        refine ⟨.list (ns.map .int), .list [], .lst (sq hq2) (dpInts ns), .lst (sq upd_same) .nil, shapedInts ns, rfl, _, rfl, ?_⟩
        cases ns with
        | nil => exact iteF ⟨rfl, f2, [], 0, c, hp2, hq2, by omega, c0, c1, by simp⟩
        | cons z r =>
          refine iteT ?_
          refine ⟨_, rfl, p, _, 0, _, rfl, rfl, sq hp2, rfl, tyl hq2, q, _, 0, 0, _, rfl, rfl, hq2, by decide, by decide, seqIndex_of (by decide) (by simp), rfl, ?_⟩
          generalize hH3 : upd (upd H1 l (.lst [])) q (.lst (List.eraseIdx (List.map V.int (z :: r)) 0)) = H3
          have hp3 : H3 p = some (.lst [.ref q, .int 0, .int (b + 1), .int c]) := by rw [← hH3, upd_ne npq]; exact hp2
          have hq3 : H3 q = some (.lst (r.map V.int)) := by rw [← hH3]; exact upd_same
          have f3 : Fr2 p q H H3 := by rw [← hH3]; exact f2.trans Fr2.uq
          have hr : r.length ≤ 63 := by simp at hn; omega
          refine ⟨_, rfl, p, _, 1, 1, rfl, rfl, hp3, rfl, ?_⟩
          generalize hH4 : upd H3 p (.lst (List.set [V.ref q, .int 0, .int (b + 1), .int c] 1 (V.int z))) = H4
          have hp4 : H4 p = some (.lst [.ref q, .int z, .int (b + 1), .int c]) := by rw [← hH4]; exact upd_same
          have hq4 : H4 q = some (.lst (r.map V.int)) := by rw [← hH4, upd_ne npq.symm]; exact hq3
          have f4 : Fr2 p q H H4 := by rw [← hH4]; exact f3.trans Fr2.up
          refine ⟨_, rfl, p, _, 1, _, rfl, rfl, sq hp4, rfl, _, _, rfl, rfl, ⟨by decide, by decide, by decide⟩, _, _, rfl, rfl, _, rfl, ?_⟩
          refine ite2 (fun hz => ?_) (fun hz => ⟨rfl, f4, r, z, c, hp4, hq4, ?_, c0, c1, hr⟩)
          · refine ⟨_, rfl, p, _, 3, _, rfl, rfl, sq hp4, rfl, c, 31, rfl, rfl, .inr ⟨by decide, by decide⟩, _, rfl, p, _, 1, _, rfl, rfl, sq hp4, rfl, _, _, rfl, rfl, _, _, rfl, rfl, _, _, rfl, rfl, (by show (2147483647 : Int) ≠ 0; decide), _, rfl, p, _, 3, 3, rfl, rfl, hp4, rfl, ?_⟩
            refine ⟨_, rfl, p, _, 1, 1, rfl, rfl, upd_same, rfl, rfl, f4.trans (Fr2.up.trans Fr2.up), r, 0, _, upd_same, ?_, by omega, ?_, ?_, hr⟩
            · rw [upd_ne npq.symm, upd_ne npq.symm]
              exact hq4
            · rw [Int.fmod_eq_emod_of_nonneg _ (by decide)]
              exact Int.emod_nonneg _ (by decide)
            · rw [Int.fmod_eq_emod_of_nonneg _ (by decide)]
              exact Int.emod_lt_of_pos _ (by decide)
          · have hz' : ¬ (decide (z < (10 : Int) ^ (Int.toNat 18)) = true) := hz
            rw [decide_eq_true_eq] at hz'
            have e : (10 : Int) ^ (Int.toNat 18) = 1000000000000000000 := by decide
            rw [e] at hz'
            omega
      · have e : decide (V.int a = V.int 0) = false := decide_eq_false fun z => ha (V.int.inj z)
        rw [e]
        exact iteF ⟨rfl, f1, ns, a, c, hp1, hq1, a0, c0, c1, hn⟩
    · rintro σ' H2 ⟨rfl, f2, ms, a2, c2, hp2, hq2, a20, c20, c21, hm⟩
      have hS : ∀ H' a3, H' p = some (.lst [.ref q, .int a3, .int (b + 1), .int c2]) → H' q = some (.lst (ms.map V.int)) → 0 ≤ a3 → StrAt H' p q (B + 1) := fun H' a3 h1 h2 h3 => ⟨ms, a3, b + 1, c2, h1, h2, h3, by omega, by omega, c20, c21, hm⟩
      refine ⟨_, rfl, p, _, 1, _, rfl, rfl, sq hp2, rfl, _, _, rfl, rfl, _, rfl, ?_⟩
      refine ite2 (fun hz => ?_) (fun hz => ?_)
      · refine ⟨_, rfl, p, _, 1, _, rfl, rfl, sq hp2, rfl, _, rfl, _, _, rfl, rfl, by omega, ?_⟩
        refine ⟨_, rfl, p, _, 1, _, rfl, rfl, sq hp2, rfl, _, rfl, _, _, rfl, rfl, ⟨by omega, by omega⟩, _, rfl, p, _, 1, 1, rfl, rfl, hp2, rfl, ?_⟩
        refine ⟨_, rfl, k _ _ ?_ ?_ (hS _ _ upd_same ?_ ?_) (f2.trans Fr2.up)⟩
        · rw [Int.fmod_eq_emod_of_nonneg _ (by omega)]
          exact Int.emod_nonneg _ (by omega)
        · rw [Int.fmod_eq_emod_of_nonneg _ (by omega)]
          exact Int.emod_lt_of_pos _ n0
        · rw [upd_ne npq.symm]
          exact hq2
        · rw [Int.fdiv_eq_ediv_of_nonneg _ (by omega)]
          exact Int.ediv_nonneg a20 (by omega)
      · refine ⟨_, rfl, p, _, 3, _, rfl, rfl, sq hp2, rfl, _, rfl, p, _, 2, _, rfl, rfl, sq hp2, rfl, _, _, rfl, rfl, .inl ⟨by decide, by decide⟩, _, _, rfl, rfl, _, _, rfl, rfl, _, _, rfl, rfl, ⟨by decide, by decide, ?_⟩, _, _, rfl, rfl, (by show (2147483629 : Int) ≠ 0; decide), ?_⟩
        · omega
        have hy := fm ((c2 + 104729 * (b + 1) + 17) ^ Int.toNat 5) (m := 2147483629) (by decide)
        have hbb : (40503 * (b + 1) * (b + 1)).natAbs ≤ 40503 * 1000002 * 1000002 := by
          have h1 : (40503 * (b + 1) * (b + 1)).natAbs = 40503 * (b + 1).natAbs * (b + 1).natAbs := by rw [Int.natAbs_mul, Int.natAbs_mul] <;> rfl
          rw [h1]
          have h2 : (b + 1).natAbs ≤ 1000002 := by omega
          exact Nat.mul_le_mul (Nat.mul_le_mul_left _ h2) h2
        refine ⟨_, rfl, _, _, rfl, rfl, .inr ⟨by decide, by decide⟩, _, rfl, p, _, 2, _, rfl, rfl, sq hp2, rfl, _, _, rfl, rfl, .inl ⟨by decide, by decide⟩, _, rfl, p, _, 2, _, rfl, rfl, sq hp2, rfl, _, _, rfl, rfl, .inr ⟨by omega, by omega⟩, _, _, rfl, rfl, _, _, rfl, rfl, _, _, rfl, rfl, ⟨by decide, by decide, ?_⟩, _, _, rfl, rfl, (by show (1000000007 : Int) ≠ 0; decide), _, rfl, _, _, rfl, rfl, by omega, ?_⟩
        · omega
        refine k _ _ ?_ ?_ (hS _ _ hp2 hq2 a20) f2
        · rw [Int.fmod_eq_emod_of_nonneg _ (by omega)]
          exact Int.emod_nonneg _ (by omega)
        · rw [Int.fmod_eq_emod_of_nonneg _ (by omega)]
          exact Int.emod_lt_of_pos _ n0
end
end Rr

set_option Elab.async false
set_option linter.all false
set_option maxRecDepth 100000
set_option maxHeartbeats 2000000
/-! the model of a record: rows, sends, mates; dicts of lists -/
namespace Rr
open PySem PySem.Spec PyProof.Rows L2 Xr
/-! ### names -/
def resA : List Str := ["and", "checkpoint", "else", "end", "if", "input", "mod", "not", "or", "process", "receive", "send"]
def resB : List Str := ["set", "take", "while"]
def recS : List Str := ["receive", "take"]
def alphaS : Str := "abcdefghijklmnopqrstuvwxyz"
def nameB (x : Str) : Bool := decide (1 ≤ x.length) && (decide (x.length ≤ 8) && (!decide (x ∈ resA ++ resB) && x.cps.toList.all fun c => decide (c ∈ alphaS.cps.toList)))
theorem nameB_len {x : Str} (h : nameB x = true) : x.length ≤ 8 := by
  unfold nameB at h
  simp only [Bool.and_eq_true, decide_eq_true_eq] at h
  exact h.2.1
theorem nameB_xy {x : Str} (h : x = "x" ∨ x = "y") : nameB x = true := by
  rcases h with rfl | rfl <;> decide +kernel
/-! ### events -/
def Ev.rest : Ev → List V
  | .set x v => [.str x, .int v]
  | .inp x v => [.str x, .int v]
  | .snd q v => [.str q, .int v]
  | .rcv _ q x v => [.str q, .str x, .int v]
  | .chk => []
theorem Ev.vs_eq (e : Ev) : e.vs = .str e.word :: e.rest := by
  cases e with
  | rcv t q x v => cases t <;> rfl
  | _ => rfl
def Ev.toSnd (b : Str) : Ev → Option Int
  | .snd q v => if q = b then some v else none
  | _ => none
def Ev.isRcv (o : Str) : Ev → Bool
  | .rcv _ q _ _ => decide (q = o)
  | _ => false
theorem Ev.word_send {e : Ev} : e.word = "send" ↔ ∃ q v, e = .snd q v := by
  constructor
  · intro h
    cases e with
    | snd q v => exact ⟨q, v, rfl⟩
    | rcv t q x v => cases t <;> cases h
    | set => cases h
    | inp => cases h
    | chk => cases h
  · rintro ⟨q, v, rfl⟩
    rfl
theorem Ev.word_rcv {e : Ev} : (e.word = "receive" ∨ e.word = "take") ↔ ∃ t q x v, e = .rcv t q x v := by
  constructor
  · intro h
    cases e with
    | rcv t q x v => exact ⟨t, q, x, v, rfl⟩
    | snd => rcases h with h | h <;> cases h
    | set => rcases h with h | h <;> cases h
    | inp => rcases h with h | h <;> cases h
    | chk => rcases h with h | h <;> cases h
  · rintro ⟨t, q, x, v, rfl⟩
    cases t
    · exact .inl rfl
    · exact .inr rfl
/-! ### sends and receives of a list of events -/
/-- the sends to b: number and value -/
def sendsFrom (b : Str) : Nat → List Ev → List (Nat × Int)
  | _, [] => []
  | k, e :: r => (match e.toSnd b with | some v => [(k, v)] | none => []) ++ sendsFrom b (k + 1) r
def sendsTo (es : List Ev) (b : Str) : List (Nat × Int) := sendsFrom b 1 es
def cntR (es : List Ev) (o : Str) : Nat := (es.filter (Ev.isRcv o)).length
theorem sendsFrom_append (b : Str) : ∀ (es fs : List Ev) (k : Nat), sendsFrom b k (es ++ fs) = sendsFrom b k es ++ sendsFrom b (k + es.length) fs
  | [], fs, k => by simp [sendsFrom]
  | e :: r, fs, k => by
    rw [List.cons_append, sendsFrom, sendsFrom, sendsFrom_append b r fs (k + 1), List.append_assoc, List.length_cons]
    rw [show k + 1 + r.length = k + (r.length + 1) by omega]
theorem sendsTo_snoc (es : List Ev) (e : Ev) (b : Str) : sendsTo (es ++ [e]) b = sendsTo es b ++ (match e.toSnd b with | some v => [(es.length + 1, v)] | none => []) := by
  unfold sendsTo
  rw [sendsFrom_append]
  simp only [sendsFrom, List.append_nil, Nat.add_comm]
theorem sendsTo_snd (es : List Ev) (q b : Str) (v : Int) : sendsTo (es ++ [.snd q v]) b = if b = q then sendsTo es b ++ [(es.length + 1, v)] else sendsTo es b := by
  rw [sendsTo_snoc]
  by_cases h : b = q
  · subst h
    simp [Ev.toSnd]
  · rw [if_neg h]
    simp [Ev.toSnd, Ne.symm h, fun z : q = b => h z.symm]
theorem toSnd_none {e : Ev} (h : ∀ q v, e ≠ .snd q v) (b : Str) : e.toSnd b = none := by
  cases e with
  | snd q v => exact (h q v rfl).elim
  | _ => rfl
theorem sendsTo_other (es : List Ev) {e : Ev} (h : ∀ q v, e ≠ .snd q v) (b : Str) : sendsTo (es ++ [e]) b = sendsTo es b := by
  rw [sendsTo_snoc, toSnd_none h, List.append_nil]
theorem cntR_snoc (es : List Ev) (e : Ev) (o : Str) : cntR (es ++ [e]) o = cntR es o + (if e.isRcv o = true then 1 else 0) := by
  unfold cntR
  rw [List.filter_append, List.length_append]
  congr 1
  by_cases h : e.isRcv o = true
  · rw [if_pos h, List.filter_cons, if_pos h]
    rfl
  · rw [if_neg h, List.filter_cons, if_neg h]
    rfl
theorem cntR_le (es : List Ev) (o : Str) : cntR es o ≤ es.length := List.length_filter_le _ _
theorem sendsFrom_len (b : Str) : ∀ (es : List Ev) (k : Nat), (sendsFrom b k es).length ≤ es.length
  | [], _ => by simp [sendsFrom]
  | e :: r, k => by
    have := sendsFrom_len b r (k + 1)
    rw [sendsFrom, List.length_append, List.length_cons]
    cases e.toSnd b <;> simp <;> omega
theorem sendsTo_len (es : List Ev) (b : Str) : (sendsTo es b).length ≤ es.length := sendsFrom_len b es 1
theorem sendsFrom_mem (b : Str) : ∀ (es : List Ev) (k : Nat) (s : Nat × Int), s ∈ sendsFrom b k es → ∃ j, s.1 = k + j ∧ es[j]? = some (.snd b s.2)
  | [], _, _, h => by simp [sendsFrom] at h
  | e :: r, k, s, h => by
    rw [sendsFrom, List.mem_append] at h
    rcases h with h | h
    · cases e with
      | snd q v =>
        by_cases hq : q = b
        · simp [Ev.toSnd, hq] at h
          exact ⟨0, by rw [h] <;> rfl, by rw [h, hq] <;> rfl⟩
        · simp [Ev.toSnd, hq] at h
      | _ => simp [Ev.toSnd] at h
    · obtain ⟨j, h1, h2⟩ := sendsFrom_mem b r (k + 1) s h
      exact ⟨j + 1, by omega, by simpa using h2⟩
theorem sendsTo_mem {es : List Ev} {b : Str} {s : Nat × Int} (h : s ∈ sendsTo es b) : 1 ≤ s.1 ∧ s.1 ≤ es.length ∧ es[s.1 - 1]? = some (.snd b s.2) := by
  obtain ⟨j, h1, h2⟩ := sendsFrom_mem b es 1 s h
  have h3 := (List.getElem?_eq_some_iff.mp h2).1
  refine ⟨by omega, by omega, ?_⟩
  rw [h1, Nat.add_sub_cancel_left]
  exact h2
/-! ### records -/
abbrev Rec := Str → List Ev
def rowsOf (ns : List Str) (R : Rec) : List Row := ns.map fun a => (a, R a)
def mate (R : Rec) (b : Str) (k : Nat) : Option (Id × Int) :=
  match (R b)[k]? with
  | some (.rcv _ o _ _) => ((sendsTo (R o) b)[cntR ((R b).take k) o]?).map fun s => ((o, s.1), s.2)
  | _ => none
/-- an event's parts -/
inductive EvOk (ns : List Str) (nm : Str) : Ev → Prop
  | set {x : Str} {v : Int} : nameB x = true → (v.natAbs : Int) < 10 ^ 30 → EvOk ns nm (.set x v)
  | inp {x : Str} {v : Int} : nameB x = true → (v.natAbs : Int) < 10 ^ 30 → EvOk ns nm (.inp x v)
  | snd {q : Str} {v : Int} : q ∈ ns → q ≠ nm → (v.natAbs : Int) < 10 ^ 30 → EvOk ns nm (.snd q v)
  | rcv {t : Bool} {q x : Str} {v : Int} : q ∈ ns → q ≠ nm → nameB x = true → (v.natAbs : Int) < 10 ^ 30 → EvOk ns nm (.rcv t q x v)
  | chk : EvOk ns nm .chk
structure Good (ns : List Str) (R : Rec) : Prop where
  nd : ns.Nodup
  n2 : 2 ≤ ns.length
  n4 : ns.length ≤ 4
  nm : ∀ a ∈ ns, nameB a = true
  len : ∀ a, (R a).length ≤ 900
  ev : ∀ a ∈ ns, ∀ e ∈ R a, EvOk ns a e
  out : ∀ a, a ∉ ns → R a = []
  mt : ∀ b k t o x v, (R b)[k]? = some (.rcv t o x v) → ∃ s : Nat, (sendsTo (R o) b)[cntR ((R b).take k) o]? = some (s, v)
theorem Good.mate {ns : List Str} {R : Rec} (g : Good ns R) {b : Str} {k : Nat} {t : Bool} {o x : Str} {v : Int} (h : (R b)[k]? = some (.rcv t o x v)) : ∃ s : Nat, mate R b k = some ((o, s), v) ∧ (sendsTo (R o) b)[cntR ((R b).take k) o]? = some (s, v) := by
  obtain ⟨s, hs⟩ := g.mt b k t o x v h
  refine ⟨s, ?_, hs⟩
  unfold Rr.mate
  rw [h]
  simp only [hs]
  rfl
theorem rows_get {ns : List Str} {R : Rec} {i : Nat} {a : Str} (h : ns[i]? = some a) : (rowsOf ns R)[i]? = some (a, R a) := by
  unfold rowsOf
  rw [List.getElem?_map, h]
  rfl
theorem rows_len (ns : List Str) (R : Rec) : (rowsOf ns R).length = ns.length := by simp [rowsOf]
/-- the messages, receive by receive -/
def msgsB (R : Rec) (b : Str) : Nat → List (Id × Id)
  | 0 => []
  | k + 1 => msgsB R b k ++ (match mate R b k with | some m => [(m.1, (b, k + 1))] | none => [])
def msgsOf (ns : List Str) (R : Rec) : List (Id × Id) := ns.flatMap fun b => msgsB R b (R b).length
/-! ### lists of rows -/
def LRows (H : Hp) (L : Addr) (rs : List Row) : Prop := ∃ xs, H L = some (.lst xs) ∧ Paired (RowV H) xs rs
def LPairs (H : Hp) (L : Addr) (ps : List (Id × Id)) : Prop := ∃ xs, H L = some (.lst xs) ∧ Paired (IdP H) xs ps
/-- what a row's item is -/
theorem row_at {H : Hp} {xs : List V} {ns : List Str} {R : Rec} (h : Paired (RowV H) xs (rowsOf ns R)) {i : Nat} {x : V} (hx : xs[i]? = some x) :
    ∃ a t y z es, ns[i]? = some a ∧ x = .ref t ∧ H t = some (.tup [.str a, y]) ∧ y = .ref z ∧ H z = some (.tup es) ∧ Paired (EvV H) es (R a) := by
  obtain ⟨r, h1, y, ⟨t, rfl, h2⟩, es, ⟨z, rfl, h3⟩, h4⟩ := pget h hx
  unfold rowsOf at h1
  rw [List.getElem?_map] at h1
  cases hn : ns[i]? with
  | none => rw [hn] at h1; cases h1
  | some a =>
    rw [hn] at h1
    cases h1
    exact ⟨a, t, _, z, es, rfl, rfl, h2, rfl, h3, h4⟩
theorem evs_at {H : Hp} {es : List V} {l : List Ev} (h : Paired (EvV H) es l) {k : Nat} (hk : k < l.length) : ∃ t, es[k]? = some (.ref t) ∧ H t = some (.tup (.str l[k].word :: l[k].rest)) := by
  obtain ⟨v, h1, t, rfl, h2⟩ := pget' h (List.getElem?_eq_getElem hk)
  exact ⟨t, h1, by rw [← Ev.vs_eq]; exact h2⟩
/-! ### exclusion -/
/-- all but S stay, and the tuples -/
def FrS (S : List Addr) (H H' : Hp) : Prop := ∀ b o, H b = some o → b ∉ S → H' b = some o
theorem FrS.of {S : List Addr} {H H' : Hp} (e : Same H H') : FrS S H H' := fun b o h _ => e b o h
theorem FrS.trans {S : List Addr} {H H1 H2 : Hp} (a : FrS S H H1) (b : FrS S H1 H2) : FrS S H H2 := fun c o h n => b c o (a c o h n) n
theorem FrS.upd {S : List Addr} {H : Hp} {a : Addr} {o : HO} (h : a ∈ S) : FrS S H (L2.upd H a o) := fun b u e n => by
  rw [upd_ne (fun z : b = a => n (z ▸ h))]
  exact e
def k2 (a b : Str) : List Key := [.inr a, .inr b]
theorem k2_inj {a b c d : Str} : k2 a b = k2 c d ↔ a = c ∧ b = d := by simp [k2]
/-- a dict of lists under pairs of names -/
structure DL {β : Type} (F : Hp → V → β → Prop) (S : List Addr) (H : Hp) (d : Addr) (n : Nat) (f : Str → Str → List β) : Prop where
  ex : ∃ kvs : List (List Key × V), H d = some (.dT kvs) ∧ kvs.length ≤ n ∧ ∀ a b, (valV kvs (k2 a b) = none ∧ f a b = []) ∨ ∃ l xs, valV kvs (k2 a b) = some (.ref l) ∧ H l = some (.lst xs) ∧ Paired (F H) xs (f a b) ∧ l ∉ S
  dS : d ∉ S
section
variable {β : Type} {F : Hp → V → β → Prop} (hF : ∀ H H' v x, TupS H H' → F H v x → F H' v x) {S : List Addr} {d : Addr} {H H' : Hp} {n : Nat} {f : Str → Str → List β}
include hF
theorem DL.fr (z : DL F S H d n f) (e : FrS S H H') (t : TupS H H') : DL F S H' d n f := by
  obtain ⟨kvs, h1, h2, h3⟩ := z.ex
  refine ⟨⟨kvs, e _ _ h1 z.dS, h2, fun a b => ?_⟩, z.dS⟩
  rcases h3 a b with h | ⟨l, xs, g1, g2, g3, g4⟩
  · exact .inl h
  · exact .inr ⟨l, xs, g1, e _ _ g2 g4, L2.Paired.mapP g3 fun _ _ q => hF _ _ _ _ t q, g4⟩
theorem DL.get (z : DL F S H d n f) {a b : Str} {tp le : Addr} (ht : H tp = some (.tup [.str a, .str b])) (hle : H le = some (.lst [])) :
    ∃ o l xs, DGet H d (.ref tp) o ∧ o.getD (.ref le) = .ref l ∧ H l = some (.lst xs) ∧ Paired (F H) xs (f a b) := by
  obtain ⟨kvs, h1, h2, h3⟩ := z.ex
  refine ⟨valV kvs (k2 a b), ?_⟩
  rcases h3 a b with ⟨z1, z2⟩ | ⟨l, xs, z1, z2, z3, _⟩
  · exact ⟨le, [], DGet.t (k := k2 a b) h1 ht, by rw [z1] <;> rfl, hle, by rw [z2]; exact .nil⟩
  · exact ⟨l, xs, DGet.t (k := k2 a b) h1 ht, by rw [z1] <;> rfl, z2, z3⟩
theorem DL.isD (z : DL F S H d n f) : IsD H d := by
  obtain ⟨kvs, h1, _⟩ := z.ex
  exact .inr ⟨kvs, .inl h1⟩
theorem DL.has (z : DL F S H d n f) {a b : Str} {tp : Addr} (ht : H tp = some (.tup [.str a, .str b])) (hne : f a b ≠ []) :
    ∃ l xs, DGet H d (.ref tp) (some (.ref l)) ∧ H l = some (.lst xs) ∧ Paired (F H) xs (f a b) := by
  obtain ⟨kvs, h1, h2, h3⟩ := z.ex
  rcases h3 a b with ⟨z1, z2⟩ | ⟨l, xs, z1, z2, z3, _⟩
  · exact (hne z2).elim
  · refine ⟨l, xs, ?_, z2, z3⟩
    rw [← z1]
    exact DGet.t (k := k2 a b) h1 ht
theorem DL.put (z : DL F S H d n f) (hn : n ≤ 50000) {a b : Str} {tp l : Addr} {xs : List V} {ys : List β} (ht : H tp = some (.tup [.str a, .str b])) (hl : H l = some (.lst xs)) (hx : Paired (F H) xs ys) (l1 : l ∉ S) :
    ∃ kvs : List (List Key × V), H d = some (.dT kvs) ∧ DPut H d (.ref tp) (.ref l) (upd H d (.dT (putK kvs (k2 a b) (.ref l)))) ∧ DL F S (upd H d (.dT (putK kvs (k2 a b) (.ref l)))) d (n + 1) (fun x y => if x = a ∧ y = b then ys else f x y) := by
  obtain ⟨kvs, h1, h2, h3⟩ := z.ex
  have hts : TupS H (upd H d (.dT (putK kvs (k2 a b) (.ref l)))) := tups_mut h1 (fun zs q => nomatch q)
  refine ⟨kvs, h1, DPut.t (k := k2 a b) (v := .ref l) h1 ht (szl (by omega)), ⟨⟨_, upd_same, by have := length_putK kvs (k2 a b) (.ref l); omega, fun x y => ?_⟩, z.dS⟩⟩
  rw [valV_put]
  by_cases hxy : x = a ∧ y = b
  · obtain ⟨rfl, rfl⟩ := hxy
    rw [if_pos rfl]
    refine .inr ⟨l, xs, rfl, by rw [upd_ne (ne_of hl h1 (fun z => nomatch z))]; exact hl, ?_, l1⟩
    rw [if_pos ⟨rfl, rfl⟩]
    exact L2.Paired.mapP hx fun _ _ q => hF _ _ _ _ hts q
  · rw [if_neg (fun z => hxy (k2_inj.mp z))]
    rcases h3 x y with ⟨z1, z2⟩ | ⟨m, us, z1, z2, z3, z4⟩
    · exact .inl ⟨z1, by rw [if_neg hxy]; exact z2⟩
    · refine .inr ⟨m, us, z1, ?_, ?_, z4⟩
      · rw [upd_ne (ne_of z2 h1 (fun z => nomatch z))]
        exact z2
      · rw [if_neg hxy]
        exact L2.Paired.mapP z3 fun _ _ q => hF _ _ _ _ hts q
end
end Rr

set_option Elab.async false
set_option linter.all false
set_option maxRecDepth 100000
set_option maxHeartbeats 4000000
/-! an own exception class over own classes over ValueError, whose __init__ begins by super().__init__(..) -/
namespace Xr
open PySem PySem.Spec PyProof.Rows L2 PySem.W
structure FunS (P : Program) (K : PySem.W.Frag) (qual : Str) (params : Arguments) (body : List Stmt) (scope : Scope) (C f : Addr) (fd : FuncData) : Prop where
  ex : ∃ (oc : Value) (od : Option Addr) (dV kV doc pm : Value) (an : Option Addr) (cda : Addr) (ct : Value) (osl : Array (Option Value)) (cc : Addr), fd = PySem.W.fnX "__init__" qual params body scope [("__class__", cc)] dV kV doc pm an (.ref cda) ct ∧
    K.lookup f = some ⟨oc, od, .func fd, osl⟩ ∧ PySem.W.codeIn K (.ref cda) qual = true ∧ DflV K dV [] ∧ KwdV K kV [] ∧
    (∃ ccl cdd vs ccs file tf, K.lookup cda = some ⟨ccl, cdd, .fields vs, ccs⟩ ∧ vs[2]? = some (.str file tf) ∧ ((P.main.file : Str) == file) = true) ∧
    (∃ cl cld csl, K.lookup cc = some ⟨cl, cld, .cell (some (.ref C)), csl⟩)
  kp : PySem.W.keepIn K (.ref f) = true
  sup : PySem.W.ks_superIn K C C "__init__" = some (some (.builtin "ValueError.__init__"))
  ve : PySem.W.subIn K (.ref C) (.type "ValueError") = some true
  own : PySem.W.mroIn K C (.ref C) = some true
  opq : PySem.W.nsIn K cStatics "thirdparty.any" = some none
  top : (P.main.scope.names.lookup ("super" : Str)).isSome = false
structure ScS (N ps : List Str) (params : Arguments) (sc : Scope) : Prop where
  kind : sc.kind = .function
  co : sc.isCoroutine = false
  gen : sc.isGenerator = false
  nd : N.Nodup
  pre : N.take ps.length = ps
  par : ∀ x ∈ ps, sc.names.lookup x = some .local
  nocell : ∀ y ∈ sc.names, y.2 ≠ .cell
  free : ∀ y ∈ sc.names, y.2 = .free → y.1 = "__class__"
  sup : sc.names.lookup ("super" : Str) = some .globalImplicit
  cls : sc.names.lookup ("__class__" : Str) = some .free
  self : ∃ (ar : Arg) (r : List Str), (params.posonlyargs ++ params.args).head? = some ar ∧ ps = ar.arg :: r
/-- the context of such a def's body -/
def cxS (CX : CXT) (P : Program) (w : World) (K : PySem.W.Frag) (mg : Str → Option Value) (base : Heap) (N : List Str) (qual : Str) (scope : Scope) (f cda cc : Addr) (A : Around) (outer : List Env) (s : Shared) (H : Hp) (E : XK) : Cx where
  prog := P
  w := w
  K := K
  mg := mg
  base := base
  A := A.deeper (PySem.W.ksEnv qual scope s.heap.objs.size f (.ref cda) cc)
  N := N
  s_0 := s
  H_0 := H
  env := PySem.W.ksEnv qual scope s.heap.objs.size f (.ref cda) cc
  outer := outer
  stack := PySem.W.ksEnv qual scope s.heap.objs.size f (.ref cda) cc :: outer
  ex := []
  calm := true
  fn := fun _ => false
  pn := []
  xe := fun e s' => wpAny (model P w) (A.deeper (PySem.W.ksEnv qual scope s.heap.objs.size f (.ref cda) cc)) (leaving (PySem.W.ksEnv qual scope s.heap.objs.size f (.ref cda) cc) e) (fun _ s'' => CX outer H s E e s'') (fun e' s'' => CX outer H s E e' s'') s'
theorem zip_rev_get {x : Str} {v : Value} : ∀ {ps : List Str} {us : List Value} {i : Nat}, ps.Nodup → ps[i]? = some x → us[i]? = some v → (ps.zip us).reverse.lookup x = some v
  | [], _, _, _, h, _ => by simp at h
  | _ :: _, [], _, _, _, h => by simp at h
  | p :: ps, u :: us, 0, nd, h1, h2 => by
    simp only [List.getElem?_cons_zero, Option.some.injEq] at h1 h2
    subst h1 h2
    rw [List.zip_cons_cons, List.reverse_cons, List.lookup_append]
    have : (ps.zip us).reverse.lookup p = none := by
      rw [List.lookup_eq_none_iff]
      intro q hq
      have := (List.of_mem_zip (a := q.1) (b := q.2) (List.mem_reverse.mp hq)).1
      cases hb : (p == q.1) with
      | false => exact (by rw [hb] : (!(p == q.1)) = !false)
      | true => exact ((List.nodup_cons.mp nd).1 (by rw [beq_iff_eq.mp hb]; exact this)).elim
    rw [this]
    simp [List.lookup]
  | p :: ps, u :: us, i + 1, nd, h1, h2 => by
    rw [List.zip_cons_cons, List.reverse_cons, List.lookup_append, zip_rev_get (i := i) (List.nodup_cons.mp nd).2 (by simpa using h1) (by simpa using h2)]
    rfl
theorem startS {CX : CXT} {P : Program} {w : World} {K : PySem.W.Frag} {mg : Str → Option Value} {base : Heap} {N ps : List Str} {qual : Str} {params : Arguments} {scope : Scope} {f cda cc : Addr} {A : Around} {outer : List Env} {s : Shared} {H : Hp} {E : XK} {us : List Value} {vs : List V} {h1 : Heap} {t' : Nat} {oc : Obj} {ov : Option Value}
    (S : ScS N ps params scope) (hd : A.handled = none) (e0 : Env0 P w K mg base A outer s H) (hl : vs.length = ps.length) (r : Vals vs us) (hcc : K.lookup cc = some oc) (hcv : oc.data = .cell ov)
    (hns : h1.Ns s.heap.objs.size (fun x => (ps.zip us).reverse.lookup x)) (hk : ∀ b o, s.heap.get? b = some o → h1.get? b = some o) :
    Inv (cxS CX P w K mg base N qual scope f cda cc A outer s H E) [] (L2.start N vs) H { s with heap := h1, toks := t' } := by
  have hpl : ps.length ≤ N.length := by have := congrArg List.length S.pre; rw [List.length_take] at this; omega
  have noA : ∀ b : Addr, b ∉ (cxS CX P w K mg base N qual scope f cda cc A outer s H E).ex := fun b z => absurd (show b ∈ ([] : List Addr) from z) (by simp)
  have cl1 : ∀ {x : Str} {c : Addr}, (cxS CX P w K mg base N qual scope f cda cc A outer s H E).env.cells.lookup x = some c → x = "__class__" ∧ c = cc := fun {x c} h => by
    have h' : List.lookup x [(("__class__" : Str), cc)] = some c := h
    by_cases hx : x = "__class__"
    · subst hx
      simp [List.lookup] at h'
      exact ⟨rfl, h'.symm⟩
    · have : (x == ("__class__" : Str)) = false := by simpa using hx
      simp [List.lookup, this] at h'
  have hccb := e0.mod.kin _ _ hcc
  have hcs := e0.bs _ _ hccb
  have sc_of : ∀ y, scope.names.lookup y = some .free → y = "__class__" := fun y hy => S.free _ (PySem.mem_of_lookup hy) rfl
  refine ⟨⟨e0.mod, S.kind, rfl, rfl, Nat.le_refl _, fun y z c h1 h2 => (cl1 h1).1.trans (cl1 h2).1.symm, fun y hy => ?_, fun y c z h => (Bool.false_ne_true z).elim, fun _ => hd, Around.frames_deeper e0.frames, .inr ⟨rfl, rfl⟩, fun b z => absurd z (noA b), e0.bs, e0.bsz, fun b _ _ => noA b, fun b z => absurd z (noA b), e0.funs, e0.frf⟩,
    rfl, e0.bare, Un.kept hk, ⟨_, hns, fun i y v h1 h2 h3 => ?_⟩, fun y c h => ⟨ov, _, (cl1 h).2 ▸ hk _ _ hcs.1, hcv⟩, e0.hok.fresh (Nat.le_refl _), fun y c h => (cl1 h).2 ▸ hcs.2, fun p hp => absurd (show p ∈ ([] : List (Addr × Obj)) from hp) (by simp), e0.hok.kept hk, ?_⟩
  · have hy : scope.names.lookup y = some .cell ∨ scope.names.lookup y = some .free := hy
    rcases hy with hy | hy
    · exact absurd rfl (S.nocell _ (PySem.mem_of_lookup hy))
    · rw [sc_of y hy]
      exact ⟨cc, by show List.lookup _ [(("__class__" : Str), cc)] = _; simp [List.lookup]⟩
  · have hi : i < vs.length := by
      unfold L2.start at h2
      by_cases hi : i < vs.length
      · exact hi
      · rw [List.getElem?_append_right (by simpa using hi)] at h2
        rw [List.getElem?_replicate] at h2
        split at h2 <;> cases h2
    have ha : vs[i]? = some v := by
      unfold L2.start at h2
      rw [List.getElem?_append_left (by simpa using hi), List.getElem?_map] at h2
      cases e : vs[i]? with
      | none => rw [e] at h2; cases h2
      | some a => rw [e] at h2; cases h2; rfl
    obtain ⟨u, hu, rv⟩ := r.get ha
    have hp : ps[i]? = some y := by
      rw [← S.pre, List.getElem?_take_of_lt (by omega)]; exact h1
    have ndP : ps.Nodup := by rw [← S.pre]; exact S.nd.sublist (List.take_sublist _ _)
    exact ⟨u, rv, .inl ⟨S.par y (List.mem_of_getElem? hp), zip_rev_get ndP hp hu⟩⟩
  · unfold L2.start
    show _ = N.length
    rw [List.length_append, List.length_map, List.length_replicate]
    omega
section
open PySem.W PySem.Calls
variable {prog : Program} {w : World} {A : Around} {E : Value → Shared → Prop} {h : Heap} {g : Array GenState} {d : Drawn} {t : Nat} {os : OsState}
variable {nm q : Str} {C N : Addr} {bs bm : List Value} {sn : List Str} {sub : List Value} {ab : Bool} {col : Option Bool} {dd : Option Addr} {k0 k1 k2 k3 k5 : Option Value}
/-- ValueError.__init__ bound to an exception, called -/
theorem call_mw {u e t0 : Addr} {rest : List Value} {Q : Value → Shared → Prop} (hbm : PySem.HandSPX.refsVE bm = true)
    (hC : h.get? C = some (excClassObj nm q C N bs bm true sn sub ab col dd k0 k1 k2 k3 k5 "ValueError.__new__")) (he : h.get? e = some (PySem.HandSPX.excO C t0)) (hu : h.get? u = some (kxs_mw "ValueError.__init__" e)) (hrest : rest.length ≤ sizeLine)
    (hq : ∀ h' t1, (∀ b o, b ≠ e → h.get? b = some o → h'.get? b = some o) → h'.get? e = some (PySem.HandSPX.excO C t1) → Q .none ⟨h', g, d, t, os⟩) :
    wpAny (model prog w) A (call (.ref u) rest) Q E ⟨h, g, d, t, os⟩ := by
  refine wpAny_call (codeAny_of_tree ?_)
  show wpAny _ A.in1 (callAny (.ref u) ⟨rest, []⟩) _ _ _
  simp only [callAny]
  refine wpAny_bind (wpAny_load hu ?_)
  simp only [kxs_mw, show (Value.type "method-wrapper" == Value.type "method" || Value.type "method-wrapper" == Value.type "builtin_function_or_method" || Value.type "method-wrapper" == Value.type "method-wrapper") = true by decide, if_true]
  refine KFB.if_so (by decide) ?_
  refine wpAny_bind (check_bound_init F.excBase_ValueError.toExcCallFacts hC he rfl ?_)
  refine wpAny_bind (wpAny_pure (wpAny_pure ?_))
  refine ⟨plainId_quiet F.excBase_ValueError.init.plain _, codeAny_builtin F.excBase_ValueError.initEntry ?_⟩
  exact exc_init_tree (cls := .ref C) (t0 := t0) (dv := none) (c2 := .none) (c3 := .none) (b4 := .bool false) he hrest fun h' k e' _ => hq h' _ k e'
end
section
open PySem.W PySem.Calls
variable {P : Program} {K : PySem.W.Frag} {qual : Str} {params : Arguments} {body : List Stmt} {scope : Scope} {C f : Addr} {fd : FuncData} {N ps : List Str}
/-- the statement super().__init__(e, ..) -/
theorem sup_stmt {CX : CXT} {w : World} {mg : Str → Option Value} {base : Heap} {cda cc : Addr} {A : Around} {outer : List Env} {s0 : Shared} {H0 H : Hp} {E0 : XK} {σ : L2.St} {s : Shared} {a : Addr} {ta : TA} {e : Expr} {es : List Expr} {p0 p1 p2 p3 p4 : Pos} {Q : Hp → Prop} {body' : List Stmt}
    {oc dV kV doc pm ct : Value} {od an : Option Addr} {osl : Array (Option Value)} {ccl : Value} {cdd : Option Addr} {vs : Array Value} {ccs csl : Array (Option Value)} {file : Str} {tf : Tok} {cl : Value} {cld : Option Addr}
    (S : ScS N ps params scope) (T : OexC K C) (sup : ks_superIn K C C "__init__" = some (some (.builtin "ValueError.__init__"))) (ve : subIn K (.ref C) (.type "ValueError") = some true) (own : mroIn K C (.ref C) = some true)
    (opq : nsIn K cStatics "thirdparty.any" = some none) (top : (P.main.scope.names.lookup ("super" : Str)).isSome = false) (hmg : mg "super" = none)
    (lk : K.lookup f = some ⟨oc, od, .func (fnX "__init__" qual params body' scope [("__class__", cc)] dV kV doc pm an (.ref cda) ct), osl⟩)
    (lc : K.lookup cda = some ⟨ccl, cdd, .fields vs, ccs⟩) (hvs : vs[2]? = some (.str file tf)) (hfile : ((P.main.file : Str) == file) = true) (lcc : K.lookup cc = some ⟨cl, cld, .cell (some (.ref C)), csl⟩)
    (I : Inv (cxS CX P w K mg base N qual scope f cda cc A outer s0 H0 E0) [] σ H s) (h0 : σ[0]? = some (some (V.ref a))) (ha : H a = some (exo a C none)) (ht : PA (cxS CX P w K mg base N qual scope f cda cc A outer s0 H0 E0) (e :: es) ta)
    (h : ta σ H fun ws H1 => ws.length ≤ 1000 ∧ H1 a = some (exo a C none) ∧ Q H1) 
    {pl : Sem Bool} (hc : eval (.Call (.Attribute (.Call (.Name "super" p0) [] [] p1) "__init__" p2) (e :: es) [] p3) (cxS CX P w K mg base N qual scope f cda cc A outer s0 H0 E0).env = (do
      let ov ← attributeBase (.Call (.Name "super" p0) [] [] p1) "__init__" (cxS CX P w K mg base N qual scope f cda cc A outer s0 H0 E0).env (eval (.Call (.Name "super" p0) [] [] p1) (cxS CX P w K mg base N qual scope f cda cc A outer s0 H0 E0).env)
      standAt p2.atName
      let (f1, first) ← holding [ov] (getMethod ov "__init__" pl)
      callWith p3 f1 first (backTo p3 (starEach (e :: es) (cxS CX P w K mg base N qual scope f cda cc A outer s0 H0 E0).env)) []))
    (hplain : (backTo p3 (starEach es (cxS CX P w K mg base N qual scope f cda cc A outer s0 H0 E0).env)).any (·.1) = false)
    (hst : starEach (e :: es) (cxS CX P w K mg base N qual scope f cda cc A outer s0 H0 E0).env = (false, eval e (cxS CX P w K mg base N qual scope f cda cc A outer s0 H0 E0).env) :: starEach es (cxS CX P w K mg base N qual scope f cda cc A outer s0 H0 E0).env) :
    PySem.wpAt (model P w) (cxS CX P w K mg base N qual scope f cda cc A outer s0 H0 E0).A (.func body (cxS CX P w K mg base N qual scope f cda cc A outer s0 H0 E0).env)
      (exec (.Expr (.Call (.Attribute (.Call (.Name "super" p0) [] [] p1) "__init__" p2) (e :: es) [] p3) p4) (cxS CX P w K mg base N qual scope f cda cc A outer s0 H0 E0).env)
      (fun fl s' => fl = .next ∧ ∃ H', Inv (cxS CX P w K mg base N qual scope f cda cc A outer s0 H0 E0) [] σ H' s' ∧ Q H') (cxS CX P w K mg base N qual scope f cda cc A outer s0 H0 E0).xe s := by
  obtain ⟨nm, q, Nn, bs, bm, sn, sub, ab, col, dd, k0, k1, k2, k3, k5, hC, hbm⟩ := T.cls
  have hcl : clsIn K C = some { name := nm, bases := bs, mro := .ref C :: bm, ns := Nn, qualname := q, hasDict := true, slotNames := sn, subclasses := sub, abstract := ab, collection := col, hasDel := false } := by unfold clsIn; rw [hC] <;> rfl
  obtain ⟨ar, pr, har, hps⟩ := S.self
  have hN0 : N[0]? = some ar.arg := by
    have := S.pre
    rw [hps] at this
    cases N with
    | nil => simp at this
    | cons n N => simp only [List.length_cons, List.take_succ_cons, List.cons.injEq] at this; rw [this.1]; rfl
  have hka : scope.names.lookup ar.arg = some .local := S.par _ (by rw [hps]; exact List.mem_cons_self ..)
  obtain ⟨m, hns, hlook⟩ := id I.loc
  obtain ⟨u, hu, hl⟩ := hlook 0 ar.arg (.ref a) hN0 h0 (.inl hka)
  obtain rfl : u = Value.ref a := hu
  have hma : m ar.arg = some (.ref a) := by
    rcases hl with ⟨_, hl⟩ | ⟨hl, _⟩
    · exact hl
    · rcases hl with hl | hl <;> exact absurd (hka.symm.trans hl) (by decide)
  have KX : K.In s.heap := I.kIn
  obtain ⟨t1, hx⟩ := exo_at I.hok ha
  have hxC : a ≠ C := fun z => by
    have := KX _ _ hC
    rw [← z, hx] at this
    cases this
  have hint : interactive (ksEnv qual scope s0.heap.objs.size f (.ref cda) cc) = false := I.quiet
  obtain ⟨mb, hb1, hb2⟩ := I.mod.blt
  refine ks_wpAt_Expr_any (ks_wpAt_MethodCall (pl := pl) ?_ hc) hint
  refine ks_wpAt_super_base (env := ksEnv qual scope s0.heap.objs.size f (.ref cda) cc) S.sup S.cls (by decide) rfl (KX _ _ lk) rfl har rfl (KX _ _ lc) rfl hvs hfile top ?_
  refine ks_loadName_global S.kind S.sup (loadGlobal_builtin (I.mod.glob.keeps I.bk) hmg (hb1.keeps I.bk) ((hb2 "super" (by decide)).trans PyProof.Rows.Boot.«super») ⟨rfl, ?_⟩)
  refine wpAny_loadName_free S.kind S.cls rfl ⟨_, KX _ _ lcc, rfl⟩ ?_
  refine wpAny_loadName_local S.kind hka hns hma ?_
  refine ks_wpAny_isType_cls (KX _ _ hC) rfl ⟨rfl, ?_⟩
  obtain ⟨hp, g, d, tk, os⟩ := s
  refine ks_wpAny_call_super (KX _ _ hC) rfl hx rfl (fun c z => by cases z) (looks_mroIn KX own) (fun h1 e1 k1 => ?_)
  have I1 := I.kept (t' := tk) (h' := h1) k1
  have K1 : K.In h1 := I1.kIn
  have hx1 := k1 _ _ hx
  have LT : Looks (model P w) h1 (typeOf (.ref a)) (.ref C) := fun A Q E s k q => wpAny_typeOf_ref (k _ _ hx1) q
  refine kxs_getMethod kxs_ValueError e1 (looks_opaque K1 opq) (l₀ := .ref C :: bm) ((looks_clsIn K1 hcl).andThen .now) rfl K1 ?_ (LT.andThen (looks_subIn K1 ve)) hxC (by decide) ?_
  · unfold ks_superIn at sup
    rw [hcl] at sup
    exact sup
  have hu : (h1.push (kxs_mw "ValueError.__init__" a)).get? h1.objs.size = some (kxs_mw "ValueError.__init__" a) := Heap.get?_push_at rfl rfl
  have I2 := I1.kept (t' := tk + 1) (h' := h1.push (kxs_mw "ValueError.__init__" a)) (fun b o e => Heap.get?_push_of_some _ e)
  have I3 := I2.pins_of (pins' := [(h1.objs.size, kxs_mw "ValueError.__init__" a)]) (fun p hp => by
    rw [List.mem_singleton.mp hp]
    exact ⟨hu, I1.hok.fresh (Nat.le_refl _), Nat.ne_of_gt I1.lt, I1.nofs (Nat.le_refl _), fun v z => by cases z⟩)
  have hA := ht.run p3 _ _ σ H _ I3 h
  rw [hst] at hA ⊢
  refine kxs_callWith (i := "ValueError.__init__") (x := a) (by show (false || (backTo p3 (starEach es _)).any (·.1)) = false; rw [hplain]; rfl) (evalArgs_plain ?_)
  refine thn hA fun us s1 ⟨ws, H1, J, r1, hlen, ha1, hq⟩ => ?_
  have hu1 := (J.pin _ (List.mem_append_right _ (List.mem_singleton_self _))).1
  obtain ⟨t2, hx2⟩ := exo_at J.hok ha1
  refine ⟨hu1, ?_⟩
  have hl2 : us.length ≤ sizeLine := by
    rw [← Paired.length r1, sizeLine_eq]
    omega
  have KX2 : K.In s1.heap := J.kIn
  obtain ⟨hp2, g2, d2, tk2, os2⟩ := s1
  refine call_mw hbm (KX2 _ _ hC) hx2 hu1 hl2 fun h' t3 k3 e3 => ⟨rfl, H1, ?_, hq⟩
  have J2 := J.write (t' := tk2) (x := a) (e := a) (o := exo a C none) (by rw [ha1]; exact True.intro) (.inl rfl) k3 ⟨_, e3⟩ (exo_ok e3)
  have eu : upd H1 a (exo a C none) = H1 := by
    funext b
    by_cases hb : b = a
    · rw [hb, upd_same, ha1]
    · rw [upd_ne hb]
  rw [eu] at J2
  exact ⟨J2.ok, J2.os, J2.bare, J2.base, J2.loc, J2.cell, J2.free, J2.freeC, fun p hp => J2.pin p (List.mem_append_left _ (by rw [List.append_nil] at hp; exact hp)), J2.hok, J2.len⟩
/-- THE RULE for such a def -/
theorem FunS.ok {CX : CXT} {w : World} {mg : Str → Option Value} {base : Heap} {sp : Sp} {k : Nat} {e : Expr} {es : List Expr} {p0 p1 p2 p3 p4 : Pos} {rest : List Stmt} 
    (F : FunS P K qual params (.Expr (.Call (.Attribute (.Call (.Name "super" p0) [] [] p1) "__init__" p2) (e :: es) [] p3) p4 :: rest) scope C f fd) (T : OexC K C) (S : ScS N ps params scope) (hmg : mg "super" = none)
    (len : ∀ vs H Q E, sp vs H Q E → vs.length = ps.length) {pl : Env → Sem Bool}
    (hc : ∀ env : Env, eval (.Call (.Attribute (.Call (.Name "super" p0) [] [] p1) "__init__" p2) (e :: es) [] p3) env = (do
      let ov ← attributeBase (.Call (.Name "super" p0) [] [] p1) "__init__" env (eval (.Call (.Name "super" p0) [] [] p1) env)
      standAt p2.atName
      let (f1, first) ← holding [ov] (getMethod ov "__init__" (pl env))
      callWith p3 f1 first (backTo p3 (starEach (e :: es) env)) []))
    (hplain : ∀ env, (backTo p3 (starEach es env)).any (·.1) = false) (hst : ∀ env, starEach (e :: es) env = (false, eval e env) :: starEach es env)
    (hbody : ∀ (cda cc : Addr) (A : Around) (outer : List Env) (s : Shared) (H : Hp) (vs : List V) (Q : VK) (E : XK), Room k (A.deeper (ksEnv qual scope s.heap.objs.size f (.ref cda) cc)) → sp vs H Q E →
      ∃ ta t, PA (cxS CX P w K mg base N qual scope f cda cc A outer s H E) (e :: es) ta ∧ PSs (cxS CX P w K mg base N qual scope f cda cc A outer s H E) rest t ∧ ∃ a, (L2.start N vs)[0]? = some (some (V.ref a)) ∧ H a = some (exo a C none) ∧
        ta (L2.start N vs) H fun ws H1 => ws.length ≤ 1000 ∧ H1 a = some (exo a C none) ∧ t { nx := fun _ H' => Q .non H', rt := Q } (L2.start N vs) H1) : FnOk P w K mg base CX (k + 1) f fd ps sp := by
  obtain ⟨oc, od, dV, kV, doc, pm, an, cda, ct, osl, cc, rfl, lk, hcd, _, _, ⟨ccl, cdd, cvs, ccs, file, tf, lc, hvs, hfile⟩, ⟨cl, cld, csl, lcc⟩⟩ := F.ex
  refine ⟨len, fun A outer s H args us vs Q E hr e0 hb r hsp => ?_⟩
  have hl := len _ _ _ _ hsp
  have KX : K.In s.heap := e0.mod.kin.keeps fun b o e => (e0.bs b o e).1
  have lim : s.heap.NoLimit := e0.mod.nolimit.keeps fun b o e => (e0.bs b o e).1
  refine ks_codeAny_call_defAt (fd := fnX "__init__" qual params _ scope [("__class__", cc)] dV kV doc pm an (.ref cda) ct) (binds := ps.zip us) hr.depth (KX _ _ lk) rfl lim (codeRec_of KX hcd) rfl hb S.nocell (fun x hx => S.par _ (List.of_mem_zip (a := x.1) (b := x.2) hx).1) (fun h0 hns hk => ?_) S.co S.gen S.kind
  obtain ⟨ta, t, pa, ht, a, h0a, ha, hta⟩ := hbody cda cc A outer s H vs Q E (hr.deeper _) hsp
  have I : Inv (cxS CX P w K mg base N qual scope f cda cc A outer s H E) [] (L2.start N vs) H { s with heap := h0, toks := s.toks + (ps.zip us).length } := startS S hr.hd e0 hl r lcc rfl hns hk
  refine ks_wpAt_execs_cons (ks_wpAt_mono (sup_stmt (pl := pl _) S T F.sup F.ve F.own F.opq F.top hmg lk lc hvs hfile lcc I h0a ha pa hta (hc _) (hplain _) (hst _)) (fun fl s1 q => ?_) fun e s' z => z)
  obtain ⟨rfl, H1, J, hq⟩ := q
  refine wpAt_of_wpAny (wpAny_mono (ht.run [] s1 _ H1 _ J hq) (fun fl s' hs => ?_) fun e s' hs => hs)
  have fin : ∀ {σ' : L2.St} {H' : Hp} {v : V} {u : Value}, Inv (cxS CX P w K mg base N qual scope f cda cc A outer s H E) [] σ' H' s' → RelV v u → Q v H' → CE outer P w H s Q u s' :=
    fun {σ' H' v u} J rv q => ⟨v, H', J.os, J.bare, J.base, J.hok, rv, q⟩
  cases fl with
  | ret u =>
    obtain ⟨v, σ', H', J, rv, q⟩ := hs
    exact fin J rv q
  | next =>
    obtain ⟨σ', H', J, q⟩ := hs
    exact fin (v := V.non) (u := Value.none) J rfl q
  | brk =>
    obtain ⟨_, _, _, q⟩ := hs
    exact False.elim q
  | cont =>
    obtain ⟨_, _, _, q⟩ := hs
    exact False.elim q
end
end Xr

set_option Elab.async false
set_option linter.all false
set_option maxRecDepth 100000
set_option maxHeartbeats 4000000
/-! several clauses: except X as n -/
namespace Xr
open PySem PySem.Spec PyProof.Rows L2
abbrev Cl : Type := Value × Nat × (Addr → Value → Option Addr → TS)
/-- the ends of a suite whose name (slot i) goes -/
def goEnds (D : Ends) (i : Nat) : Ends := { nx := fun σ' H' => D.nx (σ'.set i none) H', rt := D.rt, bk := fun σ' H' => D.bk (σ'.set i none) H', ct := fun σ' H' => D.ct (σ'.set i none) H' }
def wAsM (K : PySem.W.Frag) (Wo : WX) (D : Ends) : List Cl → WX
  | [] => Wo
  | q :: r => fun cls d σ H => ∃ b, PySem.W.exmOne K cls q.1 = some b ∧ (b = true → ∀ a, H a = none → q.2.2 a cls d (goEnds D q.2.1) (σ.set q.2.1 (some (.ref a))) H) ∧ (b = false → wAsM K Wo D r cls d σ H)
inductive HdsAs (X : Cx) : List ExceptHandler → List Cl → Prop
  | nil : HdsAs X [] []
  | cons {x n : Str} {i : Nat} {c : Value} {ts : Addr → Value → Option Addr → TS} {b0 : Stmt} {su : List Stmt} {np p' : Pos} {hds : List ExceptHandler} {l : List Cl} (hi : X.N[i]? = some n) (hln : X.env.kindOf n = some .local) (hc : Names X x c)
      (hsu : ∀ (a : Addr) (oe : Obj) (cls : Value) (d : Option Addr) (pn : List (Addr × Obj)), Zc cls d oe → (∃ vs, oe.data = .fields vs) → PSs (X.suite a ((a, oe) :: pn)) (b0 :: su) (ts a cls d)) (r : HdsAs X hds l) :
      HdsAs X (.ExceptHandler (some (.Name x np)) (some n) (b0 :: su) p' :: hds) ((c, i, ts) :: l)
section
variable {X : Cx} {pins : List (Addr × Obj)} {σ : L2.St} {H : Hp} {D : Ends}
/-- behind a suite: its name goes -/
theorem suite_gone {a : Addr} {q : Addr × Obj} {i : Nat} {n : Str} {p' : Pos} {f : Flow} {s6 : Shared} (ok : X.Ok) (hN : X.N.Nodup) (hi : X.N[i]? = some n) (hln : X.env.kindOf n = some .local)
    (h : SP (X.suite a (q :: (X.pn ++ pins))) [] (goEnds D i) f s6) : wpAny (model X.prog X.w) X.A (do bindName X.env n .none; unbindBehindTheSuite X.env n p') (fun _ s7 => SP X pins D f s7) X.xe s6 := by
  cases f with
  | next => obtain ⟨τ, G, J, z⟩ := h; exact gone_ok (J.unsuite ok) hN hi hln fun s7 J7 => ⟨_, _, J7, z⟩
  | brk => obtain ⟨τ, G, J, z⟩ := h; exact gone_ok (J.unsuite ok) hN hi hln fun s7 J7 => ⟨_, _, J7, z⟩
  | cont => obtain ⟨τ, G, J, z⟩ := h; exact gone_ok (J.unsuite ok) hN hi hln fun s7 J7 => ⟨_, _, J7, z⟩
  | ret u => obtain ⟨v, τ, G, J, r, z⟩ := h; exact gone_ok (J.unsuite ok) hN hi hln fun s7 J7 => ⟨_, _, _, J7, r, z⟩
/-- try: .. several clauses except X as n -/
theorem ps_try_asM {body : List Stmt} {hd0 : ExceptHandler} {hds : List ExceptHandler} {l : List Cl} {pos : Pos} {tb : WX → TS} {Wo : WX} (hN : X.N.Nodup) (hs : X.stack = X.env :: X.outer) (hf : X.env.frame = some X.env.locals) (tk : Takes X Wo)
    (hb : ∀ (W : WX) (pn : List (Addr × Obj)) (xe : Value → Shared → Prop), Takes (X.tr pn xe) W → PassesOwn (model X.prog X.w) X.A X.env xe → PSs (X.tr pn xe) body (tb W))
    (hh : HdsAs X (hd0 :: hds) l) : PS X (.Try body (hd0 :: hds) [] [] pos) (fun D σ H => tb (wAsM X.K Wo D l) D σ H) := by
  refine ⟨fun pins s σ H D I h => ?_⟩
  have ok := I.ok
  have hfr : X.A.frames = some (X.env :: X.outer) := ok.frames.trans (by rw [hs])
  refine wpAny_Try_except (wpAny_mono ((hb (wAsM X.K Wo D l) (X.pn ++ pins) (fun e s1 => wpAny (model X.prog X.w) X.A (noteFrame e X.env) (fun _ s2 => wpAny (model X.prog X.w) X.A (setFlight e none)
    (fun _ s3 => wpAny (model X.prog X.w) X.A (handleBy e X.env (hd0 :: hds)) (SP X pins D) X.xe s3) X.xe s2) X.xe s1) (fun u s' xx => ?caught) PassesOwn.looking).run [] s σ H D (I.toTry _) h) (fun f s1 hsp => ?done) (fun e s1 he => he))
  case done =>
    cases f with
    | next => obtain ⟨τ, G, J, z⟩ := hsp; exact wpAny_execs_nil ⟨τ, G, J.ofTry ok, z⟩
    | brk => obtain ⟨τ, G, J, z⟩ := hsp; exact ⟨τ, G, J.ofTry ok, z⟩
    | cont => obtain ⟨τ, G, J, z⟩ := hsp; exact ⟨τ, G, J.ofTry ok, z⟩
    | ret u => obtain ⟨v, τ, G, J, r, z⟩ := hsp; exact ⟨v, τ, G, J.ofTry ok, r, z⟩
  case caught =>
    obtain ⟨a, B, sI, pins1, τ, G, cls, d, rfl, J1, nb, up, sky, na, os, ag, wish⟩ := xx
    have J : Inv X pins τ G sI := J1.ofTry ok
    refine Sky.land (env := X.env) (outer := X.outer) (L := X.env.locals) Zc.steady hfr hf (by rw [hs] at sky; exact sky) fun h3 fl up3 => ?_
    -- the exception is no frame of ours
    have apart : ∀ {g : Heap} {o : Obj} {ws : Array Value}, g.FunFrames B (X.env :: X.outer) → g.get? a = some o → o.data = .fields ws → a ≠ X.env.locals ∧ a ∉ X.fs := fun {g o ws} ff e dd => by
      have nfr : a ∉ frs (X.env :: X.outer) := fun hm => by
        obtain ⟨_, o1, e1, hnf⟩ := ff.mem hm
        exact hnf _ ((Option.some.inj (e1.symm.trans e)) ▸ dd)
      exact ⟨fun z => nfr (List.mem_filterMap.mpr ⟨X.env, .head _, z ▸ hf⟩), fun hm => nfr (let ⟨e2, h2, q⟩ := List.mem_filterMap.mp hm; List.mem_filterMap.mpr ⟨e2, .tail _ h2, q⟩)⟩
    have go : ∀ {hs2 : List ExceptHandler} {l2 : List Cl}, HdsAs X hs2 l2 → wAsM X.K Wo D l2 cls d τ G → wpAny (model X.prog X.w) X.A (handleBy (.ref a) X.env hs2) (SP X pins D) X.xe { s' with heap := h3 } := by
      intro hs2 l2 hk
      induction hk with
      | nil =>
        intro wish2
        have end_ : wpAny (model X.prog X.w) X.A (setFlight (.ref a) X.env.frame) (fun _ s4 => wpAny (model X.prog X.w) X.A (throw (.ref a) : Sem Flow) (SP X pins D) X.xe s4) X.xe { s' with heap := h3 } := by
          rw [hf]
          exact HandSPX.setFlight_upZ fl fun h4 sk4 up4 => wpAny_throw (tk _ _ ⟨a, B, sI, pins, τ, G, cls, d, rfl, J, nb, (up.trans up3).trans up4, .inr (.inr (by rw [hs]; exact sk4)), na, os, ag, wish2⟩)
        refine wpAny_handleBy_nil ?_
        obtain ⟨_, _, _, oe, ws, T, oT, _, he, _, hd, hw1, _⟩ := id fl
        unfold PySem.passOn
        refine wpAny_bind (wpAny_field he hd hw1 ?_)
        rw [if_neg (by simp : ¬ ((Value.ref T == Value.none) = true))]
        first
          | exact wpAny_bind end_
          | exact wpAny_bind (wpAny_pure (wpAny_bind end_))
      | @cons x n i c ts b0 su np p' hds3 l3 hi hln hc hsu _ ih =>
        intro wish2
        obtain ⟨b, hm1, yes, no⟩ := wish2
        obtain ⟨oe, ws, he, hz, hd⟩ := fl.there
        have J3 : Inv X pins τ G { s' with heap := h3 } := J.landed nb fl.1 (up.trans up3) os ag
        obtain ⟨nL, nF⟩ := apart fl.2.2.1 he hd
        have S3 := J3.suite he hd na nL nF
        have LM := PySem.W.exm_one (M := model X.prog X.w) J3.kIn (fun A Q E s k q => wpAny_typeOf_ref (k _ _ he) (by rw [hz.1]; exact q) : PySem.W.Looks (model X.prog X.w) h3 (typeOf (.ref a)) cls) hm1
        refine wpAny_handleBy_cons (codeAny_handlers_test ?_) (by intro q; cases q)
        have asked : ∀ {Q : Value → Shared → Prop} {E : Value → Shared → Prop}, Q c { s' with heap := h3 } → wpAny (model X.prog X.w) (X.A.mark (some (.ref a))) (eval (.Name x np) X.env) Q E { s' with heap := h3 } := fun {Q E} q => by
          rcases hc with ⟨hg, hdbg, hm | ⟨hm, hv, hnn⟩⟩
          · exact ld_glob (X := X.suite a ((a, oe) :: (X.pn ++ pins))) S3 hg hm q hdbg
          · exact ld_blt (X := X.suite a ((a, oe) :: (X.pn ++ pins))) S3 hg hm hv q hnn hdbg
        refine asked (LM.here ?_)
        cases b with
        | false => exact ih (no rfl)
        | true =>
          refine codeAny_handlers_suite_as (HandSPX.lands_againZ fl fun h4 fl4 up4 => ?_)
          obtain ⟨oe4, ws4, he4, hz4, hd4⟩ := fl4.there
          have J4 : Inv X pins τ G { s' with heap := h4 } := J.landed nb fl4.1 ((up.trans up3).trans up4) os ag
          refine store_ok (X := X.suite a ((a, oe4) :: (X.pn ++ pins))) (v := .ref a) (J4.suite he4 hd4 na nL nF) hN hi (.inl hln) rfl (fun s5 S5 => ?_) (.inr hln)
          exact wpAny_mono ((hsu a oe4 cls d (X.pn ++ pins) hz4 ⟨_, hd4⟩).run [] s5 _ G _ S5 (yes rfl a na)) (fun f s6 hsp => suite_gone ok hN hi hln hsp) fun _ _ z => z.elim
    exact go hh wish
end
section
variable {X : Cx} {CX : CXT} {k : Nat} {f C : Addr} {fd : FuncData} {ps : List Str} {sp : Sp} {E : L2.St → XK} {m : Str} {pos apos : Pos} {e o : Expr} {es : List Expr} {ta : TE} {t : TA}
/-- o.m(e, ..) of a method that may raise: the wish depends on the slots -/
def tMethS (C : Addr) (m : Str) (sp : Sp) (E : L2.St → XK) (ta : TE) (t : TA) : TE := fun σ H Q => ta σ H fun x H1 => ∃ a dx fs, x = .ref a ∧ H1 a = some (.ins C dx fs) ∧ fs.lookup m = none ∧ t σ H1 fun vs H2 => sp (x :: vs) H2 Q (E σ)
theorem pe_methW {pl : Sem Bool} (he : PE X o ta) (c : Cls X.K C) (hm : Meth X.K C m f) (F : FnOk X.prog X.w X.K X.mg X.base CX k f fd ps sp) (hr : Room k X.A) (hb : Binds X.K fd ps []) (hx : ∀ σ, PassesAt CX X σ (E σ)) (ha : PA X (e :: es) t)
    (ht : eval (.Call (.Attribute o m apos) (e :: es) [] pos) X.env = (do
      let ov ← eval o X.env
      standAt apos.atName
      let (f1, first) ← holding [ov] (getMethod ov m pl)
      callWith pos f1 first (backTo pos (starEach (e :: es) X.env)) (backToKw pos (keywordEach [] X.env))) := by rfl)
    (hst : starEach (e :: es) X.env = (false, eval e X.env) :: starEach es X.env := by rfl) (hpl : (backTo pos (starEach es X.env)).any (·.1) = false := by rfl) :
    PE X (.Call (.Attribute o m apos) (e :: es) [] pos) (tMethS C m sp E ta t) := by
  refine ⟨fun pins s σ H Q I h => PySem.W.methodCall_KW (pl := pl) (thn (he.run pins s σ H _ I h) fun u s1 hh => ?_) ht⟩
  obtain ⟨_, H1, I1, rx, a, dx, fs, rfl, ea, l, q⟩ := hh
  cases (show u = Value.ref a from rx)
  refine getmeth_ok I1 ea c hm l (PySem.W.callWith_K (first := [.ref a]) (h₀ := X.base) I.ok.mod.kin hm.kp (thn (ha.run pos pins s1 σ H1 _ I1 q) fun us s2 hh => ?_) hst hpl)
  obtain ⟨vs, H2, I2, r, q2⟩ := hh
  exact ⟨I2.kIn, run_fnS (us := .ref a :: us) (vs := .ref a :: vs) F hr hb (hx σ) I2 (.cons rfl r) q2⟩
end
/-- a def that may raise, where it does not -/
theorem FnOk.calm {P : Program} {w : World} {K : PySem.W.Frag} {mg : Str → Option Value} {base : Heap} {k : Nat} {f : Addr} {fd : FuncData} {ps : List Str} {sp : Sp} (F : FnOk P w K mg base (L2.CX P w) k f fd ps sp) : FnOk P w K mg base CX0 k f fd ps (fun vs H Q _ => sp vs H Q (fun _ _ _ => False)) := by
  refine ⟨fun vs H Q E h => F.len vs H Q _ h, fun A outer s H args us vs Q E hr e0 hb r h => codeAny_mono (F.run A outer s H args us vs Q (fun _ _ _ => False) hr e0 hb r h) fun r s' hq => ?_⟩
  cases r with
  | ok fl => cases fl <;> exact hq
  | error u =>
    obtain ⟨_, _, _, _, _, _, _, _, _, _, _, _, z⟩ := (show L2.CX P w outer H s (fun _ _ _ => False) u s' from hq)
    exact z.elim
end Xr

set_option Elab.async false
set_option linter.all false
set_option maxRecDepth 100000
set_option maxHeartbeats 4000000
/-! == and != of instances of a class without __eq__, __ne__ of its own: by identity -/
namespace Xr
open PySem PySem.Spec PyProof.Rows L2
/-- what K says of such a class -/
structure CmpC (K : PySem.W.Frag) (C : Addr) : Prop where
  ex : ∃ (nm q : Str) (N : Addr) (bs : List Value) (hdct : Bool) (sn : List Str) (sub : List Value) (ab : Bool) (col : Option Bool) (dd : Option Addr) (k0 k1 k2 k3 k5 : Option Value) (newId : String) (o : Obj) (es : Array DictEntry) (ep : Nat),
    K.lookup C = some (excClassObj nm q C N bs [.type "object"] hdct sn sub ab col dd k0 k1 k2 k3 k5 newId) ∧ K.lookup N = some o ∧ o.data = .dict es ep ∧ StrKeys es ∧ nsFind es "__eq__" = none ∧ nsFind es "__ne__" = none
theorem CmpC.inst {K : PySem.W.Frag} {C a dx : Addr} {P : Program} {w : World} {H : Hp} {h : Heap} {fs : List (Str × V)} (c : CmpC K C) (X : K.In h) (hok : HOk P w H h) (ha : H a = some (.ins C dx fs)) : h.CmpInst a C [.type "object"] := by
  obtain ⟨nm, q, N, bs, hdct, sn, sub, ab, col, dd, k0, k1, k2, k3, k5, newId, o, es, ep, h1, h2, h3, h4, h5, h6⟩ := c.ex
  obtain ⟨mA, O, _⟩ := ins_get hok ha
  obtain ⟨od, J, _⟩ := O.look
  exact ⟨_, nm, q, N, bs, hdct, sn, sub, ab, col, dd, k0, k1, k2, k3, k5, newId, nsFind es, J.at_, J.cls, X _ _ h1, ⟨o, es, ep, X _ _ h2, h3, h4, fun _ => rfl⟩, h5, h6⟩
def rEqI (K : PySem.W.Frag) (ne : Bool) : R2 := fun x y H Q => ∃ a b C dx fs dx' fs', x = .ref a ∧ y = .ref b ∧ CmpC K C ∧ H a = some (.ins C dx fs) ∧ H b = some (.ins C dx' fs') ∧ Q (.bl (decide (a = b) != ne)) H
section
variable {X : Cx}
theorem op_eqI (hu : X.A.units + 64 < cLine) : OpR X (compareOp .Eq) (rEqI X.K false) := by
  intro pins s σ H x y v u Q I rx ry h
  obtain ⟨a, b, C, dx, fs, dx', fs', rfl, rfl, c, ha, hb, q⟩ := h
  cases rx
  cases ry
  have i1 := c.inst I.kIn I.hok ha
  have i2 := c.inst I.kIn I.hok hb
  obtain ⟨hp, g, d, t, os⟩ := s
  by_cases hab : a = b
  · subst hab
    refine compareOp_eq_same F.cmp_object i1 (by omega) ⟨.bl true, H, I, rfl, ?_⟩
    rw [decide_eq_true rfl] at q
    exact q
  · refine compareOp_eq_other F.cmp_object F.cmp_object i1 i2 hab (by omega) ⟨.bl false, H, I, rfl, ?_⟩
    rw [decide_eq_false hab] at q
    exact q
theorem op_neI (hu : X.A.units + 64 < cLine) : OpR X (compareOp .NotEq) (rEqI X.K true) := by
  intro pins s σ H x y v u Q I rx ry h
  obtain ⟨a, b, C, dx, fs, dx', fs', rfl, rfl, c, ha, hb, q⟩ := h
  cases rx
  cases ry
  have i1 := c.inst I.kIn I.hok ha
  have i2 := c.inst I.kIn I.hok hb
  obtain ⟨hp, g, d, t, os⟩ := s
  by_cases hab : a = b
  · subst hab
    refine compareOp_ne_same F.cmp_object i1 (by omega) ⟨.bl false, H, I, rfl, ?_⟩
    rw [decide_eq_true rfl] at q
    exact q
  · refine compareOp_ne_other F.cmp_object F.cmp_object i1 i2 hab (by omega) ⟨.bl true, H, I, rfl, ?_⟩
    rw [decide_eq_false hab] at q
    exact q
theorem q_eqI (K : PySem.W.Frag) (hK : X.K = K) (hu : X.A.units + 64 < cLine) : OpR X (compareOp .Eq) (rEqI K false) := hK ▸ op_eqI hu
theorem q_neI (K : PySem.W.Frag) (hK : X.K = K) (hu : X.A.units + 64 < cLine) : OpR X (compareOp .NotEq) (rEqI K true) := hK ▸ op_neI hu
end
end Xr

set_option Elab.async false
set_option linter.all false
set_option maxRecDepth 100000
set_option maxHeartbeats 4000000
/-! the head's facts, the interpreter's statics and own exceptions among them -/
namespace HeS
open PySem PySem.Spec PyProof.Rows L2 He Xr
def asS (g : Addr → Option Obj) (n : Nat) : List Addr := asD g n ++ [cStatics]
/-- the __init__ of an own exception -/
structure DefZ where
  cls : Str
  qual : Str
  params : Arguments
  body : List Stmt
  scope : Scope
def DefZ.at_ (d : DefZ) : Str × Option Str := (d.cls, some "__init__")
abbrev FnZ : Type := Option (Str × Str × Arguments × FuncBody × Scope × Addr × List Str × Addr)
def fnZ (K : PySem.W.Frag) (p : Str × Option Str) : FnZ := match K.lookup (fAd K p) with
  | some ⟨_, _, .func fd, _⟩ => some (fd.name, fd.qualname, fd.params, fd.body, fd.scope, fd.globals, fd.closure.map (·.1), fd.builtins)
  | _ => none
def DefZ.val (d : DefZ) : FnZ := some ("__init__", d.qual, d.params, .stmts d.body, d.scope, mainGlobals, ["__class__"], builtinsNs)
def fileB (K : PySem.W.Frag) (fl : Str) (cd : Value) : Bool := match cd with
  | .ref c => (match K.lookup c with
    | some ⟨_, _, .fields vs, _⟩ => (match (vs[2]? : Option Value) with
      | some (Value.str file _) => fl == file
      | _ => false)
    | _ => false)
  | _ => false
def cellB (K : PySem.W.Frag) (C : Addr) (cl : List (Str × Addr)) : Bool := match cl with
  | [(_, cc)] => (match K.lookup cc with
    | some ⟨_, _, .cell (some (.ref D)), _⟩ => decide (D = C)
    | _ => false)
  | _ => false
def oexB (K : PySem.W.Frag) (C : Addr) : Bool := match K.lookup C with
  | some ⟨.type "type", _, .cls cd, sl⟩ => (match cd.mro, sl.toList with
    | .ref C' :: bm, [_, _, _, _, some (.builtin n), _] => decide (C' = C) && (decide (n = "ValueError.__new__") && (!cd.hasDel && (cd.hasDict && PySem.HandSPX.refsVE bm)))
    | _, _ => false)
  | _ => false
def DefZ.ok (P : Program) (K : PySem.W.Frag) (d : DefZ) : Bool := PySem.W.keepIn K (.ref (fAd K d.at_)) && ((match K.lookup (fAd K d.at_) with
    | some ⟨_, _, .func fd, _⟩ => PySem.W.codeIn K fd.code d.qual && (dflB K fd.defaults [] && (fileB K P.main.file fd.code && cellB K (ga K d.cls) fd.closure))
    | _ => false) &&
  (decide (PySem.W.ks_superIn K (ga K d.cls) (ga K d.cls) "__init__" = some (some (.builtin "ValueError.__init__"))) && (decide (PySem.W.subIn K (.ref (ga K d.cls)) (.type "ValueError") = some true) && (decide (PySem.W.mroIn K (ga K d.cls) (.ref (ga K d.cls)) = some true) &&
  (decide (PySem.W.nsIn K cStatics "thirdparty.any" = some none) && !(P.main.scope.names.lookup ("super" : Str)).isSome)))))
/-- an own exception class -/
def excB (K : PySem.W.Frag) (x f : Str) : Bool := oexB K (ga K x) && (eqO (PySem.W.findIn K (.ref (ga K x)) "__setattr__") (some (some (.builtin "object.__setattr__"))) && (decide (PySem.W.subIn K (.ref (ga K x)) (.type "BaseException") = some true) && (decide (PySem.W.typeIn K (.ref (ga K x)) = some (.type "type")) && (PySem.W.keepIn K (.ref (ga K x)) &&
  (xfB K (ga K x) && (eqO (PySem.W.findIn K (.ref (ga K x)) f) (some none) && (eqO (PySem.W.findIn K (.ref (ga K x)) "__init__") (some (some (.ref (fAd K (x, some "__init__"))))) && decide (PySem.W.typeIn K (.ref (fAd K (x, some "__init__"))) = some (.type "function")))))))))
theorem DefZ.funS {P : Program} {K : PySem.W.Frag} {d : DefZ} (e : fnZ K d.at_ = d.val) (c : d.ok P K = true) : ∃ fd, FunS P K d.qual d.params d.body d.scope (ga K d.cls) (fAd K d.at_) fd := by
  obtain ⟨kp, c⟩ := ba c
  obtain ⟨c1, c⟩ := ba c
  obtain ⟨c2, c⟩ := ba c
  obtain ⟨c3, c⟩ := ba c
  obtain ⟨c4, c⟩ := ba c
  obtain ⟨c5, c6⟩ := ba c
  unfold fnZ at e
  cases q : K.lookup (fAd K d.at_) with
  | none =>
    rw [q] at c1
    cases c1
  | some o =>
    obtain ⟨oc, od, dt, osl⟩ := o
    rw [q] at c1 e
    cases dt with
    | func fd =>
      obtain ⟨n1, n2, n3, n4, n5, n6, n7, n8, n9, n10, n11, n12, n13, n14, n15⟩ := fd
      have e2 : (some (n1, n2, n3, n4, n5, n6, n7.map (·.1), n15) : FnZ) = (some (("__init__" : Str), d.qual, d.params, FuncBody.stmts d.body, d.scope, mainGlobals, (["__class__"] : List Str), builtinsNs) : FnZ) := e
      simp only [Option.some.injEq, Prod.mk.injEq] at e2
      obtain ⟨h1, h2, h3, h4, h5, h6, h7, h8⟩ := e2
      subst h1 h2 h3 h4 h5 h6 h8
      obtain ⟨k1, k⟩ := ba (show (PySem.W.codeIn K n13 d.qual && (dflB K n8 [] && (fileB K P.main.file n13 && cellB K (ga K d.cls) n7))) = true from c1)
      obtain ⟨k2, k⟩ := ba k
      obtain ⟨k3, k4⟩ := ba k
      match n7, h7, k4 with
      | [(y, cc)], h7, k4 =>
        have hy : y = "__class__" := by simpa using h7
        subst hy
        obtain ⟨cda, rfl⟩ := codeIn_ref k1
        have k5 : (match K.lookup cda with
          | some ⟨_, _, .fields vs, _⟩ => (match (vs[2]? : Option Value) with
            | some (Value.str file _) => P.main.file == file
            | _ => false)
          | _ => false) = true := k3
        have k6 : (match K.lookup cc with
          | some ⟨_, _, .cell (some (.ref D)), _⟩ => decide (D = ga K d.cls)
          | _ => false) = true := k4
        refine ⟨_, ⟨oc, od, n8, n9, n10, n11, n12, cda, n14, osl, cc, rfl, q, k1, dflB_ok k2, .inl rfl, ?_, ?_⟩, kp, of_decide_eq_true c2, of_decide_eq_true c3, of_decide_eq_true c4, of_decide_eq_true c5, by simpa using c6⟩
        · split at k5
          · rename_i a b vs sl hl
            split at k5
            · rename_i file tf hv
              exact ⟨_, _, vs, _, file, tf, hl, hv, k5⟩
            · cases k5
          · cases k5
        · split at k6
          · rename_i a b D sl hl
            rw [← of_decide_eq_true k6]
            exact ⟨_, _, _, hl⟩
          · cases k6
    | _ => cases c1
theorem oexB_ok {K : PySem.W.Frag} {x f : Str} (h : excB K x f = true) : OexC K (ga K x) ∧ XfC K (ga K x) ∧ PySem.W.findIn K (.ref (ga K x)) f = some none ∧ PySem.W.findIn K (.ref (ga K x)) "__init__" = some (some (.ref (fAd K (x, some "__init__")))) ∧ PySem.W.typeIn K (.ref (fAd K (x, some "__init__"))) = some (.type "function") := by
  obtain ⟨h1, h⟩ := ba h
  obtain ⟨h2, h⟩ := ba h
  obtain ⟨h3, h⟩ := ba h
  obtain ⟨h4, h⟩ := ba h
  obtain ⟨h5, h⟩ := ba h
  obtain ⟨h6, h⟩ := ba h
  obtain ⟨h7, h⟩ := ba h
  obtain ⟨h8, h9⟩ := ba h
  refine ⟨⟨?_, eqO_ok h2, of_decide_eq_true h3, of_decide_eq_true h4, h5⟩, xfB_ok h6, eqO_ok h7, eqO_ok h8, of_decide_eq_true h9⟩
  unfold oexB at h1
  split at h1
  · rename_i dd cd sl ho
    split at h1
    · rename_i C' bm k0 k1 k2 k3 n k5 hm hs
      obtain ⟨g1, g⟩ := ba h1
      obtain ⟨g2, g⟩ := ba g
      obtain ⟨g3, g⟩ := ba g
      obtain ⟨g4, g5⟩ := ba g
      obtain ⟨nm, bs, mro, ns, qn, hd, sn, sub, ab, col, del⟩ := cd
      dsimp only at hm g3 g4
      have e1 := of_decide_eq_true g1
      have e2 := of_decide_eq_true g2
      have e3 : del = false := by simpa using g3
      subst hm e1 e2 e3 g4
      have hsl : sl = #[k0, k1, k2, k3, some (.builtin "ValueError.__new__"), k5] := by
        obtain ⟨l⟩ := sl
        simp only at hs
        rw [hs]
      subst hsl
      exact ⟨nm, qn, ns, bs, bm, sn, sub, ab, col, dd, k0, k1, k2, k3, k5, ho, g5⟩
    · cases h1
  · cases h1
/-- a class that compares by identity -/
def cmpB (K : PySem.W.Frag) (C : Addr) : Bool := match K.lookup C with
  | some ⟨.type "type", _, .cls cd, sl⟩ => (match cd.mro, sl.toList with
    | [.ref C', .type "object"], [_, _, _, _, some (.builtin _), _] => decide (C' = C) && (!cd.hasDel && (match K.lookup cd.ns with
      | some ⟨_, _, .dict es _, _⟩ => es.toList.all (fun e => match e.key with
        | .str _ _ => true
        | _ => false) && ((nsFind es "__eq__").isNone && (nsFind es "__ne__").isNone)
      | _ => false))
    | _, _ => false)
  | _ => false
theorem cmpB_ok {K : PySem.W.Frag} {C : Addr} (h : cmpB K C = true) : CmpC K C := by
  unfold cmpB at h
  split at h
  · rename_i dd cd sl ho
    split at h
    · rename_i C' k0 k1 k2 k3 n k5 hm hs
      obtain ⟨g1, g⟩ := ba h
      obtain ⟨g2, g⟩ := ba g
      obtain ⟨nm, bs, mro, ns, qn, hd, sn, sub, ab, col, del⟩ := cd
      dsimp only at hm g2 g
      have e1 := of_decide_eq_true g1
      have e3 : del = false := by simpa using g2
      subst hm e1 e3
      have hsl : sl = #[k0, k1, k2, k3, some (.builtin n), k5] := by
        obtain ⟨l⟩ := sl
        simp only at hs
        rw [hs]
      subst hsl
      split at g
      · rename_i a b es ep sl2 hl
        obtain ⟨g3, g45⟩ := ba g
        obtain ⟨g6, g7⟩ := ba g45
        obtain ⟨g8, g9⟩ := ba g7
        refine ⟨nm, qn, ns, bs, hd, sn, sub, ab, col, dd, k0, k1, k2, k3, k5, n, _, es, ep, ho, hl, rfl, fun e he => ?_, Option.isNone_iff_eq_none.mp g8, Option.isNone_iff_eq_none.mp g9⟩
        have := List.all_eq_true.mp g6 e (by simpa using he)
        split at this
        · rename_i x t hx
          exact ⟨x, t, hx⟩
        · cases this
      · cases g
    · cases h
  · cases h
/-! ### the Hook -/
abbrev AlS : Type := AlT × (List FnZ × Bool)
structure SaysS (P : Program) (fa : List Fa) (fn : List DefD) (fz : List DefZ) (ts : List Tab) (ex : PySem.W.Frag → Bool) (w : World) (K : PySem.W.Frag) : Prop where
  t : SaysT fa fn ts w K
  z : ∀ d ∈ fz, ∃ fd, FunS P K d.qual d.params d.body d.scope (ga K d.cls) (fAd K d.at_) fd
  more : ex K = true
def obsS (P : Program) (n : Nat) (fa : List Fa) (fn : List DefD) (fz : List DefZ) (ts : List Tab) (ex : PySem.W.Frag → Bool) (g : Addr → Option Obj) : AlS := (obsT fa fn ts (frT g (asS g n)), fz.map (fun d => fnZ (frT g (asS g n)) d.at_), ex (frT g (asS g n)) && fz.all fun d => d.ok P (frT g (asS g n)))
def valS (fn : List DefD) (fz : List DefZ) (ts : List Tab) (w : World) : AlS := (valT fn ts w, fz.map DefZ.val, true)
theorem saysS_of {P : Program} {n : Nat} {fa : List Fa} {fn : List DefD} {fz : List DefZ} {ts : List Tab} {ex : PySem.W.Frag → Bool} {w : World} {h : Heap} (e : obsS P n fa fn fz ts ex h.get? = valS fn fz ts w) : SaysS P fa fn fz ts ex w (frT h.get? (asS h.get? n)) := by
  have e1 : obsT fa fn ts (frT h.get? (asS h.get? n)) = valT fn ts w := congrArg (fun z : AlS => z.1) e
  have e2 : fz.map (fun d => fnZ (frT h.get? (asS h.get? n)) d.at_) = fz.map DefZ.val := congrArg (fun z : AlS => z.2.1) e
  have e3 : (ex (frT h.get? (asS h.get? n)) && fz.all fun d => d.ok P (frT h.get? (asS h.get? n))) = true := congrArg (fun z : AlS => z.2.2) e
  obtain ⟨h1, h2⟩ := ba e3
  refine ⟨e1, fun d hd => ?_, h1⟩
  obtain ⟨i, hi⟩ := List.mem_iff_getElem?.mp hd
  have e4 : (fz.map (fun d => fnZ (frT h.get? (asS h.get? n)) d.at_))[i]? = (fz.map DefZ.val)[i]? := by rw [e2]
  rw [List.getElem?_map, List.getElem?_map, hi] at e4
  exact DefZ.funS (Option.some.inj e4) (List.all_eq_true.mp h2 d hd)
def hookS (P : Program) (n : Nat) (fa : List Fa) (fn : List DefD) (fz : List DefZ) (ts : List Tab) (ex : PySem.W.Frag → Bool) : PySem.W.Hook where
  α := AlS
  obs := fun s => obsS P n fa fn fz ts ex s.heap.get?
  val := fun w => valS fn fz ts w
  says := fun w h => ∃ K : PySem.W.Frag, K.In h ∧ SaysS P fa fn fz ts ex w K
  of := fun _ _ e => ⟨_, frT_in, saysS_of e⟩
  keeps := fun _ _ _ ⟨K, hK, c⟩ k => ⟨K, PySem.W.Frag.In.keeps hK k, c⟩
theorem obsS_eq {P : Program} {n : Nat} {fa : List Fa} {fn : List DefD} {fz : List DefZ} {ts : List Tab} {ex : PySem.W.Frag → Bool} {g : Addr → Option Obj} {s : Shared} (h : ∀ a, g a = s.heap.get? a) : obsS P n fa fn fz ts ex g = (hookS P n fa fn fz ts ex).obs s := by
  have e : g = s.heap.get? := funext h
  rw [e] <;> rfl
end HeS
namespace Xr
open PySem PySem.Spec PyProof.Rows L2
theorem FunS.bindsN {P : Program} {K : PySem.W.Frag} {qual : Str} {params : Arguments} {body : List Stmt} {scope : Scope} {C f : Addr} {fd : FuncData} {ps : List Str} (F : FunS P K qual params body scope C f fd)
    (h : ∀ (cc : Addr) (kV doc pm : Value) (an : Option Addr) (cdv ct : Value) (us : List Value), us.length = ps.length → bindArgs (PySem.W.fnX "__init__" qual params body scope [("__class__", cc)] .none kV doc pm an cdv ct) ⟨us, []⟩ = pure (ps.zip us)) : Binds K fd ps [] := by
  obtain ⟨oc, od, dV, kV, doc, pm, an, cda, ct, osl, cc, rfl, lk, hcd, hD, _⟩ := F.ex
  rcases hD with ⟨_, rfl⟩ | ⟨e, _⟩
  · exact .all (h cc kV doc pm an (.ref cda) ct)
  · exact absurd rfl e
end Xr

set_option Elab.async false
set_option linter.all false
set_option maxRecDepth 100000
set_option maxHeartbeats 0
namespace Hd
open PySem PySem.Spec PyProof.Rows L2 Rr Xr
def d_frozen : He.DefD := ⟨("frozen", none), "frozen", "frozen", defArgs s_frozen, defBody s_frozen, defScope s_frozen, [], []⟩
def d_is_integer : He.DefD := ⟨("is_integer", none), "is_integer", "is_integer", defArgs s_is_integer, defBody s_is_integer, defScope s_is_integer, [], []⟩
def d_is_small : He.DefD := ⟨("is_small", none), "is_small", "is_small", defArgs s_is_small, defBody s_is_small, defScope s_is_small, [], []⟩
def d_is_name : He.DefD := ⟨("is_name", none), "is_name", "is_name", defArgs s_is_name, defBody s_is_name, defScope s_is_name, [], []⟩
def d_arrows_of : He.DefD := ⟨("arrows_of", none), "arrows_of", "arrows_of", defArgs s_arrows_of, defBody s_arrows_of, defScope s_arrows_of, [], []⟩
def d_Reach_init : He.DefD := ⟨("Reach", some "__init__"), "__init__", "Reach.__init__", defArgs s_Reach_init, defBody s_Reach_init, defScope s_Reach_init, [], []⟩
def d_Reach_close : He.DefD := ⟨("Reach", some "close"), "close", "Reach.close", defArgs s_Reach_close, defBody s_Reach_close, defScope s_Reach_close, [], []⟩
def d_Reach_joined : He.DefD := ⟨("Reach", some "joined"), "joined", "Reach.joined", defArgs s_Reach_joined, defBody s_Reach_joined, defScope s_Reach_joined, [], []⟩
def d_Reach_with_itself : He.DefD := ⟨("Reach", some "with_itself"), "with_itself", "Reach.with_itself", defArgs s_Reach_with_itself, defBody s_Reach_with_itself, defScope s_Reach_with_itself, [], []⟩
def d_Reach_ahead : He.DefD := ⟨("Reach", some "ahead"), "ahead", "Reach.ahead", defArgs s_Reach_ahead, defBody s_Reach_ahead, defScope s_Reach_ahead, [], []⟩
def d_Reach_least_cut : He.DefD := ⟨("Reach", some "least_cut"), "least_cut", "Reach.least_cut", defArgs s_Reach_least_cut, defBody s_Reach_least_cut, defScope s_Reach_least_cut, [], []⟩
def d_check_rows : He.DefD := ⟨("check_rows", none), "check_rows", "check_rows", defArgs s_check_rows, defBody s_check_rows, defScope s_check_rows, [], []⟩
def d_fits : He.DefD := ⟨("fits", none), "fits", "fits", defArgs s_fits, defBody s_fits, defScope s_fits, [], []⟩
def d_is_form : He.DefD := ⟨("is_form", none), "is_form", "is_form", defArgs s_is_form, defBody s_is_form, defScope s_is_form, [], []⟩
def d_check_events : He.DefD := ⟨("check_events", none), "check_events", "check_events", defArgs s_check_events, defBody s_check_events, defScope s_check_events, [], []⟩
def d_sends_of : He.DefD := ⟨("sends_of", none), "sends_of", "sends_of", defArgs s_sends_of, defBody s_sends_of, defScope s_sends_of, [], []⟩
def d_linked : He.DefD := ⟨("linked", none), "linked", "linked", defArgs s_linked, defBody s_linked, defScope s_linked, [], []⟩
def d_executable : He.DefD := ⟨("executable", none), "executable", "executable", defArgs s_executable, defBody s_executable, defScope s_executable, [], []⟩
def d_Record_init : He.DefD := ⟨("Record", some "__init__"), "__init__", "Record.__init__", defArgs s_Record_init, defBody s_Record_init, defScope s_Record_init, [], []⟩
def d_Record_names : He.DefD := ⟨("Record", some "names"), "names", "Record.names", defArgs s_Record_names, defBody s_Record_names, defScope s_Record_names, [], []⟩
def d_Record_check_name : He.DefD := ⟨("Record", some "check_name"), "check_name", "Record.check_name", defArgs s_Record_check_name, defBody s_Record_check_name, defScope s_Record_check_name, [], []⟩
def d_Record_events : He.DefD := ⟨("Record", some "events"), "events", "Record.events", defArgs s_Record_events, defBody s_Record_events, defScope s_Record_events, [], []⟩
def d_Record_length : He.DefD := ⟨("Record", some "length"), "length", "Record.length", defArgs s_Record_length, defBody s_Record_length, defScope s_Record_length, [], []⟩
def d_Record_has_event : He.DefD := ⟨("Record", some "has_event"), "has_event", "Record.has_event", defArgs s_Record_has_event, defBody s_Record_has_event, defScope s_Record_has_event, [], []⟩
def d_Record_partner : He.DefD := ⟨("Record", some "partner"), "partner", "Record.partner", defArgs s_Record_partner, defBody s_Record_partner, defScope s_Record_partner, [], []⟩
def d_event_of : He.DefD := ⟨("event_of", none), "event_of", "event_of", defArgs s_event_of, defBody s_event_of, defScope s_event_of, [], []⟩
def d_checked_waits : He.DefD := ⟨("checked_waits", none), "checked_waits", "checked_waits", defArgs s_checked_waits, defBody s_checked_waits, defScope s_checked_waits, [], []⟩
def d_Order_init : He.DefD := ⟨("Order", some "__init__"), "__init__", "Order.__init__", defArgs s_Order_init, defBody s_Order_init, defScope s_Order_init, [.adr (He.dflAt ("Order", some "__init__") 0)], []⟩
def d_Order_includes : He.DefD := ⟨("Order", some "includes"), "includes", "Order.includes", defArgs s_Order_includes, defBody s_Order_includes, defScope s_Order_includes, [], []⟩
def d_Order_is_cut : He.DefD := ⟨("Order", some "is_cut"), "is_cut", "Order.is_cut", defArgs s_Order_is_cut, defBody s_Order_is_cut, defScope s_Order_is_cut, [], []⟩
def d_Order_waits : He.DefD := ⟨("Order", some "waits"), "waits", "Order.waits", defArgs s_Order_waits, defBody s_Order_waits, defScope s_Order_waits, [], []⟩
def d_Replay_init : He.DefD := ⟨("Replay", some "__init__"), "__init__", "Replay.__init__", defArgs s_Replay_init, defBody s_Replay_init, defScope s_Replay_init, [.adr (He.dflAt ("Replay", some "__init__") 0)], []⟩
def d_Replay_reached : He.DefD := ⟨("Replay", some "reached"), "reached", "Replay.reached", defArgs s_Replay_reached, defBody s_Replay_reached, defScope s_Replay_reached, [], []⟩
def d_Replay_is_ready : He.DefD := ⟨("Replay", some "is_ready"), "is_ready", "Replay.is_ready", defArgs s_Replay_is_ready, defBody s_Replay_is_ready, defScope s_Replay_is_ready, [], []⟩
def d_Replay_ready : He.DefD := ⟨("Replay", some "ready"), "ready", "Replay.ready", defArgs s_Replay_ready, defBody s_Replay_ready, defScope s_Replay_ready, [], []⟩
def d_Replay_step : He.DefD := ⟨("Replay", some "step"), "step", "Replay.step", defArgs s_Replay_step, defBody s_Replay_step, defScope s_Replay_step, [], []⟩
def d_Replay_copy : He.DefD := ⟨("Replay", some "copy"), "copy", "Replay.copy", defArgs s_Replay_copy, defBody s_Replay_copy, defScope s_Replay_copy, [], []⟩
def d_w_draw : He.DefD := ⟨("_law_draw", none), "_law_draw", "_law_draw", defArgs s_w_draw, defBody s_w_draw, defScope s_w_draw, [], []⟩
def d_w_value : He.DefD := ⟨("_law_value", none), "_law_value", "_law_value", defArgs s_w_value, defBody s_w_value, defScope s_w_value, [], []⟩
def d_w_event : He.DefD := ⟨("_law_event", none), "_law_event", "_law_event", defArgs s_w_event, defBody s_w_event, defScope s_w_event, [], []⟩
def d_w_rows : He.DefD := ⟨("_law_rows", none), "_law_rows", "_law_rows", defArgs s_w_rows, defBody s_w_rows, defScope s_w_rows, [], []⟩
def d_w_messages : He.DefD := ⟨("_law_messages", none), "_law_messages", "_law_messages", defArgs s_w_messages, defBody s_w_messages, defScope s_w_messages, [], []⟩
def d_w_needs : He.DefD := ⟨("_law_needs", none), "_law_needs", "_law_needs", defArgs s_w_needs, defBody s_w_needs, defScope s_w_needs, [], []⟩
def d_w_names : He.DefD := ⟨("_law_names", none), "_law_names", "_law_names", defArgs s_w_names, defBody s_w_names, defScope s_w_names, [], []⟩
def d_w_replayed : He.DefD := ⟨("_law_replayed", none), "_law_replayed", "_law_replayed", defArgs s_w_replayed, defBody s_w_replayed, defScope s_w_replayed, [], []⟩
def d_w_waits : He.DefD := ⟨("_law_waits", none), "_law_waits", "_law_waits", defArgs s_w_waits, defBody s_w_waits, defScope s_w_waits, [], []⟩
def d_w_open : He.DefD := ⟨("_law_open", none), "_law_open", "_law_open", defArgs s_w_open, defBody s_w_open, defScope s_w_open, [], []⟩
def d_w_after : He.DefD := ⟨("_law_after", none), "_law_after", "_law_after", defArgs s_w_after, defBody s_w_after, defScope s_w_after, [], []⟩
def d_w_stepped : He.DefD := ⟨("_law_stepped", none), "_law_stepped", "_law_stepped", defArgs s_w_stepped, defBody s_w_stepped, defScope s_w_stepped, [], []⟩
def d_w_stands : He.DefD := ⟨("_law_stands", none), "_law_stands", "_law_stands", defArgs s_w_stands, defBody s_w_stands, defScope s_w_stands, [], []⟩
def d_w_some_waits : He.DefD := ⟨("_law_some_waits", none), "_law_some_waits", "_law_some_waits", defArgs s_w_some_waits, defBody s_w_some_waits, defScope s_w_some_waits, [], []⟩
def d_law : He.DefD := ⟨("law", none), "law", "law", defArgs s_law, defBody s_law, defScope s_law, [], []⟩
def z_UnknownProcess : HeS.DefZ := ⟨"UnknownProcess", "UnknownProcess.__init__", defArgs s_UnknownProcess_init, defBody s_UnknownProcess_init, defScope s_UnknownProcess_init⟩
def z_NotReady : HeS.DefZ := ⟨"NotReady", "NotReady.__init__", defArgs s_NotReady_init, defBody s_NotReady_init, defScope s_NotReady_init⟩
def fz : List HeS.DefZ := [z_UnknownProcess, z_NotReady]
def fn : List He.DefD := [d_frozen, d_is_integer, d_is_small, d_is_name, d_arrows_of, d_Reach_init, d_Reach_close, d_Reach_joined, d_Reach_with_itself, d_Reach_ahead, d_Reach_least_cut, d_check_rows, d_fits, d_is_form, d_check_events, d_sends_of, d_linked, d_executable, d_Record_init, d_Record_names, d_Record_check_name, d_Record_events, d_Record_length, d_Record_has_event, d_Record_partner, d_event_of, d_checked_waits, d_Order_init, d_Order_includes, d_Order_is_cut, d_Order_waits, d_Replay_init, d_Replay_reached, d_Replay_is_ready, d_Replay_ready, d_Replay_step, d_Replay_copy, d_w_draw, d_w_value, d_w_event, d_w_rows, d_w_messages, d_w_needs, d_w_names, d_w_replayed, d_w_waits, d_w_open, d_w_after, d_w_stepped, d_w_stands, d_w_some_waits, d_law]
def fa0 : List He.Fa := [.glo "RESERVED", .glo "frozen", .glo "is_integer", .glo "is_small", .glo "is_name", .glo "RerunError", .glo "UnknownProcess", .glo "NotReady", .glo "BadRecord", .glo "BadEvent", .glo "BadWait", .glo "NotLive", .glo "arrows_of", .glo "Reach", .glo "ring_of", .glo "RECEIVING", .glo "ASSIGNING", .glo "FORMS", .glo "check_rows", .glo "fits", .glo "is_form", .glo "check_events", .glo "sends_of", .glo "linked", .glo "executable", .glo "Record", .glo "event_of", .glo "checked_waits", .glo "Order", .glo "Replay"]
def fa1 : List He.Fa := [.glo "_law_draw", .glo "_law_value", .glo "_law_event", .glo "_law_rows", .glo "_law_messages", .glo "_law_needs", .glo "_law_names", .glo "_law_replayed", .glo "_law_waits", .glo "_law_open", .glo "_law_after", .glo "_law_stepped", .glo "_law_stands", .glo "_law_some_waits", .glo "law", .free "dict", .free "super", .free "isinstance", .free "int", .free "bool", .free "str", .free "tuple", .free "list", .free "len", .free "all", .free "any", .free "abs", .free "max", .free "range", .free "enumerate"]
def fa2 : List He.Fa := [.free "zip", .free "sorted", .cls "Reach", .mkr "Reach", .meth "Reach" "close", .meth "Reach" "joined", .meth "Reach" "with_itself", .meth "Reach" "ahead", .meth "Reach" "least_cut", .noat "Reach" "behind", .noat "Reach" "places", .noat "Reach" "sources", .cls "Record", .mkr "Record", .meth "Record" "names", .meth "Record" "check_name", .meth "Record" "events", .meth "Record" "length", .meth "Record" "has_event", .meth "Record" "partner", .noat "Record" "links", .noat "Record" "rows", .noat "Record" "sequence", .noat "Record" "table", .cls "Order", .mkr "Order", .meth "Order" "includes", .meth "Order" "is_cut", .meth "Order" "waits", .noat "Order" "kept"]
def fa3 : List He.Fa := [.noat "Order" "needs", .noat "Order" "origin", .noat "Order" "reach", .cls "Replay", .mkr "Replay", .meth "Replay" "reached", .meth "Replay" "is_ready", .meth "Replay" "ready", .meth "Replay" "step", .meth "Replay" "copy", .noat "Replay" "counts", .noat "Replay" "order", .noat "Replay" "source", .int "LONGEST_NAME" 8, .int "MOST_PROCESSES" 40, .str "LETTERS" "abcdefghijklmnopqrstuvwxyz", .exm "UnknownProcess" "UnknownProcess" true, .exm "NotReady" "UnknownProcess" false, .exm "NotReady" "NotReady" true]
def fa : List He.Fa := fa0 ++ fa1 ++ fa2 ++ fa3
def tupA (K : PySem.W.Frag) (a : Addr) (vs : List V) : Bool := match K.lookup a with
  | some ⟨.type c, _, .seq its _, _⟩ => decide (c = "tuple") && (decide (its.size ≤ sizeLine) && He.relAll vs its.toList)
  | _ => false
theorem tupA_ok {K : PySem.W.Frag} {a : Addr} {vs : List V} (h : tupA K a vs = true) (H : Hp) : SqT K H a vs := by
  unfold tupA at h
  cases q : K.lookup a with
  | none =>
    rw [q] at h
    cases h
  | some o =>
    obtain ⟨oc, od, dt, osl⟩ := o
    rw [q] at h
    cases oc with
    | type c =>
      cases dt with
      | seq its n =>
        obtain ⟨h1, h2⟩ := He.ba (show (decide (c = "tuple") && (decide (its.size ≤ sizeLine) && He.relAll vs its.toList)) = true from h)
        obtain ⟨h3, h4⟩ := He.ba h2
        exact .inr ⟨_, its, n, q, congrArg Value.type (of_decide_eq_true h1), rfl, of_decide_eq_true h3, He.relAll_ok h4⟩
      | _ => cases h
    | _ => cases dt <;> cases h
def entB (K : PySem.W.Frag) (d : Addr) (q : Str × List Str) : Bool := match PySem.W.nsIn K d q.1 with
  | some (some (.ref t)) => tupA K t (q.2.map V.str)
  | _ => false
theorem entB_ok {K : PySem.W.Frag} {d : Addr} {q : Str × List Str} (h : entB K d q = true) : ∃ t, PySem.W.nsIn K d q.1 = some (some (.ref t)) ∧ ∀ H, SqT K H t (q.2.map V.str) := by
  unfold entB at h
  cases e : PySem.W.nsIn K d q.1 with
  | none => rw [e] at h; cases h
  | some r =>
    rw [e] at h
    cases r with
    | none => cases h
    | some u =>
      cases u with
      | ref t => exact ⟨t, rfl, tupA_ok h⟩
      | _ => cases h
def formsL : List (Str × List Str) := [("set", ["variable", "value"]), ("send", ["process", "value"]), ("receive", ["process", "variable", "value"]), ("take", ["process", "variable", "value"]), ("input", ["variable", "value"]), ("checkpoint", [])]
def ts : List He.Tab := [(fun K => He.ga K "FORMS", ["set", "send", "receive", "take", "input", "checkpoint"])]
def ex (K : PySem.W.Frag) : Bool := tupA K (He.ga K "RESERVED") ((Rr.resA ++ Rr.resB).map V.str) && (tupA K (He.ga K "RECEIVING") (recS.map V.str) && (formsL.all (entB K (He.ga K "FORMS")) && (HeS.excB K "UnknownProcess" "name" && (HeS.excB K "NotReady" "name" && HeS.cmpB K (He.ga K "Replay")))))
abbrev R : PySem.W.OpenRow := PySem.W.OpenLaw.row PySem.Challenge.rw_rerunrein_k88_replays_by_steps
abbrev hk : PySem.W.Hook := HeS.hookS PySem.Challenge.rw_rerunrein_k88_replays_by_steps.prog 6 fa fn fz ts ex
def ob (s : PySem.W.SharedT) : HeS.AlS := HeS.obsS PySem.Challenge.rw_rerunrein_k88_replays_by_steps.prog 6 fa fn fz ts ex (HandSHeadRun.getT s)
theorem ob_eq (s : PySem.W.SharedT) : ob s = hk.obs s.abs := HeS.obsS_eq (HandSHeadRun.getT_eq s)
def loose0 : List Str := ["_wall", "__name__", "LETTERS", "RESERVED", "LONGEST_NAME", "frozen", "is_integer", "is_small", "is_name", "RerunError", "UnknownProcess", "NotReady", "BadRecord", "BadEvent"]
def loose1 : List Str := ["BadWait", "NotLive", "arrows_of", "Reach", "ring_of", "MOST_PROCESSES", "RECEIVING", "ASSIGNING", "FORMS", "check_rows", "fits", "is_form", "check_events", "sends_of"]
def loose2 : List Str := ["linked", "executable", "Record", "event_of", "checked_waits", "Order", "Replay", "_law_draw", "_law_value", "_law_event", "_law_rows", "_law_messages", "_law_needs", "_law_names"]
def loose3 : List Str := ["_law_replayed", "_law_waits", "_law_open", "_law_after", "_law_stepped", "_law_stands", "_law_some_waits"]
def loose : List Str := loose0 ++ loose1 ++ loose2 ++ loose3
theorem runF (w : World) : HandSHeadRun.RunEq R (PySem.W.view R.prog [55]) hk ob 20000 loose (w.withFollow "special-get-raises" false) := fun os => by kernel_rfl
theorem runT (w : World) : HandSHeadRun.RunEq R (PySem.W.view R.prog [55]) hk ob 20000 loose (w.withFollow "special-get-raises" true) := fun os => by kernel_rfl
theorem run : ∀ w : World, HandSHeadRun.RunEq R (PySem.W.view R.prog [55]) hk ob 20000 loose w := PySem.W.byRow2 "special-get-raises" runF runT
end Hd

set_option Elab.async false
set_option linter.all false
set_option maxRecDepth 100000
set_option maxHeartbeats 2000000
namespace Rr
open PySem PySem.Spec PyProof.Rows L2 Xr
theorem atI_of {α : Type} {xs : List α} {r : Int} (h0 : 0 ≤ r) (h1 : r < xs.length) : ∃ v, atI xs r = some v ∧ xs[r.toNat]? = some v := by
  obtain ⟨n, rfl⟩ := Int.eq_ofNat_of_zero_le h0
  have h2 : n < xs.length := by omega
  exact ⟨xs[n], atI_nat (by simp [h2]), by simp [h2]⟩
theorem map_erase {α β : Type} (f : α → β) : ∀ (xs : List α) (i : Nat), (xs.map f).eraseIdx i = (xs.eraseIdx i).map f
  | [], _ => rfl
  | _ :: _, 0 => rfl
  | x :: xs, i + 1 => by
    rw [List.map_cons, List.eraseIdx_cons_succ, List.eraseIdx_cons_succ, List.map_cons, map_erase f xs i]
theorem atI_mem {α : Type} {xs : List α} {r : Int} (h0 : 0 ≤ r) (h1 : r < xs.length) : ∃ v, v ∈ xs ∧ atI xs r = some v := by
  obtain ⟨v, h, h'⟩ := atI_of h0 h1
  exact ⟨v, List.mem_of_getElem? h', h⟩
theorem perm_erase {α : Type} : ∀ {l : List α} {i : Nat} {y : α}, l[i]? = some y → (y :: l.eraseIdx i).Perm l
  | [], _, _, h => by simp at h
  | x :: l, 0, y, h => by
    simp at h
    subst h
    exact List.Perm.refl _
  | x :: l, i + 1, y, h => by
    have h' : l[i]? = some y := by simpa using h
    rw [List.eraseIdx_cons_succ]
    exact (List.Perm.swap x y _).trans ((perm_erase h').cons x)
section
variable {P : Program} {w : World} {K : PySem.W.Frag} {mg : Str → Option Value} {base : Heap}
/-! ### _law_value -/
abbrev N_w_value : List Str := ["_law_stream", "_law_way"]
theorem sc_w_value : FnScope N_w_value ["_law_stream"] (defScope s_w_value) := ⟨rfl, rfl, rfl, by decide +kernel, rfl, by decide +kernel, by decide +kernel⟩
def sp_value : Sp := fun vs H Q _ => ∃ (p q : Addr) (B : Nat), vs = [.ref p] ∧ StrAt H p q B ∧ B + 2 ≤ 1000000 ∧ ∀ (v : Int) H', (v.natAbs : Int) < 10 ^ 30 → StrAt H' p q (B + 2) → Fr2 p q H H' → Q (.int v) H'
theorem ok_value (T : Txt K mg) (G_w_draw : Gf P w K mg base 1 "_law_draw" ["_law_stream", "_law_many"] sp_draw) {f : Addr} {fd : FuncData} (F : FunD K "_law_value" "_law_value" (defArgs s_w_value) (defBody s_w_value) (defScope s_w_value) [] [] f fd) :
    FnOk P w K mg base CX0 2 f fd ["_law_stream"] sp_value := by
  refine ok0 F sc_w_value (fun vs H Q E h => ?_) (fun cdv A outer s H vs Q E hr h => ?_)
  · obtain ⟨p, q, B, rfl, _⟩ := h
    rfl
  · obtain ⟨p, q, B, rfl, S, hB, k⟩ := h
    refine ⟨_, (pss_cons (ps_set (i := 1) sc_w_value.nd rfl (Or.inl rfl) (pe_call G_w_draw.F (G_w_draw.room hr) (by rfl) G_w_draw.mg G_w_draw.kp G_w_draw.b .nil pass0 (pa_cons (pv 0) (pa_cons pe_int pa_nil))))
      (pss_cons (ps_if (pt_cmpR op_lt (pv 1) pe_int (nomark _))
        (pss_one (ps_ret (pe_op op_sub (pe_call G_w_draw.F (G_w_draw.room hr) (by rfl) G_w_draw.mg G_w_draw.kp G_w_draw.b .nil pass0 (pa_cons (pv 0) (pa_cons pe_int pa_nil))) pe_int)))
        pss_nil)
      (pss_one (ps_ret (pe_ix (q_ixl K rfl) (pe_lst (pa_cons (pe_op op_sub (pe_op op_pow pe_int pe_int) pe_int) (pa_cons (pe_op op_sub pe_int (pe_op op_pow pe_int pe_int)) (pa_cons pe_int (pa_cons pe_int pa_nil))))) (pe_call G_w_draw.F (G_w_draw.room hr) (by rfl) G_w_draw.mg G_w_draw.kp G_w_draw.b .nil pass0 (pa_cons (pv 0) (pa_cons pe_int pa_nil))) (fun _ _ => rfl)))))), ?_⟩
    refine ⟨_, rfl, p, q, 8, B, rfl, S, by omega, by decide, by decide, fun way H1 _ _ S1 f1 => ?_⟩
    refine ⟨_, rfl, _, _, rfl, rfl, _, rfl, ?_⟩
    refine ite2 (fun hz => ?_) (fun hz => ?_)
    · refine ⟨_, rfl, p, q, 5, B + 1, rfl, S1, by omega, by decide, by decide, fun r H2 r0 r1 S2 f2 => ⟨_, _, rfl, rfl, k _ _ ?_ S2 (f1.trans f2)⟩⟩
      have : (r - 2).natAbs ≤ 3 := by omega
      omega
    · refine ⟨10, 30, rfl, rfl, ⟨by decide, by decide, by decide⟩, _, _, rfl, rfl, 10, 30, rfl, rfl, ⟨by decide, by decide, by decide⟩, _, _, rfl, rfl, by decide, fun l hl => ?_⟩
      refine ⟨_, rfl, p, q, 4, B + 1, rfl, S1.frame (same_new hl), by omega, by decide, by decide, fun r H2 r0 r1 S2 f2 => ?_⟩
      have hl2 := f2 l _ upd_same (fun z => by obtain ⟨_, _, _, _, h1, _⟩ := S1.ex; rw [z, h1] at hl; cases hl) (fun z => by obtain ⟨_, _, _, _, _, h1, _⟩ := S1.ex; rw [z, h1] at hl; cases hl)
      obtain ⟨v, hv, ha⟩ := atI_mem (xs := [V.int (10 ^ Int.toNat 30 - 1), V.int (1 - 10 ^ Int.toNat 30), V.int 17, V.int 1000]) r0 (by simpa using r1)
      refine ⟨l, _, r, v, rfl, rfl, sq hl2, ha, ?_⟩
      have fin : ∀ z : Int, (z.natAbs : Int) < 10 ^ 30 → Q (.int z) H2 := fun z hz => k z H2 hz S2 (f1.trans ((Fr2.new hl).trans f2))
      simp only [List.mem_cons, List.not_mem_nil, or_false] at hv
      rcases hv with rfl | rfl | rfl | rfl
      · exact fin _ (by decide)
      · exact fin _ (by decide)
      · exact fin _ (by decide)
      · exact fin _ (by decide)
/-! ### _law_names -/
abbrev N_w_names : List Str := ["_law_stream", "_law_some", "_law_found", "_law_k"]
theorem sc_w_names : FnScope N_w_names ["_law_stream"] (defScope s_w_names) := ⟨rfl, rfl, rfl, by decide +kernel, rfl, by decide +kernel, by decide +kernel⟩
def pool : List Str := ["a", "b", "c", "d", "hold", "order", "x", "processa", "from", "z"]
theorem pool_nd : pool.Nodup := by decide +kernel
def sp_names : Sp := fun vs H Q _ => ∃ (p q : Addr) (B : Nat), vs = [.ref p] ∧ StrAt H p q B ∧ B + 5 ≤ 1000000 ∧ ∀ (l : Addr) (ns : List Str) H', H l = none → H' l = some (.lst (ns.map V.str)) → ns.Nodup → (∀ n ∈ ns, n ∈ pool) → 2 ≤ ns.length → ns.length ≤ 4 → StrAt H' p q (B + 5) → Fr2 p q H H' → Q (.ref l) H'
theorem StrAt.mono {H : Hp} {p q : Addr} {B C : Nat} (s : StrAt H p q B) (h : B ≤ C) : StrAt H p q C := by
  obtain ⟨ns, a, b, c, hp, hq, h1, h2, h3, h4⟩ := s.ex
  exact ⟨ns, a, b, c, hp, hq, h1, h2, by omega, h4⟩
/-- a tracked object that is neither of the stream's -/
theorem StrAt.nep {H H' : Hp} {p q l : Addr} {B : Nat} (s : StrAt H p q B) (h : H l = none) : l ≠ p ∧ l ≠ q := by
  obtain ⟨_, _, _, _, h1, h2, _⟩ := s.ex
  exact ⟨fun z => (by rw [z, h1] at h; cases h), fun z => (by rw [z, h2] at h; cases h)⟩
theorem ok_names (T : Txt K mg) (G_w_draw : Gf P w K mg base 1 "_law_draw" ["_law_stream", "_law_many"] sp_draw) {f : Addr} {fd : FuncData} (F : FunD K "_law_names" "_law_names" (defArgs s_w_names) (defBody s_w_names) (defScope s_w_names) [] [] f fd) :
    FnOk P w K mg base CX0 2 f fd ["_law_stream"] sp_names := by
  refine ok0 F sc_w_names (fun vs H Q E h => ?_) (fun cdv A outer s H vs Q E hr h => ?_)
  · obtain ⟨p, q, B, rfl, _⟩ := h
    rfl
  · obtain ⟨p, q, B, rfl, S, hB, k⟩ := h
    refine ⟨_, (pss_cons (ps_set (i := 1) sc_w_names.nd rfl (Or.inl rfl) (pe_lst (pa_cons pe_str (pa_cons pe_str (pa_cons pe_str (pa_cons pe_str (pa_cons pe_str (pa_cons pe_str (pa_cons pe_str (pa_cons pe_str (pa_cons pe_str (pa_cons pe_str pa_nil))))))))))))
      (pss_cons (ps_set (i := 2) sc_w_names.nd rfl (Or.inl rfl) (pe_lst pa_nil))
      (pss_cons (ps_for PassesOwn.never rfl (pi_range1 (by rfl) T.z_range (pa_cons (pe_op op_add pe_int (pe_call G_w_draw.F (G_w_draw.room hr) (by rfl) G_w_draw.mg G_w_draw.kp G_w_draw.b .nil pass0 (pa_cons (pv 0) (pa_cons pe_int pa_nil)))) pa_nil)) (pg_name (i := 3) sc_w_names.nd rfl (Or.inl rfl))
        (pss_one (ps_expr (q_bm K rfl PySem.F.plainAttrs_list PySem.F.slot_list_append PySem.F.type_list_append mt_append (pv 2) (pa_cons (q_bm K rfl PySem.F.plainAttrs_list PySem.F.slot_list_pop PySem.F.type_list_pop mt_popAt (pv 1) (pa_cons (pe_call G_w_draw.F (G_w_draw.room hr) (by rfl) G_w_draw.mg G_w_draw.kp G_w_draw.b .nil pass0 (pa_cons (pv 0) (pa_cons (pe_callB (q_len K rfl) (by rfl) T.z_len (by decide +kernel) (pa_cons (pv 1) pa_nil)) pa_nil))) pa_nil)) pa_nil)))))
      (pss_one (ps_ret (pv 2)))))), ?_⟩
    refine ⟨by decide, fun a ha => ⟨by decide, fun l hl => ?_⟩⟩
    have hal : a ≠ l := ne_of_none (upd_same (H := H) (a := a) (o := .lst (pool.map V.str))) hl
    have hl0 : H l = none := by rw [upd_ne (Ne.symm hal)] at hl; exact hl
    have ea : ∀ o, upd (upd H a (.lst (pool.map V.str))) l o a = some (.lst (pool.map V.str)) := fun o => by rw [upd_ne hal]; exact upd_same
    refine ⟨_, rfl, p, q, 3, B, rfl, (S.frame (same_new ha)).frame (same_new hl), by omega, by decide, by decide, fun m H1 m0 m1 S1 f1 => ?_⟩
    have na := S.nep (H' := H) ha
    have nl := S.nep (H' := H) hl0
    refine ⟨_, _, rfl, rfl, _, rfl, by omega, by omega, ?_⟩
    have f01 : Fr2 p q H H1 := (Fr2.new ha).trans ((Fr2.new hl).trans f1)
    refine for_range (lo := 0) (n := (2 + m).toNat) (fun i σ' H2 => ∃ (v : Option V) (rest ns : List Str), σ' = [some (.ref p), some (.ref a), some (.ref l), v] ∧ H2 a = some (.lst (rest.map V.str)) ∧ H2 l = some (.lst (ns.map V.str)) ∧ (ns ++ rest).Perm pool ∧ ns.length = i ∧ StrAt H2 p q (B + 1 + i) ∧ Fr2 p q H H2)
      ⟨none, pool, [], rfl, f1 _ _ (ea _) na.1 na.2, f1 _ _ upd_same nl.1 nl.2, by simpa using List.Perm.refl _, rfl, S1, f01⟩ ?_ ?_
    · rintro i σ' H2 hi ⟨v, rest, ns, rfl, h2a, h2l, hp, hn, S2, f2⟩
      have hlen := hp.length_eq
      rw [List.length_append, hn, show pool.length = 10 by decide] at hlen
      refine ⟨_, rfl, tyl h2l, _, rfl, tyl h2a, _, rfl, _, rfl, _, (rest.map V.str).length, rfl, .inl ⟨_, sq h2a, rfl⟩, p, q, _, B + 1 + i, rfl, S2, by omega, by rw [List.length_map]; omega, by rw [List.length_map]; omega, fun r H3 r0 r1 S3 f3 => ?_⟩
      rw [List.length_map] at r1
      have h3a := f3 _ _ h2a na.1 na.2
      have h3l := f3 _ _ h2l nl.1 nl.2
      obtain ⟨y, hy, hy'⟩ := atI_of (xs := rest) r0 r1
      have hrl : r.toNat < rest.length := by omega
      refine ⟨a, _, r, r.toNat, .str y, rfl, rfl, h3a, by omega, by omega, seqIndex_of r0 (by rw [List.length_map]; exact r1), by simp [hy'], ?_⟩
      refine ⟨l, ns.map V.str, .str y, rfl, rfl, by rw [upd_ne (Ne.symm hal)]; exact h3l, szl (by rw [List.length_map]; omega), ?_⟩
      refine ⟨_, rest.eraseIdx r.toNat, ns ++ [y], rfl, by rw [upd_ne hal, upd_same, map_erase], by rw [upd_same, List.map_append] <;> rfl, ?_, by rw [List.length_append, hn] <;> rfl, ?_, ?_⟩
      · refine List.Perm.trans ?_ hp
        rw [List.append_assoc]
        refine List.Perm.append_left ns ?_
        exact perm_erase hy'
      · obtain ⟨ms, a1, b1, c1, g1, g2, g3⟩ := S3.ex
        exact ⟨ms, a1, b1, c1, by rw [upd_ne nl.1.symm, upd_ne na.1.symm]; exact g1, by rw [upd_ne nl.2.symm, upd_ne na.2.symm]; exact g2, g3⟩
      · intro c o hc h1 h2
        have hca : c ≠ a := ne_of_none hc ha
        have hcl : c ≠ l := ne_of_none hc hl0
        rw [upd_ne hcl, upd_ne hca]
        exact f3 c o (f2 c o hc h1 h2) h1 h2
    · rintro σ' H2 ⟨v, rest, ns, rfl, h2a, h2l, hp, hn, S2, f2⟩
      have hnd : (ns ++ rest).Nodup := hp.nodup_iff.mpr pool_nd
      refine ⟨_, rfl, k l ns H2 hl0 h2l (List.nodup_append.mp hnd).1 (fun n hm => hp.mem_iff.mp (List.mem_append_left _ hm)) (by omega) (by omega) (S2.mono (by omega)) f2⟩
end
end Rr

set_option Elab.async false
set_option linter.all false
set_option maxRecDepth 100000
set_option maxHeartbeats 4000000
namespace Rr
open PySem PySem.Spec PyProof.Rows L2 Xr
/-! ### the messages under way -/
abbrev Qs := Str → Str → List Int
structure QueAt (S : List Addr) (H : Hp) (d : Addr) (n : Nat) (Qu : Qs) : Prop where
  ex : ∃ kvs : List (List Key × V), H d = some (.dT kvs) ∧ kvs.length ≤ n ∧ ∀ a b, (valV kvs (k2 a b) = none ∧ Qu a b = []) ∨ ∃ l, valV kvs (k2 a b) = some (.ref l) ∧ H l = some (.lst ((Qu a b).map V.int)) ∧ l ∉ S
  len : ∀ a b, (Qu a b).length ≤ n
  dS : d ∉ S
theorem Fr2.of {p q : Addr} {H H' : Hp} (e : Same H H') : Fr2 p q H H' := fun c o h _ _ => e c o h
theorem QueAt.fr {S : List Addr} {d : Addr} {H H' : Hp} {n : Nat} {Qu : Qs} (z : QueAt S H d n Qu) (e : FrS S H H') : QueAt S H' d n Qu := by
  obtain ⟨kvs, h1, h2, h3⟩ := z.ex
  refine ⟨⟨kvs, e _ _ h1 z.dS, h2, fun a b => ?_⟩, z.len, z.dS⟩
  rcases h3 a b with h | ⟨l, g1, g2, g3⟩
  · exact .inl h
  · exact .inr ⟨l, g1, e _ _ g2 g3, g3⟩
theorem Fr2.fS {p q : Addr} {S : List Addr} {H H' : Hp} (e : Fr2 p q H H') (hp : p ∈ S) (hq : q ∈ S) : FrS S H H' := fun b o h n => e b o h (fun z => n (z ▸ hp)) (fun z => n (z ▸ hq))
def Trk (S : List Addr) (H : Hp) : Prop := ∀ s ∈ S, ∃ o, H s = some o
theorem Trk.fr {p q : Addr} {S : List Addr} {H H' : Hp} {B : Nat} (t : Trk S H) (f : Fr2 p q H H') (s : StrAt H' p q B) : Trk S H' := fun z hz => by
  obtain ⟨_, _, _, _, h1, h2, _⟩ := s.ex
  obtain ⟨o, h⟩ := t z hz
  by_cases e1 : z = p
  · exact ⟨_, e1 ▸ h1⟩
  · by_cases e2 : z = q
    · exact ⟨_, e2 ▸ h2⟩
    · exact ⟨o, f z o h e1 e2⟩
theorem Trk.new {S : List Addr} {H : Hp} (t : Trk S H) {l : Addr} (h : H l = none) : l ∉ S := fun z => by
  obtain ⟨o, e⟩ := t l z
  rw [e] at h
  cases h
/-- all but p, q, d stay -/
def Fr3 (p q d : Addr) (H H' : Hp) : Prop := ∀ b o, H b = some o → b ≠ p → b ≠ q → b ≠ d → H' b = some o
theorem Fr2.f3 {p q d : Addr} {H H' : Hp} (f : Fr2 p q H H') : Fr3 p q d H H' := fun b o h h1 h2 _ => f b o h h1 h2
theorem Fr3.trans {p q d : Addr} {H H1 H2 : Hp} (a : Fr3 p q d H H1) (b : Fr3 p q d H1 H2) : Fr3 p q d H H2 := fun c o h h1 h2 h3 => b c o (a c o h h1 h2 h3) h1 h2 h3
theorem Fr3.ud {p q d : Addr} {H : Hp} {o : HO} : Fr3 p q d H (upd H d o) := fun b u h _ _ h3 => by rw [upd_ne h3]; exact h
/-- an event of the process nm that can be executed now -/
inductive StepE (ns : List Str) (nm : Str) (Qu : Qs) : Ev → Qs → Prop
  | snd {o : Str} {v : Int} : o ∈ ns → o ≠ nm → (v.natAbs : Int) < 10 ^ 30 → StepE ns nm Qu (.snd o v) (fun a b => if a = nm ∧ b = o then Qu a b ++ [v] else Qu a b)
  | rcv {t : Bool} {o x : Str} {v : Int} {r : List Int} : o ∈ ns → (x = "x" ∨ x = "y") → Qu o nm = v :: r → StepE ns nm Qu (.rcv t o x v) (fun a b => if a = o ∧ b = nm then r else Qu a b)
  | chk : StepE ns nm Qu .chk Qu
  | set {x : Str} {v : Int} : (x = "x" ∨ x = "y") → (v.natAbs : Int) < 10 ^ 30 → StepE ns nm Qu (.set x v) Qu
  | inp {x : Str} {v : Int} : (x = "x" ∨ x = "y") → (v.natAbs : Int) < 10 ^ 30 → StepE ns nm Qu (.inp x v) Qu
theorem eqv_nil (ns : List Int) : PyData.eqv (.list (ns.map PyData.int)) (.list []) = ns.isEmpty := by
  cases ns <;> simp [PyData.eqv, PyData.eqvAll]
theorem eqv_nilS (ns : List Str) : PyData.eqv (.list (ns.map PyData.str)) (.list []) = ns.isEmpty := by
  cases ns <;> simp [PyData.eqv, PyData.eqvAll]
theorem dpStrs {K : PySem.W.Frag} {H : Hp} : ∀ ns : List Str, DpAll K H (ns.map V.str) (ns.map PyData.str)
  | [] => .nil
  | n :: r => .cons (.str n) (dpStrs r)
theorem layStrs : ∀ ns : List Str, (∀ n ∈ ns, PyData.strOk n = true) → PyData.canLayAll0 (ns.map PyData.str) = true
  | [], _ => by simp [PyData.canLayAll0]
  | n :: r, h => by simp [PyData.canLayAll0, PyData.canLay0, layStrs r fun z hz => h z (List.mem_cons_of_mem _ hz), h n (List.mem_cons_self ..)]
theorem depStrs : ∀ ns : List Str, PyData.depthAll (ns.map PyData.str) = 0
  | [] => by simp [PyData.depthAll]
  | n :: r => by simp [PyData.depthAll, PyData.depth, depStrs r]
theorem shapedStrs {ns : List Str} (h : ∀ n ∈ ns, PyData.strOk n = true) : SeqAt.shaped (.list (ns.map PyData.str)) = true := by
  unfold SeqAt.shaped
  have h1 : PyData.canLay0 (.list (ns.map PyData.str)) = true := by simp [PyData.canLay0, layStrs ns h]
  have h2 : PyData.depth (.list (ns.map PyData.str)) ≤ 64 := by simp [PyData.depth, depStrs]
  rw [h1, decide_eq_true h2] <;> rfl
theorem cut_tail (v : Int) (r : List Int) : cutV ((v :: r).map V.int) (some 1) none = r.map V.int := by
  unfold cutV
  rw [show HT.sIx ((v :: r).map V.int).length 0 (some 1) = 1 from (HT.sIx_nat _ _ 1).trans (by rw [List.length_map, List.length_cons]; omega), HT.sIx_none]
  rw [List.map_cons, List.drop_succ_cons, List.drop_zero, List.take_of_length_le (by simp)]
theorem QueAt.get {S : List Addr} {d : Addr} {H H' : Hp} {n : Nat} {Qu : Qs} {a b : Str} {tp le : Addr} (z : QueAt S H d n Qu) (e : Same H H') (ht : H' tp = some (.tup [.str a, .str b])) (hle : H' le = some (.lst [])) :
    IsD H' d ∧ ∃ o l, DGet H' d (.ref tp) o ∧ o.getD (.ref le) = .ref l ∧ H' l = some (.lst ((Qu a b).map V.int)) := by
  obtain ⟨kvs, h1, h2, h3⟩ := z.ex
  have h1' := e _ _ h1
  refine ⟨.inr ⟨kvs, .inl h1'⟩, valV kvs (k2 a b), ?_⟩
  rcases h3 a b with ⟨z1, z2⟩ | ⟨l, z1, z2, _⟩
  · exact ⟨le, DGet.t (k := k2 a b) h1' ht, by rw [z1] <;> rfl, by rw [z2]; exact hle⟩
  · exact ⟨l, DGet.t (k := k2 a b) h1' ht, by rw [z1] <;> rfl, e _ _ z2⟩
theorem QueAt.has {S : List Addr} {d : Addr} {H H' : Hp} {n : Nat} {Qu : Qs} {a b : Str} {tp : Addr} (z : QueAt S H d n Qu) (e : Same H H') (ht : H' tp = some (.tup [.str a, .str b])) (hne : Qu a b ≠ []) :
    ∃ l, DGet H' d (.ref tp) (some (.ref l)) ∧ H' l = some (.lst ((Qu a b).map V.int)) := by
  obtain ⟨kvs, h1, h2, h3⟩ := z.ex
  rcases h3 a b with ⟨z1, z2⟩ | ⟨l, z1, z2, _⟩
  · exact (hne z2).elim
  · refine ⟨l, ?_, e _ _ z2⟩
    rw [← z1]
    exact DGet.t (k := k2 a b) (e _ _ h1) ht
theorem QueAt.put {S : List Addr} {d : Addr} {H H' : Hp} {n : Nat} {Qu : Qs} {a b : Str} {tp l : Addr} {zs : List Int} (z : QueAt S H d n Qu) (hn : n ≤ 1000) (e : Same H H') (ht : H' tp = some (.tup [.str a, .str b])) (hl : H' l = some (.lst (zs.map V.int))) (l1 : l ∉ S) (hz : zs.length ≤ n + 1) :
    ∃ H2, DPut H' d (.ref tp) (.ref l) H2 ∧ QueAt S H2 d (n + 1) (fun x y => if x = a ∧ y = b then zs else Qu x y) ∧ ∃ o, H2 = upd H' d o := by
  obtain ⟨kvs, h1, h2, h3⟩ := z.ex
  have h1' := e _ _ h1
  refine ⟨_, DPut.t (k := k2 a b) (v := .ref l) h1' ht (szl (by omega)), ⟨⟨_, upd_same, by have := length_putK kvs (k2 a b) (.ref l); omega, fun x y => ?_⟩, fun x y => ?_, z.dS⟩, _, rfl⟩
  · rw [valV_put]
    by_cases hxy : x = a ∧ y = b
    · obtain ⟨rfl, rfl⟩ := hxy
      rw [if_pos rfl]
      refine .inr ⟨l, rfl, ?_, l1⟩
      rw [if_pos ⟨rfl, rfl⟩, upd_ne (ne_of hl h1' (fun z => nomatch z))]
      exact hl
    · rw [if_neg (fun z => hxy (k2_inj.mp z))]
      rcases h3 x y with ⟨z1, z2⟩ | ⟨m, z1, z2, z3⟩
      · exact .inl ⟨z1, by rw [if_neg hxy]; exact z2⟩
      · refine .inr ⟨m, z1, ?_, z3⟩
        rw [if_neg hxy, upd_ne (ne_of (e _ _ z2) h1' (fun z => nomatch z))]
        exact e _ _ z2
  · by_cases hxy : x = a ∧ y = b
    · rw [if_pos hxy]
      exact hz
    · rw [if_neg hxy]
      have := z.len x y
      omega
theorem QueAt.more {S : List Addr} {d : Addr} {H : Hp} {n : Nat} {Qu : Qs} (z : QueAt S H d n Qu) : QueAt S H d (n + 1) Qu := by
  obtain ⟨kvs, h1, h2, h3⟩ := z.ex
  exact ⟨⟨kvs, h1, by omega, h3⟩, fun a b => by have := z.len a b; omega, z.dS⟩
theorem filter_ne_len : ∀ {ns : List Str} {nm : Str}, ns.Nodup → nm ∈ ns → (ns.filter fun b => !decide (b = nm)).length + 1 = ns.length
  | [], _, _, h => by cases h
  | x :: r, nm, hd, h => by
    obtain ⟨h1, h2⟩ := List.nodup_cons.mp hd
    by_cases e : x = nm
    · subst e
      have hf : (r.filter fun b => !decide (b = x)) = r := List.filter_eq_self.mpr fun b hb => by
        have : b ≠ x := fun z => h1 (z ▸ hb)
        simp [this]
      rw [List.filter_cons, if_neg (by simp), hf, List.length_cons]
    · have hm : nm ∈ r := by
        rcases List.mem_cons.mp h with q | q
        · exact (e q.symm).elim
        · exact q
      rw [List.filter_cons, if_pos (by simp [e]), List.length_cons, List.length_cons, filter_ne_len h2 hm]
section
variable {P : Program} {w : World} {K : PySem.W.Frag} {mg : Str → Option Value} {base : Heap}
/-! ### _law_event -/
abbrev N_w_event : List Str := ["_law_stream", "_law_names_here", "_law_at", "_law_queues", "_law_name", "_law_way", "_law_value_here", "_law_variable", "_law_full", "_law_other", "_law_one"]
theorem sc_w_event : FnScope N_w_event ["_law_stream", "_law_names_here", "_law_at", "_law_queues"] (defScope s_w_event) := ⟨rfl, rfl, rfl, by decide +kernel, rfl, by decide +kernel, by decide +kernel⟩
def sp_event : Sp := fun vs H Q _ => ∃ (S : List Addr) (p q a d : Addr) (B n i : Nat) (ns : List Str) (nm : Str) (Qu : Qs), vs = [.ref p, .ref a, .int (i : Nat), .ref d] ∧ StrAt H p q B ∧ B + 10 ≤ 1000000 ∧ H a = some (.lst (ns.map V.str)) ∧ a ≠ p ∧ a ≠ q ∧
  (∀ z ∈ ns, PyData.strOk z = true) ∧ 2 ≤ ns.length ∧ ns.length ≤ 4 ∧ ns.Nodup ∧ ns[i]? = some nm ∧ QueAt S H d n Qu ∧ n ≤ 1000 ∧ p ∈ S ∧ q ∈ S ∧ Trk S H ∧
  ∀ v ev Qu' H', EvV H' v ev → StepE ns nm Qu ev Qu' → QueAt S H' d (n + 1) Qu' → StrAt H' p q (B + 10) → Fr3 p q d H H' → Q v H'
theorem ok_event (T : Txt K mg) (G_w_draw : Gf P w K mg base 1 "_law_draw" ["_law_stream", "_law_many"] sp_draw) (G_w_value : Gf P w K mg base 2 "_law_value" ["_law_stream"] sp_value) {f : Addr} {fd : FuncData}
    (F : FunD K "_law_event" "_law_event" (defArgs s_w_event) (defBody s_w_event) (defScope s_w_event) [] [] f fd) : FnOk P w K mg base CX0 3 f fd ["_law_stream", "_law_names_here", "_law_at", "_law_queues"] sp_event := by
  refine ok0 F sc_w_event (fun vs H Q E h => ?_) (fun cdv A outer s H vs Q E hr h => ?_)
  · obtain ⟨S', p, q, a, d, B, n, i, ns, nm, Qu, rfl, _⟩ := h
    rfl
  · obtain ⟨S', p, q, a, d, B, n, i, ns, nm, Qu, rfl, S, hB, ha, nap, naq, hok, n2, n4, nd, hi, hq, hn, pS, qS, trk, k⟩ := h
    have hu := hu_of hr
    refine ⟨_, (pss_cons (ps_set (i := 4) sc_w_event.nd rfl (Or.inr rfl) (pe_ix (q_ixl K rfl) (pv 1) (pv 2) (fun _ _ => rfl)))
      (pss_cons (ps_set (i := 5) sc_w_event.nd rfl (Or.inl rfl) (pe_call G_w_draw.F (G_w_draw.room hr) (by rfl) G_w_draw.mg G_w_draw.kp G_w_draw.b .nil pass0 (pa_cons (pv 0) (pa_cons pe_int pa_nil))))
      (pss_cons (ps_set (i := 6) sc_w_event.nd rfl (Or.inl rfl) (pe_call G_w_value.F (G_w_value.room hr) (by rfl) G_w_value.mg G_w_value.kp G_w_value.b .nil pass0 (pa_cons (pv 0) pa_nil)))
      (pss_cons (ps_set (i := 7) sc_w_event.nd rfl (Or.inl rfl) (pe_ix (q_ixl K rfl) (pe_lst (pa_cons pe_str (pa_cons pe_str pa_nil))) (pe_call G_w_draw.F (G_w_draw.room hr) (by rfl) G_w_draw.mg G_w_draw.kp G_w_draw.b .nil pass0 (pa_cons (pv 0) (pa_cons pe_int pa_nil))) (fun _ _ => rfl)))
      (pss_cons (ps_setLc (i := 8) (own := [("_law_other", 9)]) (by rfl) sc_w_event.nd rfl rfl (sw_true rfl rfl rfl (by decide +kernel)) (q_plist K rfl (pv 1)) (blkOk_by (N := N_w_event) (sc := defScope s_w_event) (by decide +kernel)) (fun _ _ _ _ _ => (pg_name (i := 9) sc_w_event.nd rfl (Or.inl rfl))) (fun _ _ _ _ _ => (pts_one (pt_cmpR (q_neD K rfl hr.units) (pe_dget2 hu (pv 3) (pe_tup (pa_cons (pv 9) (pa_cons (pv 4) pa_nil))) (pe_lst pa_nil) ⟨by rfl, by rfl, by rfl, by rfl⟩) (pe_lst pa_nil) (nomark _)))) (fun _ _ _ _ _ => (pv 9)))
      (pss_cons (ps_if (PW.pt (pw_and (pt_cmpR op_lt (pv 5) pe_int (nomark _)) (pw_and1 (pt_cmpR op_gt (pe_callB (q_len K rfl) (by rfl) T.z_len (by decide +kernel) (pa_cons (pv 1) pa_nil)) pe_int (nomark _)))))
        (pss_cons (ps_set (i := 9) sc_w_event.nd rfl (Or.inl rfl) (pe_ix (q_ixl K rfl) (pe_lc (own := [("_law_one", 10)]) (by rfl) sc_w_event.nd (q_plist K rfl (pv 1)) (blkOk_by (N := N_w_event) (sc := defScope s_w_event) (by decide +kernel)) (fun _ _ _ _ _ => (pg_name (i := 10) sc_w_event.nd rfl (Or.inl rfl))) (fun _ _ _ _ _ => (pts_one (pt_cmpR op_ne (pv 10) (pv 4) (nomark _)))) (fun _ _ _ _ _ => (pv 10))) (pe_call G_w_draw.F (G_w_draw.room hr) (by rfl) G_w_draw.mg G_w_draw.kp G_w_draw.b .nil pass0 (pa_cons (pv 0) (pa_cons (pe_op op_sub (pe_callB (q_len K rfl) (by rfl) T.z_len (by decide +kernel) (pa_cons (pv 1) pa_nil)) pe_int) pa_nil))) (fun _ _ => rfl)))
        (pss_cons (ps_dput hu (pv 3) (pe_tup (pa_cons (pv 4) (pa_cons (pv 9) pa_nil))) (pe_op op_cat (pe_dget2 hu (pv 3) (pe_tup (pa_cons (pv 4) (pa_cons (pv 9) pa_nil))) (pe_lst pa_nil) ⟨by rfl, by rfl, by rfl, by rfl⟩) (pe_lst (pa_cons (pv 6) pa_nil))) rfl)
        (pss_one (ps_ret (pe_tup (pa_cons pe_str (pa_cons (pv 9) (pa_cons (pv 6) pa_nil))))))))
        pss_nil)
      (Evl.pss_cut (ps_if (PW.pt (pw_and (pt_cmpR op_lt (pv 5) pe_int (nomark _)) (pw_and1 (pt_cmpR (q_neD K rfl hr.units) (pv 8) (pe_lst pa_nil) (nomark _)))))
        (pss_cons (ps_set (i := 9) sc_w_event.nd rfl (Or.inl rfl) (pe_ix (q_ixl K rfl) (pv 8) (pe_call G_w_draw.F (G_w_draw.room hr) (by rfl) G_w_draw.mg G_w_draw.kp G_w_draw.b .nil pass0 (pa_cons (pv 0) (pa_cons (pe_callB (q_len K rfl) (by rfl) T.z_len (by decide +kernel) (pa_cons (pv 8) pa_nil)) pa_nil))) (fun _ _ => rfl)))
        (pss_cons (ps_set (i := 6) sc_w_event.nd rfl (Or.inl rfl) (pe_ix (q_ixl K rfl) (pe_dget hu (pv 3) (pe_tup (pa_cons (pv 9) (pa_cons (pv 4) pa_nil))) (fun _ _ => rfl)) pe_int (fun _ _ => rfl)))
        (pss_cons (ps_dput hu (pv 3) (pe_tup (pa_cons (pv 9) (pa_cons (pv 4) pa_nil))) (pe_slice (q_sll K rfl) (pe_dget hu (pv 3) (pe_tup (pa_cons (pv 9) (pa_cons (pv 4) pa_nil))) (fun _ _ => rfl)) (po_some pe_int) po_none) rfl)
        (pss_one (ps_ret (pe_tup (pa_cons (pe_ix (q_ixl K rfl) (pe_lst (pa_cons pe_str (pa_cons pe_str pa_nil))) (pe_call G_w_draw.F (G_w_draw.room hr) (by rfl) G_w_draw.mg G_w_draw.kp G_w_draw.b .nil pass0 (pa_cons (pv 0) (pa_cons pe_int pa_nil))) (fun _ _ => rfl)) (pa_cons (pv 9) (pa_cons (pv 7) (pa_cons (pv 6) pa_nil))))))))))
        pss_nil)
      (pss_cons (ps_if (pt_cmpR op_eq (pv 5) pe_int (nomark _))
        (pss_one (ps_ret (pe_tup (pa_cons pe_str pa_nil))))
        pss_nil)
      (pss_one (ps_ret (pe_tup (pa_cons (pe_ix (q_ixl K rfl) (pe_lst (pa_cons pe_str (pa_cons pe_str pa_nil))) (pe_call G_w_draw.F (G_w_draw.room hr) (by rfl) G_w_draw.mg G_w_draw.kp G_w_draw.b .nil pass0 (pa_cons (pv 0) (pa_cons pe_int pa_nil))) (fun _ _ => rfl)) (pa_cons (pv 7) (pa_cons (pv 6) pa_nil)))))))))))))), ?_⟩
    have hnm : nm ∈ ns := List.mem_of_getElem? hi
    -- name, way, value
    refine ⟨_, rfl, _, rfl, a, _, _, .str nm, rfl, rfl, sq ha, atI_nat (by simp [hi]), ?_⟩
    refine ⟨_, rfl, p, q, 8, B, rfl, S, by omega, by decide, by decide, fun way H1 w0 w1 S1 f1 => ?_⟩
    refine ⟨_, rfl, p, q, B + 1, rfl, S1, by omega, fun val H2 hval S2 f2 => ?_⟩
    -- variable
    refine ⟨by decide, fun lx hlx => ?_⟩
    refine ⟨_, rfl, p, q, 2, B + 3, rfl, S2.frame (same_new hlx), by omega, by decide, by decide, fun r3 H3 r30 r31 S3 f3 => ?_⟩
    have nlx := S2.nep (H' := H2) hlx
    obtain ⟨vx, hvx, hax⟩ := atI_mem (xs := [V.str "x", V.str "y"]) r30 (by simpa using r31)
    obtain ⟨x, rfl, hx⟩ : ∃ x : Str, vx = .str x ∧ (x = "x" ∨ x = "y") := by
      simp only [List.mem_cons, List.not_mem_nil, or_false] at hvx
      rcases hvx with rfl | rfl
      · exact ⟨_, rfl, .inl rfl⟩
      · exact ⟨_, rfl, .inr rfl⟩
    refine ⟨lx, _, r3, _, rfl, rfl, sq (f3 _ _ upd_same nlx.1 nlx.2), hax, ?_⟩
    have F3 : Fr2 p q H H3 := f1.trans (f2.trans ((Fr2.new hlx).trans f3))
    have ha3 := F3 _ _ ha nap naq
    have hq3 := hq.fr ((F3).fS pS qS)
    -- full
    refine ⟨_, rfl, a, rfl, ⟨_, sq ha3⟩, fun D hD => lc_pure (walk_list (K := K) (a := a) (xs := ns.map V.str)) hD ns (by simp) (by simp; omega) (fun b v _ => v = .str b) (fun _ _ _ _ _ z => z) (fun b => !(Qu b nm).isEmpty) (fun H' e => sq (e _ _ ha3)) (fun _ _ _ _ y => yat_same y) ?_ ?_⟩
    · intro j b xv H5 H4 kk hb e4 y ht hf
      obtain ⟨rfl, hxv⟩ := y
      have exv : xv = .str b := by
        rw [List.getElem?_map, hb] at hxv
        exact (Option.some.inj hxv).symm
      subst exv
      have hq4 := hq3.fr (((Fr2.of e4)).fS pS qS)
      obtain ⟨kvs, g1, g2, g3⟩ := hq4.ex
      refine ⟨rfl, _, rfl, d, rfl, .inr ⟨kvs, .inl g1⟩, _, rfl, _, rfl, s2, fun tp htp => ⟨s0, fun le hle => ⟨valV kvs (k2 b nm), DGet.t (k := k2 b nm) ?_ ?_, s0, fun le2 hle2 => ?_⟩⟩⟩
      · rw [upd_ne (ne_of_none (by rw [upd_ne (ne_of_none g1 htp)]; exact g1) hle), upd_ne (ne_of_none g1 htp)]
        exact g1
      · rw [upd_ne (ne_of_none upd_same hle)]
        exact upd_same
      have nle : le ≠ le2 := ne_of_none upd_same hle2
      have e5 : Same H4 (upd (upd (upd H4 tp (.tup [.str b, .str nm])) le (.lst [])) le2 (.lst [])) := (same_new htp).trans ((same_new hle).trans (same_new hle2))
      refine ⟨.list ((Qu b nm).map .int), .list [], ?_, .lst (sq upd_same) .nil, shapedInts _, rfl, _, rfl, ?_⟩
      · rcases g3 b nm with ⟨z1, z2⟩ | ⟨l, z1, z2, _⟩
        · rw [z1, z2]
          exact .lst (sq (by rw [upd_ne nle]; exact upd_same)) .nil
        · rw [z1]
          exact .lst (sq (e5 _ _ z2)) (dpInts _)
      · rw [eqv_nil]
        cases hQ : (!(Qu b nm).isEmpty) with
        | true => exact iteT ⟨_, rfl, ht _ _ e5 hQ rfl⟩
        | false => exact iteF (hf _ e5 hQ)
    · intro ys H4 e4 hy hp
      have ey := plist hp
      subst ey
      have S4 := S3.frame e4
      have ha4 := e4 _ _ ha3
      have hq4 := hq3.fr (((Fr2.of e4)).fS pS qS)
      have F4 : Fr2 p q H H4 := F3.trans (Fr2.of e4)
      have nD := S3.nep (H' := H3) hD
      have naD : a ≠ D := ne_of_none ha3 hD
      clear e4 hq3 ha3 F3 hlx hax
      -- way < 3 and len(names) > 1
      refine ⟨_, rfl, _, _, rfl, rfl, _, rfl, ?_⟩
      refine ite2 (fun hw => ?_) (fun hw => ?_)
      · refine ⟨_, rfl, _, _, rfl, .inl ⟨_, sq ha4, rfl⟩, _, _, rfl, rfl, _, rfl, ?_⟩
        have e1 : decide ((1 : Int) < ((ns.map V.str).length : Nat)) = true := decide_eq_true (by rw [List.length_map]; omega)
        rw [e1]
        refine iteT ?_
        refine ⟨_, rfl, a, rfl, ⟨_, sq ha4⟩, fun D2 hD2 => lc_pure (walk_list (K := K) (a := a) (xs := ns.map V.str)) hD2 ns (by simp) (by simp; omega) (fun b v _ => v = .str b) (fun _ _ _ _ _ z => z) (fun b => !decide (b = nm)) (fun H' e => sq (e _ _ ha4)) (fun _ _ _ _ y => yat_same y) ?_ ?_⟩
        · intro j b xv H6 H5 kk hb e5 y ht hf
          obtain ⟨rfl, hxv⟩ := y
          have exv : xv = .str b := by
            rw [List.getElem?_map, hb] at hxv
            exact (Option.some.inj hxv).symm
          subst exv
          refine ⟨rfl, _, rfl, _, rfl, rfl, _, rfl, ?_⟩
          have eb : decide (V.str b = V.str nm) = decide (b = nm) := by
            by_cases q : b = nm
            · rw [decide_eq_true q, decide_eq_true (by rw [q])]
            · rw [decide_eq_false q, decide_eq_false (fun z => q (V.str.inj z))]
          rw [eb]
          cases hQ : (!decide (b = nm)) with
          | true => exact iteT ⟨_, rfl, ht _ _ (Same.refl _) hQ rfl⟩
          | false => exact iteF (hf _ (Same.refl _) hQ)
        · intro zs H5 e5 hz hpz
          have ez := plist hpz
          subst ez
          have S5 := S4.frame e5
          have ha5 := e5 _ _ ha4
          have hfl := filter_ne_len nd hnm
          refine ⟨_, rfl, _, rfl, _, _, rfl, .inl ⟨_, sq ha5, rfl⟩, _, _, rfl, rfl, p, q, _, B + 4, rfl, S5.mono (by omega), by omega, by rw [List.length_map]; omega, by rw [List.length_map]; omega, fun r H6 r0 r1 S6 f6 => ?_⟩
          rw [List.length_map] at r1
          have nD2 := S4.nep (H' := H4) hD2
          have hz6 := f6 _ _ hz nD2.1 nD2.2
          obtain ⟨vo, hvo, hao⟩ := atI_mem (xs := (ns.filter fun b => !decide (b = nm)).map V.str) r0 (by rw [List.length_map]; omega)
          obtain ⟨o, ho, rfl⟩ := List.mem_map.mp hvo
          obtain ⟨ho1, ho2⟩ := List.mem_filter.mp ho
          have hon : o ≠ nm := by simpa using ho2
          refine ⟨_, _, r, _, rfl, rfl, sq hz6, hao, ?_⟩
          have F6 : Fr2 p q H4 H6 := (Fr2.of e5).trans f6
          have hq6 := hq4.fr ((F6).fS pS qS)
          -- queues[name, other] = queues.get((name, other), []) + [value]
          refine ⟨_, rfl, d, rfl, ?_, _, rfl, _, rfl, s2, fun tp htp => ⟨s0, fun le hle => ?_⟩⟩
          · obtain ⟨kvs, g1, _⟩ := hq6.ex
            exact .inr ⟨kvs, .inl g1⟩
          obtain ⟨_, ov, l, gd, gl, gh⟩ := hq6.get (a := nm) (b := o) ((same_new htp).trans (same_new hle)) (by rw [upd_ne (ne_of_none upd_same hle)]; exact upd_same) upd_same
          refine ⟨ov, gd, ?_⟩
          rw [gl]
          refine ⟨_, rfl, s1, fun lv hlv => ?_⟩
          have ghl : (upd (upd (upd H6 tp (.tup [.str nm, .str o])) le (.lst [])) lv (.lst [.int val])) l = some (.lst ((Qu nm o).map V.int)) := by
            rw [upd_ne (ne_of_none gh hlv)]
            exact gh
          refine ⟨l, lv, _, _, rfl, rfl, ghl, upd_same, ?_, fun nl hnl => ?_⟩
          · have := hq.len nm o
            exact sz (by simp; omega)
          refine ⟨_, rfl, _, rfl, _, rfl, s2, fun tp2 htp2 => ?_⟩
          have e7 : Same H6 (upd (upd (upd (upd (upd H6 tp (.tup [.str nm, .str o])) le (.lst [])) lv (.lst [.int val])) nl (.lst ((Qu nm o).map V.int ++ [.int val]))) tp2 (.tup [.str nm, .str o])) :=
            (same_new htp).trans ((same_new hle).trans ((same_new hlv).trans ((same_new hnl).trans (same_new htp2))))
          have hnl0 : nl ∉ S' := by
            have e67 : Same H6 _ := (same_new htp).trans ((same_new hle).trans (same_new (o := .lst [.int val]) hlv))
            exact Trk.new (trk.fr (F4.trans (F6.trans (Fr2.of e67))) (S6.frame e67)) hnl
          have hnl7 : (upd (upd (upd (upd (upd H6 tp (.tup [.str nm, .str o])) le (.lst [])) lv (.lst [.int val])) nl (.lst ((Qu nm o).map V.int ++ [.int val]))) tp2 (.tup [.str nm, .str o])) nl = some (.lst ((Qu nm o ++ [val]).map V.int)) := by
            rw [upd_ne (ne_of_none upd_same htp2), upd_same, List.map_append]
            rfl
          obtain ⟨H8, hput, hq8, od, eH8⟩ := hq6.put hn e7 upd_same hnl7 hnl0 (by have := hq.len nm o; simp; omega)
          refine ⟨d, H8, rfl, hput, ?_⟩
          -- return ("send", other, value)
          refine ⟨_, rfl, _, rfl, s3, fun tr htr => ?_⟩
          have F8 : Fr3 p q d H H8 := by
            rw [eH8]
            exact (F4.trans F6).f3.trans ((Fr2.of e7).f3.trans Fr3.ud)
          have S8 : StrAt H8 p q (B + 10) := by
            rw [eH8]
            obtain ⟨ms, a1, b1, c1, g1, g2, g3⟩ := ((S6.frame e7).mono (show B + 4 + 1 ≤ B + 10 by omega)).ex
            obtain ⟨kvs, h1, _⟩ := hq6.ex
            have h1 := e7 _ _ h1
            exact ⟨ms, a1, b1, c1, by rw [upd_ne (ne_of g1 h1 (fun z => nomatch z))]; exact g1, by rw [upd_ne (ne_of g2 h1 (fun z => nomatch z))]; exact g2, g3⟩
          have en : (fun x y => if x = nm ∧ y = o then Qu nm o ++ [val] else Qu x y) = (fun a b => if a = nm ∧ b = o then Qu a b ++ [val] else Qu a b) := by
            funext x y
            by_cases hxy : x = nm ∧ y = o
            · rw [if_pos hxy, if_pos hxy, hxy.1, hxy.2]
            · rw [if_neg hxy, if_neg hxy]
          rw [en] at hq8
          exact k _ (.snd o val) _ _ TupV.new (.snd ho1 hon hval) (hq8.fr (((Fr2.of (same_new htr))).fS pS qS)) (S8.frame (same_new htr)) (F8.trans (Fr2.of (same_new htr)).f3)
      · refine ⟨fun σ' H' => σ' = [some (.ref p), some (.ref a), some (.int i), some (.ref d), some (.str nm), some (.int way), some (.int val), some (.str x), some (.ref D), none, none] ∧ QueAt S' H' d n Qu ∧ StrAt H' p q (B + 4) ∧ Fr2 p q H H', ?_, ?_⟩
        refine ⟨_, rfl, _, _, rfl, rfl, _, rfl, ?_⟩
        refine ite2 (fun hw2 => ?_) (fun hw2 => ?_)
        · refine ⟨_, rfl, s0, fun le hle => ⟨.list ((ns.filter fun b => !(Qu b nm).isEmpty).map .str), .list [], .lst (sq (by rw [upd_ne (ne_of_none hy hle)]; exact hy)) (dpStrs _), .lst (sq upd_same) .nil, shapedStrs fun z hz => hok z (List.mem_filter.mp hz).1, rfl, _, rfl, ?_⟩⟩
          rw [eqv_nilS]
          have e5 : Same H4 (upd H4 le (.lst [])) := same_new hle
          generalize upd H4 le (.lst []) = H5 at e5
          clear hle le
          have S5 := S4.frame e5
          have hq5 := hq4.fr (((Fr2.of e5)).fS pS qS)
          have hy5 := e5 _ _ hy
          have F5 := F4.trans (Fr2.of e5)
          clear hy e5 hq4 S4 F4
          cases hF : (ns.filter fun b => !(Qu b nm).isEmpty) with
          | nil => exact iteF ⟨rfl, hq5, S5, F5⟩
          | cons f0 fr =>
            refine iteT ?_
            rw [hF] at hy5
            have hfl : (f0 :: fr).length ≤ 4 := by rw [← hF]; exact Nat.le_trans (List.length_filter_le _ _) n4
            refine ⟨_, rfl, _, rfl, _, rfl, _, _, rfl, .inl ⟨_, sq hy5, rfl⟩, p, q, _, B + 4, rfl, S5.mono (by omega), by omega, by simp, by rw [List.length_map]; omega, fun r H6 r0 r1 S6 f6 => ?_⟩
            rw [List.length_map] at r1
            have hy6 := f6 _ _ hy5 nD.1 nD.2
            obtain ⟨vo, hvo, hao⟩ := atI_mem (xs := (f0 :: fr).map V.str) r0 (by rw [List.length_map]; omega)
            obtain ⟨o, ho, rfl⟩ := List.mem_map.mp hvo
            rw [← hF] at ho
            obtain ⟨ho1, ho2⟩ := List.mem_filter.mp ho
            have hon : Qu o nm ≠ [] := by
              intro z
              rw [z] at ho2
              cases ho2
            obtain ⟨v0, vr, hQv⟩ : ∃ v0 vr, Qu o nm = v0 :: vr := by
              cases h : Qu o nm with
              | nil => exact (hon h).elim
              | cons v0 vr => exact ⟨v0, vr, rfl⟩
            refine ⟨_, _, r, _, rfl, rfl, sq hy6, hao, ?_⟩
            have hq6 := hq5.fr ((f6).fS pS qS)
            -- value = queues[other, name][0]
            refine ⟨_, rfl, _, rfl, _, rfl, s2, fun tp htp => ?_⟩
            obtain ⟨l, gd, gh⟩ := hq6.has (a := o) (b := nm) (same_new htp) upd_same hon
            refine ⟨d, _, rfl, gd, l, _, 0, .int v0, rfl, rfl, sq gh, by rw [hQv]; exact atI_nat (j := 0) rfl, ?_⟩
            -- queues[other, name] = queues[other, name][1:]
            refine ⟨_, rfl, _, rfl, _, rfl, s2, fun tp2 htp2 => ?_⟩
            obtain ⟨l2, gd2, gh2⟩ := hq6.has (a := o) (b := nm) ((same_new htp).trans (same_new htp2)) upd_same hon
            refine ⟨d, _, rfl, gd2, 1, rfl, l2, _, rfl, sq gh2, fun nl hnl => ?_⟩
            rw [hQv, cut_tail]
            refine ⟨_, rfl, _, rfl, _, rfl, s2, fun tp3 htp3 => ?_⟩
            have e7 : Same H6 (upd (upd (upd (upd H6 tp (.tup [.str o, .str nm])) tp2 (.tup [.str o, .str nm])) nl (.lst (vr.map V.int))) tp3 (.tup [.str o, .str nm])) :=
              (same_new htp).trans ((same_new htp2).trans ((same_new hnl).trans (same_new htp3)))
            have hnl0 : nl ∉ S' := by
              have e67 : Same H6 _ := (same_new (o := .tup [.str o, .str nm]) htp).trans (same_new (o := .tup [.str o, .str nm]) htp2)
              exact Trk.new (trk.fr (F5.trans (f6.trans (Fr2.of e67))) (S6.frame e67)) hnl
            have hnl7 : (upd (upd (upd (upd H6 tp (.tup [.str o, .str nm])) tp2 (.tup [.str o, .str nm])) nl (.lst (vr.map V.int))) tp3 (.tup [.str o, .str nm])) nl = some (.lst (vr.map V.int)) := by
              rw [upd_ne (ne_of_none upd_same htp3), upd_same]
            have hvr : vr.length ≤ n + 1 := by
              have := hq.len o nm
              rw [hQv] at this
              simp at this
              omega
            obtain ⟨H8, hput, hq8, od, eH8⟩ := hq6.put hn e7 upd_same hnl7 hnl0 hvr
            refine ⟨d, H8, rfl, hput, ?_⟩
            have F8 : Fr3 p q d H H8 := by
              rw [eH8]
              exact (F5.trans f6).f3.trans ((Fr2.of e7).f3.trans Fr3.ud)
            have S8 : StrAt H8 p q (B + 5) := by
              rw [eH8]
              obtain ⟨ms, a1, b1, c1, g1, g2, g3⟩ := ((S6.frame e7).mono (show B + 4 + 1 ≤ B + 5 by omega)).ex
              obtain ⟨kvs, h1, _⟩ := hq6.ex
              have h1 := e7 _ _ h1
              exact ⟨ms, a1, b1, c1, by rw [upd_ne (ne_of g1 h1 (fun z => nomatch z))]; exact g1, by rw [upd_ne (ne_of g2 h1 (fun z => nomatch z))]; exact g2, g3⟩
            -- return (["receive", "take"][..], other, variable, value)
            refine ⟨by decide, fun lt hlt => ?_⟩
            refine ⟨_, rfl, p, q, 2, B + 5, rfl, S8.frame (same_new hlt), by omega, by decide, by decide, fun rt H9 rt0 rt1 S9 f9 => ?_⟩
            have nlt := S8.nep (H' := H8) hlt
            obtain ⟨vt, hvt, hat⟩ := atI_mem (xs := [V.str "receive", V.str "take"]) rt0 (by simpa using rt1)
            refine ⟨lt, _, rt, _, rfl, rfl, sq (f9 _ _ upd_same nlt.1 nlt.2), hat, _, rfl, _, rfl, _, rfl, s4, fun tr htr => ?_⟩
            have hq9 := (hq8.fr (((Fr2.of (same_new hlt))).fS pS qS)).fr (f9.fS pS qS)
            have S9' := S9.mono (show B + 5 + 1 ≤ B + 10 by omega)
            have F9 := F8.trans ((Fr2.of (same_new hlt)).trans f9).f3
            have fin : ∀ t : Bool, vt = .str (Ev.rcv t o x v0).word → Q (.ref tr) (upd H9 tr (.tup [vt, .str o, .str x, .int v0])) := fun t ht => by
              subst ht
              exact k _ (.rcv t o x v0) _ _ TupV.new (.rcv ho1 hx hQv) (hq9.fr (((Fr2.of (same_new htr))).fS pS qS)) (S9'.frame (same_new htr)) (F9.trans (Fr2.of (same_new htr)).f3)
            simp only [List.mem_cons, List.not_mem_nil, or_false] at hvt
            rcases hvt with rfl | rfl
            · exact fin false rfl
            · exact fin true rfl
        · exact ⟨rfl, hq4, S4, F4⟩
        · rintro σ' H5 ⟨rfl, hq5, S5, F5⟩
          refine ⟨_, rfl, rfl, _, rfl, ?_⟩
          refine ite2 (fun hw3 => ?_) (fun hw3 => ?_)
          · exact ⟨s1, fun tr htr => k _ .chk _ _ TupV.new .chk (hq5.fr (((Fr2.of (same_new htr))).fS pS qS)).more ((S5.mono (by omega)).frame (same_new htr)) (F5.trans (Fr2.of (same_new htr))).f3⟩
          · refine ⟨by decide, fun lt hlt => ?_⟩
            refine ⟨_, rfl, p, q, 2, B + 4, rfl, S5.frame (same_new hlt), by omega, by decide, by decide, fun rt H9 rt0 rt1 S9 f9 => ?_⟩
            have nlt := S5.nep (H' := H5) hlt
            obtain ⟨vt, hvt, hat⟩ := atI_mem (xs := [V.str "set", V.str "input"]) rt0 (by simpa using rt1)
            refine ⟨lt, _, rt, _, rfl, rfl, sq (f9 _ _ upd_same nlt.1 nlt.2), hat, _, rfl, _, rfl, s3, fun tr htr => ?_⟩
            have hq9 := ((hq5.fr (((Fr2.of (same_new hlt))).fS pS qS)).fr (f9.fS pS qS)).more
            have S9' := S9.mono (show B + 4 + 1 ≤ B + 10 by omega)
            have F9 := (F5.trans ((Fr2.of (same_new hlt)).trans f9)).f3 (d := d)
            simp only [List.mem_cons, List.not_mem_nil, or_false] at hvt
            rcases hvt with rfl | rfl
            · exact k _ (.set x val) _ _ TupV.new (.set hx hval) (hq9.fr (((Fr2.of (same_new htr))).fS pS qS)) (S9'.frame (same_new htr)) (F9.trans (Fr2.of (same_new htr)).f3)
            · exact k _ (.inp x val) _ _ TupV.new (.inp hx hval) (hq9.fr (((Fr2.of (same_new htr))).fS pS qS)) (S9'.frame (same_new htr)) (F9.trans (Fr2.of (same_new htr)).f3)
end
end Rr

set_option Elab.async false
set_option linter.all false
set_option maxRecDepth 100000
set_option maxHeartbeats 4000000
namespace Rr
open PySem PySem.Spec PyProof.Rows L2 Xr
/-! ### runs -/
def upR (R : Str → List Ev) (a : Str) (e : Ev) : Str → List Ev := fun b => if b = a then R b ++ [e] else R b
inductive Run (ns : List Str) : (Str → List Ev) → Qs → List Id → Prop
  | nil : Run ns (fun _ => []) (fun _ _ => []) []
  | step {R : Str → List Ev} {Qu Qu' : Qs} {ord : List Id} {nm : Str} {ev : Ev} : Run ns R Qu ord → nm ∈ ns → StepE ns nm Qu ev Qu' → Run ns (upR R nm ev) Qu' (ord ++ [(nm, (R nm).length + 1)])
theorem Run.len {ns : List Str} {R : Str → List Ev} {Qu : Qs} {ord : List Id} (h : Run ns R Qu ord) (a : Str) : (R a).length ≤ ord.length := by
  induction h with
  | nil => simp
  | step _ _ _ ih =>
    rw [List.length_append]
    unfold upR
    split
    · rw [List.length_append]
      simp
      omega
    · simp
      omega
/-- the rows while they are made -/
structure RowsM (H : Hp) (L : Addr) (ts ls : List Addr) (ns : List Str) (R : Str → List Ev) : Prop where
  top : H L = some (.lst (ts.map V.ref))
  lt : ts.length = ns.length
  ll : ls.length = ns.length
  nd : ls.Nodup
  nL : L ∉ ls
  tu : ∀ (j : Nat) t l b, ts[j]? = some t → ls[j]? = some l → ns[j]? = some b → H t = some (.tup [.str b, .ref l])
  li : ∀ (j : Nat) l b, ls[j]? = some l → ns[j]? = some b → ∃ xs, H l = some (.lst xs) ∧ Paired (EvV H) xs (R b)
theorem RowsM.fr {H H' : Hp} {L : Addr} {ts ls : List Addr} {ns : List Str} {R : Str → List Ev} (z : RowsM H L ts ls ns R) (e : ∀ b o, H b = some o → (b = L ∨ b ∈ ls ∨ ∃ zs, o = .tup zs) → H' b = some o) : RowsM H' L ts ls ns R := by
  refine ⟨e _ _ z.top (.inl rfl), z.lt, z.ll, z.nd, z.nL, fun j t l b h1 h2 h3 => e _ _ (z.tu j t l b h1 h2 h3) (.inr (.inr ⟨_, rfl⟩)), fun j l b h1 h2 => ?_⟩
  obtain ⟨xs, g1, g2⟩ := z.li j l b h1 h2
  exact ⟨xs, e _ _ g1 (.inr (.inl (List.mem_of_getElem? h1))), L2.Paired.mapP g2 fun _ _ q => EvV.mono (fun t zs h => e t _ h (.inr (.inr ⟨_, rfl⟩))) q⟩
theorem RowsM.put {H : Hp} {L : Addr} {ts ls : List Addr} {ns : List Str} {R : Str → List Ev} (z : RowsM H L ts ls ns R) (hn : ns.Nodup) {i : Nat} {l : Addr} {nm : Str} {v : V} {ev : Ev} {xs : List V} (hl : ls[i]? = some l) (hi : ns[i]? = some nm) (hx : H l = some (.lst xs)) (hv : EvV H v ev) :
    RowsM (upd H l (.lst (xs ++ [v]))) L ts ls ns (upR R nm ev) := by
  have ht : TupS H (upd H l (.lst (xs ++ [v]))) := tups_mut hx (fun zs q => nomatch q)
  refine ⟨?_, z.lt, z.ll, z.nd, z.nL, fun j t l' b h1 h2 h3 => ht t _ (z.tu j t l' b h1 h2 h3), fun j l' b h1 h2 => ?_⟩
  · rw [upd_ne (fun q : L = l => z.nL (q ▸ List.mem_of_getElem? hl))]
    exact z.top
  · by_cases hj : j = i
    · subst hj
      rw [hl] at h1
      cases h1
      rw [hi] at h2
      cases h2
      obtain ⟨ys, g1, g2⟩ := z.li j l nm hl hi
      rw [g1] at hx
      cases hx
      refine ⟨_, upd_same, ?_⟩
      unfold upR
      rw [if_pos rfl]
      exact Paired.snoc (L2.Paired.mapP g2 fun _ _ q => EvV.mono ht q) (EvV.mono ht hv)
    · obtain ⟨ys, g1, g2⟩ := z.li j l' b h1 h2
      have n1 : l' ≠ l := fun q => hj (by
        rw [q] at h1
        exact (List.getElem?_inj (List.getElem?_eq_some_iff.mp h1).1 z.nd).mp (h1.trans hl.symm))
      have n2 : b ≠ nm := fun q => hj (by
        rw [q] at h2
        exact (List.getElem?_inj (List.getElem?_eq_some_iff.mp h2).1 hn).mp (h2.trans hi.symm))
      refine ⟨ys, by rw [upd_ne n1]; exact g1, ?_⟩
      unfold upR
      rw [if_neg n2]
      exact L2.Paired.mapP g2 fun _ _ q => EvV.mono ht q
section
variable {P : Program} {w : World} {K : PySem.W.Frag} {mg : Str → Option Value} {base : Heap}
/-! ### _law_rows -/
abbrev N_w_rows : List Str := ["_law_stream", "_law_names_here", "_law_many", "_law_rows_here", "_law_name", "_law_queues", "_law_turn", "_law_at", "_law_event_here", "_law_events"]
theorem sc_w_rows : FnScope N_w_rows ["_law_stream", "_law_names_here", "_law_many"] (defScope s_w_rows) := ⟨rfl, rfl, rfl, by decide +kernel, rfl, by decide +kernel, by decide +kernel⟩
def sp_rows : Sp := fun vs H Q _ => ∃ (p q a : Addr) (B m : Nat) (ns : List Str), vs = [.ref p, .ref a, .int (m : Nat)] ∧ StrAt H p q B ∧ m ≤ 900 ∧ B + 11 * m ≤ 1000000 ∧ H a = some (.lst (ns.map V.str)) ∧ a ≠ p ∧ a ≠ q ∧
  (∀ z ∈ ns, PyData.strOk z = true) ∧ 2 ≤ ns.length ∧ ns.length ≤ 4 ∧ ns.Nodup ∧
  ∀ (L : Addr) H' R Qu ord, H L = none → LRows H' L (rowsOf ns R) → Run ns R Qu ord → ord.length = m → StrAt H' p q (B + 11 * m) → Fr2 p q H H' → Q (.ref L) H'
theorem ok_rows (T : Txt K mg) (G_w_draw : Gf P w K mg base 1 "_law_draw" ["_law_stream", "_law_many"] sp_draw) (G_w_event : Gf P w K mg base 3 "_law_event" ["_law_stream", "_law_names_here", "_law_at", "_law_queues"] sp_event) {f : Addr} {fd : FuncData}
    (F : FunD K "_law_rows" "_law_rows" (defArgs s_w_rows) (defBody s_w_rows) (defScope s_w_rows) [] [] f fd) : FnOk P w K mg base CX0 4 f fd ["_law_stream", "_law_names_here", "_law_many"] sp_rows := by
  refine ok0 F sc_w_rows (fun vs H Q E h => ?_) (fun cdv A outer s H vs Q E hr h => ?_)
  · obtain ⟨p, q, a, B, m, ns, rfl, _⟩ := h
    rfl
  · obtain ⟨p, q, a, B, m, ns, rfl, S, hm, hB, ha, nap, naq, hok, n2, n4, nd, k⟩ := h
    have hu := hu_of hr
    refine ⟨_, (pss_cons (ps_setLc (i := 3) (own := [("_law_name", 4)]) (by rfl) sc_w_rows.nd rfl rfl (sw_true rfl rfl rfl (by decide +kernel)) (q_plist K rfl (pv 1)) (blkOk_by (N := N_w_rows) (sc := defScope s_w_rows) (by decide +kernel)) (fun _ _ _ _ _ => (pg_name (i := 4) sc_w_rows.nd rfl (Or.inl rfl))) (fun _ _ _ _ _ => pts_nil) (fun _ _ _ _ _ => (pe_tup (pa_cons (pv 4) (pa_cons (pe_lst pa_nil) pa_nil)))))
      (pss_cons (ps_set (i := 5) sc_w_rows.nd rfl (Or.inl rfl) pe_dnewT)
      (pss_cons (ps_for PassesOwn.never rfl (pi_range1 (by rfl) T.z_range (pa_cons (pv 2) pa_nil)) (pg_name (i := 6) sc_w_rows.nd rfl (Or.inl rfl))
        (pss_cons (ps_set (i := 7) sc_w_rows.nd rfl (Or.inl rfl) (pe_call G_w_draw.F (G_w_draw.room hr) (by rfl) G_w_draw.mg G_w_draw.kp G_w_draw.b .nil pass0 (pa_cons (pv 0) (pa_cons (pe_callB (q_len K rfl) (by rfl) T.z_len (by decide +kernel) (pa_cons (pv 1) pa_nil)) pa_nil))))
        (pss_cons (ps_set (i := 8) sc_w_rows.nd rfl (Or.inl rfl) (pe_call G_w_event.F (G_w_event.room hr) (by rfl) G_w_event.mg G_w_event.kp G_w_event.b .nil pass0 (pa_cons (pv 0) (pa_cons (pv 1) (pa_cons (pv 7) (pa_cons (pv 5) pa_nil))))))
        (pss_one (ps_expr (q_bm K rfl PySem.F.plainAttrs_list PySem.F.slot_list_append PySem.F.type_list_append mt_append (pe_ix (q_ixt K rfl) (pe_ix (q_ixl K rfl) (pv 3) (pv 7) (fun _ _ => rfl)) pe_int (fun _ _ => rfl)) (pa_cons (pv 8) pa_nil)))))))
      (pss_one (ps_ret (pe_lc (own := [("_law_name", 4), ("_law_events", 9)]) (by rfl) sc_w_rows.nd (q_plist K rfl (pv 3)) (blkOk_by (N := N_w_rows) (sc := defScope s_w_rows) (by decide +kernel)) (fun _ _ _ _ _ => (q_tup (n := 2) K rfl rfl (pgs_cons (pg_name (i := 4) sc_w_rows.nd rfl (Or.inl rfl)) (pgs_cons (pg_name (i := 9) sc_w_rows.nd rfl (Or.inl rfl)) pgs_nil)))) (fun _ _ _ _ _ => pts_nil) (fun _ _ _ _ _ => (pe_tup (pa_cons (pv 4) (pa_cons (pe_callTy (q_tuple K rfl) (by rfl) T.z_tuple (by decide +kernel) (pa_cons (pv 9) pa_nil)) pa_nil)))))))))), ?_⟩
    refine ⟨_, rfl, a, rfl, ⟨_, sq ha⟩, fun D hD => lc_it (walk_list (K := K) (a := a) (xs := ns.map V.str)) (fun i H1 => Same H H1 ∧ ∃ ts ls, RowsM H1 D ts ls (ns.take i) (fun _ => []) ∧ ∀ l ∈ ls, H l = none) ⟨same_new hD, [], [], ⟨upd_same, by simp, by simp, by simp, by simp, by simp, by simp⟩, by simp⟩ (fun i H1 _ h => sq (h.1 _ _ ha)) ?_ ?_⟩
    · rintro i x H1' H1 hi ⟨e1, ts, ls, z, zf⟩ ⟨rfl, hxv⟩
      have hi' : i < ns.length := by simpa using hi
      have hb : ns[i]? = some ns[i] := by simp [hi']
      have exv : x = .str ns[i] := by
        rw [List.getElem?_map, hb] at hxv
        exact (Option.some.inj hxv).symm
      subst exv
      have etake : ns.take (i + 1) = ns.take i ++ [ns[i]] := by rw [List.take_succ, hb] <;> rfl
      have hDa : D ≠ a := (ne_of_none ha hD).symm
      refine ⟨rfl, _, rfl, s0, fun l hl => ⟨s2, fun t ht => ?_⟩⟩
      have nlD : l ≠ D := (ne_of_none z.top hl).symm
      have ntl : t ≠ l := (ne_of_none upd_same ht).symm
      have htD : (upd H1 l (.lst [])) D = some (.lst (ts.map V.ref)) := by rw [upd_ne nlD.symm]; exact z.top
      have ntD : t ≠ D := (ne_of_none htD ht).symm
      have htD2 : (upd (upd H1 l (.lst [])) t (.tup [.str ns[i], .ref l])) D = some (.lst (ts.map V.ref)) := by rw [upd_ne ntD.symm]; exact htD
      refine ⟨ts.map V.ref, by rw [upd_ne ntD.symm]; exact htD, szl (by rw [List.length_map, z.lt, List.length_take]; omega), ?_⟩
      have e2 : Same H1 (upd (upd H1 l (.lst [])) t (.tup [.str ns[i], .ref l])) := (same_new hl).trans (same_new ht)
      have z2 := z.fr (fun b o h _ => e2 b o h)
      have hlf : H l = none := by
        cases hh : H l with
        | none => rfl
        | some o =>
          rw [e1 _ _ hh] at hl
          cases hl
      refine ⟨same_mut (e1.trans e2) hD, ts ++ [t], ls ++ [l], ⟨?_, ?_, ?_, ?_, ?_, ?_, ?_⟩, ?_⟩
      · rw [upd_same, List.map_append]
        rfl
      · rw [etake, List.length_append, List.length_append, z.lt]
        rfl
      · rw [etake, List.length_append, List.length_append, z.ll]
        rfl
      · refine List.nodup_append.mpr ⟨z.nd, by simp, fun x hx y hy => ?_⟩
        rintro rfl
        simp only [List.mem_singleton] at hy
        subst hy
        obtain ⟨j, hj⟩ := List.mem_iff_getElem?.mp hx
        have hj2 : j < (ns.take i).length := by
          rw [← z.ll]
          exact (List.getElem?_eq_some_iff.mp hj).1
        obtain ⟨xs, g1, _⟩ := z.li j x _ hj (List.getElem?_eq_getElem hj2)
        rw [hl] at g1
        cases g1
      · intro hx
        rcases List.mem_append.mp hx with h | h
        · exact z.nL h
        · simp only [List.mem_singleton] at h
          exact nlD h.symm
      · intro j t' l' b h1 h2 h3
        have key : (upd (upd H1 l (.lst [])) t (.tup [.str ns[i], .ref l])) t' = some (.tup [.str b, .ref l']) := by
          by_cases hj : j < ts.length
          · rw [List.getElem?_append_left hj] at h1
            rw [List.getElem?_append_left (by rw [z.ll, ← z.lt]; exact hj)] at h2
            rw [etake, List.getElem?_append_left (by rw [← z.lt]; exact hj)] at h3
            exact z2.tu j t' l' b h1 h2 h3
          · rw [List.getElem?_append_right (by omega)] at h1
            rw [List.getElem?_append_right (by rw [z.ll, ← z.lt]; omega), z.ll, ← z.lt] at h2
            rw [etake, List.getElem?_append_right (by rw [← z.lt]; omega), ← z.lt] at h3
            have : j - ts.length = 0 := by
              have := (List.getElem?_eq_some_iff.mp h1).1
              simp at this
              omega
            rw [this] at h1 h2 h3
            simp at h1 h2 h3
            rw [← h1, ← h2, ← h3]
            exact upd_same
        rw [upd_ne (ne_of key htD2 (fun q => nomatch q))]
        exact key
      · intro j l' b h1 h2
        refine ⟨[], ?_, .nil⟩
        have key : (upd (upd H1 l (.lst [])) t (.tup [.str ns[i], .ref l])) l' = some (.lst []) ∧ l' ≠ D := by
          by_cases hj : j < ls.length
          · rw [List.getElem?_append_left hj] at h1
            rw [etake, List.getElem?_append_left (by rw [← z.ll]; exact hj)] at h2
            obtain ⟨xs, g1, g2⟩ := z2.li j l' b h1 h2
            have g3 : xs = [] := by
              generalize hg : ([] : List Ev) = us at g2
              cases g2 with
              | nil => rfl
              | cons _ _ => cases hg
            rw [g3] at g1
            exact ⟨g1, fun q => z.nL (q ▸ List.mem_of_getElem? h1)⟩
          · rw [List.getElem?_append_right (by omega)] at h1
            have : j - ls.length = 0 := by
              have := (List.getElem?_eq_some_iff.mp h1).1
              simp at this
              omega
            rw [this] at h1
            simp at h1
            rw [← h1]
            exact ⟨by rw [upd_ne ntl.symm]; exact upd_same, nlD⟩
        rw [upd_ne key.2]
        exact key.1
      · intro l' hx
        rcases List.mem_append.mp hx with h | h
        · exact zf l' h
        · simp only [List.mem_singleton] at h
          rw [h]
          exact hlf
    · rintro H1 ⟨e1, ts, ls, z, zf⟩
      rw [List.length_map, List.take_length] at z
      have nla : ∀ l ∈ ls, l ≠ p ∧ l ≠ q ∧ l ≠ a := fun l hl => ⟨(S.nep (H' := H) (zf l hl)).1, (S.nep (H' := H) (zf l hl)).2, (ne_of_none ha (zf l hl)).symm⟩
      -- queues = {}
      refine fun d hd => ?_
      have e2 : Same H1 (upd H1 d (.dT [])) := same_new hd
      have hdH : H d = none := by
        cases hh : H d with
        | none => rfl
        | some o =>
          rw [e1 _ _ hh] at hd
          cases hd
      have e02 := e1.trans e2
      have nDp := S.nep (H' := H) hD
      have trk2 : Trk (p :: q :: ls) (upd H1 d (.dT [])) := by
        obtain ⟨_, _, _, _, h1, h2, _⟩ := S.ex
        intro x hx
        rcases List.mem_cons.mp hx with h | hx
        · exact ⟨_, h ▸ e02 _ _ h1⟩
        rcases List.mem_cons.mp hx with h | hx
        · exact ⟨_, h ▸ e02 _ _ h2⟩
        · obtain ⟨j, hj⟩ := List.mem_iff_getElem?.mp hx
          have hj2 : j < ns.length := by
            rw [← z.ll]
            exact (List.getElem?_eq_some_iff.mp hj).1
          obtain ⟨xs, g1, _⟩ := z.li j x _ hj (List.getElem?_eq_getElem hj2)
          exact ⟨_, e2 _ _ g1⟩
      have hdS : d ∉ p :: q :: ls := by
        intro hx
        rcases List.mem_cons.mp hx with h | hx
        · exact (S.nep (H' := H) hdH).1 h
        rcases List.mem_cons.mp hx with h | hx
        · exact (S.nep (H' := H) hdH).2 h
        · obtain ⟨j, hj⟩ := List.mem_iff_getElem?.mp hx
          have hj2 : j < ns.length := by
            rw [← z.ll]
            exact (List.getElem?_eq_some_iff.mp hj).1
          obtain ⟨xs, g1, _⟩ := z.li j d _ hj (List.getElem?_eq_getElem hj2)
          rw [hd] at g1
          cases g1
      have q2 : QueAt (p :: q :: ls) (upd H1 d (.dT [])) d 0 (fun _ _ => []) := ⟨⟨[], upd_same, by simp, fun _ _ => .inl ⟨rfl, rfl⟩⟩, by simp, hdS⟩
      -- the loop
      refine ⟨_, rfl, _, rfl, by omega, by omega, ?_⟩
      refine for_range (lo := 0) (n := (m : Int).toNat) (fun i σ' H2 => ∃ (v6 v7 v8 : Option V) (R : Str → List Ev) (Qu : Qs) (ord : List Id), σ' = [some (.ref p), some (.ref a), some (.int m), some (.ref D), none, some (.ref d), v6, v7, v8, none] ∧ RowsM H2 D ts ls ns R ∧ Run ns R Qu ord ∧ ord.length = i ∧ QueAt (p :: q :: ls) H2 d i Qu ∧ Trk (p :: q :: ls) H2 ∧ StrAt H2 p q (B + 11 * i) ∧ Fr2 p q H H2)
        ⟨none, none, none, _, _, _, rfl, z.fr (fun b o h _ => e2 b o h), .nil, rfl, q2, trk2, S.frame e02, Fr2.of e02⟩ ?_ ?_
      · rintro i σ' H2 hi ⟨v6, v7, v8, R, Qu, ord, rfl, z2, run, ho, hq, trk, S2, F2⟩
        have ha2 := F2 _ _ ha nap naq
        refine ⟨_, rfl, _, rfl, _, _, rfl, .inl ⟨_, sq ha2, rfl⟩, p, q, _, B + 11 * i, rfl, S2, by omega, by rw [List.length_map]; omega, by rw [List.length_map]; omega, fun r H3 r0 r1 S3 f3 => ?_⟩
        rw [List.length_map] at r1
        obtain ⟨c, rfl⟩ := Int.eq_ofNat_of_zero_le r0
        have hc : c < ns.length := by omega
        have hcn : ns[c]? = some ns[c] := by simp [hc]
        have ha3 := f3 _ _ ha2 nap naq
        have trk3 := trk.fr f3 S3
        have hq3 := hq.fr (f3.fS (List.mem_cons_self ..) (List.mem_cons_of_mem _ (List.mem_cons_self ..)))
        refine ⟨_, rfl, _, rfl, _, rfl, _, rfl, p :: q :: ls, p, q, a, d, B + 11 * i + 1, i, c, ns, ns[c], Qu, rfl, S3, by omega, ha3, nap, naq, hok, n2, n4, nd, hcn, hq3, by omega, List.mem_cons_self .., List.mem_cons_of_mem _ (List.mem_cons_self ..), trk3, fun ve ev Qu' H4 hev hst hq4 S4 f4 => ?_⟩
        have hnp : ∀ b o, H2 b = some o → (b = D ∨ b ∈ ls ∨ ∃ zs, o = .tup zs) → b ≠ p ∧ b ≠ q ∧ b ≠ d := by
          intro b o hb hor
          obtain ⟨_, _, _, _, h1, h2, _⟩ := S2.ex
          obtain ⟨kvs, g1, _⟩ := hq.ex
          rcases hor with h | h | ⟨zs, h⟩
          · subst h
            exact ⟨nDp.1, nDp.2, ne_of z2.top g1 (fun q => nomatch q)⟩
          · obtain ⟨g2, g3, _⟩ := nla b h
            exact ⟨g2, g3, fun q => hdS (q ▸ List.mem_cons_of_mem _ (List.mem_cons_of_mem _ h))⟩
          · subst h
            exact ⟨ne_of hb h1 (fun q => nomatch q), ne_of hb h2 (fun q => nomatch q), ne_of hb g1 (fun q => nomatch q)⟩
        have z4 : RowsM H4 D ts ls ns R := z2.fr fun b o hb hor => by
          obtain ⟨g1, g2, g3⟩ := hnp b o hb hor
          exact f4 _ _ (f3 _ _ hb g1 g2) g1 g2 g3
        have hct : c < ts.length := by rw [z4.lt]; exact hc
        have hcl : c < ls.length := by rw [z4.ll]; exact hc
        have htc : ts[c]? = some ts[c] := by simp [hct]
        have hlc : ls[c]? = some ls[c] := by simp [hcl]
        have htu := z4.tu c _ _ _ htc hlc hcn
        obtain ⟨xs, hxs, hpx⟩ := z4.li c _ _ hlc hcn
        have hlen := run.len ns[c]
        refine ⟨_, rfl, _, rfl, D, _, _, .ref ts[c], rfl, rfl, sq z4.top, atI_nat (by simp [hct]), ts[c], _, 1, .ref ls[c], rfl, rfl, sqt htu, rfl, tyl hxs, _, rfl, ls[c], xs, ve, rfl, rfl, hxs, szl (by rw [plen hpx]; omega), ?_⟩
        have hml : ls[c] ∈ ls := List.getElem_mem hcl
        have z5 := z4.put nd hlc hcn hxs hev
        refine ⟨_, _, _, _, _, _, rfl, z5, .step run (List.mem_of_getElem? hcn) hst, by rw [List.length_append, ho] <;> rfl, hq4.fr fun b o hb hbS => ?_, ?_, ?_, ?_⟩
        · rw [upd_ne (fun e' : b = ls[c] => hbS (e' ▸ List.mem_cons_of_mem _ (List.mem_cons_of_mem _ hml)))]
          exact hb
        · intro b hb
          obtain ⟨o, ho⟩ := trk3 b hb
          by_cases e3 : b = ls[c]
          · rw [e3]
            exact ⟨_, upd_same⟩
          · rw [upd_ne e3]
            obtain ⟨_, _, _, _, h1, h2, _⟩ := S4.ex
            by_cases e1 : b = p
            · exact ⟨_, e1 ▸ h1⟩
            by_cases e2 : b = q
            · exact ⟨_, e2 ▸ h2⟩
            exact ⟨o, f4 _ _ ho e1 e2 (fun q => hdS (q ▸ hb))⟩
        · obtain ⟨ms, a1, b1, c1, g1, g2, g3⟩ := (S4.mono (show B + 11 * i + 1 + 10 ≤ B + 11 * (i + 1) by omega)).ex
          exact ⟨ms, a1, b1, c1, by rw [upd_ne (nla _ hml).1.symm]; exact g1, by rw [upd_ne (nla _ hml).2.1.symm]; exact g2, g3⟩
        · intro b o hb h1 h2
          rw [upd_ne (ne_of_none hb (zf _ hml))]
          exact f4 _ _ (f3 _ _ (F2 _ _ hb h1 h2) h1 h2) h1 h2 (ne_of_none hb hdH)
      · rintro σ' H2 ⟨v6, v7, v8, R, Qu, ord, rfl, z2, run, ho, hq, trk, S2, F2⟩
        have hmm : (m : Int).toNat = m := rfl
        rw [hmm] at ho S2
        refine ⟨_, rfl, D, rfl, ⟨_, sq z2.top⟩, fun D2 hD2 => lc_pure (walk_list (K := K) (a := D) (xs := ts.map V.ref)) hD2 (rowsOf ns R) (by simp [rowsOf, z2.lt]) (by rw [List.length_map, z2.lt]; omega) (fun b v H' => RowV H' v b) (fun b v H H' e z => z.mono e) (fun _ => true) (fun H' e => sq (e _ _ z2.top)) (fun _ _ _ _ y => yat_same y) ?_ ?_⟩
        · rintro i b x H4 H3 kk hb e3 ⟨rfl, hxv⟩ ht hf
          have hin : i < ns.length := by
            have := (List.getElem?_eq_some_iff.mp hb).1
            simpa [rowsOf] using this
          have hit : i < ts.length := by rw [z2.lt]; exact hin
          have hil : i < ls.length := by rw [z2.ll]; exact hin
          have hni : ns[i]? = some ns[i] := by simp [hin]
          have hti : ts[i]? = some ts[i] := by simp [hit]
          have hli : ls[i]? = some ls[i] := by simp [hil]
          have exv : x = .ref ts[i] := by
            rw [List.getElem?_map, hti] at hxv
            exact (Option.some.inj hxv).symm
          subst exv
          have ebv : b = (ns[i], R ns[i]) := by
            unfold rowsOf at hb
            rw [List.getElem?_map, hni] at hb
            exact (Option.some.inj hb).symm
          subst ebv
          have htu := e3 _ _ (z2.tu i _ _ _ hti hli hni)
          obtain ⟨xs, hxs, hpx⟩ := z2.li i _ _ hli hni
          have hxs := e3 _ _ hxs
          refine ⟨ts[i], _, rfl, sqt htu, rfl, _, _, rfl, _, _, rfl, rfl, ?_⟩
          refine ⟨rfl, _, rfl, _, rfl, ls[i], xs, rfl, .inl ⟨sq hxs, fun y hy => ⟨s2, fun u hu' => ?_⟩⟩⟩
          have e5 : Same H3 (upd (upd H3 y (.tup xs)) u (.tup [.str ns[i], .ref y])) := (same_new hy).trans (same_new hu')
          refine ht _ _ e5 rfl ⟨.ref y, TupV.new, xs, ⟨y, rfl, ?_⟩, ?_⟩
          · rw [upd_ne (ne_of_none upd_same hu')]
            exact upd_same
          · exact L2.Paired.mapP hpx fun _ _ g => EvV.mono (stups (e3.trans e5)) g
        · intro ys H3 e3 hy hp
          have hL : H D2 = none := by
            cases hh : H D2 with
            | none => rfl
            | some o =>
              obtain ⟨_, _, _, _, h1, h2, _⟩ := S2.ex
              by_cases e1 : D2 = p
              · rw [e1, h1] at hD2
                cases hD2
              · by_cases e2 : D2 = q
                · rw [e2, h2] at hD2
                  cases hD2
                · rw [F2 _ _ hh e1 e2] at hD2
                  cases hD2
          exact k D2 H3 R Qu ord hL ⟨ys, hy, by rw [List.filter_eq_self.mpr (fun _ _ => rfl)] at hp; exact hp⟩ run ho (S2.frame e3) (F2.trans (Fr2.of e3))
end
end Rr

set_option Elab.async false
set_option linter.all false
set_option maxRecDepth 100000
set_option maxHeartbeats 2000000
/-! rows looked at one after the other -/
namespace Rr
open PySem PySem.Spec PyProof.Rows L2 Xr
/-- the rows of the first i names -/
def Tof (ns : List Str) (R : Rec) (i : Nat) : Rec := fun b => if b ∈ ns.take i then R b else []
/-- and the first k events of a -/
def Tin (ns : List Str) (R : Rec) (i : Nat) (a : Str) (k : Nat) : Rec := fun b => if b = a then (R a).take k else Tof ns R i b
theorem not_mem_take {ns : List Str} (nd : ns.Nodup) {i : Nat} {a : Str} (h : ns[i]? = some a) : a ∉ ns.take i := fun hm => by
  obtain ⟨j, hj⟩ := List.mem_iff_getElem?.mp hm
  have hji : j < i := by
    have := (List.getElem?_eq_some_iff.mp hj).1
    rw [List.length_take] at this
    omega
  rw [List.getElem?_take_of_lt hji] at hj
  have := (List.getElem?_inj (List.getElem?_eq_some_iff.mp hj).1 nd).mp (hj.trans h.symm)
  omega
theorem take_succ' {α : Type} {ns : List α} {i : Nat} {a : α} (h : ns[i]? = some a) : ns.take (i + 1) = ns.take i ++ [a] := by
  rw [List.take_succ, h] <;> rfl
theorem Tof_zero (ns : List Str) (R : Rec) : Tof ns R 0 = fun _ => [] := by
  funext b
  unfold Tof
  rw [List.take_zero, if_neg (by simp)]
theorem Tof_full {ns : List Str} {R : Rec} (h : ∀ a, a ∉ ns → R a = []) : Tof ns R ns.length = R := by
  funext b
  unfold Tof
  rw [List.take_length]
  by_cases hb : b ∈ ns
  · rw [if_pos hb]
  · rw [if_neg hb, h b hb]
theorem Tin_zero {ns : List Str} {R : Rec} (nd : ns.Nodup) {i : Nat} {a : Str} (h : ns[i]? = some a) : Tin ns R i a 0 = Tof ns R i := by
  funext b
  unfold Tin
  by_cases hb : b = a
  · rw [if_pos hb, List.take_zero, hb]
    unfold Tof
    rw [if_neg (not_mem_take nd h)]
  · rw [if_neg hb]
theorem Tin_full {ns : List Str} {R : Rec} {i : Nat} {a : Str} (h : ns[i]? = some a) : Tin ns R i a (R a).length = Tof ns R (i + 1) := by
  funext b
  unfold Tin
  rw [List.take_length]
  unfold Tof
  rw [take_succ' h]
  by_cases hb : b = a
  · rw [if_pos hb, if_pos (by simp [hb]), hb]
  · rw [if_neg hb]
    congr 1
    simp [hb]
theorem Tin_self (ns : List Str) (R : Rec) (i : Nat) (a : Str) (k : Nat) : Tin ns R i a k a = (R a).take k := by
  unfold Tin
  rw [if_pos rfl]
/-- the sends of the processed part, each told by g -/
def sentF {β : Type} (g : Str → Nat × Int → β) (T : Rec) (x y : Str) : List β := (sendsTo (T x) y).map (g x)
theorem sent_snd {β : Type} (g : Str → Nat × Int → β) {ns : List Str} {R : Rec} {i k : Nat} {a q : Str} {v : Int} (h : (R a)[k]? = some (.snd q v)) :
    (fun x y => if x = a ∧ y = q then sentF g (Tin ns R i a k) a q ++ [g a (k + 1, v)] else sentF g (Tin ns R i a k) x y) = sentF g (Tin ns R i a (k + 1)) := by
  funext x y
  unfold sentF
  by_cases hx : x = a
  · subst hx
    have hl : ((R x).take k).length = k := by
      have := (List.getElem?_eq_some_iff.mp h).1
      rw [List.length_take]
      omega
    rw [Tin_self, Tin_self, take_succ' h, sendsTo_snd, hl]
    by_cases hy : y = q
    · rw [if_pos ⟨rfl, hy⟩, if_pos hy, List.map_append, hy]
      rfl
    · rw [if_neg (fun z => hy z.2), if_neg hy]
  · rw [if_neg (fun z => hx z.1)]
    unfold Tin
    rw [if_neg hx, if_neg hx]
theorem sent_other {β : Type} (g : Str → Nat × Int → β) {ns : List Str} {R : Rec} {i k : Nat} {a : Str} {e : Ev} (h : (R a)[k]? = some e) (hn : ∀ q v, e ≠ .snd q v) :
    sentF g (Tin ns R i a k) = sentF g (Tin ns R i a (k + 1)) := by
  funext x y
  unfold sentF
  by_cases hx : x = a
  · subst hx
    rw [Tin_self, Tin_self, take_succ' h, sendsTo_other _ hn]
  · unfold Tin
    rw [if_neg hx, if_neg hx]
theorem sent_nil {β : Type} (g : Str → Nat × Int → β) : sentF g (fun _ => []) = fun _ _ => [] := rfl
/-- counts by name -/
structure CntAt (H : Hp) (d : Addr) (n : Nat) (f : Str → Nat) : Prop where
  ex : ∃ kvs : List (Key × V), H d = some (.dK kvs) ∧ kvs.length ≤ n ∧ ∀ o, (valV kvs (.inr o)).getD (.int 0) = .int (f o)
theorem CntAt.new {H : Hp} {d : Addr} : CntAt (upd H d (.dK [])) d 0 (fun _ => 0) := ⟨[], upd_same, by simp, fun _ => rfl⟩
theorem CntAt.fr {H H' : Hp} {d : Addr} {n : Nat} {f : Str → Nat} (z : CntAt H d n f) (e : H' d = H d) : CntAt H' d n f := by
  obtain ⟨kvs, h1, h2⟩ := z.ex
  exact ⟨kvs, e ▸ h1, h2⟩
theorem CntAt.isD {H : Hp} {d : Addr} {n : Nat} {f : Str → Nat} (z : CntAt H d n f) : IsD H d := by
  obtain ⟨kvs, h1, _⟩ := z.ex
  exact .inl ⟨kvs, .inl h1⟩
theorem CntAt.get {H : Hp} {d : Addr} {n : Nat} {f : Str → Nat} (z : CntAt H d n f) (o : Str) : ∃ u, DGet H d (.str o) u ∧ u.getD (.int 0) = .int (f o) := by
  obtain ⟨kvs, h1, h2, h3⟩ := z.ex
  exact ⟨_, DGet.k (k := .inr o) h1, h3 o⟩
theorem CntAt.put {H : Hp} {d : Addr} {n : Nat} {f : Str → Nat} (z : CntAt H d n f) (hn : n ≤ 50000) (o : Str) (m : Nat) : ∃ H2, DPut H d (.str o) (.int m) H2 ∧ CntAt H2 d (n + 1) (fun x => if x = o then m else f x) ∧ ∃ u, H2 = upd H d u ∧ ∃ kvs, H d = some (.dK kvs) := by
  obtain ⟨kvs, h1, h2, h3⟩ := z.ex
  refine ⟨_, DPut.k (k := .inr o) h1 (szl (by omega)), ⟨_, upd_same, by have := length_putK kvs (.inr o) (.int (m : Int)); omega, fun x => ?_⟩, _, rfl, kvs, h1⟩
  rw [valV_put]
  by_cases hx : x = o
  · rw [if_pos (by rw [hx]), if_pos hx]
    rfl
  · rw [if_neg (fun z => hx (Sum.inr.inj z)), if_neg hx]
    exact h3 x
theorem cnt_step {es : List Ev} {k : Nat} {t : Bool} {q x : Str} {v : Int} (h : es[k]? = some (.rcv t q x v)) : (fun o => if o = q then cntR (es.take k) q + 1 else cntR (es.take k) o) = cntR (es.take (k + 1)) := by
  funext o
  rw [take_succ' h, cntR_snoc]
  by_cases ho : o = q
  · rw [if_pos ho, if_pos (by simp [Ev.isRcv, ho]), ho]
  · rw [if_neg ho, if_neg (by simp [Ev.isRcv, Ne.symm ho, fun z : q = o => ho z.symm])]
    rfl
theorem cnt_other {es : List Ev} {k : Nat} {e : Ev} (h : es[k]? = some e) (hn : ∀ t q x v, e ≠ .rcv t q x v) : cntR (es.take k) = cntR (es.take (k + 1)) := by
  funext o
  rw [take_succ' h, cntR_snoc, if_neg]
  · rfl
  · cases e with
    | rcv t q x v => exact (hn t q x v rfl).elim
    | _ => simp [Ev.isRcv]
theorem inV_strs (w : Str) : ∀ l : List Str, inV (.str w) (l.map V.str) = decide (w ∈ l)
  | [] => by simp [inV]
  | x :: r => by
    have h := inV_strs w r
    unfold inV at h ⊢
    rw [List.map_cons, List.any_cons, h]
    have e : eqV (.str x) (.str w) = decide (w = x) := by
      by_cases q : w = x
      · rw [decide_eq_true q, q]
        simp [eqV]
      · rw [decide_eq_false q]
        simp [eqV, Ne.symm q, fun z : x = w => q z.symm]
    rw [e]
    by_cases q : w = x <;> simp [q]
end Rr

set_option Elab.async false
set_option linter.all false
set_option maxRecDepth 100000
set_option maxHeartbeats 4000000
namespace Rr
open PySem PySem.Spec PyProof.Rows L2 Xr
theorem msgs_take {ns : List Str} {R : Rec} {i : Nat} {a : Str} (h : ns[i]? = some a) : msgsOf (ns.take (i + 1)) R = msgsOf (ns.take i) R ++ msgsB R a (R a).length := by
  rw [take_succ' h]
  unfold msgsOf
  rw [List.flatMap_append]
  simp
theorem msgsB_rcv {R : Rec} {b : Str} {k : Nat} {m : Id × Int} (h : mate R b k = some m) : msgsB R b (k + 1) = msgsB R b k ++ [(m.1, (b, k + 1))] := by
  rw [msgsB, h]
theorem msgsB_other {R : Rec} {b : Str} {k : Nat} (h : mate R b k = none) : msgsB R b (k + 1) = msgsB R b k := by
  rw [msgsB, h, List.append_nil]
theorem msgsB_len (R : Rec) (b : Str) : ∀ k, (msgsB R b k).length ≤ k
  | 0 => by simp [msgsB]
  | k + 1 => by
    have := msgsB_len R b k
    rw [msgsB, List.length_append]
    cases mate R b k <;> simp <;> omega
theorem msgsOf_len {R : Rec} (h : ∀ a, (R a).length ≤ 900) : ∀ ns : List Str, (msgsOf ns R).length ≤ ns.length * 900
  | [] => by simp [msgsOf]
  | a :: r => by
    have h1 := msgsOf_len h r
    have h2 := msgsB_len R a (R a).length
    have h3 := h a
    unfold msgsOf at *
    rw [List.flatMap_cons, List.length_append, List.length_cons]
    omega
theorem mate_none {R : Rec} {b : Str} {k : Nat} {e : Ev} (h : (R b)[k]? = some e) (hn : ∀ t q x v, e ≠ .rcv t q x v) : mate R b k = none := by
  unfold mate
  rw [h]
  cases e with
  | rcv t q x v => exact (hn t q x v rfl).elim
  | _ => rfl
theorem IdV_mono (H H' : Hp) (v : V) (x : Id) (t : TupS H H') (h : IdV H v x) : IdV H' v x := h.mono t
def gId (a : Str) (s : Nat × Int) : Id := (a, s.1)
section
variable {P : Program} {w : World} {K : PySem.W.Frag} {mg : Str → Option Value} {base : Heap}
/-! ### _law_messages -/
abbrev N_w_messages : List Str := ["_law_rows_here", "_law_sent", "_law_found", "_law_name", "_law_events", "_law_k", "_law_taken", "_law_other"]
theorem sc_w_messages : FnScope N_w_messages ["_law_rows_here"] (defScope s_w_messages) := ⟨rfl, rfl, rfl, by decide +kernel, rfl, by decide +kernel, by decide +kernel⟩
def sp_messages : Sp := fun vs H Q _ => ∃ (L : Addr) (ns : List Str) (R : Rec), vs = [.ref L] ∧ Good ns R ∧ LRows H L (rowsOf ns R) ∧ ∀ (m : Addr) H', H m = none → LPairs H' m (msgsOf ns R) → Same H H' → Q (.ref m) H'
theorem ok_messages (T : Txt K mg) {f : Addr} {fd : FuncData} (F : FunD K "_law_messages" "_law_messages" (defArgs s_w_messages) (defBody s_w_messages) (defScope s_w_messages) [] [] f fd) : FnOk P w K mg base CX0 1 f fd ["_law_rows_here"] sp_messages := by
  refine ok0 F sc_w_messages (fun vs H Q E h => ?_) (fun cdv A outer s H vs Q E hr h => ?_)
  · obtain ⟨L, ns, R, rfl, _⟩ := h
    rfl
  · obtain ⟨L, ns, R, rfl, g, ⟨xs, hL, hxs⟩, k⟩ := h
    have hu := hu_of hr
    refine ⟨_, (pss_cons (ps_set (i := 1) sc_w_messages.nd rfl (Or.inl rfl) pe_dnewT)
      (pss_cons (ps_set (i := 2) sc_w_messages.nd rfl (Or.inl rfl) (pe_lst pa_nil))
      (pss_cons (ps_for PassesOwn.never rfl (q_plist K rfl (pv 0)) (q_tup (n := 2) K rfl rfl (pgs_cons (pg_name (i := 3) sc_w_messages.nd rfl (Or.inl rfl)) (pgs_cons (pg_name (i := 4) sc_w_messages.nd rfl (Or.inl rfl)) pgs_nil)))
        (pss_one (ps_for PassesOwn.never rfl (pi_range1 (by rfl) T.z_range (pa_cons (pe_callB (q_len K rfl) (by rfl) T.z_len (by decide +kernel) (pa_cons (pv 4) pa_nil)) pa_nil)) (pg_name (i := 5) sc_w_messages.nd rfl (Or.inl rfl))
          (pss_one (ps_if (pt_cmpR op_eq (pe_ix (q_ixt K rfl) (pe_ix (q_ixt K rfl) (pv 4) (pv 5) (fun _ _ => rfl)) pe_int (fun _ _ => rfl)) pe_str (nomark _))
            (pss_one (ps_dput hu (pv 1) (pe_tup (pa_cons (pv 3) (pa_cons (pe_ix (q_ixt K rfl) (pe_ix (q_ixt K rfl) (pv 4) (pv 5) (fun _ _ => rfl)) pe_int (fun _ _ => rfl)) pa_nil))) (pe_op op_cat (pe_dget2 hu (pv 1) (pe_tup (pa_cons (pv 3) (pa_cons (pe_ix (q_ixt K rfl) (pe_ix (q_ixt K rfl) (pv 4) (pv 5) (fun _ _ => rfl)) pe_int (fun _ _ => rfl)) pa_nil))) (pe_lst pa_nil) ⟨by rfl, by rfl, by rfl, by rfl⟩) (pe_lst (pa_cons (pe_tup (pa_cons (pv 3) (pa_cons (pe_op op_add (pv 5) pe_int) pa_nil))) pa_nil))) rfl))
            pss_nil)))))
      (pss_cons (ps_for PassesOwn.never rfl (q_plist K rfl (pv 0)) (q_tup (n := 2) K rfl rfl (pgs_cons (pg_name (i := 3) sc_w_messages.nd rfl (Or.inl rfl)) (pgs_cons (pg_name (i := 4) sc_w_messages.nd rfl (Or.inl rfl)) pgs_nil)))
        (pss_cons (ps_set (i := 6) sc_w_messages.nd rfl (Or.inl rfl) pe_dnewK)
        (pss_one (ps_for PassesOwn.never rfl (pi_range1 (by rfl) T.z_range (pa_cons (pe_callB (q_len K rfl) (by rfl) T.z_len (by decide +kernel) (pa_cons (pv 4) pa_nil)) pa_nil)) (pg_name (i := 5) sc_w_messages.nd rfl (Or.inl rfl))
          (pss_one (ps_if (pt_cmpR (q_in K rfl) (pe_ix (q_ixt K rfl) (pe_ix (q_ixt K rfl) (pv 4) (pv 5) (fun _ _ => rfl)) pe_int (fun _ _ => rfl)) (pe_tup (pa_cons pe_str (pa_cons pe_str pa_nil))) (by rfl))
            (pss_cons (ps_set (i := 7) sc_w_messages.nd rfl (Or.inl rfl) (pe_ix (q_ixt K rfl) (pe_ix (q_ixt K rfl) (pv 4) (pv 5) (fun _ _ => rfl)) pe_int (fun _ _ => rfl)))
            (pss_cons (ps_expr (q_bm K rfl PySem.F.plainAttrs_list PySem.F.slot_list_append PySem.F.type_list_append mt_append (pv 2) (pa_cons (pe_tup (pa_cons (pe_ix (q_ixl K rfl) (pe_dget hu (pv 1) (pe_tup (pa_cons (pv 7) (pa_cons (pv 3) pa_nil))) (fun _ _ => rfl)) (pe_dget2 hu (pv 6) (pv 7) pe_int ⟨by rfl, by rfl, by rfl, by rfl⟩) (fun _ _ => rfl)) (pa_cons (pe_tup (pa_cons (pv 3) (pa_cons (pe_op op_add (pv 5) pe_int) pa_nil))) pa_nil))) pa_nil)))
            (pss_one (ps_dput hu (pv 6) (pv 7) (pe_op op_add (pe_dget2 hu (pv 6) (pv 7) pe_int ⟨by rfl, by rfl, by rfl, by rfl⟩) pe_int) rfl))))
            pss_nil))))))
      (pss_one (ps_ret (pv 2))))))), ?_⟩
    have nlen : xs.length = ns.length := by rw [plen hxs, rows_len]
    refine fun d hd => ⟨s0, fun fn hfn => ?_⟩
    have hfH : H fn = none := by
      rw [upd_ne (ne_of_none upd_same hfn).symm] at hfn
      exact hfn
    have ndf : d ≠ fn := ne_of_none upd_same hfn
    have e0 : Same H (upd (upd H d (.dT [])) fn (.lst [])) := (same_new hd).trans (same_new hfn)
    generalize hH0 : upd (upd H d (.dT [])) fn (.lst []) = H0 at e0
    have hd0 : H0 d = some (.dT []) := by rw [← hH0, upd_ne ndf]; exact upd_same
    have hf0 : H0 fn = some (.lst []) := by rw [← hH0]; exact upd_same
    have hL0 := e0 _ _ hL
    have hLf : L ≠ fn := ne_of_none hL hfH
    have D0 : DL IdV [fn] H0 d 0 (fun _ _ => []) := ⟨⟨[], hd0, by simp, fun _ _ => .inl ⟨rfl, rfl⟩⟩, by simp [ndf]⟩
    -- the sends
    refine ⟨_, rfl, L, rfl, ⟨_, sq hL0⟩, for_it (walk_list (K := K) (a := L) (xs := xs)) (fun i σ' H1 => ∃ (v3 v4 v5 : Option V), σ' = [some (.ref L), some (.ref d), some (.ref fn), v3, v4, v5, none, none] ∧ Same H H1 ∧ H1 fn = some (.lst []) ∧ DL IdV [fn] H1 d (i * 900) (sentF gId (Tof ns R i)))
      ⟨none, none, none, rfl, e0, hf0, by rw [Tof_zero, sent_nil, Nat.zero_mul]; exact D0⟩ (fun i σ' H1 _ h => ?_) ?_ ?_⟩
    · obtain ⟨_, _, _, _, e, _⟩ := h
      exact sq (e _ _ hL)
    · rintro i x σ' H1' H1 hi ⟨v3, v4, v5, rfl, e1, hf1, D1⟩ ⟨rfl, hx⟩
      obtain ⟨a, t, y, z, es, hna, rfl, ht, rfl, hz, hes⟩ := row_at hxs hx
      have elen : es.length = (R a).length := plen hes
      refine ⟨t, _, rfl, sqt (e1 _ _ ht), rfl, _, _, rfl, _, _, rfl, rfl, ?_⟩
      refine ⟨_, rfl, _, _, rfl, .inr ⟨_, sqt (e1 _ _ hz), rfl⟩, _, rfl, by omega, by have := g.len a; omega, ?_⟩
      refine for_range (lo := 0) (n := ((es.length : Nat) : Int).toNat) (fun k σ' H2 => ∃ (v5 : Option V), σ' = [some (.ref L), some (.ref d), some (.ref fn), some (.str a), some (.ref z), v5, none, none] ∧ Same H H2 ∧ H2 fn = some (.lst []) ∧ DL IdV [fn] H2 d (i * 900 + k) (sentF gId (Tin ns R i a k)))
        ⟨v5, rfl, e1, hf1, by rw [Tin_zero g.nd hna]; exact D1⟩ ?_ ?_
      · rintro k' σ' H2 hk ⟨v5, rfl, e2, hf2, D2⟩
        have hk' : k' < (R a).length := by omega
        have hka : (R a)[k']? = some (R a)[k'] := List.getElem?_eq_getElem hk'
        obtain ⟨te, hte, htv⟩ := evs_at hes hk'
        have hz2 := e2 _ _ hz
        have htv2 := e2 _ _ htv
        refine ⟨_, rfl, _, rfl, z, _, k', .ref te, rfl, by simp, sqt hz2, atI_nat hte, te, _, 0, .str (R a)[k'].word, rfl, rfl, sqt htv2, atI_nat (j := 0) rfl, rfl, _, rfl, ?_⟩
        have hev := g.ev a (List.mem_of_getElem? hna) _ (List.getElem_mem hk')
        by_cases hw : (R a)[k'].word = "send"
        · obtain ⟨q, v, hq⟩ := Ev.word_send.mp hw
          rw [hq] at htv2 hka
          rw [hq]
          refine iteT ?_
          -- sent[name, other] = sent.get(..) + [(name, k + 1)]
          refine ⟨_, rfl, d, rfl, D2.isD IdV_mono, _, rfl, _, rfl, _, rfl, z, _, k', .ref te, rfl, by simp, sqt hz2, atI_nat hte, te, _, 1, .str q, rfl, rfl, sqt htv2, atI_nat (j := 1) rfl, s2, fun tp htp => ⟨s0, fun le hle => ?_⟩⟩
          have e3 : Same H2 (upd (upd H2 tp (.tup [.str a, .str q])) le (.lst [])) := (same_new htp).trans (same_new hle)
          generalize hH3 : upd (upd H2 tp (.tup [.str a, .str q])) le (.lst []) = H3 at e3
          have htp3 : H3 tp = some (.tup [.str a, .str q]) := by rw [← hH3, upd_ne (ne_of_none upd_same hle)]; exact upd_same
          have hle3 : H3 le = some (.lst []) := by rw [← hH3]; exact upd_same
          obtain ⟨o, l, us, gd, gl, gh, gp⟩ := (D2.fr IdV_mono (FrS.of e3) (stups e3)).get IdV_mono htp3 hle3
          refine ⟨o, gd, ?_⟩
          rw [gl]
          refine ⟨_, rfl, _, rfl, (k' : Int), 1, by simp, rfl, s2, fun ti hti => ⟨s1, fun lv hlv => ?_⟩⟩
          have e4 : Same H3 (upd (upd H3 ti (.tup [.str a, .int ((k' : Int) + 1)])) lv (.lst [.ref ti])) := (same_new hti).trans (same_new hlv)
          generalize hH4 : upd (upd H3 ti (.tup [.str a, .int ((k' : Int) + 1)])) lv (.lst [.ref ti]) = H4 at e4
          have hti4 : H4 ti = some (.tup [.str a, .int ((k' : Int) + 1)]) := by rw [← hH4, upd_ne (ne_of_none upd_same hlv)]; exact upd_same
          have hlv4 : H4 lv = some (.lst [.ref ti]) := by rw [← hH4]; exact upd_same
          have hus : us.length ≤ 900 := by
            have h1 := plen gp
            have h2 := sendsTo_len (Tin ns R i a k' a) q
            rw [Tin_self] at h2
            have h3 := g.len a
            unfold sentF at h1
            rw [List.length_map, Tin_self] at h1
            rw [List.length_take] at h2
            omega
          refine ⟨l, lv, us, _, rfl, rfl, e4 _ _ gh, hlv4, sz (by simp; omega), fun nl hnl => ?_⟩
          refine ⟨_, rfl, _, rfl, _, rfl, _, rfl, z, _, k', .ref te, rfl, by simp, sqt (by exact (same_new hnl) _ _ (e4 _ _ (e3 _ _ hz2))), atI_nat hte, te, _, 1, .str q, rfl, rfl, sqt (by exact (same_new hnl) _ _ (e4 _ _ (e3 _ _ htv2))), atI_nat (j := 1) rfl, s2, fun tp2 htp2 => ?_⟩
          have e5 : Same H4 (upd (upd H4 nl (.lst (us ++ [.ref ti]))) tp2 (.tup [.str a, .str q])) := (same_new hnl).trans (same_new htp2)
          generalize hH5 : upd (upd H4 nl (.lst (us ++ [.ref ti]))) tp2 (.tup [.str a, .str q]) = H5 at e5
          have htp5 : H5 tp2 = some (.tup [.str a, .str q]) := by rw [← hH5]; exact upd_same
          have hnl5 : H5 nl = some (.lst (us ++ [.ref ti])) := by rw [← hH5, upd_ne (ne_of_none upd_same htp2)]; exact upd_same
          have e25 := e3.trans (e4.trans e5)
          have hnf : nl ≠ fn := (ne_of_none (e4 _ _ (e3 _ _ hf2)) hnl).symm
          have hp5 : Paired (IdV H5) (us ++ [.ref ti]) (sentF gId (Tin ns R i a k') a q ++ [gId a (k' + 1, v)]) := Paired.snoc (L2.Paired.mapP gp fun _ _ x => x.mono (stups (e4.trans e5))) ⟨ti, rfl, e5 _ _ hti4⟩
          obtain ⟨kvs, hk5, hput, D6⟩ := (D2.fr IdV_mono (FrS.of e25) (stups e25)).put IdV_mono (by have h1 := g.n4; have h2 := (List.getElem?_eq_some_iff.mp hna).1; have := g.len a; omega) htp5 hnl5 hp5 (by simp [hnf])
          rw [sent_snd gId hka] at D6
          refine ⟨d, _, rfl, hput, _, rfl, same_mut (e2.trans e25) hd, ?_, D6⟩
          rw [upd_ne ndf.symm]
          exact e25 _ _ hf2
        · have hne : ∀ q v, (R a)[k'] ≠ .snd q v := fun q v hq => hw (by rw [hq] <;> rfl)
          have : decide (V.str (R a)[k'].word = V.str "send") = false := decide_eq_false fun z => hw (V.str.inj z)
          rw [this]
          refine iteF ⟨_, rfl, e2, hf2, ?_⟩
          rw [← sent_other gId hka hne]
          exact ⟨by obtain ⟨kvs, h1, h2, h3⟩ := D2.ex; exact ⟨kvs, h1, by omega, h3⟩, D2.dS⟩
      · rintro σ' H2 ⟨v5, rfl, e2, hf2, D2⟩
        refine ⟨_, _, _, rfl, e2, hf2, ?_⟩
        have : ((es.length : Nat) : Int).toNat = (R a).length := by omega
        rw [this, Tin_full hna] at D2
        refine ⟨?_, D2.dS⟩
        obtain ⟨kvs, h1, h2, h3⟩ := D2.ex
        exact ⟨kvs, h1, by have := g.len a; rw [Nat.succ_mul]; omega, h3⟩
    · rintro σ' H1 ⟨v3, v4, v5, rfl, e1, hf1, D1⟩
      rw [nlen, Tof_full g.out] at D1
      -- the receives
      refine ⟨_, rfl, L, rfl, ⟨_, sq (e1 _ _ hL)⟩, for_it (walk_list (K := K) (a := L) (xs := xs)) (fun i σ' H1 => ∃ (v3 v4 v5 v6 v7 : Option V), σ' = [some (.ref L), some (.ref d), some (.ref fn), v3, v4, v5, v6, v7] ∧ Same H H1 ∧ LPairs H1 fn (msgsOf (ns.take i) R) ∧ DL IdV [fn] H1 d (ns.length * 900) (sentF gId R))
        ⟨v3, v4, v5, _, _, rfl, e1, ⟨[], hf1, .nil⟩, D1⟩ (fun i σ' H1 _ h => ?_) ?_ ?_⟩
      · obtain ⟨_, _, _, _, _, _, e, _⟩ := h
        exact sq (e _ _ hL)
      · clear e1 hf1 D1
        rintro i x σ' H1' H1 hi ⟨v3, v4, v5, v6, v7, rfl, e1, M1, D1⟩ ⟨rfl, hx⟩
        obtain ⟨a, t, y, z, es, hna, rfl, ht, rfl, hz, hes⟩ := row_at hxs hx
        have elen : es.length = (R a).length := plen hes
        refine ⟨t, _, rfl, sqt (e1 _ _ ht), rfl, _, _, rfl, _, _, rfl, rfl, ?_⟩
        refine fun tk htk => ?_
        have ntf : tk ≠ fn := by
          obtain ⟨us, hm, _⟩ := M1
          exact (ne_of_none hm htk).symm
        have htkH : H tk = none := by
          cases hh : H tk with
          | none => rfl
          | some o =>
            rw [e1 _ _ hh] at htk
            cases htk
        have e2 : Same H1 (upd H1 tk (.dK [])) := same_new htk
        refine ⟨_, rfl, _, _, rfl, .inr ⟨_, sqt (e2 _ _ (e1 _ _ hz)), rfl⟩, _, rfl, by omega, by have := g.len a; omega, ?_⟩
        refine for_range (lo := 0) (n := ((es.length : Nat) : Int).toNat) (fun k σ' H2 => ∃ (v5 v7 : Option V), σ' = [some (.ref L), some (.ref d), some (.ref fn), some (.str a), some (.ref z), v5, some (.ref tk), v7] ∧ Same H H2 ∧ LPairs H2 fn (msgsOf (ns.take i) R ++ msgsB R a k) ∧ DL IdV [fn] H2 d (ns.length * 900) (sentF gId R) ∧ CntAt H2 tk k (cntR ((R a).take k)))
          ⟨v5, v7, rfl, e1.trans e2, by obtain ⟨us, hm, hp⟩ := M1; rw [msgsB, List.append_nil]; exact ⟨us, e2 _ _ hm, L2.Paired.mapP hp fun _ _ q => q.mono (stups e2)⟩, D1.fr IdV_mono (FrS.of e2) (stups e2), CntAt.new⟩ ?_ ?_
        · clear e2 htk
          rintro k' σ' H2 hk ⟨v5, v7, rfl, e2, ⟨us, hfm, hpm⟩, D2, C2⟩
          have hk' : k' < (R a).length := by omega
          have hka : (R a)[k']? = some (R a)[k'] := List.getElem?_eq_getElem hk'
          obtain ⟨te, hte, htv⟩ := evs_at hes hk'
          have hz2 := e2 _ _ hz
          have htv2 := e2 _ _ htv
          refine ⟨_, rfl, _, rfl, z, _, k', .ref te, rfl, by simp, sqt hz2, atI_nat hte, te, _, 0, .str (R a)[k'].word, rfl, rfl, sqt htv2, atI_nat (j := 0) rfl, s2, fun tt htt => ⟨tt, _, rfl, .inr (sqt upd_same), rfl, rfl, _, rfl, ?_⟩⟩
          have e3 : Same H2 (upd H2 tt (.tup [.str "receive", .str "take"])) := same_new htt
          generalize upd H2 tt (.tup [.str "receive", .str "take"]) = H3 at e3
          have hz3 := e3 _ _ hz2
          have htv3 := e3 _ _ htv2
          have D3 := D2.fr IdV_mono (FrS.of e3) (stups e3)
          obtain ⟨kvs3, htk2, _⟩ := C2.ex
          have C3 := C2.fr ((e3 _ _ htk2).trans htk2.symm)
          have hf3 := e3 _ _ hfm
          have hp3 := L2.Paired.mapP hpm fun _ _ q => q.mono (stups e3)
          have e03 := e2.trans e3
          clear C2 htk2 hfm hpm D2 e2 htt e3 htv2 hz2
          by_cases hw : (R a)[k'].word = "receive" ∨ (R a)[k'].word = "take"
          · have hin : inV (.str (R a)[k'].word) [.str "receive", .str "take"] = true := by
              rcases hw with h | h <;> (rw [h]; decide)
            obtain ⟨t', q, x', v, hq⟩ := Ev.word_rcv.mp hw
            rw [hin]
            refine iteT ?_
            rw [hq] at htv3 hka
            obtain ⟨s', hm1, hm2⟩ := g.mate hka
            have htv3' : H3 te = some (.tup [.str (Ev.rcv t' q x' v).word, .str q, .str x', .int v]) := htv3
            refine ⟨_, rfl, _, rfl, z, _, k', .ref te, rfl, by simp, sqt hz3, atI_nat hte, te, _, 1, .str q, rfl, rfl, sqt htv3', atI_nat (j := 1) rfl, ?_⟩
            refine ⟨_, rfl, tyl hf3, _, rfl, _, rfl, _, rfl, s2, fun tp htp => ?_⟩
            have e4 : Same H3 (upd H3 tp (.tup [.str q, .str a])) := same_new htp
            have htp4 : (upd H3 tp (.tup [.str q, .str a])) tp = _ := upd_same
            generalize upd H3 tp (.tup [.str q, .str a]) = H4 at e4 htp4
            obtain ⟨l, us', gd, gh, gp⟩ := (D3.fr IdV_mono (FrS.of e4) (stups e4)).has IdV_mono htp4 (by
              intro hz
              unfold sentF at hz
              rw [List.map_eq_nil_iff] at hz
              rw [hz] at hm2
              cases hm2)
            obtain ⟨kvs3, htk2, _⟩ := C3.ex
            have C4 := C3.fr ((e4 _ _ htk2).trans htk2.symm)
            obtain ⟨u, gu, gu'⟩ := C4.get q
            refine ⟨d, _, rfl, gd, _, rfl, tk, rfl, C4.isD, _, rfl, u, gu, ?_⟩
            rw [gu']
            obtain ⟨vi, hvi, hidv⟩ := pget' gp (show (sentF gId R q a)[cntR ((R a).take k') q]? = some (q, s') by
              unfold sentF
              rw [List.getElem?_map, hm2]
              rfl)
            refine ⟨l, us', _, vi, rfl, rfl, sq gh, atI_nat hvi, ?_⟩
            refine ⟨_, rfl, _, rfl, (k' : Int), 1, by simp, rfl, s2, fun ti hti => ⟨s2, fun tq htq => ?_⟩⟩
            have e5 : Same H4 (upd (upd H4 ti (.tup [.str a, .int ((k' : Int) + 1)])) tq (.tup [vi, .ref ti])) := (same_new hti).trans (same_new htq)
            have hti5 : (upd (upd H4 ti (.tup [.str a, .int ((k' : Int) + 1)])) tq (.tup [vi, .ref ti])) ti = some (.tup [.str a, .int ((k' : Int) + 1)]) := by rw [upd_ne (ne_of_none upd_same htq)]; exact upd_same
            have htq5 : (upd (upd H4 ti (.tup [.str a, .int ((k' : Int) + 1)])) tq (.tup [vi, .ref ti])) tq = _ := upd_same
            generalize upd (upd H4 ti (.tup [.str a, .int ((k' : Int) + 1)])) tq (.tup [vi, .ref ti]) = H5 at e5 hti5 htq5
            have e35 := e4.trans e5
            have hf5 := e35 _ _ hf3
            have hlen : us.length ≤ 4000 := by
              have h1 := plen hp3
              rw [List.length_append] at h1
              have h2 := msgsOf_len g.len (ns.take i)
              rw [List.length_take] at h2
              have h3 := msgsB_len R a k'
              have h4 := g.n4
              have h5 := g.len a
              have h6 : min i ns.length * 900 ≤ 4 * 900 := Nat.mul_le_mul_right _ (by omega)
              omega
            refine ⟨fn, us, .ref tq, rfl, rfl, hf5, szl (by omega), ?_⟩
            have tsf : TupS H5 (upd H5 fn (.lst (us ++ [.ref tq]))) := tups_mut hf5 (fun zs z => nomatch z)
            have htk6 : (upd H5 fn (.lst (us ++ [.ref tq]))) tk = H3 tk := by
              rw [upd_ne ntf, htk2]
              exact e35 _ _ htk2
            have C6 := C3.fr htk6
            have hf6 : (upd H5 fn (.lst (us ++ [.ref tq]))) fn = _ := upd_same
            have D6 := D3.fr IdV_mono ((FrS.of e35).trans (FrS.upd (o := .lst (us ++ [.ref tq])) (List.mem_singleton_self fn))) (tut (stups e35) tsf)
            have hp6 : Paired (IdP (upd H5 fn (.lst (us ++ [.ref tq])))) (us ++ [.ref tq]) (msgsOf (ns.take i) R ++ msgsB R a (k' + 1)) := by
              rw [msgsB_rcv hm1, ← List.append_assoc]
              exact Paired.snoc (L2.Paired.mapP hp3 fun _ _ q => q.mono (tut (stups e35) tsf)) ⟨vi, .ref ti, ⟨tq, rfl, tsf _ _ htq5⟩, hidv.mono (tut (stups e5) tsf), ⟨ti, rfl, tsf _ _ hti5⟩⟩
            have e06 : Same H (upd H5 fn (.lst (us ++ [.ref tq]))) := same_mut (e03.trans e35) hfH
            generalize upd H5 fn (.lst (us ++ [.ref tq])) = H6 at hf6 D6 C6 hp6 e06
            obtain ⟨u6, gu6, gu6'⟩ := C6.get q
            refine ⟨_, rfl, tk, rfl, C6.isD, _, rfl, u6, gu6, ?_⟩
            rw [gu6']
            have hk9 : k' ≤ 50000 := by have := g.len a; omega
            obtain ⟨H7, hput, C7, o7, eH7, kvs7, hkv7⟩ := C6.put hk9 q (cntR ((R a).take k') q + 1)
            refine ⟨_, 1, rfl, rfl, _, rfl, _, rfl, tk, H7, rfl, hput, ?_⟩
            have ts7 : TupS H6 H7 := by rw [eH7]; exact tups_mut hkv7 (fun zs z => nomatch z)
            have hd7 : H7 d = H6 d := by
              obtain ⟨kd, g1, _⟩ := D6.ex
              rw [eH7, upd_ne (ne_of g1 hkv7 (fun z => nomatch z))]
            refine ⟨_, _, rfl, by rw [eH7]; exact same_mut e06 htkH, ⟨us ++ [.ref tq], by rw [eH7, upd_ne ntf.symm]; exact hf6, L2.Paired.mapP hp6 fun _ _ q => q.mono ts7⟩, ?_, ?_⟩
            · rw [eH7]
              obtain ⟨kd, g1, g2, g3⟩ := D6.ex
              refine ⟨⟨kd, by rw [upd_ne (ne_of g1 hkv7 (fun z => nomatch z))]; exact g1, g2, fun x y => ?_⟩, D6.dS⟩
              rcases g3 x y with h | ⟨l, zs, h1, h2, h3, h4⟩
              · exact .inl h
              · exact .inr ⟨l, zs, h1, by rw [upd_ne (ne_of h2 hkv7 (fun z => nomatch z))]; exact h2, L2.Paired.mapP h3 fun _ _ q => q.mono (by rw [← eH7]; exact ts7), h4⟩
            · rw [cnt_step hka] at C7
              exact C7
          · have hin : inV (.str (R a)[k'].word) [.str "receive", .str "take"] = false := by
              rw [show [V.str "receive", V.str "take"] = (["receive", "take"] : List Str).map V.str from rfl, inV_strs]
              refine decide_eq_false fun z => hw ?_
              simpa using z
            have hne : ∀ t q x v, (R a)[k'] ≠ .rcv t q x v := fun t q x v hq => hw (Ev.word_rcv.mpr ⟨t, q, x, v, hq⟩)
            rw [hin]
            refine iteF ⟨_, _, rfl, e03, ⟨us, hf3, by rw [msgsB_other (mate_none hka hne)]; exact hp3⟩, D3, ?_⟩
            rw [← cnt_other hka hne]
            obtain ⟨kv, h1, h2, h3⟩ := C3.ex
            exact ⟨kv, h1, by omega, h3⟩
        · rintro σ' H2 ⟨v5, v7, rfl, e2, ⟨us, hfm, hpm⟩, D2, C2⟩
          have : ((es.length : Nat) : Int).toNat = (R a).length := by omega
          rw [this, ← msgs_take hna] at hpm
          exact ⟨_, _, _, _, _, rfl, e2, ⟨us, hfm, hpm⟩, D2⟩
      · rintro σ' H2 ⟨v3, v4, v5, v6, v7, rfl, e2, ⟨us, hfm, hpm⟩, D2⟩
        rw [nlen, List.take_length] at hpm
        exact ⟨_, rfl, k fn H2 hfH ⟨us, hfm, hpm⟩ e2⟩
end
end Rr

set_option Elab.async false
set_option linter.all false
set_option maxRecDepth 100000
set_option maxHeartbeats 2000000
/-! what is ahead of what: plain facts -/
namespace Rr
open PySem PySem.Spec PyProof.Rows L2 Xr
inductive Rch (S : Id → Id → Prop) : Id → Id → Prop
  | refl (x : Id) : Rch S x x
  | step {x y z : Id} : Rch S x y → S y z → Rch S x z
theorem Rch.trans {S : Id → Id → Prop} {x y z : Id} (a : Rch S x y) (b : Rch S y z) : Rch S x z := by
  induction b with
  | refl => exact a
  | step _ s ih => exact .step ih s
theorem Rch.one {S : Id → Id → Prop} {x y : Id} (s : S x y) : Rch S x y := .step (.refl x) s
def IsEv (R : Rec) (e : Id) : Prop := 1 ≤ e.2 ∧ e.2 ≤ (R e.1).length
def Stp (R : Rec) (ar : List (Id × Id)) (x y : Id) : Prop := (x.1 = y.1 ∧ y.2 = x.2 + 1 ∧ 1 ≤ x.2 ∧ y.2 ≤ (R y.1).length) ∨ (x, y) ∈ ar
def Arr (R : Rec) (ar : List (Id × Id)) : Prop := ∀ p ∈ ar, IsEv R p.1 ∧ IsEv R p.2
theorem Stp.ev {R : Rec} {ar : List (Id × Id)} (h : Arr R ar) {x y : Id} (s : Stp R ar x y) : IsEv R x ∧ IsEv R y := by
  rcases s with ⟨h1, h2, h3, h4⟩ | s
  · refine ⟨⟨h3, ?_⟩, ⟨by omega, h4⟩⟩
    rw [h1]
    omega
  · exact h _ s
theorem Rch.ev {R : Rec} {ar : List (Id × Id)} (h : Arr R ar) {x y : Id} (r : Rch (Stp R ar) x y) (hy : IsEv R y) : IsEv R x := by
  induction r with
  | refl => exact hy
  | step _ s ih => exact ih (s.ev h).1
abbrev Sol := Id → Str → Nat
def Snd (R : Rec) (ar : List (Id × Id)) (M : Sol) : Prop := ∀ e a, IsEv R e → M e a = 0 ∨ (IsEv R (a, M e a) ∧ Rch (Stp R ar) (a, M e a) e)
structure IsN (R : Rec) (ar : List (Id × Id)) (M : Sol) : Prop where
  snd : Snd R ar M
  top : ∀ e a k, IsEv R e → IsEv R (a, k) → Rch (Stp R ar) (a, k) e → k ≤ M e a
theorem IsN.uniq {R : Rec} {ar br : List (Id × Id)} (hs : ∀ p, p ∈ ar ↔ p ∈ br) {M N : Sol} (m : IsN R ar M) (n : IsN R br N) {e : Id} (he : IsEv R e) (a : Str) : M e a = N e a := by
  have hS : Stp R ar = Stp R br := by
    funext x y
    unfold Stp
    rw [hs]
  have h1 : M e a ≤ N e a := by
    rcases m.snd e a he with h | ⟨h1, h2⟩
    · omega
    · exact n.top e a _ he h1 (hS ▸ h2)
  have h2 : N e a ≤ M e a := by
    rcases n.snd e a he with h | ⟨h1, h2⟩
    · omega
    · exact m.top e a _ he h1 (hS ▸ h2)
  omega
theorem isN_of {R : Rec} {ar : List (Id × Id)} (ha : Arr R ar) {M : Sol} (s : Snd R ar M) (c1 : ∀ e, IsEv R e → e.2 ≤ M e e.1) (c2 : ∀ x y, Stp R ar x y → ∀ a, M x a ≤ M y a) : IsN R ar M := by
  refine ⟨s, fun e a k he hk r => ?_⟩
  generalize hx : (a, k) = x at r hk
  have : ∀ {x y : Id}, Rch (Stp R ar) x y → IsEv R x → x.2 ≤ M y x.1 := by
    intro x y r hx
    induction r with
    | refl => exact c1 _ hx
    | step _ s ih => exact Nat.le_trans ih (c2 _ _ s _)
  have h := this r hk
  rw [← hx] at h
  exact h
/-! ### all events -/
def allIds (ns : List Str) (R : Rec) : List Id := ns.flatMap fun a => (List.range (R a).length).map fun k => (a, k + 1)
theorem mem_allIds {ns : List Str} {R : Rec} {e : Id} : e ∈ allIds ns R ↔ e.1 ∈ ns ∧ IsEv R e := by
  unfold allIds IsEv
  simp only [List.mem_flatMap, List.mem_map, List.mem_range]
  constructor
  · rintro ⟨a, h1, k, h2, rfl⟩
    exact ⟨h1, by simp; omega⟩
  · rintro ⟨h1, h2, h3⟩
    exact ⟨e.1, h1, e.2 - 1, by omega, by rw [Nat.sub_add_cancel h2]⟩
theorem Good.mem {ns : List Str} {R : Rec} (g : Good ns R) {e : Id} (h : IsEv R e) : e.1 ∈ ns := by
  apply Classical.byContradiction
  intro hn
  have := g.out _ hn
  unfold IsEv at h
  rw [this] at h
  simp at h
  omega
theorem Good.allIds {ns : List Str} {R : Rec} (g : Good ns R) {e : Id} : e ∈ allIds ns R ↔ IsEv R e := by
  rw [mem_allIds]
  exact ⟨fun h => h.2, fun h => ⟨g.mem h, h⟩⟩
theorem nd_allIds {R : Rec} : ∀ {ns : List Str}, ns.Nodup → (allIds ns R).Nodup
  | [], _ => by simp [allIds]
  | a :: r, h => by
    obtain ⟨h1, h2⟩ := List.nodup_cons.mp h
    unfold allIds
    rw [List.flatMap_cons]
    refine List.nodup_append.mpr ⟨?_, nd_allIds h2, ?_⟩
    · refine List.Pairwise.map _ ?_ List.nodup_range
      intro x y hxy q
      have := congrArg Prod.snd q
      simp at this
      exact hxy this
    · rintro x hx y hy rfl
      simp only [List.mem_map, List.mem_range] at hx
      obtain ⟨k, _, rfl⟩ := hx
      have := (mem_allIds (ns := r) (R := R)).mp hy
      exact h1 this.1
/-! ### sums that get smaller -/
theorem sum_le {α : Type} {f g : α → Nat} : ∀ {l : List α}, (∀ x ∈ l, f x ≤ g x) → (l.map f).sum ≤ (l.map g).sum
  | [], _ => Nat.le_refl _
  | x :: r, h => by
    have h1 := h x (List.mem_cons_self ..)
    have h2 := sum_le (l := r) (f := f) (g := g) fun y hy => h y (List.mem_cons_of_mem _ hy)
    simp only [List.map_cons, List.sum_cons]
    omega
theorem sum_lt {α : Type} {f g : α → Nat} : ∀ {l : List α}, (∀ x ∈ l, f x ≤ g x) → (∃ x ∈ l, f x < g x) → (l.map f).sum < (l.map g).sum
  | [], _, ⟨x, h, _⟩ => by cases h
  | x :: r, h, ⟨y, hy, hl⟩ => by
    have h1 := h x (List.mem_cons_self ..)
    have h2 := sum_le (l := r) (f := f) (g := g) fun y hy => h y (List.mem_cons_of_mem _ hy)
    simp only [List.map_cons, List.sum_cons]
    rcases List.mem_cons.mp hy with q | q
    · subst q
      omega
    · have := sum_lt (l := r) (f := f) (g := g) (fun y hy => h y (List.mem_cons_of_mem _ hy)) ⟨y, q, hl⟩
      omega
/-- what is left to grow -/
def room (ns : List Str) (ids : List Id) (M : Sol) : Nat := (ids.map fun e => (ns.map fun a => 1000 - M e a).sum).sum
theorem room_lt {ns : List Str} {ids : List Id} {M N : Sol} (h : ∀ e ∈ ids, ∀ a ∈ ns, M e a ≤ N e a) {e : Id} {a : Str} (he : e ∈ ids) (ha : a ∈ ns) (hl : M e a < N e a) (hb : N e a ≤ 1000) : room ns ids N < room ns ids M := by
  unfold room
  refine sum_lt (fun x hx => sum_le fun b hb => ?_) ⟨e, he, sum_lt (fun b hb => ?_) ⟨a, ha, ?_⟩⟩
  · have := h x hx b hb
    omega
  · have := h e he b hb
    omega
  · omega
theorem Snd.le {R : Rec} {ar : List (Id × Id)} {M : Sol} (s : Snd R ar M) (h : ∀ a, (R a).length ≤ 900) {e : Id} (he : IsEv R e) (a : Str) : M e a ≤ 900 := by
  rcases s e a he with q | ⟨q, _⟩
  · omega
  · have := h a
    have := q.2
    simp at this
    omega
/-- one join -/
def joinM (M : Sol) (x y : Id) : Sol := fun e a => if e = y then max (M x a) (M y a) else M e a
theorem joinM_snd {R : Rec} {ar : List (Id × Id)} {M : Sol} (hA : Arr R ar) (s : Snd R ar M) {x y : Id} (st : Stp R ar x y) : Snd R ar (joinM M x y) := by
  intro e a he
  unfold joinM
  by_cases h : e = y
  · subst h
    simp only [if_pos rfl]
    rcases Nat.le_total (M x a) (M e a) with q | q
    · rw [Nat.max_eq_right q]
      exact s e a he
    · rw [Nat.max_eq_left q]
      rcases s x a (st.ev hA).1 with z | ⟨z1, z2⟩
      · exact .inl z
      · exact .inr ⟨z1, .step z2 st⟩
  · simp only [if_neg h]
    exact s e a he
theorem joinM_le (M : Sol) (x y e : Id) (a : Str) : M e a ≤ joinM M x y e a := by
  unfold joinM
  by_cases h : e = y
  · subst h
    rw [if_pos rfl]
    omega
  · rw [if_neg h]
    exact Nat.le_refl _
def selfM : Sol := fun e a => if a = e.1 then e.2 else 0
theorem selfM_snd (R : Rec) (ar : List (Id × Id)) : Snd R ar selfM := by
  intro e a he
  unfold selfM
  by_cases h : a = e.1
  · subst h
    rw [if_pos rfl]
    exact .inr ⟨he, .refl _⟩
  · rw [if_neg h]
    exact .inl rfl
theorem Snd.zero {ns : List Str} {R : Rec} {ar : List (Id × Id)} {M : Sol} (g : Good ns R) (s : Snd R ar M) {e : Id} (he : IsEv R e) {a : Str} (ha : a ∉ ns) : M e a = 0 := by
  rcases s e a he with h | ⟨h, _⟩
  · exact h
  · exact (ha (g.mem h)).elim
end Rr

set_option Elab.async false
set_option linter.all false
set_option maxRecDepth 100000
set_option maxHeartbeats 2000000
/-! dicts under events -/
namespace Rr
open PySem PySem.Spec PyProof.Rows L2 Xr
theorem valV_none {κ : Type} [DecidableEq κ] (k : κ) : ∀ kvs : List (κ × V), valV kvs k = none ↔ k ∉ kvs.map Prod.fst
  | [] => by simp [valV]
  | p :: r => by
    by_cases h : p.1 = k
    · rw [valV_pos h]
      simp [h]
    · rw [valV_neg h, valV_none k r, List.map_cons, List.mem_cons]
      constructor
      · intro q z
        rcases z with z | z
        · exact h z.symm
        · exact q z
      · exact fun q z => q (.inr z)
theorem keys_put {κ : Type} [DecidableEq κ] (kvs : List (κ × V)) (k : κ) (v : V) (h : k ∈ kvs.map Prod.fst) : (putK kvs k v).map Prod.fst = kvs.map Prod.fst := by
  unfold putK
  rw [if_pos (by
    obtain ⟨p, h1, h2⟩ := List.mem_map.mp h
    exact List.any_eq_true.mpr ⟨p, h1, decide_eq_true h2⟩), List.map_map]
  refine List.map_congr_left fun p _ => ?_
  show (if p.1 = k then (p.1, v) else p).1 = p.1
  split <;> rfl
theorem kE_mem {e : Id} {ids : List Id} : kE e ∈ ids.map kE ↔ e ∈ ids := by
  constructor
  · intro h
    obtain ⟨f, h1, h2⟩ := List.mem_map.mp h
    rw [← kE_inj h2]
    exact h1
  · exact fun h => List.mem_map.mpr ⟨e, h, rfl⟩
/-- lists and tuples stay -/
structure Ls (H H' : Hp) : Prop where
  l : ∀ b xs, H b = some (.lst xs) → H' b = some (.lst xs)
  t : TupS H H'
theorem Ls.of {H H' : Hp} (e : Same H H') : Ls H H' := ⟨fun b xs h => e b _ h, stups e⟩
theorem Ls.trans {H H1 H2 : Hp} (a : Ls H H1) (b : Ls H1 H2) : Ls H H2 := ⟨fun c xs h => b.l c xs (a.l c xs h), tut a.t b.t⟩
theorem Ls.dT {H : Hp} {d : Addr} {kvs kvs' : List (List Key × V)} (h : H d = some (.dT kvs)) : Ls H (upd H d (.dT kvs')) :=
  ⟨fun b xs q => by rw [upd_ne (ne_of q h (fun z => nomatch z))]; exact q, tups_mut h (fun zs z => nomatch z)⟩
theorem Ls.dK {H : Hp} {d : Addr} {kvs kvs' : List (Key × V)} (h : H d = some (.dK kvs)) : Ls H (upd H d (.dK kvs')) :=
  ⟨fun b xs q => by rw [upd_ne (ne_of q h (fun z => nomatch z))]; exact q, tups_mut h (fun zs z => nomatch z)⟩
theorem Rd_same {H H' : Hp} (e : Same H H') {a : Addr} {u : HO} (h : Rd H a u) : Rd H' a u := by
  rcases h with h | ⟨o, h⟩
  · exact .inl (e _ _ h)
  · exact .inr ⟨o, e _ _ h⟩
theorem dget_same {H H' : Hp} (e : Same H H') {a : Addr} {y : V} {o : Option V} (h : DGet H a y o) : DGet H' a y o := by
  rcases h with ⟨kvs, k, h1, h2, h3⟩ | ⟨kvs, k, b, h1, h2, h3, h4⟩
  · exact .inl ⟨kvs, k, Rd_same e h1, h2, h3⟩
  · exact .inr ⟨kvs, k, b, Rd_same e h1, h2, e _ _ h3, h4⟩
/-- a dict under the events ids -/
structure TB (F : Hp → V → Id → Prop) (H : Hp) (d : Addr) (ids : List Id) : Prop where
  ex : ∃ kvs : List (List Key × V), H d = some (.dT kvs) ∧ kvs.map Prod.fst = ids.map kE ∧ ∀ e ∈ ids, ∃ v, valV kvs (kE e) = some v ∧ F H v e
section
variable {F G : Hp → V → Id → Prop} {H H' : Hp} {d : Addr} {ids : List Id}
theorem TB.new {H : Hp} {d : Addr} : TB F (upd H d (.dT [])) d [] := ⟨[], upd_same, rfl, fun _ h => by cases h⟩
theorem TB.imp (z : TB F H d ids) (hd : ∀ kvs, H d = some (.dT kvs) → H' d = some (.dT kvs)) (hF : ∀ v e, e ∈ ids → F H v e → G H' v e) : TB G H' d ids := by
  obtain ⟨kvs, h1, h2, h3⟩ := z.ex
  refine ⟨kvs, hd _ h1, h2, fun e he => ?_⟩
  obtain ⟨v, g1, g2⟩ := h3 e he
  exact ⟨v, g1, hF v e he g2⟩
theorem TB.isD (z : TB F H d ids) : IsD H d := by
  obtain ⟨kvs, h1, _⟩ := z.ex
  exact .inr ⟨kvs, .inl h1⟩
theorem TB.get (z : TB F H d ids) {e : Id} (he : e ∈ ids) : ∃ v, F H v e ∧ ∀ tp, H tp = some (.tup (idVs e)) → DGet H d (.ref tp) (some v) := by
  obtain ⟨kvs, h1, h2, h3⟩ := z.ex
  obtain ⟨v, g1, g2⟩ := h3 e he
  refine ⟨v, g2, fun tp ht => ?_⟩
  rw [← g1]
  exact DGet.t (k := kE e) h1 ht
theorem TB.miss (z : TB F H d ids) {e : Id} (he : e ∉ ids) : ∀ tp, H tp = some (.tup (idVs e)) → DGet H d (.ref tp) none := by
  obtain ⟨kvs, h1, h2, h3⟩ := z.ex
  intro tp ht
  rw [← (valV_none (kE e) kvs).mpr (by rw [h2, kE_mem]; exact he)]
  exact DGet.t (k := kE e) h1 ht
theorem TB.put (z : TB F H d ids) {e : Id} (he : e ∈ ids) {tp : Addr} (ht : H tp = some (.tup (idVs e))) {v : V} (hs : ids.length < sizeLine) (hv : ∀ o, G (upd H d (.dT o)) v e) (hG : ∀ v' f o, f ∈ ids → f ≠ e → F H v' f → G (upd H d (.dT o)) v' f) :
    ∃ kvs o, H d = some (.dT kvs) ∧ DPut H d (.ref tp) v (upd H d (.dT o)) ∧ TB G (upd H d (.dT o)) d ids := by
  obtain ⟨kvs, h1, h2, h3⟩ := z.ex
  have hl : kvs.length = ids.length := by
    have := congrArg List.length h2
    simpa using this
  refine ⟨kvs, _, h1, DPut.t (k := kE e) h1 ht (by rw [hl]; exact hs), ⟨_, upd_same, ?_, fun f hf => ?_⟩⟩
  · rw [keys_put _ _ _ (by rw [h2, kE_mem]; exact he), h2]
  · rw [valV_put]
    by_cases hfe : f = e
    · subst hfe
      rw [if_pos rfl]
      exact ⟨v, rfl, hv _⟩
    · rw [if_neg (fun q => hfe (kE_inj q))]
      obtain ⟨v', g1, g2⟩ := h3 f hf
      exact ⟨v', g1, hG v' f _ hf hfe g2⟩
theorem TB.add (z : TB F H d ids) {e : Id} (he : e ∉ ids) {tp : Addr} (ht : H tp = some (.tup (idVs e))) {v : V} (hs : ids.length < sizeLine) (hv : ∀ o, G (upd H d (.dT o)) v e) (hG : ∀ v' f o, f ∈ ids → F H v' f → G (upd H d (.dT o)) v' f) :
    ∃ kvs o, H d = some (.dT kvs) ∧ DPut H d (.ref tp) v (upd H d (.dT o)) ∧ TB G (upd H d (.dT o)) d (ids ++ [e]) := by
  obtain ⟨kvs, h1, h2, h3⟩ := z.ex
  have hl : kvs.length = ids.length := by
    have := congrArg List.length h2
    simpa using this
  have hn : valV kvs (kE e) = none := (valV_none (kE e) kvs).mpr (by rw [h2, kE_mem]; exact he)
  refine ⟨kvs, _, h1, DPut.t (k := kE e) h1 ht (by rw [hl]; exact hs), ⟨_, upd_same, ?_, fun f hf => ?_⟩⟩
  · rw [putK_new _ hn, List.map_append, List.map_append, h2]
    rfl
  · rw [valV_put]
    by_cases hfe : f = e
    · subst hfe
      rw [if_pos rfl]
      exact ⟨v, rfl, hv _⟩
    · rw [if_neg (fun q => hfe (kE_inj q))]
      have hf' : f ∈ ids := by
        rcases List.mem_append.mp hf with q | q
        · exact q
        · exact (hfe (List.mem_singleton.mp q)).elim
      obtain ⟨v', g1, g2⟩ := h3 f hf'
      exact ⟨v', g1, hG v' f _ hf' g2⟩
end
/-- a list of numbers, one of each name -/
def NumL (ns : List Str) (M : Sol) (H : Hp) (v : V) (e : Id) : Prop := ∃ l, v = .ref l ∧ H l = some (.lst (ns.map fun a => .int (M e a : Nat)))
def NumT (ns : List Str) (M : Sol) (H : Hp) (v : V) (e : Id) : Prop := TupV H v (ns.map fun a => .int (M e a : Nat))
theorem NumL.ls {ns : List Str} {M : Sol} {H H' : Hp} {v : V} {e : Id} (k : Ls H H') (h : NumL ns M H v e) : NumL ns M H' v e := let ⟨l, a, b⟩ := h; ⟨l, a, k.l _ _ b⟩
theorem eqv_ints : ∀ (xs ys : List Int), PyData.eqvAll (xs.map .int) (ys.map .int) = decide (xs = ys)
  | [], [] => by simp [PyData.eqvAll]
  | [], y :: ys => by simp [PyData.eqvAll]
  | x :: xs, [] => by simp [PyData.eqvAll]
  | x :: xs, y :: ys => by
    simp only [List.map_cons, PyData.eqvAll, eqv_ints xs ys, PyData.eqv]
    by_cases h : x = y <;> by_cases h2 : xs = ys <;> simp [h, h2]
theorem eqvl_ints (xs ys : List Int) : PyData.eqv (.list (xs.map .int)) (.list (ys.map .int)) = decide (xs = ys) := by
  rw [← eqv_ints]
  simp [PyData.eqv]
theorem eqvt_ints (xs ys : List Int) : PyData.eqv (.tuple (xs.map .int)) (.tuple (ys.map .int)) = decide (xs = ys) := by
  rw [← eqv_ints]
  simp [PyData.eqv]
end Rr

set_option Elab.async false
set_option linter.all false
set_option maxRecDepth 100000
set_option maxHeartbeats 2000000
/-! .. in x, x a list or a tuple; a dict of the module; tuple.index -/
namespace Rr
open PySem PySem.Spec PyProof.Rows L2 Xr
/-- list or tuple -/
def iSeq (K : PySem.W.Frag) (tl : TE) : TI := fun σ H R => tl σ H fun x H1 => ∃ a, x = .ref a ∧ (((∃ xs, SqL K H1 a xs) ∧ R (Itl K a) H1) ∨ ((∃ xs, SqT K H1 a xs) ∧ R (Itt K a) H1))
theorem pi_seq {X : Cx} {tg l : Expr} {tl : TE} (hl : PE X l tl) : PI X tg l (iSeq X.K tl) := by
  refine ⟨fun pins s σ H R I h => ?_⟩
  refine thn (hl.run pins s σ H _ I h) fun v s1 ⟨x, H1, I1, r1, q1⟩ => ?_
  obtain ⟨a, e, q1⟩ := q1
  subst e
  cases r1
  rcases q1 with ⟨⟨xs, hq⟩, q⟩ | ⟨⟨xs, hq⟩, q⟩
  · obtain ⟨its, rv, p, hz⟩ := I1.list hq
    refine wpAny_pyIter_list p.isList ?_
    refine ⟨s1.heap.objs.size, [s1.heap.objs.size], _, _, H1, rfl, I1.kept (t' := s1.toks) fun b o e => Heap.get?_push_of_some _ e, turn_list a _, ⟨_, Heap.get?_push_size _ rfl, rfl, rfl⟩, fun b hb => ?_, q⟩
    have e : b = s1.heap.objs.size := by simpa using hb
    subst e
    exact I1.fpOk (Nat.le_refl _) (I1.hok.fresh (Nat.le_refl _))
  · obtain ⟨its, rv, p, hz⟩ := I1.tuple hq
    refine wpAny_pyIter_tuple (show s1.heap.IsTuple a its.toArray from p) ?_
    refine ⟨s1.heap.objs.size, [s1.heap.objs.size], _, _, H1, rfl, I1.kept (t' := s1.toks) fun b o e => Heap.get?_push_of_some _ e, turn_tuple a _, ⟨_, Heap.get?_push_size _ rfl, rfl, rfl⟩, fun b hb => ?_, q⟩
    have e : b = s1.heap.objs.size := by simpa using hb
    subst e
    exact I1.fpOk (Nat.le_refl _) (I1.hok.fresh (Nat.le_refl _))
/-- the walk through a list or a tuple -/
theorem seq_walk {K : PySem.W.Frag} {H : Hp} {a : Addr} {xs : List V} {b : Bool} (h : H a = some (.tup xs) ∨ (b = true ∧ H a = some (.lst xs))) : ∃ (J : It) (G : Hp → Prop), Walk J xs.length G (YAt xs) ∧ (∀ H', Same H H' → G H') ∧
    ∀ (tl : TE) (σ : L2.St) (H0 : Hp) (R : It → Hp → Prop), (∀ Q : VK, Q (.ref a) H → tl σ H0 Q) → R J H → iSeq K tl σ H0 R := by
  rcases h with h | ⟨_, h⟩
  · exact ⟨Itt K a, _, walk_tup, fun H' e => sqt (e _ _ h), fun tl σ H0 R ht r => ht _ ⟨a, rfl, .inr ⟨⟨_, sqt h⟩, r⟩⟩⟩
  · exact ⟨Itl K a, _, walk_list, fun H' e => sq (e _ _ h), fun tl σ H0 R ht r => ht _ ⟨a, rfl, .inl ⟨⟨_, sq h⟩, r⟩⟩⟩
/-- a written dict -/
def rNotK (K : PySem.W.Frag) (w : World) : R2 := fun x y H Q => ∃ (p : Addr) (z : Str) (es : Array DictEntry) (n : Nat) (r : Option Value), x = .str z ∧ y = .ref p ∧ KDict K w p es n ∧ PySem.W.nsIn K p z = some r ∧ Q (.bl (!r.isSome)) H
def rInK (K : PySem.W.Frag) (w : World) : R2 := fun x y H Q => ∃ (p : Addr) (z : Str) (es : Array DictEntry) (n : Nat) (r : Option Value), x = .str z ∧ y = .ref p ∧ KDict K w p es n ∧ PySem.W.nsIn K p z = some r ∧ Q (.bl r.isSome) H
theorem op_notInK {X : Cx} : OpR X (compareOp .NotIn) (rNotK X.K X.w) := by
  intro pins s σ H x y v u Q I rx ry h
  obtain ⟨p, z, es, n, r, e1, e2, D, e3, q⟩ := h
  exact op_notIn_kd D pins s σ H x y v u Q I rx ry ⟨z, r, e1, e2, e3, q⟩
theorem op_inK {X : Cx} : OpR X (compareOp .In) (rInK X.K X.w) := by
  intro pins s σ H x y v u Q I rx ry h
  obtain ⟨p, z, es, n, r, e1, e2, D, e3, q⟩ := h
  exact op_in_kd D pins s σ H x y v u Q I rx ry ⟨z, r, e1, e2, e3, q⟩
def rTupIx (K : PySem.W.Frag) : V → List V → Hp → VK → Prop := fun x xs H Q => ∃ p, ∃ ys : List Str, ∃ z j, x = .ref p ∧ xs = [.str z] ∧ SqT K H p (ys.map V.str) ∧ ys[j]? = some z ∧ (∀ m, m < j → ys[m]? ≠ some z) ∧ Q (.int (j : Nat)) H
section
variable {X : Cx} (K : PySem.W.Frag) (w : World) (hK : X.K = K)
include hK
theorem q_seq {tg l : Expr} {tl : TE} (hl : PE X l tl) : PI X tg l (iSeq K tl) := hK ▸ pi_seq hl
theorem q_tupIx : MtR X "tuple.index" (rTupIx K) := hK ▸ mt_tup_index
theorem q_notInK (hw : X.w = w) : OpR X (compareOp .NotIn) (rNotK K w) := hw ▸ hK ▸ op_notInK
theorem q_inK (hw : X.w = w) : OpR X (compareOp .In) (rInK K w) := hw ▸ hK ▸ op_inK
theorem q_ixK (hw : X.w = w) : IxR X (rIxD K w) := hw ▸ hK ▸ ix_kdict
end
/-- the written tables of the module -/
structure Txt2 (w : World) (K : PySem.W.Frag) (mg : Str → Option Value) : Prop where
  RESERVED : ∃ a, mg "RESERVED" = some (.ref a) ∧ ∀ H, SqT K H a ((resA ++ resB).map V.str)
  RECEIVING : ∃ a, mg "RECEIVING" = some (.ref a) ∧ ∀ H, SqT K H a (recS.map V.str)
  FORMS : ∃ a es n, mg "FORMS" = some (.ref a) ∧ KDict K w a es n ∧ ∀ (x : Str) (ks : List Str), (x, ks) ∈ ([("set", ["variable", "value"]), ("send", ["process", "value"]), ("receive", ["process", "variable", "value"]), ("take", ["process", "variable", "value"]), ("input", ["variable", "value"]), ("checkpoint", [])] : List (Str × List Str)) →
    ∃ t, PySem.W.nsIn K a x = some (some (.ref t)) ∧ ∀ H, SqT K H t (ks.map V.str)
end Rr

set_option Elab.async false
set_option linter.all false
set_option maxRecDepth 100000
set_option maxHeartbeats 2000000
/-! a, b = x, x a list or a tuple -/
namespace Rr
open PySem PySem.Spec PyProof.Rows L2 Xr
def gSeq (K : PySem.W.Frag) (n : Nat) (t : TGs) : TG := fun v σ H Q => ∃ a xs, v = .ref a ∧ (SqL K H a xs ∨ SqT K H a xs) ∧ xs.length = n ∧ t xs σ H Q
theorem pg_sq {X : Cx} {es : List Expr} {k : Nat} {t : TGs} {n : Nat} {pos : Pos} (hc : X.calm = true) (h : PGs X es t)
    (hn : (assignEach es X.env).length = n := by rfl) (hst : (assignEach es X.env).findIdx? (·.1) = none := by rfl) : PG X (.Tuple es k pos) (gSeq X.K n t) := by
  refine ⟨fun pins s σ H v u Q I r hw => ?_⟩
  obtain ⟨a, xs, e1, hq, hl, hw⟩ := hw
  rcases hq with hq | hq
  · exact (pg_lst hc h hn hst).run pins s σ H v u Q I r ⟨a, xs, e1, hq, hl, hw⟩
  · exact (pg_tup hc h hn hst).run pins s σ H v u Q I r ⟨a, xs, e1, hq, hl, hw⟩
theorem q_sq {X : Cx} (K : PySem.W.Frag) (hK : X.K = K) {es : List Expr} {k : Nat} {t : TGs} {n : Nat} {pos : Pos} (hc : X.calm = true) (h : PGs X es t)
    (hn : (assignEach es X.env).length = n := by rfl) (hst : (assignEach es X.env).findIdx? (·.1) = none := by rfl) : PG X (.Tuple es k pos) (gSeq K n t) := hK ▸ pg_sq hc h hn hst
end Rr

set_option Elab.async false
set_option linter.all false
set_option maxRecDepth 100000
set_option maxHeartbeats 2000000
/-! x[i], enumerate(x): x a list or a tuple -/
namespace Rr
open PySem PySem.Spec PyProof.Rows L2 Xr
def rIxQ (K : PySem.W.Frag) : R2 := fun x y H Q => ∃ a xs i v, x = .ref a ∧ y = .int i ∧ (SqL K H a xs ∨ SqT K H a xs) ∧ atI xs i = some v ∧ Q v H
theorem ix_q {X : Cx} : IxR X (rIxQ X.K) := by
  intro value slice pins s σ H x y v u Q I rx ry h hs
  obtain ⟨a, xs, i, r, e1, e2, hq, e3, q⟩ := h
  rcases hq with hq | hq
  · exact ix_list value slice pins s σ H x y v u Q I rx ry ⟨a, xs, i, r, e1, e2, hq, e3, q⟩ hs
  · exact ix_tup value slice pins s σ H x y v u Q I rx ry ⟨a, xs, i, r, e1, e2, hq, e3, q⟩ hs
theorem q_ixQ {X : Cx} (K : PySem.W.Frag) (hK : X.K = K) : IxR X (rIxQ K) := hK ▸ ix_q
def iEnumQ (K : PySem.W.Frag) (ta : TA) : TI := fun σ H R => ta σ H fun vs H1 => ∃ (k : SK) (a : Addr) (xs : List V), vs = [.ref a] ∧ SqA K H1 k a xs ∧ R (IteA K k a 0) H1
theorem pi_enumQ {X : Cx} {e : Expr} {ta : TA} {p pos tpos : Pos} {elts : List Expr} {kk : Nat} (hg : Gl X "enumerate") (hm : X.mg "enumerate" = none) (ha : PA X [e] ta) (hs : starEach [e] X.env = [(false, eval e X.env)] := by rfl) :
    PI X (.Tuple elts kk tpos) (.Call (.Name "enumerate" p) [e] [] pos) (iEnumQ X.K ta) := by
  refine ⟨fun pins s σ H R I h => ?_⟩
  refine Call_ (ld_blt I hg hm boot_enumerate (PyProof.Rows.callWith_type1 (thn (ha.run pos pins s σ H _ I h) fun us s1 ⟨vs, H1, I1, r1, q1⟩ => ?_) hs rfl))
  obtain ⟨k, a, xs, ex, hq, q⟩ := q1
  subst ex
  cases r1 with
  | cons r rr =>
    cases rr
    cases r
    obtain ⟨its, rv, p'⟩ := sq_its I1 hq
    refine enum_begins1 (begins_s k a its.toArray) p' fun h' he hit hsz hk => wpAny_pyIter_enum he ?_
    exact enum_it (tk := s1.toks) I1 he hit hk q
theorem q_enumQ {X : Cx} (K : PySem.W.Frag) (hK : X.K = K) {e : Expr} {ta : TA} {p pos tpos : Pos} {elts : List Expr} {kk : Nat} (hg : Gl X "enumerate") (hm : X.mg "enumerate" = none) (ha : PA X [e] ta) (hs : starEach [e] X.env = [(false, eval e X.env)] := by rfl) :
    PI X (.Tuple elts kk tpos) (.Call (.Name "enumerate" p) [e] [] pos) (iEnumQ K ta) := hK ▸ pi_enumQ hg hm ha hs
end Rr

set_option Elab.async false
set_option linter.all false
set_option maxRecDepth 100000
set_option maxHeartbeats 2000000
/-! dicts whose lists are appended to -/
namespace Rr
open PySem PySem.Spec PyProof.Rows L2 Xr
structure DI {κ β : Type} [DecidableEq κ] (hd : List (κ × V) → HO) (F : Hp → V → β → Prop) (H : Hp) (d : Addr) (kvs : List (κ × V)) (f : κ → List β) : Prop where
  at_ : H d = some (hd kvs)
  val : ∀ k, (valV kvs k = none ∧ f k = []) ∨ ∃ l xs, valV kvs k = some (.ref l) ∧ H l = some (.lst xs) ∧ Paired (F H) xs (f k)
  inj : ∀ k j l, valV kvs k = some (.ref l) → valV kvs j = some (.ref l) → k = j
section
variable {κ β : Type} [DecidableEq κ] {hd : List (κ × V) → HO} {F : Hp → V → β → Prop} (hF : ∀ H H' v x, TupS H H' → F H v x → F H' v x) {H H' : Hp} {d : Addr} {kvs : List (κ × V)} {f : κ → List β}
include hF
theorem DI.same (z : DI hd F H d kvs f) (e : Same H H') : DI hd F H' d kvs f := by
  refine ⟨e _ _ z.at_, fun k => ?_, z.inj⟩
  rcases z.val k with h | ⟨l, xs, h1, h2, h3⟩
  · exact .inl h
  · exact .inr ⟨l, xs, h1, e _ _ h2, L2.Paired.mapP h3 fun _ _ q => hF _ _ _ _ (stups e) q⟩
/-- a new key with an empty list -/
theorem DI.add (z : DI hd F H d kvs f) (hh : ∀ a b xs, hd a = b → b ≠ .lst xs) (ht : ∀ a b xs, hd a = b → b ≠ .tup xs) {k : κ} {l : Addr} (hl : H l = some (.lst [])) (hn : ∀ j, valV kvs j ≠ some (.ref l)) (hk : valV kvs k = none) : DI hd F (upd H d (hd (putK kvs k (.ref l)))) d (putK kvs k (.ref l)) f := by
  have hts : TupS H (upd H d (hd (putK kvs k (.ref l)))) := tups_mut z.at_ (fun zs => ht _ _ zs rfl)
  have hne : ∀ {m xs}, H m = some (.lst xs) → m ≠ d := fun h q => by
    rw [q, z.at_] at h
    exact hh _ _ _ rfl (Option.some.inj h)
  refine ⟨upd_same, fun j => ?_, fun i j m h1 h2 => ?_⟩
  · rw [valV_put]
    by_cases hj : j = k
    · subst hj
      rw [if_pos rfl]
      rcases z.val j with ⟨_, h⟩ | ⟨m, xs, h1, _⟩
      · exact .inr ⟨l, [], rfl, by rw [upd_ne (hne hl)]; exact hl, by rw [h]; exact .nil⟩
      · rw [hk] at h1
        cases h1
    · rw [if_neg hj]
      rcases z.val j with h | ⟨m, xs, h1, h2, h3⟩
      · exact .inl h
      · exact .inr ⟨m, xs, h1, by rw [upd_ne (hne h2)]; exact h2, L2.Paired.mapP h3 fun _ _ q => hF _ _ _ _ hts q⟩
  · rw [valV_put] at h1 h2
    by_cases hi : i = k <;> by_cases hj : j = k
    · rw [hi, hj]
    · rw [if_pos hi] at h1
      rw [if_neg hj] at h2
      cases h1
      exact (hn j h2).elim
    · rw [if_neg hi] at h1
      rw [if_pos hj] at h2
      cases h2
      exact (hn i h1).elim
    · rw [if_neg hi] at h1
      rw [if_neg hj] at h2
      exact z.inj i j m h1 h2
/-- a value behind a key's list -/
theorem DI.app (z : DI hd F H d kvs f) (hh : ∀ a b xs, hd a = b → b ≠ .lst xs) {k : κ} {l : Addr} {xs : List V} {v : V} {y : β} (hk : valV kvs k = some (.ref l)) (hl : H l = some (.lst xs)) (hv : F H v y) :
    DI hd F (upd H l (.lst (xs ++ [v]))) d kvs (fun j => if j = k then f k ++ [y] else f j) := by
  have hts : TupS H (upd H l (.lst (xs ++ [v]))) := tups_mut hl (fun zs q => nomatch q)
  have hdl : d ≠ l := fun q => by
    rw [← q, z.at_] at hl
    exact hh _ _ _ rfl (Option.some.inj hl)
  refine ⟨by rw [upd_ne hdl]; exact z.at_, fun j => ?_, z.inj⟩
  by_cases hj : j = k
  · subst hj
    rcases z.val j with ⟨h, _⟩ | ⟨m, us, h1, h2, h3⟩
    · rw [h] at hk
      cases hk
    · rw [hk] at h1
      cases h1
      rw [hl] at h2
      cases h2
      refine .inr ⟨l, _, hk, upd_same, ?_⟩
      rw [if_pos rfl]
      exact Paired.snoc (L2.Paired.mapP h3 fun _ _ q => hF _ _ _ _ hts q) (hF _ _ _ _ hts hv)
  · rw [if_neg hj]
    rcases z.val j with h | ⟨m, us, h1, h2, h3⟩
    · exact .inl h
    · have : m ≠ l := fun q => hj (z.inj j k l (q ▸ h1) hk)
      exact .inr ⟨m, us, h1, by rw [upd_ne this]; exact h2, L2.Paired.mapP h3 fun _ _ q => hF _ _ _ _ hts q⟩
end
end Rr

set_option Elab.async false
set_option linter.all false
set_option maxRecDepth 100000
set_option maxHeartbeats 2000000
/-! dicts under names -/
namespace Rr
open PySem PySem.Spec PyProof.Rows L2 Xr
theorem inr_mem {a : Str} {ns : List Str} : (Sum.inr a : Key) ∈ ns.map Sum.inr ↔ a ∈ ns := by
  constructor
  · intro h
    obtain ⟨b, h1, h2⟩ := List.mem_map.mp h
    rw [← Sum.inr.inj h2]
    exact h1
  · exact fun h => List.mem_map.mpr ⟨a, h, rfl⟩
structure TN (F : Hp → V → Str → Prop) (H : Hp) (d : Addr) (ns : List Str) : Prop where
  ex : ∃ kvs : List (Key × V), H d = some (.dK kvs) ∧ kvs.map Prod.fst = ns.map Sum.inr ∧ ∀ a ∈ ns, ∃ v, valV kvs (.inr a) = some v ∧ F H v a
section
variable {F G : Hp → V → Str → Prop} {H H' : Hp} {d : Addr} {ns : List Str}
theorem TN.new : TN F (upd H d (.dK [])) d [] := ⟨[], upd_same, rfl, fun _ h => by cases h⟩
theorem TN.imp (z : TN F H d ns) (hd : ∀ kvs, H d = some (.dK kvs) → H' d = some (.dK kvs)) (hF : ∀ v a, a ∈ ns → F H v a → G H' v a) : TN G H' d ns := by
  obtain ⟨kvs, h1, h2, h3⟩ := z.ex
  refine ⟨kvs, hd _ h1, h2, fun a ha => ?_⟩
  obtain ⟨v, g1, g2⟩ := h3 a ha
  exact ⟨v, g1, hF v a ha g2⟩
theorem TN.isD (z : TN F H d ns) : IsD H d := by
  obtain ⟨kvs, h1, _⟩ := z.ex
  exact .inl ⟨kvs, .inl h1⟩
theorem TN.get (z : TN F H d ns) {a : Str} (ha : a ∈ ns) : ∃ v, F H v a ∧ DGet H d (.str a) (some v) := by
  obtain ⟨kvs, h1, h2, h3⟩ := z.ex
  obtain ⟨v, g1, g2⟩ := h3 a ha
  refine ⟨v, g2, ?_⟩
  rw [← g1]
  exact DGet.k (k := .inr a) h1
theorem TN.miss (z : TN F H d ns) {a : Str} (ha : a ∉ ns) : DGet H d (.str a) none := by
  obtain ⟨kvs, h1, h2, h3⟩ := z.ex
  rw [← (valV_none (Sum.inr a : Key) kvs).mpr (by rw [h2, inr_mem]; exact ha)]
  exact DGet.k (k := .inr a) h1
theorem TN.put (z : TN F H d ns) {a : Str} (ha : a ∈ ns) {v : V} (hs : ns.length < sizeLine) (hv : ∀ o, G (upd H d (.dK o)) v a) (hG : ∀ v' b o, b ∈ ns → b ≠ a → F H v' b → G (upd H d (.dK o)) v' b) :
    ∃ kvs o, H d = some (.dK kvs) ∧ DPut H d (.str a) v (upd H d (.dK o)) ∧ TN G (upd H d (.dK o)) d ns := by
  obtain ⟨kvs, h1, h2, h3⟩ := z.ex
  have hl : kvs.length = ns.length := by
    have := congrArg List.length h2
    simpa using this
  refine ⟨kvs, _, h1, DPut.k (k := .inr a) h1 (by rw [hl]; exact hs), ⟨_, upd_same, ?_, fun b hb => ?_⟩⟩
  · rw [keys_put _ _ _ (by rw [h2, inr_mem]; exact ha), h2]
  · rw [valV_put]
    by_cases hba : b = a
    · subst hba
      rw [if_pos rfl]
      exact ⟨v, rfl, hv _⟩
    · rw [if_neg (fun q => hba (Sum.inr.inj q))]
      obtain ⟨v', g1, g2⟩ := h3 b hb
      exact ⟨v', g1, hG v' b _ hb hba g2⟩
/-- a comprehension's turn -/
theorem TN.add (z : TN F H d ns) {a : Str} (ha : a ∉ ns) {v : V} (hv : ∀ o, G (upd H d (.dK o)) v a) (hG : ∀ v' b o, b ∈ ns → F H v' b → G (upd H d (.dK o)) v' b) :
    ∃ kvs, H d = some (.dK kvs) ∧ kvs.length = ns.length ∧ TN G (upd H d (.dK (putK kvs (.inr a) v))) d (ns ++ [a]) := by
  obtain ⟨kvs, h1, h2, h3⟩ := z.ex
  have hl : kvs.length = ns.length := by
    have := congrArg List.length h2
    simpa using this
  have hn : valV kvs (.inr a) = none := (valV_none (Sum.inr a : Key) kvs).mpr (by rw [h2, inr_mem]; exact ha)
  refine ⟨kvs, h1, hl, ⟨_, upd_same, ?_, fun b hb => ?_⟩⟩
  · rw [putK_new _ hn, List.map_append, List.map_append, h2]
    rfl
  · rw [valV_put]
    by_cases hba : b = a
    · subst hba
      rw [if_pos rfl]
      exact ⟨v, rfl, hv _⟩
    · rw [if_neg (fun q => hba (Sum.inr.inj q))]
      have hb' : b ∈ ns := by
        rcases List.mem_append.mp hb with q | q
        · exact q
        · exact (hba (List.mem_singleton.mp q)).elim
      obtain ⟨v', g1, g2⟩ := h3 b hb'
      exact ⟨v', g1, hG v' b _ hb' g2⟩
end
/-- numbers of the names -/
abbrev PlV (P : Str → Nat) : Hp → V → Str → Prop := fun _ v a => v = .int (P a : Nat)
end Rr

set_option Elab.async false
set_option linter.all false
set_option maxRecDepth 100000
set_option maxHeartbeats 4000000
namespace Rr
open PySem PySem.Spec PyProof.Rows L2 Xr
theorem dpNum {K : PySem.W.Frag} {H : Hp} (f : Str → Nat) : ∀ ns : List Str, DpAll K H (ns.map fun a => V.int (f a : Nat)) ((ns.map fun a => ((f a : Nat) : Int)).map PyData.int)
  | [] => .nil
  | n :: r => .cons (.int _) (dpNum f r)
/-- a list of numbers that H0 does not know -/
def NumF (H0 : Hp) (ns : List Str) (M : Sol) (H : Hp) (v : V) (e : Id) : Prop := ∃ l, v = .ref l ∧ H0 l = none ∧ H l = some (.lst (ns.map fun a => .int (M e a : Nat)))
theorem NumF.ls {H0 : Hp} {ns : List Str} {M : Sol} {H H' : Hp} {v : V} {e : Id} (k : Ls H H') (h : NumF H0 ns M H v e) : NumF H0 ns M H' v e := let ⟨l, a, c, b⟩ := h; ⟨l, a, c, k.l _ _ b⟩
theorem NumF.toL {H0 : Hp} {ns : List Str} {M : Sol} {H : Hp} {v : V} {e : Id} (h : NumF H0 ns M H v e) : NumL ns M H v e := let ⟨l, a, c, b⟩ := h; ⟨l, a, b⟩
theorem same_back {H H' : Hp} (e : Same H H') {l : Addr} (h : H' l = none) : H l = none := by
  cases hh : H l with
  | none => rfl
  | some o => rw [e _ _ hh] at h; cases h
def stepsB (ids : List Id) : List (Id × Id) := (ids.filter fun b => decide (1 < b.2)).map fun b => ((b.1, b.2 - 1), b)
theorem mem_steps {ns : List Str} {R : Rec} (g : Good ns R) {ar : List (Id × Id)} {x y : Id} : (x, y) ∈ stepsB (allIds ns R) ++ ar ↔ Stp R ar x y := by
  unfold stepsB Stp
  rw [List.mem_append, List.mem_map]
  constructor
  · rintro (⟨b, h1, h2⟩ | h)
    · obtain ⟨h3, h4⟩ := List.mem_filter.mp h1
      have h5 : 1 < b.2 := of_decide_eq_true h4
      have h6 := g.allIds.mp h3
      cases h2
      exact .inl ⟨rfl, by simp; omega, by simp; omega, h6.2⟩
    · exact .inr h
  · rintro (⟨h1, h2, h3, h4⟩ | h)
    · refine .inl ⟨y, List.mem_filter.mpr ⟨g.allIds.mpr ⟨by omega, h4⟩, decide_eq_true (by omega)⟩, ?_⟩
      rw [← h1]
      have : y.2 - 1 = x.2 := by omega
      rw [this]
    · exact .inr h
theorem pmapR {α β γ : Type} {F : α → γ → Prop} {f : β → γ} : ∀ {xs : List α} {ys : List β}, Paired (fun x y => F x (f y)) xs ys → Paired F xs (ys.map f)
  | _, _, .nil => .nil
  | _, _, .cons h t => .cons h (pmapR t)
theorem allIds_take {ns : List Str} {R : Rec} {i : Nat} {a : Str} (h : ns[i]? = some a) : allIds (ns.take (i + 1)) R = allIds (ns.take i) R ++ (List.range (R a).length).map fun k => (a, k + 1) := by
  rw [take_succ' h]
  unfold allIds
  rw [List.flatMap_append]
  simp
theorem allIds_len {R : Rec} (h : ∀ a, (R a).length ≤ 900) : ∀ ns : List Str, (allIds ns R).length ≤ ns.length * 900
  | [] => by simp [allIds]
  | a :: r => by
    have h1 := allIds_len h r
    have h3 := h a
    unfold allIds at *
    rw [List.flatMap_cons, List.length_append, List.length_cons, List.length_map, List.length_range]
    omega
section
variable {P : Program} {w : World} {K : PySem.W.Frag} {mg : Str → Option Value} {base : Heap}
/-! ### _law_needs -/
abbrev N_w_needs : List Str := ["_law_rows_here", "_law_arrows", "_law_names_here", "_law_name", "_law_events", "_law_needs_here", "_law_k", "_law_one", "_law_steps", "_law_number", "_law_changed", "_law_other", "_law_joined"]
theorem sc_w_needs : FnScope N_w_needs ["_law_rows_here", "_law_arrows"] (defScope s_w_needs) := ⟨rfl, rfl, rfl, by decide +kernel, rfl, by decide +kernel, by decide +kernel⟩
def sp_needs : Sp := fun vs H Q _ => ∃ (L A : Addr) (ns : List Str) (R : Rec) (ar : List (Id × Id)), vs = [.ref L, .ref A] ∧ Good ns R ∧ LRows H L (rowsOf ns R) ∧ LPairs H A ar ∧ Arr R ar ∧ ar.length ≤ 5000 ∧
  ∀ (d : Addr) H' M, H d = none → IsN R ar M → TB (NumF H ns M) H' d (allIds ns R) → Same H H' → Q (.ref d) H'
theorem ok_needs (T : Txt K mg) {f : Addr} {fd : FuncData} (F : FunD K "_law_needs" "_law_needs" (defArgs s_w_needs) (defBody s_w_needs) (defScope s_w_needs) [] [] f fd) : FnOk P w K mg base CX0 1 f fd ["_law_rows_here", "_law_arrows"] sp_needs := by
  refine ok0 F sc_w_needs (fun vs H Q E h => ?_) (fun cdv A outer s H vs Q E hr h => ?_)
  · obtain ⟨L, A, ns, R, ar, rfl, _⟩ := h
    rfl
  · obtain ⟨L, A, ns, R, ar, rfl, g, ⟨xs, hL, hxs⟩, ⟨as, hA, has⟩, hArr, har, k⟩ := h
    have hu := hu_of hr
    refine ⟨_, (pss_cons (ps_setLc (i := 2) (own := [("_law_name", 3), ("_law_events", 4)]) (by rfl) sc_w_needs.nd rfl rfl (sw_true rfl rfl rfl (by decide +kernel)) (q_plist K rfl (pv 0)) (blkOk_by (N := N_w_needs) (sc := defScope s_w_needs) (by decide +kernel)) (fun _ _ _ _ _ => (q_tup (n := 2) K rfl rfl (pgs_cons (pg_name (i := 3) sc_w_needs.nd rfl (Or.inl rfl)) (pgs_cons (pg_name (i := 4) sc_w_needs.nd rfl (Or.inl rfl)) pgs_nil)))) (fun _ _ _ _ _ => pts_nil) (fun _ _ _ _ _ => (pv 3)))
      (pss_cons (ps_set (i := 5) sc_w_needs.nd rfl (Or.inr rfl) pe_dnewT)
      (pss_cons (ps_for PassesOwn.never rfl (q_plist K rfl (pv 0)) (q_tup (n := 2) K rfl rfl (pgs_cons (pg_name (i := 3) sc_w_needs.nd rfl (Or.inr rfl)) (pgs_cons (pg_name (i := 4) sc_w_needs.nd rfl (Or.inl rfl)) pgs_nil)))
        (pss_one (ps_for PassesOwn.never rfl (pi_range1 (by rfl) T.z_range (pa_cons (pe_callB (q_len K rfl) (by rfl) T.z_len (by decide +kernel) (pa_cons (pv 4) pa_nil)) pa_nil)) (pg_name (i := 6) sc_w_needs.nd rfl (Or.inr rfl))
          (pss_one (ps_dput hu (pv 5) (pe_tup (pa_cons (pv 3) (pa_cons (pe_op op_add (pv 6) pe_int) pa_nil))) (pe_lc (own := [("_law_one", 7)]) (by rfl) sc_w_needs.nd (q_plist K rfl (pv 2)) (blkOk_by (N := N_w_needs) (sc := defScope s_w_needs) (by decide +kernel)) (fun _ _ _ _ _ => (pg_name (i := 7) sc_w_needs.nd rfl (Or.inl rfl))) (fun _ _ _ _ _ => pts_nil) (fun _ _ _ _ _ => (pe_op op_mul (pe_op op_add (pv 6) pe_int) (pe_callTy call_int1 (by rfl) T.z_int (by decide +kernel) (pa_cons (pe_cmpR op_eq (pv 7) (pv 3) (nomark _)) pa_nil))))) rfl)))))
      (pss_cons (ps_set (i := 8) sc_w_needs.nd rfl (Or.inl rfl) (pe_op op_cat (pe_lock (pe_lc (own := [("_law_name", 3), ("_law_number", 9)]) (by rfl) sc_w_needs.nd (pi_keys (pv 5)) (blkOk_by (N := N_w_needs) (sc := defScope s_w_needs) (by decide +kernel)) (fun _ _ _ _ _ => (q_tup (n := 2) K rfl rfl (pgs_cons (pg_name (i := 3) sc_w_needs.nd rfl (Or.inl rfl)) (pgs_cons (pg_name (i := 9) sc_w_needs.nd rfl (Or.inl rfl)) pgs_nil)))) (fun _ _ _ _ _ => (pts_one (pt_cmpR op_gt (pv 9) pe_int (nomark _)))) (fun _ _ _ _ _ => (pe_tup (pa_cons (pe_tup (pa_cons (pv 3) (pa_cons (pe_op op_sub (pv 9) pe_int) pa_nil))) (pa_cons (pe_tup (pa_cons (pv 3) (pa_cons (pv 9) pa_nil))) pa_nil)))))) (pe_callTy (q_list K rfl) (by rfl) T.z_list (by decide +kernel) (pa_cons (pv 1) pa_nil))))
      (pss_cons (ps_set (i := 10) sc_w_needs.nd rfl (Or.inl rfl) pe_bl)
      (pss_cons (ps_while PassesOwn.never (pt_val (pv 10))
        (pss_cons (ps_set (i := 10) sc_w_needs.nd rfl (Or.inl rfl) pe_bl)
        (pss_one (ps_for PassesOwn.never rfl (q_plist K rfl (pv 8)) (q_tup (n := 2) K rfl rfl (pgs_cons (pg_name (i := 7) sc_w_needs.nd rfl (Or.inr rfl)) (pgs_cons (pg_name (i := 11) sc_w_needs.nd rfl (Or.inr rfl)) pgs_nil)))
          (pss_cons (ps_setLc (i := 12) (own := [("_law_k", 6)]) (by rfl) sc_w_needs.nd rfl rfl (sw_true rfl rfl rfl (by decide +kernel)) (pi_range1 (by rfl) T.z_range (pa_cons (pe_callB (q_len K rfl) (by rfl) T.z_len (by decide +kernel) (pa_cons (pv 2) pa_nil)) pa_nil)) (blkOk_by (N := N_w_needs) (sc := defScope s_w_needs) (by decide +kernel)) (fun _ _ _ _ _ => (pg_name (i := 6) sc_w_needs.nd rfl (Or.inl rfl))) (fun _ _ _ _ _ => pts_nil) (fun _ _ _ _ _ => (pe_callB (call_max2 rfl) (by rfl) T.z_max (by decide +kernel) (pa_cons (pe_ix (q_ixl K rfl) (pe_dget hu (pv 5) (pv 7) (fun _ _ => rfl)) (pv 6) (fun _ _ => rfl)) (pa_cons (pe_ix (q_ixl K rfl) (pe_dget hu (pv 5) (pv 11) (fun _ _ => rfl)) (pv 6) (fun _ _ => rfl)) pa_nil)))))
          (pss_one (ps_if (pt_cmpR (q_neD K rfl hr.units) (pv 12) (pe_dget hu (pv 5) (pv 11) (fun _ _ => rfl)) (nomark _))
            (pss_cons (ps_dput hu (pv 5) (pv 11) (pv 12) rfl)
            (pss_one (ps_set (i := 10) sc_w_needs.nd rfl (Or.inl rfl) pe_bl)))
            pss_nil)))))))
      (pss_one (ps_ret (pv 5))))))))), ?_⟩
    have nlen : xs.length = ns.length := by rw [plen hxs, rows_len]
    have nid : (allIds ns R).length ≤ 3600 := Nat.le_trans (allIds_len g.len ns) (Nat.mul_le_mul_right 900 g.n4)
    -- the names
    refine ⟨_, rfl, L, rfl, ⟨_, sq hL⟩, fun nl hnl => lc_pure (walk_list (K := K) (a := L) (xs := xs)) hnl ns nlen.symm (by have := g.n4; omega) (fun b v _ => v = .str b) (fun _ _ _ _ _ z => z) (fun _ => true) (fun H' e => sq (e _ _ hL)) (fun _ _ _ _ y => yat_same y) ?_ ?_⟩
    · rintro i b x H1 H2 kk hb e ⟨rfl, hx⟩ ht hf
      obtain ⟨a, t, y, z, es, hna, rfl, ht', rfl, hz, hes⟩ := row_at hxs hx
      have : a = b := by
        rw [hna] at hb
        exact Option.some.inj hb
      subst this
      exact ⟨t, _, rfl, sqt (e _ _ ht'), rfl, _, _, rfl, _, _, rfl, rfl, rfl, _, rfl, ht _ _ (Same.refl _) rfl rfl⟩
    intro ys H1 e1 hn1 hys
    rw [List.filter_eq_self.mpr (fun _ _ => rfl)] at hys
    have ey := plist hys
    subst ey
    clear hys
    have hnlH := hnl
    -- needs = {}
    refine fun d hd => ?_
    have hdH : H d = none := by
      cases hh : H d with
      | none => rfl
      | some o =>
        rw [e1 _ _ hh] at hd
        cases hd
    have e2 : Same H1 (upd H1 d (.dT [])) := same_new hd
    have Tn : TB (NumF H ns selfM) (upd H1 d (.dT [])) d [] := TB.new
    generalize upd H1 d (.dT []) = H2 at e2 Tn
    have hn2 := e2 _ _ hn1
    have e02 := e1.trans e2
    refine ⟨_, rfl, L, rfl, ⟨_, sq (e02 _ _ hL)⟩, for_it (walk_list (K := K) (a := L) (xs := xs)) (fun i σ' H3 => ∃ (v3 v4 v6 : Option V), σ' = [some (.ref L), some (.ref A), some (.ref nl), v3, v4, some (.ref d), v6, none, none, none, none, none, none] ∧ Same H H3 ∧ H3 nl = some (.lst (ns.map V.str)) ∧ TB (NumF H ns selfM) H3 d (allIds (ns.take i) R))
      ⟨none, none, none, rfl, e02, hn2, Tn⟩ (fun i σ' H1 _ h => ?_) ?_ ?_⟩
    · obtain ⟨_, _, _, _, e, _⟩ := h
      exact sq (e _ _ hL)
    · clear e02 e2 hd Tn hn2
      rintro i x σ' H3' H3 hi ⟨v3, v4, v6, rfl, e3, hn3, T3⟩ ⟨rfl, hx⟩
      obtain ⟨a, t, y, z, es, hna, rfl, ht, rfl, hz, hes⟩ := row_at hxs hx
      have elen : es.length = (R a).length := plen hes
      refine ⟨t, _, rfl, sqt (e3 _ _ ht), rfl, _, _, rfl, _, _, rfl, rfl, ?_⟩
      refine ⟨_, rfl, _, _, rfl, .inr ⟨_, sqt (e3 _ _ hz), rfl⟩, _, rfl, by omega, by have := g.len a; omega, ?_⟩
      refine for_range (lo := 0) (n := ((es.length : Nat) : Int).toNat) (fun j σ' H4 => ∃ (v6 : Option V), σ' = [some (.ref L), some (.ref A), some (.ref nl), some (.str a), some (.ref z), some (.ref d), v6, none, none, none, none, none, none] ∧ Same H H4 ∧ H4 nl = some (.lst (ns.map V.str)) ∧ TB (NumF H ns selfM) H4 d (allIds (ns.take i) R ++ (List.range j).map fun k => (a, k + 1)))
        ⟨v6, rfl, e3, hn3, by simpa using T3⟩ ?_ ?_
      · rintro j σ' H4 hj ⟨v6, rfl, e4, hn4, T4⟩
        have hj' : j < (R a).length := by omega
        have hnew : ((a, j + 1) : Id) ∉ allIds (ns.take i) R ++ (List.range j).map fun k => (a, k + 1) := by
          intro h
          rcases List.mem_append.mp h with h | h
          · exact not_mem_take g.nd hna (mem_allIds.mp h).1
          · obtain ⟨q, h1, h2⟩ := List.mem_map.mp h
            have := List.mem_range.mp h1
            have := congrArg Prod.snd h2
            simp at this
            omega
        refine ⟨_, rfl, nl, rfl, ⟨_, sq hn4⟩, fun D hD => lc_pure (walk_list (K := K) (a := nl) (xs := ns.map V.str)) hD ns (by simp) (by have := g.n4; simp; omega) (fun b v _ => v = .int (selfM (a, j + 1) b : Nat)) (fun _ _ _ _ _ z => z) (fun _ => true) (fun H' e => sq (e _ _ hn4)) (fun _ _ _ _ y => yat_same y) ?_ ?_⟩
        · rintro i' b x H5 H6 kk hb e ⟨rfl, hx⟩ ht hf
          have exv : x = .str b := by
            rw [List.getElem?_map, hb] at hx
            exact (Option.some.inj hx).symm
          subst exv
          refine ⟨rfl, _, rfl, (j : Int), 1, by simp, rfl, _, rfl, _, rfl, rfl, .inr ⟨_, rfl, _, _, rfl, rfl, .inr ⟨?_, ?_⟩, ht _ _ (Same.refl _) rfl ?_⟩⟩
          · split <;> decide
          · split <;> decide
          · show V.int _ = V.int _
            congr 1
            unfold selfM
            by_cases q : b = a
            · subst q
              simp
            · have : decide (V.str b = V.str a) = false := decide_eq_false fun z => q (V.str.inj z)
              rw [this, if_neg q]
              simp
        · intro ys H5 e5 hD5 hys
          rw [List.filter_eq_self.mpr (fun _ _ => rfl)] at hys
          have ey := plist hys
          subst ey
          have T5 : TB (NumF H ns selfM) H5 d _ := T4.imp (fun _ h => e5 _ _ h) fun v e _ h => h.ls (Ls.of e5)
          refine ⟨_, rfl, _, rfl, _, rfl, (j : Int), 1, by simp, rfl, s2, fun tp htp => ?_⟩
          have e6 : Same H5 (upd H5 tp (.tup [.str a, .int ((j : Int) + 1)])) := same_new htp
          have htp6 : (upd H5 tp (.tup [.str a, .int ((j : Int) + 1)])) tp = _ := upd_same
          generalize upd H5 tp (.tup [.str a, .int ((j : Int) + 1)]) = H6 at e6 htp6
          have T6 : TB (NumF H ns selfM) H6 d _ := T5.imp (fun _ h => e6 _ _ h) fun v e _ h => h.ls (Ls.of e6)
          have hlen : (allIds (ns.take i) R ++ (List.range j).map fun k => ((a, k + 1) : Id)).length < sizeLine := by
            have h1 := allIds_len g.len (ns.take i)
            have h2 := g.n4
            rw [List.length_take] at h1
            rw [List.length_append, List.length_map, List.length_range]
            have h4 := g.len a
            have h6 : min i ns.length * 900 ≤ 4 * 900 := Nat.mul_le_mul_right _ (by omega)
            exact szl (by omega)
          obtain ⟨kvs, o, hkv, hput, T7⟩ := T6.add (G := NumF H ns selfM) (e := (a, j + 1)) hnew (tp := tp) htp6 (v := .ref D) hlen (fun o => ⟨D, rfl, same_back e4 hD, by
            obtain ⟨kv, h1, _⟩ := T6.ex
            have hD6 := e6 _ _ hD5
            rw [upd_ne (ne_of hD6 h1 (fun z => nomatch z))]
            exact hD6⟩) (fun v f o _ h => by
            obtain ⟨kv, h1, _⟩ := T6.ex
            exact h.ls (Ls.dT h1))
          refine ⟨d, _, rfl, hput, _, rfl, same_mut (e4.trans (e5.trans e6)) hdH, ?_, ?_⟩
          · rw [upd_ne (ne_of (e6 _ _ (e5 _ _ hn4)) hkv (fun z => nomatch z))]
            exact e6 _ _ (e5 _ _ hn4)
          · rw [List.range_succ, List.map_append, ← List.append_assoc]
            exact T7
      · rintro σ' H4 ⟨v6, rfl, e4, hn4, T4⟩
        refine ⟨_, _, _, rfl, e4, hn4, ?_⟩
        have : ((es.length : Nat) : Int).toNat = (R a).length := by omega
        rw [this, ← allIds_take hna] at T4
        exact T4
    · rintro σ' H3 ⟨v3, v4, v6, rfl, e3, hn3, T3⟩
      rw [nlen, List.take_length] at T3
      clear e02 e2 hd Tn hn2 H2 hn1 e1 H1
      -- the steps
      obtain ⟨kvs, hkv, hkeys, hvals⟩ := T3.ex
      have hkl : kvs.length = (allIds ns R).length := by
        have := congrArg List.length hkeys
        simpa using this
      refine ⟨d, _, hkv, trivial, fun od => ⟨_, rfl, d, od, rfl, .inr ⟨kvs, upd_same, fun D hD => ?_⟩⟩⟩
      have hdD : d ≠ D := ne_of_none upd_same hD
      have hDf : H3 D = none := by
        rw [upd_ne hdD.symm] at hD
        exact hD
      refine lc_pure (R := fun (b : Id) v H' => IdP H' v ((b.1, b.2 - 1), b)) walk_keysT hD (allIds ns R) hkl.symm (by omega) (fun b v H H' t h => h.mono t) (fun b => decide (1 < b.2)) (fun H' e => e _ _ upd_same) (fun i H1 x H2 y => by rw [y.1]; exact Same.refl _) ?_ ?_
      · rintro i b x H4' H4 kk hb e ⟨rfl, ky, vv, q, hk1, rfl, hq⟩ ht hf
        have hkb : ky = kE b := by
          have h1 : (kvs.map Prod.fst)[i]? = some ky := by rw [List.getElem?_map, hk1] <;> rfl
          rw [hkeys, List.getElem?_map, hb] at h1
          exact (Option.some.inj h1).symm
        subst hkb
        refine ⟨q, _, rfl, sqt hq, rfl, _, _, rfl, _, _, rfl, rfl, ?_⟩
        refine ⟨rfl, _, rfl, _, _, rfl, rfl, _, rfl, ?_⟩
        by_cases q2 : 1 < b.2
        · have e1 : decide ((b.2 : Int) > 1) = true := decide_eq_true (by omega)
          rw [e1]
          refine iteT ⟨_, rfl, _, rfl, _, _, rfl, rfl, s2, fun t1 h1 => ⟨_, rfl, _, rfl, s2, fun t2 h2 => ⟨s2, fun t3 h3 => ?_⟩⟩⟩
          have e6 : Same H4 (upd (upd (upd H4 t1 (.tup [.str b.1, .int ((b.2 : Int) - 1)])) t2 (.tup [.str b.1, .int (b.2 : Nat)])) t3 (.tup [.ref t1, .ref t2])) := (same_new h1).trans ((same_new h2).trans (same_new h3))
          have g1 : (upd H4 t1 (.tup [.str b.1, .int ((b.2 : Int) - 1)])) t1 = _ := upd_same
          have g2 := (same_new (o := .tup [.ref t1, .ref t2]) h3) _ _ ((same_new (o := .tup [.str b.1, .int (b.2 : Nat)]) h2) _ _ g1)
          have g3 := (same_new (o := .tup [.ref t1, .ref t2]) h3) _ _ (upd_same (H := upd H4 t1 (.tup [.str b.1, .int ((b.2 : Int) - 1)])) (a := t2) (o := .tup [.str b.1, .int (b.2 : Nat)]))
          refine ht _ _ e6 (decide_eq_true q2) ⟨.ref t1, .ref t2, TupV.new, ⟨t1, rfl, ?_⟩, ⟨t2, rfl, g3⟩⟩
          have e7 : ((b.2 : Int) - 1) = ((b.2 - 1 : Nat) : Int) := by omega
          rw [g2, e7]
          rfl
        · have e1 : decide ((b.2 : Int) > 1) = false := decide_eq_false (by omega)
          rw [e1]
          exact iteF (hf _ (Same.refl _) (decide_eq_false q2))
      · intro ys H4' e4' hD4' hys
        refine ⟨e4' _ _ upd_same, ?_⟩
        have hd4 := e4' _ _ upd_same
        have e34 : Same H3 (upd H4' d (.dT kvs)) := fun b o hb => by
          by_cases q : b = d
          · rw [q] at hb ⊢
            rw [upd_same, ← hkv, hb]
          · rw [upd_ne q]
            exact e4' _ _ (by rw [upd_ne q]; exact hb)
        have ts4 : TupS H4' (upd H4' d (.dT kvs)) := tups_mut hd4 (fun zs z => nomatch z)
        have hD4 : (upd H4' d (.dT kvs)) D = some (.lst ys) := by rw [upd_ne hdD.symm]; exact hD4'
        have hys4 := L2.Paired.mapP (G := fun v (b : Id) => IdP (upd H4' d (.dT kvs)) v ((b.1, b.2 - 1), b)) hys fun _ _ z => z.mono ts4
        generalize upd H4' d (.dT kvs) = H4 at e34 hD4 hys4
        clear hys hD4' hd4 ts4 e4'
        have e04 := e3.trans e34
        refine ⟨_, rfl, A, as, rfl, .inl (sq (e04 _ _ hA)), fun la hla => ?_⟩
        have e5 : Same H4 (upd H4 la (.lst as)) := same_new hla
        refine ⟨D, la, ys, as, rfl, rfl, e5 _ _ hD4, upd_same, ?_, fun st hst => ?_⟩
        · have h1 := plen hys4
          have h2 := List.length_filter_le (fun b : Id => decide (1 < b.2)) (allIds ns R)
          have h3 := plen has
          exact sz (by omega)
        have e6 : Same H4 (upd (upd H4 la (.lst as)) st (.lst (ys ++ as))) := e5.trans (same_new hst)
        have hst6 : (upd (upd H4 la (.lst as)) st (.lst (ys ++ as))) st = _ := upd_same
        generalize upd (upd H4 la (.lst as)) st (.lst (ys ++ as)) = H6 at e6 hst6
        have e06 := e04.trans e6
        have hSt : Paired (IdP H6) (ys ++ as) (stepsB (allIds ns R) ++ ar) := by
          refine pappend ?_ (L2.Paired.mapP has fun _ _ z => z.mono (stups e06))
          exact pmapR (L2.Paired.mapP hys4 fun _ _ z => z.mono (stups e6))
        have T6 : TB (NumF H ns selfM) H6 d (allIds ns R) := T3.imp (fun _ h => e6 _ _ (e34 _ _ h)) fun v e _ h => h.ls ((Ls.of e34).trans (Ls.of e6))
        have hn6 := e6 _ _ (e34 _ _ hn3)
        clear e5 hD4 hys4 e34 e04 hn3 T3 e3 hkv hvals hDf hD hla e6
        have hSL : ∀ p ∈ stepsB (allIds ns R) ++ ar, Stp R ar p.1 p.2 := fun p hp => (mem_steps g).mp hp
        refine ⟨fun n σ' HH => ∃ (v7 v9 v11 v12 : Option V) (ch : Bool) (M : Sol), σ' = [some (.ref L), some (.ref A), some (.ref nl), v3, v4, some (.ref d), v6, v7, some (.ref st), v9, some (.bl ch), v11, v12] ∧ n = room ns (allIds ns R) M + (if ch = true then 1 else 0) ∧ FrS [d] H6 HH ∧ TB (NumF H ns M) HH d (allIds ns R) ∧ Snd R ar M ∧ (∀ e, IsEv R e → e.2 ≤ M e e.1) ∧ (ch = false → ∀ p ∈ stepsB (allIds ns R) ++ ar, ∀ a, M p.1 a ≤ M p.2 a),
          ⟨_, none, none, none, none, true, selfM, rfl, rfl, FrS.of (Same.refl _), T6, selfM_snd R ar, fun e _ => by unfold selfM; rw [if_pos rfl]; exact Nat.le_refl _, fun z => by cases z⟩, ?_⟩
        rintro n σ' H7 ⟨v7, v9, v11, v12, ch, M, rfl, rfl, f7, T7, sM, selM, clM⟩
        refine ⟨_, rfl, ch, rfl, ?_⟩
        cases ch with
        | false =>
          rw [if_neg Bool.false_ne_true]
          refine ⟨_, rfl, k d H7 M hdH (isN_of hArr sM selM fun x y st => clM rfl _ ((mem_steps g).mpr st)) T7 ?_⟩
          intro b o hb
          exact f7 _ _ (e06 _ _ hb) (by simp; exact ne_of_none hb hdH)
        | true =>
          rw [if_pos rfl]
          refine ⟨_, fun σ' H' h => h, ?_⟩
          have hst7 := f7 _ _ hst6 (by simp; exact (ne_of hst6 T6.ex.choose_spec.1 (fun z => nomatch z)))
          refine ⟨_, rfl, st, rfl, ⟨_, sq hst7⟩, for_it (walk_list (K := K) (a := st) (xs := ys ++ as)) (fun i σ' HH => ∃ (v7 v11 v12 : Option V) (ch : Bool) (M' : Sol), σ' = [some (.ref L), some (.ref A), some (.ref nl), v3, v4, some (.ref d), v6, v7, some (.ref st), v9, some (.bl ch), v11, v12] ∧ FrS [d] H6 HH ∧ TB (NumF H ns M') HH d (allIds ns R) ∧ Snd R ar M' ∧ (∀ e, IsEv R e → e.2 ≤ M' e e.1) ∧
              (ch = false → M' = M ∧ ∀ j, j < i → ∀ p, (stepsB (allIds ns R) ++ ar)[j]? = some p → ∀ a, M p.1 a ≤ M p.2 a) ∧ (ch = true → room ns (allIds ns R) M' < room ns (allIds ns R) M))
            ⟨v7, v11, v12, false, M, rfl, f7, T7, sM, selM, fun _ => ⟨rfl, fun j h => by omega⟩, fun z => by cases z⟩ (fun i σ' H1 _ h => ?_) ?_ ?_⟩
          · obtain ⟨_, _, _, _, _, _, f, _⟩ := h
            exact sq (f _ _ hst6 (by simp; exact (ne_of hst6 T6.ex.choose_spec.1 (fun z => nomatch z))))
          · clear f7 T7 sM selM hst7
            rintro i x σ' H8' H8 hi ⟨v7, v11, v12, ch, M', rfl, f8, T8, sM, selM, c0, c1⟩ ⟨rfl, hx⟩
            obtain ⟨pp, hp1, px, py, ⟨tpp, rfl, hpp⟩, hpx, hpy⟩ := pget hSt hx
            have hdst : ∀ b o, H6 b = some o → (∀ kvs, o ≠ .dT kvs) → H8 b = some o := fun b o hb hne => f8 b o hb (by
              simp only [List.mem_singleton]
              exact ne_of hb T6.ex.choose_spec.1 (hne _))
            have ts68 : TupS H6 H8 := fun b zs hb => hdst b _ hb (fun _ z => nomatch z)
            have hpx := hpx.mono ts68
            have hpy := hpy.mono ts68
            have hstp := hSL _ (List.mem_of_getElem? hp1)
            obtain ⟨ev1, ev2⟩ := hstp.ev hArr
            have in1 := g.allIds.mpr ev1
            have in2 := g.allIds.mpr ev2
            obtain ⟨tx, rfl, htx⟩ := hpx
            obtain ⟨ty, rfl, hty⟩ := hpy
            obtain ⟨vx, ⟨lx, rfl, _, hlx⟩, gx⟩ := T8.get in1
            obtain ⟨vy, ⟨ly, rfl, _, hly⟩, gy⟩ := T8.get in2
            refine ⟨tpp, _, rfl, sqt (ts68 _ _ hpp), rfl, _, _, rfl, _, _, rfl, rfl, ?_⟩
            have hn8 := hdst _ _ hn6 (fun _ z => nomatch z)
            have back8 : ∀ l, H8 l = none → H l = none := fun l hl => by
              cases hh : H l with
              | none => rfl
              | some o =>
                have h1 := e06 _ _ hh
                have h2 := f8 _ _ h1 (by simp; exact ne_of_none hh hdH)
                rw [h2] at hl
                cases hl
            -- joined
            refine ⟨_, rfl, _, _, rfl, .inl ⟨_, sq hn8, rfl⟩, _, rfl, by omega, by have := g.n4; simp; omega, fun D2 hD2 => ?_⟩
            refine lc_pure walk_range hD2 ns (by simp) (by have := g.n4; simp; omega) (fun b v _ => v = .int (max (M' pp.1 b) (M' pp.2 b) : Nat)) (fun _ _ _ _ _ z => z) (fun _ => true) (fun H' e => trivial) (fun _ _ _ _ y => by rw [y.1]; exact Same.refl _) ?_ ?_
            · rintro i' b x H9' H9 kk hb e ⟨rfl, rfl⟩ ht hf
              refine ⟨rfl, _, rfl, _, rfl, d, _, rfl, ?_, _, rfl, lx, _, i', .int (M' pp.1 b : Nat), rfl, by simp, sq (e _ _ hlx), atI_nat (by rw [List.getElem?_map, hb] <;> rfl), _, rfl, _, rfl, d, _, rfl, ?_, _, rfl, ly, _, i', .int (M' pp.2 b : Nat), rfl, by simp, sq (e _ _ hly), atI_nat (by rw [List.getElem?_map, hb] <;> rfl), _, _, rfl, ht _ _ (Same.refl _) rfl ?_⟩
              · exact dget_same e (gx _ htx)
              · exact dget_same e (gy _ hty)
              · show V.int _ = V.int _
                congr 1
                split <;> omega
            · intro zs H9 e9 hD9 hzs
              have fD2 := back8 D2 hD2
              rw [List.filter_eq_self.mpr (fun _ _ => rfl)] at hzs
              have ez := plist hzs
              subst ez
              have f9 := f8.trans (FrS.of e9)
              have T9 : TB (NumF H ns M') H9 d (allIds ns R) := T8.imp (fun _ h => e9 _ _ h) fun v e _ h => h.ls (Ls.of e9)
              have gx9 := dget_same e9 (gx _ htx)
              have gy9 := dget_same e9 (gy _ hty)
              have hlx9 := e9 _ _ hlx
              have hly9 := e9 _ _ hly
              have hty9 := e9 _ _ hty
              clear e9 hzs gx gy hlx hly T8 f8 hn8 hdst ts68
              refine ⟨_, rfl, _, rfl, _, rfl, d, _, rfl, gy9, _, _, .lst (sq hD9) (dpNum (fun b => max (M' pp.1 b) (M' pp.2 b)) ns), .lst (sq hly9) (dpNum (fun b => M' pp.2 b) ns), shapedInts _, shapedInts _, _, rfl, ?_⟩
              rw [eqvl_ints]
              by_cases heq : ∀ b ∈ ns, M' pp.1 b ≤ M' pp.2 b
              · have e1 : (ns.map fun a => ((max (M' pp.1 a) (M' pp.2 a) : Nat) : Int)) = ns.map fun a => ((M' pp.2 a : Nat) : Int) := by
                  refine List.map_congr_left fun b hb => ?_
                  have := heq b hb
                  omega
                rw [decide_eq_true e1]
                refine iteF ⟨_, _, _, ch, M', rfl, f9, T9, sM, selM, fun hc => ⟨(c0 hc).1, fun j hj p hp a => ?_⟩, c1⟩
                by_cases hji : j < i
                · exact (c0 hc).2 j hji p hp a
                · have : j = i := by omega
                  rw [this, hp1] at hp
                  cases hp
                  have hM := (c0 hc).1
                  subst hM
                  by_cases ha : a ∈ ns
                  · exact heq a ha
                  · rw [sM.zero g ev1 ha]
                    exact Nat.zero_le _
              · have e1 : (ns.map fun a => ((max (M' pp.1 a) (M' pp.2 a) : Nat) : Int)) ≠ ns.map fun a => ((M' pp.2 a : Nat) : Int) := by
                  intro h
                  apply heq
                  intro b hb
                  have := (List.map_inj_left.mp h) b hb
                  omega
                rw [decide_eq_false e1]
                refine iteT ?_
                obtain ⟨b0, hb0, hl0⟩ : ∃ b ∈ ns, M' pp.2 b < M' pp.1 b := by
                  apply Classical.byContradiction
                  intro hn
                  apply heq
                  intro b hb
                  apply Classical.byContradiction
                  intro hl
                  exact hn ⟨b, hb, by omega⟩
                have hidl : (allIds ns R).length < sizeLine := szl (by omega)
                obtain ⟨kv, hkd, hkk, _⟩ := T9.ex
                obtain ⟨kvs2, o, hkv2, hput, T10⟩ := T9.put (G := NumF H ns (joinM M' pp.1 pp.2)) in2 hty9 (v := .ref D2) hidl (fun o => ⟨D2, rfl, fD2, by
                    have ej : (fun a => V.int ((joinM M' pp.1 pp.2 pp.2 a : Nat) : Int)) = fun a => V.int ((max (M' pp.1 a) (M' pp.2 a) : Nat) : Int) := by
                      funext a
                      unfold joinM
                      rw [if_pos rfl]
                    rw [upd_ne (ne_of hD9 hkd (fun z => nomatch z)), hD9, ej]⟩) (fun v' f o hf hfe h => by
                    obtain ⟨l, rfl, hfl, hl⟩ := h
                    refine ⟨l, rfl, hfl, ?_⟩
                    rw [upd_ne (ne_of hl hkd (fun z => nomatch z)), hl]
                    unfold joinM
                    simp only [if_neg hfe])
                refine ⟨_, rfl, _, rfl, _, rfl, d, _, rfl, hput, ?_⟩
                refine ⟨_, _, _, true, joinM M' pp.1 pp.2, rfl, f9.trans (FrS.upd (List.mem_singleton_self d)), T10, joinM_snd hArr sM hstp, fun e he => Nat.le_trans (selM e he) (joinM_le _ _ _ _ _), fun z => (by cases z), fun _ => ?_⟩
                have hlt : room ns (allIds ns R) (joinM M' pp.1 pp.2) < room ns (allIds ns R) M' := by
                  refine room_lt (fun e _ a _ => joinM_le _ _ _ _ _) in2 hb0 ?_ ?_
                  · unfold joinM
                    rw [if_pos rfl]
                    omega
                  · have := (joinM_snd hArr sM hstp).le g.len ev2 b0
                    omega
                cases ch with
                | false =>
                  rw [(c0 rfl).1] at hlt
                  rw [(c0 rfl).1]
                  exact hlt
                | true => exact Nat.lt_trans hlt (c1 rfl)
          · rintro σ' H8 ⟨v7, v11, v12, ch, M', rfl, f8, T8, sM, selM, c0, c1⟩
            refine ⟨_, ?_, _, _, _, _, _, M', rfl, rfl, f8, T8, sM, selM, ?_⟩
            · cases ch with
              | false =>
                rw [(c0 rfl).1, if_neg Bool.false_ne_true, if_pos rfl]
                omega
              | true =>
                have := c1 rfl
                rw [if_pos rfl]
                omega
            · intro hc p hp a
              obtain ⟨j, hj⟩ := List.mem_iff_getElem?.mp hp
              rw [(c0 hc).1]
              refine (c0 hc).2 j ?_ p hj a
              rw [plen hSt]
              exact (List.getElem?_eq_some_iff.mp hj).1
end
end Rr

set_option Elab.async false
set_option linter.all false
set_option maxRecDepth 100000
set_option maxHeartbeats 2000000
/-! runs, linear orders, cuts: plain facts -/
namespace Rr
open PySem PySem.Spec PyProof.Rows L2 Xr
def Bef (ord : List Id) (x y : Id) : Prop := ∃ i j : Nat, ord[i]? = some x ∧ ord[j]? = some y ∧ i < j
theorem Bef.app {ord : List Id} {x y : Id} (h : Bef ord x y) (r : List Id) : Bef (ord ++ r) x y := by
  obtain ⟨i, j, h1, h2, h3⟩ := h
  exact ⟨i, j, by rw [List.getElem?_append_left (List.getElem?_eq_some_iff.mp h1).1]; exact h1, by rw [List.getElem?_append_left (List.getElem?_eq_some_iff.mp h2).1]; exact h2, h3⟩
theorem Bef.last {ord : List Id} {x y : Id} (h : x ∈ ord) : Bef (ord ++ [y]) x y := by
  obtain ⟨i, hi⟩ := List.mem_iff_getElem?.mp h
  have := (List.getElem?_eq_some_iff.mp hi).1
  exact ⟨i, ord.length, by rw [List.getElem?_append_left this]; exact hi, by simp, this⟩
structure Lin (R : Rec) (S : Id → Id → Prop) (ord : List Id) : Prop where
  nd : ord.Nodup
  mem : ∀ e, e ∈ ord ↔ IsEv R e
  bef : ∀ x y, S x y → Bef ord x y
theorem Lin.irr {R : Rec} {S : Id → Id → Prop} {ord : List Id} (l : Lin R S ord) (x : Id) : ¬ S x x := fun h => by
  obtain ⟨i, j, h1, h2, h3⟩ := l.bef x x h
  have := (List.getElem?_inj (List.getElem?_eq_some_iff.mp h1).1 l.nd).mp (h1.trans h2.symm)
  omega
theorem mem_msgsB {R : Rec} {b : Str} {p : Id × Id} : ∀ {n : Nat}, p ∈ msgsB R b n ↔ ∃ k v, k < n ∧ mate R b k = some (p.1, v) ∧ p.2 = (b, k + 1)
  | 0 => by simp [msgsB]
  | n + 1 => by
    rw [msgsB, List.mem_append, mem_msgsB]
    constructor
    · rintro (⟨k, v, h1, h2, h3⟩ | h)
      · exact ⟨k, v, by omega, h2, h3⟩
      · cases hm : mate R b n with
        | none => rw [hm] at h; cases h
        | some m =>
          rw [hm] at h
          simp only [List.mem_singleton] at h
          subst h
          exact ⟨n, m.2, by omega, hm, rfl⟩
    · rintro ⟨k, v, h1, h2, h3⟩
      by_cases hk : k < n
      · exact .inl ⟨k, v, hk, h2, h3⟩
      · have : k = n := by omega
        subst this
        right
        rw [h2]
        simp only [List.mem_singleton]
        exact Prod.ext rfl h3
theorem mem_msgs {ns : List Str} {R : Rec} {p : Id × Id} : p ∈ msgsOf ns R ↔ ∃ b ∈ ns, ∃ k v, k < (R b).length ∧ mate R b k = some (p.1, v) ∧ p.2 = (b, k + 1) := by
  unfold msgsOf
  rw [List.mem_flatMap]
  constructor
  · rintro ⟨b, h1, h2⟩
    exact ⟨b, h1, mem_msgsB.mp h2⟩
  · rintro ⟨b, h1, h2⟩
    exact ⟨b, h1, mem_msgsB.mpr h2⟩
/-- what holds along a run -/
structure RunI (ns : List Str) (R : Rec) (Qu : Qs) (ord : List Id) : Prop where
  nd : ord.Nodup
  mem : ∀ e, e ∈ ord ↔ IsEv R e
  pb : ∀ a k, 1 ≤ k → k + 1 ≤ (R a).length → Bef ord (a, k) (a, k + 1)
  cl : ∀ a b, cntR (R b) a ≤ (sendsTo (R a) b).length
  qu : ∀ a b, Qu a b = ((sendsTo (R a) b).map Prod.snd).drop (cntR (R b) a)
  mt : ∀ b k t o x v, (R b)[k]? = some (.rcv t o x v) → ∃ s : Nat, (sendsTo (R o) b)[cntR ((R b).take k) o]? = some (s, v) ∧ Bef ord (o, s) (b, k + 1)
  ev : ∀ a ∈ ns, ∀ e ∈ R a, EvOk ns a e
  out : ∀ a, a ∉ ns → R a = []
theorem upR_self (R : Rec) (a : Str) (e : Ev) : upR R a e a = R a ++ [e] := by
  unfold upR
  rw [if_pos rfl]
theorem upR_ne (R : Rec) {a b : Str} (e : Ev) (h : b ≠ a) : upR R a e b = R b := by
  unfold upR
  rw [if_neg h]
theorem upR_pre (R : Rec) (a b : Str) (e : Ev) : ∃ r, upR R a e b = R b ++ r := by
  by_cases h : b = a
  · subst h
    exact ⟨_, upR_self R b e⟩
  · exact ⟨[], by rw [upR_ne R e h, List.append_nil]⟩
theorem sends_pre (es r : List Ev) (b : Str) : ∃ u, sendsTo (es ++ r) b = sendsTo es b ++ u := by
  unfold sendsTo
  rw [sendsFrom_append]
  exact ⟨_, rfl⟩
theorem get_app {α : Type} {xs : List α} {i : Nat} {v : α} (h : xs[i]? = some v) (r : List α) : (xs ++ r)[i]? = some v := by
  rw [List.getElem?_append_left (List.getElem?_eq_some_iff.mp h).1]
  exact h
theorem sends_up (R : Rec) (nm : Str) (ev : Ev) (a b : Str) : sendsTo (upR R nm ev a) b = sendsTo (R a) b ++ (if a = nm then (match ev.toSnd b with | some v => [((R a).length + 1, v)] | none => []) else []) := by
  by_cases h : a = nm
  · subst h
    rw [upR_self, sendsTo_snoc, if_pos rfl] <;> rfl
  · rw [upR_ne R ev h, if_neg h, List.append_nil]
theorem cnt_up (R : Rec) (nm : Str) (ev : Ev) (a b : Str) : cntR (upR R nm ev b) a = cntR (R b) a + (if b = nm ∧ ev.isRcv a = true then 1 else 0) := by
  by_cases h : b = nm
  · subst h
    rw [upR_self, cntR_snoc]
    simp
  · rw [upR_ne R ev h, if_neg (fun z => h z.1), Nat.add_zero]
theorem isRcv_iff {ev : Ev} {a : Str} : ev.isRcv a = true ↔ ∃ t x v, ev = .rcv t a x v := by
  cases ev with
  | rcv t o x v =>
    simp only [Ev.isRcv, decide_eq_true_eq, Ev.rcv.injEq]
    constructor
    · rintro rfl
      exact ⟨t, x, v, rfl, rfl, rfl, rfl⟩
    · rintro ⟨_, _, _, _, h, _⟩
      exact h
  | _ => simp [Ev.isRcv]
theorem qu_take {Q : List Int} {v : Int} {r : List Int} {xs : List Int} {c : Nat} (h : Q = xs.drop c) (hq : Q = v :: r) : xs[c]? = some v ∧ r = xs.drop (c + 1) := by
  rw [hq] at h
  have h1 : (xs.drop c)[0]? = some v := by rw [← h] <;> rfl
  rw [List.getElem?_drop] at h1
  refine ⟨by simpa using h1, ?_⟩
  have : (xs.drop c).drop 1 = r := by rw [← h] <;> rfl
  rw [← this, List.drop_drop]
theorem Run.inv {ns : List Str} {R : Rec} {Qu : Qs} {ord : List Id} (h : Run ns R Qu ord) : RunI ns R Qu ord := by
  induction h with
  | nil =>
    exact ⟨List.nodup_nil, fun e => by simp [IsEv]; omega, fun a k _ h => by simp at h, fun a b => by simp [cntR], fun a b => by simp [sendsTo, sendsFrom], fun b k t o x v h => by simp at h, fun a _ e he => by simp at he, fun _ _ => rfl⟩
  | @step R Qu Qu' ord nm ev run hm st ih =>
    have hmem : ∀ e, e ∈ ord ++ [(nm, (R nm).length + 1)] ↔ IsEv (upR R nm ev) e := by
      intro e
      rw [List.mem_append, List.mem_singleton, ih.mem]
      obtain ⟨a, k⟩ := e
      unfold IsEv
      by_cases ha : a = nm
      · subst ha
        rw [upR_self]
        simp only [List.length_append, List.length_singleton, Prod.mk.injEq, true_and]
        omega
      · rw [upR_ne R ev ha]
        simp [ha]
    have hnot : (nm, (R nm).length + 1) ∉ ord := by
      rw [ih.mem]
      unfold IsEv
      simp
    -- the mate of the new event
    have hnew : ∀ t o x v, ev = .rcv t o x v → ∃ s : Nat, (sendsTo (R o) nm)[cntR (R nm) o]? = some (s, v) := by
      intro t o x v he
      subst he
      cases st with
      | rcv ho hx hq =>
        obtain ⟨h1, _⟩ := qu_take (ih.qu o nm) hq
        rw [List.getElem?_map] at h1
        cases hs : (sendsTo (R o) nm)[cntR (R nm) o]? with
        | none => rw [hs] at h1; cases h1
        | some s =>
          rw [hs] at h1
          refine ⟨s.1, ?_⟩
          have : s.2 = v := Option.some.inj h1
          rw [← this]
    refine ⟨?_, hmem, ?_, ?_, ?_, ?_, ?_, ?_⟩
    · refine List.nodup_append.mpr ⟨ih.nd, by simp, ?_⟩
      rintro x hx y hy rfl
      rw [List.mem_singleton] at hy
      exact hnot (hy ▸ hx)
    · intro a k h1 h2
      by_cases ha : a = nm
      · subst ha
        rw [upR_self, List.length_append, List.length_singleton] at h2
        by_cases hk : k + 1 ≤ (R a).length
        · exact (ih.pb a k h1 hk).app _
        · have : k = (R a).length := by omega
          subst this
          exact .last ((ih.mem _).mpr ⟨h1, Nat.le_refl _⟩)
      · rw [upR_ne R ev ha] at h2
        exact (ih.pb a k h1 h2).app _
    · -- counts
      intro a b
      rw [sends_up, cnt_up, List.length_append]
      have h0 := ih.cl a b
      by_cases hc : b = nm ∧ ev.isRcv a = true
      · rw [if_pos hc]
        obtain ⟨rfl, hc⟩ := hc
        obtain ⟨t, x, v, rfl⟩ := isRcv_iff.mp hc
        obtain ⟨s, hs⟩ := hnew t a x v rfl
        have := (List.getElem?_eq_some_iff.mp hs).1
        omega
      · rw [if_neg hc]
        omega
    · -- the queues
      intro a b
      rw [sends_up, cnt_up]
      cases st with
      | @snd q v hq hne hv =>
        rw [if_neg (fun z => by cases z.2), Nat.add_zero]
        show (if a = nm ∧ b = q then Qu a b ++ [v] else Qu a b) = _
        by_cases ha : a = nm
        · subst ha
          by_cases hb : b = q
          · subst hb
            rw [if_pos ⟨rfl, rfl⟩, if_pos rfl, ih.qu, List.map_append, List.drop_append_of_le_length (by rw [List.length_map]; exact ih.cl a b)]
            simp [Ev.toSnd]
          · have e : Ev.toSnd b (.snd q v) = none := by
              have hqb : ¬ q = b := fun z => hb z.symm
              simp [Ev.toSnd, hqb]
            rw [if_neg (fun z => hb z.2), if_pos rfl, e, List.append_nil]
            exact ih.qu a b
        · rw [if_neg (fun z => ha z.1), if_neg ha, List.append_nil]
          exact ih.qu a b
      | @rcv t o x v r ho hx hq =>
        have e : (if a = nm then (match Ev.toSnd b (.rcv t o x v) with | some v => [((R a).length + 1, v)] | none => []) else []) = [] := by
          split <;> rfl
        rw [e, List.append_nil]
        show (if a = o ∧ b = nm then r else Qu a b) = _
        by_cases hb : b = nm ∧ a = o
        · obtain ⟨rfl, rfl⟩ := hb
          rw [if_pos ⟨rfl, rfl⟩, if_pos ⟨rfl, by simp [Ev.isRcv]⟩]
          exact (qu_take (ih.qu a b) hq).2
        · rw [if_neg (fun z => hb ⟨z.2, z.1⟩), if_neg (fun z => hb ⟨z.1, by have := z.2; simp [Ev.isRcv] at this; exact this.symm⟩), Nat.add_zero]
          exact ih.qu a b
      | chk =>
        rw [if_neg (fun z => by cases z.2), Nat.add_zero, show (if a = nm then (match Ev.toSnd b .chk with | some v => [((R a).length + 1, v)] | none => []) else []) = [] by split <;> rfl, List.append_nil]
        exact ih.qu a b
      | set hx hv =>
        rw [if_neg (fun z => by cases z.2), Nat.add_zero, show (if a = nm then (match Ev.toSnd b (.set _ _) with | some v => [((R a).length + 1, v)] | none => []) else []) = [] by split <;> rfl, List.append_nil]
        exact ih.qu a b
      | inp hx hv =>
        rw [if_neg (fun z => by cases z.2), Nat.add_zero, show (if a = nm then (match Ev.toSnd b (.inp _ _) with | some v => [((R a).length + 1, v)] | none => []) else []) = [] by split <;> rfl, List.append_nil]
        exact ih.qu a b
    · -- the mates
      intro b k t o x v hk
      have lift : ∀ {s : Nat} {c : Nat}, (sendsTo (R o) b)[c]? = some (s, v) → (sendsTo (upR R nm ev o) b)[c]? = some (s, v) := by
        intro s c h
        rw [sends_up]
        exact get_app h _
      by_cases hb : k < (R b).length
      · obtain ⟨r, hr⟩ := upR_pre R nm b ev
        rw [hr, List.getElem?_append_left hb] at hk
        obtain ⟨s, h1, h2⟩ := ih.mt b k t o x v hk
        refine ⟨s, ?_, h2.app _⟩
        rw [hr, List.take_append_of_le_length (by omega)]
        exact lift h1
      · have hbn : b = nm := by
          apply Classical.byContradiction
          intro hn
          rw [upR_ne R ev hn] at hk
          exact hb (List.getElem?_eq_some_iff.mp hk).1
        subst hbn
        rw [upR_self] at hk
        have hkl : k = (R b).length := by
          have := (List.getElem?_eq_some_iff.mp hk).1
          rw [List.length_append, List.length_singleton] at this
          omega
        subst hkl
        rw [List.getElem?_append_right (Nat.le_refl _), Nat.sub_self] at hk
        have he : ev = .rcv t o x v := Option.some.inj hk
        obtain ⟨s, hs⟩ := hnew t o x v he
        refine ⟨s, ?_, .last ?_⟩
        · rw [upR_self, List.take_append_of_le_length (Nat.le_refl _), List.take_length]
          exact lift hs
        · have := sendsTo_mem (List.mem_of_getElem? hs)
          exact (ih.mem _).mpr ⟨this.1, this.2.1⟩
    · -- the events
      intro a ha e he
      have hev : EvOk ns nm ev := by
        cases st with
        | snd hq hne hv => exact .snd hq hne hv
        | rcv ho hx hq =>
          obtain ⟨s, hs⟩ := hnew _ _ _ _ rfl
          have h1 := sendsTo_mem (List.mem_of_getElem? hs)
          have h2 := ih.ev _ ho _ (List.mem_of_getElem? h1.2.2)
          cases h2 with
          | snd q1 q2 q3 => exact .rcv ho (fun z => q2 z.symm) (nameB_xy hx) q3
        | chk => exact .chk
        | set hx hv => exact .set (nameB_xy hx) hv
        | inp hx hv => exact .inp (nameB_xy hx) hv
      by_cases h : a = nm
      · subst h
        rw [upR_self, List.mem_append, List.mem_singleton] at he
        rcases he with he | he
        · exact ih.ev a ha e he
        · exact he ▸ hev
      · rw [upR_ne R ev h] at he
        exact ih.ev a ha e he
    · intro a ha
      rw [upR_ne R ev (fun z : a = nm => ha (z ▸ hm))]
      exact ih.out a ha
theorem Run.good {ns : List Str} {R : Rec} {Qu : Qs} {ord : List Id} (h : Run ns R Qu ord) (nd : ns.Nodup) (n2 : 2 ≤ ns.length) (n4 : ns.length ≤ 4) (hnm : ∀ a ∈ ns, nameB a = true) (hl : ord.length ≤ 900) : Good ns R :=
  ⟨nd, n2, n4, hnm, fun a => Nat.le_trans (h.len a) hl, h.inv.ev, h.inv.out, fun b k t o x v hk => let ⟨s, h1, _⟩ := h.inv.mt b k t o x v hk; ⟨s, h1⟩⟩
theorem mate_some {R : Rec} {b : Str} {k : Nat} {m : Id × Int} (h : mate R b k = some m) : ∃ t o x v, (R b)[k]? = some (.rcv t o x v) ∧ ∃ s, (sendsTo (R o) b)[cntR ((R b).take k) o]? = some s ∧ m = ((o, s.1), s.2) := by
  unfold mate at h
  cases hk : (R b)[k]? with
  | none => rw [hk] at h; cases h
  | some e =>
    rw [hk] at h
    cases e with
    | rcv t o x v =>
      simp only at h
      cases hs : (sendsTo (R o) b)[cntR ((R b).take k) o]? with
      | none => rw [hs] at h; cases h
      | some s =>
        rw [hs] at h
        exact ⟨t, o, x, v, rfl, s, hs, (Option.some.inj h).symm⟩
    | _ => cases h
theorem msgs_arr (ns : List Str) (R : Rec) : Arr R (msgsOf ns R) := by
  intro p hp
  obtain ⟨b, hb, k, v, h1, h2, h3⟩ := mem_msgs.mp hp
  obtain ⟨t, o, x, v', h4, s, h5, h6⟩ := mate_some h2
  have h7 := sendsTo_mem (List.mem_of_getElem? h5)
  have h8 : p.1 = (o, s.1) := congrArg Prod.fst h6
  rw [h8, h3]
  exact ⟨⟨h7.1, h7.2.1⟩, ⟨by simp, h1⟩⟩
theorem Run.lin {ns : List Str} {R : Rec} {Qu : Qs} {ord : List Id} (h : Run ns R Qu ord) : Lin R (Stp R (msgsOf ns R)) ord := by
  refine ⟨h.inv.nd, h.inv.mem, fun x y st => ?_⟩
  rcases st with ⟨h1, h2, h3, h4⟩ | st
  · obtain ⟨a, k⟩ := x
    obtain ⟨b, j⟩ := y
    simp only at h1 h2 h3 h4
    subst h1
    subst h2
    exact h.inv.pb a k h3 h4
  · obtain ⟨b, hb, k, v, h1, h2, h3⟩ := mem_msgs.mp st
    obtain ⟨t, o, z, v', h4, s, h5, h6⟩ := mate_some h2
    obtain ⟨s', h7, h8⟩ := h.inv.mt b k t o z v' h4
    rw [h5] at h7
    have h9 : x = (o, s') := by
      have : x = (o, s.1) := congrArg Prod.fst h6
      rw [this, Option.some.inj h7]
    have h10 : y = (b, k + 1) := h3
    rw [h9, h10]
    exact h8
end Rr

set_option Elab.async false
set_option linter.all false
set_option maxRecDepth 100000
set_option maxHeartbeats 2000000
namespace Rr
open PySem PySem.Spec PyProof.Rows L2 Xr
abbrev Cut := Str → Nat
def bump (C : Cut) (a : Str) : Cut := fun b => if b = a then C b + 1 else C b
theorem bump_self (C : Cut) (a : Str) : bump C a a = C a + 1 := by
  unfold bump
  rw [if_pos rfl]
theorem bump_ne (C : Cut) {a b : Str} (h : b ≠ a) : bump C a b = C b := by
  unfold bump
  rw [if_neg h]
theorem bump_le (C : Cut) (a b : Str) : C b ≤ bump C a b := by
  unfold bump
  split <;> omega
def rdyB (ns : List Str) (R : Rec) (N : Sol) (C : Cut) (a : Str) : Bool := decide (C a + 1 ≤ (R a).length) && ns.all fun b => decide (N (a, C a + 1) b ≤ bump C a b)
theorem rdyB_iff {ns : List Str} {R : Rec} {N : Sol} {C : Cut} {a : Str} : rdyB ns R N C a = true ↔ IsEv R (a, C a + 1) ∧ ∀ b ∈ ns, N (a, C a + 1) b ≤ bump C a b := by
  unfold rdyB IsEv
  rw [Bool.and_eq_true, decide_eq_true_eq, List.all_eq_true]
  simp only [decide_eq_true_eq]
  constructor
  · rintro ⟨h1, h2⟩
    exact ⟨⟨by omega, h1⟩, h2⟩
  · rintro ⟨⟨_, h1⟩, h2⟩
    exact ⟨h1, h2⟩
structure Clo (R : Rec) (N : Sol) (C : Cut) : Prop where
  le : ∀ a, C a ≤ (R a).length
  dn : ∀ e, IsEv R e → e.2 ≤ C e.1 → ∀ b, N e b ≤ C b
theorem clo_zero (R : Rec) (N : Sol) : Clo R N (fun _ => 0) := ⟨fun _ => Nat.zero_le _, fun e h1 h2 => by have := h1.1; omega⟩
theorem clo_bump {ns : List Str} {R : Rec} {ar : List (Id × Id)} {N : Sol} {C : Cut} {a : Str} (g : Good ns R) (n : IsN R ar N) (c : Clo R N C) (h : rdyB ns R N C a = true) : Clo R N (bump C a) := by
  obtain ⟨h1, h2⟩ := rdyB_iff.mp h
  refine ⟨fun b => ?_, fun e he hle b => ?_⟩
  · by_cases hb : b = a
    · rw [hb, bump_self]
      exact h1.2
    · rw [bump_ne C hb]
      exact c.le b
  · by_cases hb : b ∈ ns
    · by_cases hle2 : e.2 ≤ C e.1
      · exact Nat.le_trans (c.dn e he hle2 b) (bump_le C a b)
      · have hea : e.1 = a := by
          apply Classical.byContradiction
          intro hn
          rw [bump_ne C hn] at hle
          exact hle2 hle
        have he2 : e = (a, C a + 1) := by
          obtain ⟨x, k⟩ := e
          simp only at hea
          subst hea
          rw [bump_self] at hle
          simp only at hle hle2
          have : k = C x + 1 := by omega
          rw [this]
        rw [he2]
        exact h2 b hb
    · rw [n.snd.zero g he hb]
      exact Nat.zero_le _
theorem live {ns : List Str} {R : Rec} {ar : List (Id × Id)} {N : Sol} {C : Cut} {ord : List Id} (g : Good ns R) (hA : Arr R ar) (l : Lin R (Stp R ar) ord) (n : IsN R ar N) (c : Clo R N C) {a0 : Str} (h0 : C a0 < (R a0).length) : ∃ a ∈ ns, rdyB ns R N C a = true := by
  have hex : ∃ j : Nat, ∃ e, ord[j]? = some e ∧ ¬ e.2 ≤ C e.1 := by
    have he : IsEv R (a0, C a0 + 1) := ⟨by simp, h0⟩
    obtain ⟨j, hj⟩ := List.mem_iff_getElem?.mp ((l.mem _).mpr he)
    exact ⟨j, _, hj, by simp⟩
  have hmin : ∃ j : Nat, (∃ e, ord[j]? = some e ∧ ¬ e.2 ≤ C e.1) ∧ ∀ i, i < j → ∀ e, ord[i]? = some e → e.2 ≤ C e.1 := by
    obtain ⟨j, hj⟩ := hex
    induction j using Nat.strongRecOn with
    | ind j ih =>
      by_cases h : ∃ i, i < j ∧ ∃ e, ord[i]? = some e ∧ ¬ e.2 ≤ C e.1
      · obtain ⟨i, h1, h2⟩ := h
        exact ih i h1 h2
      · refine ⟨j, hj, fun i hi e he => ?_⟩
        apply Classical.byContradiction
        intro hn
        exact h ⟨i, hi, e, he, hn⟩
  obtain ⟨j, ⟨e, hj, hne⟩, hpre⟩ := hmin
  have hev : IsEv R e := (l.mem e).mp (List.mem_of_getElem? hj)
  have hpred : ∀ x, Stp R ar x e → x.2 ≤ C x.1 := by
    intro x st
    obtain ⟨i, j', h1, h2, h3⟩ := l.bef x e st
    have : j' = j := (List.getElem?_inj (List.getElem?_eq_some_iff.mp h2).1 l.nd).mp (h2.trans hj.symm)
    exact hpre i (by omega) x h1
  have he2 : e.2 = C e.1 + 1 := by
    apply Classical.byContradiction
    intro hn
    have st : Stp R ar (e.1, e.2 - 1) e := .inl ⟨rfl, by simp; omega, by simp; omega, hev.2⟩
    have := hpred _ st
    simp only at this
    omega
  have hee : e = (e.1, C e.1 + 1) := by rw [← he2]
  refine ⟨e.1, g.mem hev, rdyB_iff.mpr ⟨hee ▸ hev, fun b hb => ?_⟩⟩
  rw [← hee]
  rcases n.snd e b hev with h | ⟨h1, h2⟩
  · omega
  · generalize hx : (b, N e b) = x at h1 h2
    cases h2 with
    | refl =>
      have hb1 : b = e.1 := congrArg Prod.fst hx
      have hb2 : N e b = e.2 := congrArg Prod.snd hx
      rw [hb2, hb1, bump_self]
      omega
    | @step y _ r st =>
      have hy := (st.ev hA).1
      have h3 := c.dn y hy (hpred y st) b
      have h4 : x.1 = b := by rw [← hx]
      have h5 : x.2 = N e b := by rw [← hx]
      have h6 : x = (b, N e b) := hx.symm
      have := n.top y b (N e b) hy (h6 ▸ h1) (h6 ▸ r)
      exact Nat.le_trans this (Nat.le_trans h3 (bump_le C _ b))
theorem sum_bump {C : Cut} {a : Str} : ∀ {ns : List Str}, ns.Nodup → a ∈ ns → (ns.map (bump C a)).sum = (ns.map C).sum + 1
  | [], _, h => by cases h
  | x :: r, nd, h => by
    obtain ⟨h1, h2⟩ := List.nodup_cons.mp nd
    simp only [List.map_cons, List.sum_cons]
    by_cases hx : x = a
    · subst hx
      have : r.map (bump C x) = r.map C := List.map_congr_left fun b hb => bump_ne C (fun z => h1 (z ▸ hb))
      rw [this, bump_self]
      omega
    · have hm : a ∈ r := by
        rcases List.mem_cons.mp h with q | q
        · exact (hx q.symm).elim
        · exact q
      rw [sum_bump h2 hm, bump_ne C hx]
      omega
theorem allIds_sum (R : Rec) : ∀ ns : List Str, (allIds ns R).length = (ns.map fun a => (R a).length).sum
  | [] => rfl
  | a :: r => by
    have := allIds_sum R r
    unfold allIds at *
    rw [List.flatMap_cons, List.length_append, List.length_map, List.length_range, this]
    rfl
/-- a cut that is not all of the record -/
theorem open_ex {ns : List Str} {R : Rec} {N : Sol} {C : Cut} (c : Clo R N C) (h : (ns.map C).sum < (allIds ns R).length) : ∃ a ∈ ns, C a < (R a).length := by
  apply Classical.byContradiction
  intro hn
  have : (ns.map fun a => (R a).length).sum ≤ (ns.map C).sum := sum_le fun a ha => by
    apply Classical.byContradiction
    intro hl
    exact hn ⟨a, ha, by omega⟩
  rw [allIds_sum] at h
  omega
theorem full_of {ns : List Str} {R : Rec} {N : Sol} {C : Cut} (g : Good ns R) (c : Clo R N C) (h : (ns.map C).sum = (allIds ns R).length) (a : Str) : C a = (R a).length := by
  by_cases ha : a ∈ ns
  · apply Classical.byContradiction
    intro hn
    have h1 := c.le a
    have : (ns.map C).sum < (ns.map fun a => (R a).length).sum := sum_lt (fun b _ => c.le b) ⟨a, ha, by omega⟩
    rw [allIds_sum] at h
    omega
  · have := c.le a
    rw [g.out a ha] at this ⊢
    simpa using this
/-- the events done so far, in the order of a replay -/
structure Done (R : Rec) (ar : List (Id × Id)) (C : Cut) (fnd : List Id) : Prop where
  nd : fnd.Nodup
  mem : ∀ e, e ∈ fnd ↔ IsEv R e ∧ e.2 ≤ C e.1
  bef : ∀ x y, Stp R ar x y → y ∈ fnd → Bef fnd x y
theorem done_nil (R : Rec) (ar : List (Id × Id)) : Done R ar (fun _ => 0) [] := ⟨List.nodup_nil, fun e => by simp [IsEv]; omega, fun _ _ _ h => by cases h⟩
theorem done_step {ns : List Str} {R : Rec} {ar : List (Id × Id)} {N : Sol} {C : Cut} {fnd ord : List Id} {a : Str} (g : Good ns R) (hA : Arr R ar) (l : Lin R (Stp R ar) ord) (n : IsN R ar N) (d : Done R ar C fnd) (h : rdyB ns R N C a = true) : Done R ar (bump C a) (fnd ++ [(a, C a + 1)]) := by
  obtain ⟨h1, h2⟩ := rdyB_iff.mp h
  refine ⟨?_, fun e => ?_, fun x y st hy => ?_⟩
  · refine List.nodup_append.mpr ⟨d.nd, by simp, ?_⟩
    rintro x hx y hy rfl
    rw [List.mem_singleton] at hy
    subst hy
    have := ((d.mem _).mp hx).2
    simp only at this
    omega
  · rw [List.mem_append, List.mem_singleton, d.mem]
    obtain ⟨b, k⟩ := e
    by_cases hb : b = a
    · subst hb
      rw [bump_self]
      simp only [Prod.mk.injEq, true_and]
      constructor
      · rintro (⟨q1, q2⟩ | q)
        · exact ⟨q1, by omega⟩
        · subst q
          exact ⟨h1, Nat.le_refl _⟩
      · rintro ⟨q1, q2⟩
        by_cases hk : k ≤ C b
        · exact .inl ⟨q1, hk⟩
        · exact .inr (by omega)
    · rw [bump_ne C hb]
      simp [hb]
  · rcases List.mem_append.mp hy with hy | hy
    · exact (d.bef x y st hy).app _
    · rw [List.mem_singleton] at hy
      subst hy
      refine .last ((d.mem x).mpr ⟨(st.ev hA).1, ?_⟩)
      have hx := (st.ev hA).1
      have h3 := n.top _ x.1 x.2 h1 hx (.one st)
      have h4 := Nat.le_trans h3 (h2 x.1 (g.mem hx))
      by_cases hb : x.1 = a
      · rw [hb, bump_self] at h4
        by_cases hk : x.2 = C a + 1
        · exfalso
          have : x = (a, C a + 1) := Prod.ext hb hk
          rw [this] at st
          exact l.irr _ st
        · rw [hb]
          omega
      · rw [bump_ne C hb] at h4
        exact h4
theorem Done.lin {R : Rec} {ar : List (Id × Id)} {C : Cut} {fnd : List Id} (hA : Arr R ar) (d : Done R ar C fnd) (h : ∀ a, C a = (R a).length) : Lin R (Stp R ar) fnd := by
  have hm : ∀ e, e ∈ fnd ↔ IsEv R e := fun e => by
    rw [d.mem, h]
    exact ⟨fun z => z.1, fun z => ⟨z, z.2⟩⟩
  exact ⟨d.nd, hm, fun x y st => d.bef x y st ((hm y).mpr (st.ev hA).2)⟩
theorem done_len {ns : List Str} {R : Rec} {ar : List (Id × Id)} {fnd : List Id} (g : Good ns R) (l : Lin R (Stp R ar) fnd) : fnd.length = (allIds ns R).length := by
  have h1 : fnd.length ≤ (allIds ns R).length := l.nd.length_le_of_subset fun e he => g.allIds.mpr ((l.mem e).mp he)
  have h2 : (allIds ns R).length ≤ fnd.length := (nd_allIds g.nd).length_le_of_subset fun e he => (l.mem e).mpr (g.allIds.mp he)
  omega
/-- waits along the order are kept by it -/
theorem Lin.waits {R : Rec} {ar ws : List (Id × Id)} {ord : List Id} (l : Lin R (Stp R ar) ord) (h : ∀ p ∈ ws, Bef ord p.1 p.2) : Lin R (Stp R (ar ++ ws)) ord := by
  refine ⟨l.nd, l.mem, fun x y st => ?_⟩
  rcases st with st | st
  · exact l.bef x y (.inl st)
  · rcases List.mem_append.mp st with q | q
    · exact l.bef x y (.inr q)
    · exact h _ q
end Rr

set_option Elab.async false
set_option linter.all false
set_option maxRecDepth 100000
set_option maxHeartbeats 2000000
/-! messages: one to one -/
namespace Rr
open PySem PySem.Spec PyProof.Rows L2 Xr
theorem sendsFrom_ge (b : Str) : ∀ (es : List Ev) (k : Nat) (s : Nat × Int), s ∈ sendsFrom b k es → k ≤ s.1 := fun es k s h => by
  obtain ⟨j, h1, _⟩ := sendsFrom_mem b es k s h
  omega
theorem sendsFrom_pw (b : Str) : ∀ (es : List Ev) (k : Nat), (sendsFrom b k es).Pairwise fun s t => s.1 < t.1
  | [], _ => by simp [sendsFrom]
  | e :: r, k => by
    rw [sendsFrom]
    refine List.pairwise_append.mpr ⟨?_, sendsFrom_pw b r (k + 1), ?_⟩
    · cases e.toSnd b <;> simp
    · intro s hs t ht
      have h1 := sendsFrom_ge b r (k + 1) t ht
      cases h : e.toSnd b with
      | none => rw [h] at hs; cases hs
      | some v =>
        rw [h] at hs
        simp only [List.mem_singleton] at hs
        rw [hs]
        show k < t.1
        omega
theorem sendsTo_inj {es : List Ev} {b : Str} {i j s : Nat} {u v : Int} (h1 : (sendsTo es b)[i]? = some (s, u)) (h2 : (sendsTo es b)[j]? = some (s, v)) : i = j := by
  have hp : ∀ (i j : Nat) (hi : i < (sendsTo es b).length) (hj : j < (sendsTo es b).length), i < j → (sendsTo es b)[i].1 < (sendsTo es b)[j].1 := List.pairwise_iff_getElem.mp (sendsFrom_pw b es 1)
  obtain ⟨a1, a2⟩ := List.getElem?_eq_some_iff.mp h1
  obtain ⟨b1, b2⟩ := List.getElem?_eq_some_iff.mp h2
  apply Classical.byContradiction
  intro hn
  rcases Nat.lt_or_gt_of_ne hn with hl | hl
  · have := hp i j a1 b1 hl
    rw [a2, b2] at this
    simp at this
  · have := hp j i b1 a1 hl
    rw [a2, b2] at this
    simp at this
theorem cntR_mono {es : List Ev} {o : Str} {i j : Nat} (h : i ≤ j) : cntR (es.take i) o ≤ cntR (es.take j) o := by
  have : es.take j = es.take i ++ (es.drop i).take (j - i) := by
    rw [← List.take_append_drop i (es.take j), List.take_take, Nat.min_eq_left h, List.drop_take]
  rw [this]
  unfold cntR
  rw [List.filter_append, List.length_append]
  omega
theorem cntR_lt {es : List Ev} {o x : Str} {t : Bool} {v : Int} {i j : Nat} (h : i < j) (hi : es[i]? = some (.rcv t o x v)) : cntR (es.take i) o < cntR (es.take j) o := by
  have h1 : cntR (es.take (i + 1)) o = cntR (es.take i) o + 1 := by
    rw [take_succ' hi, cntR_snoc, if_pos (by simp [Ev.isRcv])]
  have h2 := cntR_mono (es := es) (o := o) (show i + 1 ≤ j from h)
  omega
theorem msg_at {ns : List Str} {R : Rec} (g : Good ns R) {x y : Id} (h : (x, y) ∈ msgsOf ns R) : ∃ b k t o z v s, b ∈ ns ∧ y = (b, k + 1) ∧ x = (o, s) ∧ (R b)[k]? = some (.rcv t o z v) ∧ (sendsTo (R o) b)[cntR ((R b).take k) o]? = some (s, v) ∧ (R o)[s - 1]? = some (.snd b v) ∧ 1 ≤ s ∧ mate R b k = some ((o, s), v) := by
  obtain ⟨b, hb, k, v, h1, h2, h3⟩ := mem_msgs.mp h
  obtain ⟨t, o, z, v', h4, s, h5, h6⟩ := mate_some h2
  have h7 := sendsTo_mem (List.mem_of_getElem? h5)
  have h8 : x = (o, s.1) := congrArg Prod.fst h6
  have h9 : v = s.2 := congrArg Prod.snd h6
  obtain ⟨s', h10⟩ := g.mt b k t o z v' h4
  rw [h5] at h10
  have h11 : s = (s', v') := Option.some.inj h10
  subst h11
  simp only at h9
  subst h9
  exact ⟨b, k, t, o, z, v, s', hb, h3, h8, h4, h5, h7.2.2, h7.1, h6 ▸ h2⟩
theorem msg_fst {ns : List Str} {R : Rec} (g : Good ns R) {x x' y : Id} (h : (x, y) ∈ msgsOf ns R) (h' : (x', y) ∈ msgsOf ns R) : x = x' := by
  obtain ⟨b, k, t, o, z, v, s, _, e1, e2, _, _, _, _, m⟩ := msg_at g h
  obtain ⟨b', k', t', o', z', v', s', _, e1', e2', _, _, _, _, m'⟩ := msg_at g h'
  have : (b, k + 1) = (b', k' + 1) := e1.symm.trans e1'
  simp only [Prod.mk.injEq] at this
  obtain ⟨rfl, hk⟩ := this
  have : k = k' := by omega
  subst this
  rw [m] at m'
  have := Option.some.inj m'
  rw [e2, e2']
  exact congrArg Prod.fst this
theorem msg_snd {ns : List Str} {R : Rec} (g : Good ns R) {x y y' : Id} (h : (x, y) ∈ msgsOf ns R) (h' : (x, y') ∈ msgsOf ns R) : y = y' := by
  obtain ⟨b, k, t, o, z, v, s, _, e1, e2, r, c, sn, _, _⟩ := msg_at g h
  obtain ⟨b', k', t', o', z', v', s', _, e1', e2', r', c', sn', _, _⟩ := msg_at g h'
  have : (o, s) = (o', s') := e2.symm.trans e2'
  simp only [Prod.mk.injEq] at this
  obtain ⟨rfl, rfl⟩ := this
  rw [sn] at sn'
  have := Option.some.inj sn'
  simp only [Ev.snd.injEq] at this
  obtain ⟨rfl, rfl⟩ := this
  have hi := sendsTo_inj c c'
  have : k = k' := by
    apply Classical.byContradiction
    intro hn
    rcases Nat.lt_or_gt_of_ne hn with hl | hl
    · have := cntR_lt hl r
      omega
    · have := cntR_lt hl r'
      omega
  rw [e1, e1', this]
/-- the kind of an event -/
theorem msg_kind {ns : List Str} {R : Rec} (g : Good ns R) {x y : Id} (h : (x, y) ∈ msgsOf ns R) : (∃ b v, (R x.1)[x.2 - 1]? = some (.snd b v)) ∧ ∃ t o z v, (R y.1)[y.2 - 1]? = some (.rcv t o z v) := by
  obtain ⟨b, k, t, o, z, v, s, _, e1, e2, r, c, sn, _, _⟩ := msg_at g h
  rw [e1, e2]
  exact ⟨⟨b, v, sn⟩, t, o, z, v, by simpa using r⟩
theorem msg_ne {ns : List Str} {R : Rec} (g : Good ns R) {x y x' y' : Id} (h : (x, y) ∈ msgsOf ns R) (h' : (x', y') ∈ msgsOf ns R) : x ≠ y' := fun e => by
  obtain ⟨⟨b, v, h1⟩, _⟩ := msg_kind g h
  obtain ⟨_, t, o, z, u, h2⟩ := msg_kind g h'
  rw [← e, h1] at h2
  cases h2
end Rr

set_option Elab.async false
set_option linter.all false
set_option maxRecDepth 100000
set_option maxHeartbeats 2000000
namespace Rr
open PySem PySem.Spec PyProof.Rows L2 Xr
/-- the process can not go on -/
def Stuck (R : Rec) (P : Cut) (a : Str) : Prop := P a = (R a).length ∨ ∃ o s v, mate R a (P a) = some ((o, s), v) ∧ P o < s
theorem exec_done {ns : List Str} {R : Rec} {P : Cut} {ord : List Id} (g : Good ns R) (l : Lin R (Stp R (msgsOf ns R)) ord) (hle : ∀ a, P a ≤ (R a).length) (h : ∀ a ∈ ns, Stuck R P a) (a : Str) : P a = (R a).length := by
  apply Classical.byContradiction
  intro hne
  have hex : ∃ j : Nat, ∃ e, ord[j]? = some e ∧ ¬ e.2 ≤ P e.1 := by
    have he : IsEv R (a, P a + 1) := ⟨by simp, by have := hle a; show P a + 1 ≤ (R a).length; omega⟩
    obtain ⟨j, hj⟩ := List.mem_iff_getElem?.mp ((l.mem _).mpr he)
    exact ⟨j, _, hj, by simp⟩
  have hmin : ∃ j : Nat, (∃ e, ord[j]? = some e ∧ ¬ e.2 ≤ P e.1) ∧ ∀ i, i < j → ∀ e, ord[i]? = some e → e.2 ≤ P e.1 := by
    obtain ⟨j, hj⟩ := hex
    induction j using Nat.strongRecOn with
    | ind j ih =>
      by_cases h : ∃ i, i < j ∧ ∃ e, ord[i]? = some e ∧ ¬ e.2 ≤ P e.1
      · obtain ⟨i, h1, h2⟩ := h
        exact ih i h1 h2
      · refine ⟨j, hj, fun i hi e he => ?_⟩
        apply Classical.byContradiction
        intro hn
        exact h ⟨i, hi, e, he, hn⟩
  obtain ⟨j, ⟨e, hj, hnl⟩, hpre⟩ := hmin
  have hev : IsEv R e := (l.mem e).mp (List.mem_of_getElem? hj)
  have hpred : ∀ x, Stp R (msgsOf ns R) x e → x.2 ≤ P x.1 := by
    intro x st
    obtain ⟨i, j', h1, h2, h3⟩ := l.bef x e st
    have : j' = j := (List.getElem?_inj (List.getElem?_eq_some_iff.mp h2).1 l.nd).mp (h2.trans hj.symm)
    exact hpre i (by omega) x h1
  have he2 : e.2 = P e.1 + 1 := by
    apply Classical.byContradiction
    intro hn
    have st : Stp R (msgsOf ns R) (e.1, e.2 - 1) e := .inl ⟨rfl, by simp; omega, by simp; omega, hev.2⟩
    have := hpred _ st
    simp only at this
    omega
  rcases h e.1 (g.mem hev) with h1 | ⟨o, s, v, h1, h2⟩
  · have := hev.2
    omega
  · have hm : ((o, s), e) ∈ msgsOf ns R := mem_msgs.mpr ⟨e.1, g.mem hev, P e.1, v, by have := hev.2; omega, h1, by rw [← he2]⟩
    have := hpred (o, s) (.inr hm)
    simp only at this
    omega
theorem sum_add {C : Cut} {a : Str} {ns : List Str} (nd : ns.Nodup) (h : a ∈ ns) : (ns.map (bump C a)).sum = (ns.map C).sum + 1 := sum_bump nd h
end Rr

set_option Elab.async false
set_option linter.all false
set_option maxRecDepth 100000
set_option maxHeartbeats 4000000
namespace Rr
open PySem PySem.Spec PyProof.Rows L2 Xr
theorem ixN_at {n i : Nat} (h : i < n) : ixN n (i : Int) = some i := by
  unfold ixN
  rw [if_pos (by omega)]
  simp [h]
def numsC (ns : List Str) (C : Cut) : List V := ns.map fun b => V.int (C b : Nat)
theorem nums_get {ns : List Str} {C : Cut} {i : Nat} {a : Str} (h : ns[i]? = some a) : (numsC ns C)[i]? = some (.int (C a : Nat)) := by
  unfold numsC
  rw [List.getElem?_map, h]
  rfl
theorem nums_len (ns : List Str) (C : Cut) : (numsC ns C).length = ns.length := by simp [numsC]
theorem set_bump {ns : List Str} (nd : ns.Nodup) {C : Cut} {i : Nat} {a : Str} (h : ns[i]? = some a) : (numsC ns C).set i (.int ((C a : Nat) + 1)) = numsC ns (bump C a) := by
  unfold numsC
  refine List.ext_getElem? fun j => ?_
  rw [List.getElem?_set]
  have hi : i < ns.length := (List.getElem?_eq_some_iff.mp h).1
  by_cases hj : i = j
  · subst hj
    rw [if_pos rfl, if_pos (by rw [List.length_map]; exact hi), List.getElem?_map, h, Option.map_some, bump_self]
    rfl
  · rw [if_neg hj, List.getElem?_map, List.getElem?_map]
    cases hb : ns[j]? with
    | none => rfl
    | some b =>
      have : b ≠ a := fun q => hj ((List.getElem?_inj hi nd).mp (h.trans (q ▸ hb.symm)))
      rw [Option.map_some, Option.map_some, bump_ne C this]
theorem bl_map {ns : List Str} (p : Str → Bool) : (ns.map fun b => V.bl (p b)) = (ns.map p).map V.bl := by rw [List.map_map] <;> rfl
theorem all_map {ns : List Str} (p : Str → Bool) : (ns.map p).all id = ns.all p := by
  rw [List.all_map]
  rfl
theorem filter_take {ns : List Str} {p : Str → Bool} {i : Nat} {a : Str} (h : ns[i]? = some a) : (ns.take (i + 1)).filter p = (ns.take i).filter p ++ (if p a = true then [a] else []) := by
  rw [take_succ' h, List.filter_append, List.filter_cons]
  rfl
section
variable {P : Program} {w : World} {K : PySem.W.Frag} {mg : Str → Option Value} {base : Heap}
/-! ### _law_open -/
abbrev N_w_open : List Str := ["_law_rows_here", "_law_needs_here", "_law_cut", "_law_found", "_law_at", "_law_due", "_law_more", "_law_low", "_law_high"]
theorem sc_w_open : FnScope N_w_open ["_law_rows_here", "_law_needs_here", "_law_cut"] (defScope s_w_open) := ⟨rfl, rfl, rfl, by decide +kernel, rfl, by decide +kernel, by decide +kernel⟩
def sp_open : Sp := fun vs H Q _ => ∃ (L d c : Addr) (ns : List Str) (R : Rec) (N : Sol) (C : Cut), vs = [.ref L, .ref d, .ref c] ∧ Good ns R ∧ LRows H L (rowsOf ns R) ∧ TB (NumL ns N) H d (allIds ns R) ∧ (H c = some (.lst (numsC ns C)) ∨ H c = some (.tup (numsC ns C))) ∧
  ∀ (l : Addr) H', H l = none → H' l = some (.lst ((ns.filter (rdyB ns R N C)).map V.str)) → Same H H' → Q (.ref l) H'
theorem ok_open (T : Txt K mg) {f : Addr} {fd : FuncData} (F : FunD K "_law_open" "_law_open" (defArgs s_w_open) (defBody s_w_open) (defScope s_w_open) [] [] f fd) : FnOk P w K mg base CX0 1 f fd ["_law_rows_here", "_law_needs_here", "_law_cut"] sp_open := by
  refine ok0 F sc_w_open (fun vs H Q E h => ?_) (fun cdv A outer s H vs Q E hr h => ?_)
  · obtain ⟨L, d, c, ns, R, N, C, rfl, _⟩ := h
    rfl
  · obtain ⟨L, d, c, ns, R, N, C, rfl, g, ⟨xs, hL, hxs⟩, TN, hc, k⟩ := h
    have hu := hu_of hr
    refine ⟨_, (pss_cons (ps_set (i := 3) sc_w_open.nd rfl (Or.inl rfl) (pe_lst pa_nil))
      (pss_cons (ps_for PassesOwn.never rfl (pi_range1 (by rfl) T.z_range (pa_cons (pe_callB (q_len K rfl) (by rfl) T.z_len (by decide +kernel) (pa_cons (pv 0) pa_nil)) pa_nil)) (pg_name (i := 4) sc_w_open.nd rfl (Or.inl rfl))
        (pss_cons (ps_set (i := 5) sc_w_open.nd rfl (Or.inl rfl) (pe_dget1 hu (pv 1) (pe_tup (pa_cons (pe_ix (q_ixt K rfl) (pe_ix (q_ixl K rfl) (pv 0) (pv 4) (fun _ _ => rfl)) pe_int (fun _ _ => rfl)) (pa_cons (pe_op op_add (pe_ix (q_ixQ K rfl) (pv 2) (pv 4) (fun _ _ => rfl)) pe_int) pa_nil))) ⟨by rfl, by rfl, by rfl, by rfl⟩))
        (pss_cons (ps_set (i := 6) sc_w_open.nd rfl (Or.inl rfl) (pe_callTy (q_list K rfl) (by rfl) T.z_list (by decide +kernel) (pa_cons (pv 2) pa_nil)))
        (pss_cons (ps_asg (pe_op op_add (pe_ix (q_ixQ K rfl) (pv 2) (pv 4) (fun _ _ => rfl)) pe_int) (pg_sub (pv 6) (pv 4) set_list))
        (pss_one (ps_if (pt_cmp (pc_notN (pv 5)))
          (pss_one (ps_if (pt_val (pe_callB (q_all K rfl rfl) (by rfl) T.z_all (by decide +kernel) (pa_cons (pe_lc (own := [("_law_low", 7), ("_law_high", 8)]) (by rfl) sc_w_open.nd (q_zip K rfl .l .l (by rfl) T.z_zip (pa_cons (pv 5) (pa_cons (pv 6) pa_nil))) (blkOk_by (N := N_w_open) (sc := defScope s_w_open) (by decide +kernel)) (fun _ _ _ _ _ => (q_tup (n := 2) K rfl rfl (pgs_cons (pg_name (i := 7) sc_w_open.nd rfl (Or.inl rfl)) (pgs_cons (pg_name (i := 8) sc_w_open.nd rfl (Or.inl rfl)) pgs_nil)))) (fun _ _ _ _ _ => pts_nil) (fun _ _ _ _ _ => (pe_cmpR op_le (pv 7) (pv 8) (nomark _)))) pa_nil)))
            (pss_one (ps_expr (q_bm K rfl PySem.F.plainAttrs_list PySem.F.slot_list_append PySem.F.type_list_append mt_append (pv 3) (pa_cons (pe_ix (q_ixt K rfl) (pe_ix (q_ixl K rfl) (pv 0) (pv 4) (fun _ _ => rfl)) pe_int (fun _ _ => rfl)) pa_nil))))
            pss_nil))
          pss_nil))))))
      (pss_one (ps_ret (pv 3))))), ?_⟩
    have nlen : xs.length = ns.length := by rw [plen hxs, rows_len]
    have n4 := g.n4
    refine ⟨s0, fun fl hfl => ?_⟩
    have e0 : Same H (upd H fl (.lst [])) := same_new hfl
    refine ⟨_, rfl, _, _, rfl, .inl ⟨_, sq (e0 _ _ hL), rfl⟩, _, rfl, by omega, by omega, ?_⟩
    refine for_range (lo := 0) (n := ((xs.length : Nat) : Int).toNat) (fun i σ' H1 => ∃ (v4 v5 v6 : Option V), σ' = [some (.ref L), some (.ref d), some (.ref c), some (.ref fl), v4, v5, v6, none, none] ∧ Same H H1 ∧ H1 fl = some (.lst (((ns.take i).filter (rdyB ns R N C)).map V.str)))
      ⟨none, none, none, rfl, e0, upd_same⟩ ?_ ?_
    · rintro i σ' H1 hi ⟨v4, v5, v6, rfl, e1, hf1⟩
      have hin : i < ns.length := by omega
      have hix : i < xs.length := by omega
      obtain ⟨a, t, y, z, es, hna, hxt, ht, rfl, hz, hes⟩ := row_at hxs (List.getElem?_eq_getElem hix)
      have hxi : xs[i]? = some (.ref t) := by rw [List.getElem?_eq_getElem hix, hxt]
      have hL1 := e1 _ _ hL
      have hc1 := hc.imp (e1 _ _) (e1 _ _)
      have ht1 := e1 _ _ ht
      have T1 : TB (NumL ns N) H1 d (allIds ns R) := TN.imp (fun _ h => e1 _ _ h) fun v e _ h => h.ls (Ls.of e1)
      have hcl : (numsC ns C).length = ns.length := nums_len ns C
      refine ⟨_, rfl, d, rfl, T1.isD, _, rfl, _, rfl, L, _, i, .ref t, rfl, by simp, sq hL1, atI_nat hxi, t, _, 0, .str a, rfl, rfl, sqt ht1, atI_nat (j := 0) rfl, _, rfl, _, rfl, c, _, i, .int (C a : Nat), rfl, by simp, hc1.imp sq sqt, atI_nat (nums_get hna), (C a : Nat), 1, rfl, rfl, s2, fun tp htp => ?_⟩
      have e2 : Same H1 (upd H1 tp (.tup [.str a, .int ((C a : Nat) + 1)])) := same_new htp
      have htp2 : (upd H1 tp (.tup [.str a, .int ((C a : Nat) + 1)])) tp = some (.tup (idVs (a, C a + 1))) := by rw [upd_same] <;> rfl
      generalize upd H1 tp (.tup [.str a, .int ((C a : Nat) + 1)]) = H2 at e2 htp2
      have T2 : TB (NumL ns N) H2 d (allIds ns R) := T1.imp (fun _ h => e2 _ _ h) fun v e _ h => h.ls (Ls.of e2)
      have hc2 := hc1.imp (e2 _ _) (e2 _ _)
      have hf2 := e2 _ _ hf1
      have e02 := e1.trans e2
      have hdue : ∃ o, DGet H2 d (.ref tp) o ∧ ((o.getD .non = .non ∧ ¬ IsEv R (a, C a + 1)) ∨ (∃ l, o.getD .non = .ref l ∧ H2 l = some (.lst (numsC ns (N (a, C a + 1)))) ∧ IsEv R (a, C a + 1))) := by
        by_cases he : IsEv R (a, C a + 1)
        · obtain ⟨v, ⟨l, rfl, hl⟩, gd⟩ := T2.get (g.allIds.mpr he)
          exact ⟨_, gd _ htp2, .inr ⟨l, rfl, hl, he⟩⟩
        · exact ⟨_, T2.miss (fun q => he (g.allIds.mp q)) _ htp2, .inl ⟨rfl, he⟩⟩
      obtain ⟨o, gd, hdue⟩ := hdue
      refine ⟨o, gd, ?_⟩
      generalize o.getD .non = due at hdue
      -- more
      refine ⟨_, rfl, c, _, rfl, hc2.imp sq sqt, fun mo hmo => ?_⟩
      have nmc : mo ≠ c := hc2.elim (fun h => (ne_of_none h hmo).symm) (fun h => (ne_of_none h hmo).symm)
      have e3 : Same H2 (upd H2 mo (.lst (numsC ns C))) := same_new hmo
      refine ⟨_, rfl, _, rfl, c, _, i, .int (C a : Nat), rfl, by simp, (hc2.imp (e3 _ _) (e3 _ _)).imp sq sqt, atI_nat (nums_get hna), (C a : Nat), 1, rfl, rfl, _, rfl, _, rfl, mo, _, i, i, rfl, by simp, upd_same, ixN_at (by rw [hcl]; omega), ?_⟩
      rw [set_bump g.nd hna]
      have e4 : Same H2 (upd (upd H2 mo (.lst (numsC ns C))) mo (.lst (numsC ns (bump C a)))) := same_mut e3 hmo
      have hmo4 : (upd (upd H2 mo (.lst (numsC ns C))) mo (.lst (numsC ns (bump C a)))) mo = _ := upd_same
      generalize upd (upd H2 mo (.lst (numsC ns C))) mo (.lst (numsC ns (bump C a))) = H4 at e4 hmo4
      have hf4 := e4 _ _ hf2
      have e04 := e02.trans e4
      refine ⟨_, rfl, _, rfl, ?_⟩
      rcases hdue with ⟨rfl, hne⟩ | ⟨l, rfl, hl, hev⟩
      · refine iteF ⟨_, _, _, rfl, e04, ?_⟩
        have : rdyB ns R N C a = false := by
          apply Bool.eq_false_iff.mpr
          intro h
          exact hne (rdyB_iff.mp h).1
        rw [filter_take hna, this]
        simpa using hf4
      · refine iteT ?_
        have hl4 := e4 _ _ hl
        refine ⟨_, rfl, _, rfl, l, mo, _, _, rfl, sq hl4, sq hmo4, fun D hD => lc_pure (walk_zipA2 (k1 := .l) (k2 := .l) (a := l) (b := mo) (xs := numsC ns (N (a, C a + 1))) (ys := numsC ns (bump C a)) rfl) hD ns (by rw [nums_len, nums_len]; simp) (by rw [nums_len, nums_len]; simp; omega) (fun b v _ => v = .bl (decide (N (a, C a + 1) b ≤ bump C a b))) (fun _ _ _ _ _ z => z) (fun _ => true) (fun H' e => ⟨sq (e _ _ hl4), sq (e _ _ hmo4)⟩) (fun _ _ _ _ y => ypair_same y) ?_ ?_⟩
        · rintro j b x H6 H5 kk hb e ⟨T', x1, y1, rfl, hT, rfl, hx1, hy1⟩ htk hf
          cases (nums_get (C := N (a, C a + 1)) hb).symm.trans hx1
          cases (nums_get (C := bump C a) hb).symm.trans hy1
          refine ⟨T', _, rfl, sqt upd_same, rfl, _, _, rfl, _, _, rfl, rfl, ?_⟩
          refine ⟨rfl, _, rfl, _, rfl, _, _, rfl, rfl, htk _ _ (Same.refl _) rfl ?_⟩
          show V.bl _ = V.bl _
          congr 1
          exact decide_eq_decide.mpr (by omega)
        · intro ys H5 e5 hD5 hys
          rw [List.filter_eq_self.mpr (fun _ _ => rfl)] at hys
          have ez := plist hys
          subst ez
          refine ⟨D, _, rfl, sq (by rw [hD5, bl_map]), _, rfl, ?_⟩
          rw [all_map]
          have hf5 := e5 _ _ hf4
          have e05 := e04.trans e5
          have hrd : rdyB ns R N C a = ns.all fun b => decide (N (a, C a + 1) b ≤ bump C a b) := by
            unfold rdyB
            rw [decide_eq_true hev.2, Bool.true_and]
          rw [← hrd]
          cases hb : rdyB ns R N C a with
          | false =>
            refine iteF ⟨_, _, _, rfl, e05, ?_⟩
            rw [filter_take hna, hb]
            simpa using hf5
          | true =>
            refine iteT ?_
            have hL5 := e05 _ _ hL
            have ht5 := e05 _ _ ht
            refine ⟨_, rfl, tyl hf5, _, rfl, _, rfl, L, _, i, .ref t, rfl, by simp, sq hL5, atI_nat hxi, t, _, 0, .str a, rfl, rfl, sqt ht5, atI_nat (j := 0) rfl, fl, _, .str a, rfl, rfl, hf5, szl ?_, ?_⟩
            · have := List.length_filter_le (rdyB ns R N C) (ns.take i)
              rw [List.length_take] at this
              rw [List.length_map]
              omega
            · refine ⟨_, _, _, rfl, same_mut e05 hfl, ?_⟩
              rw [upd_same, filter_take hna, hb, List.map_append]
              rfl
    · rintro σ' H1 ⟨v4, v5, v6, rfl, e1, hf1⟩
      have : ((xs.length : Nat) : Int).toNat = ns.length := by omega
      rw [this, List.take_length] at hf1
      exact ⟨_, rfl, k fl H1 hfl hf1 e1⟩
end
end Rr

set_option Elab.async false
set_option linter.all false
set_option maxRecDepth 100000
set_option maxHeartbeats 4000000
namespace Rr
open PySem PySem.Spec PyProof.Rows L2 Xr
theorem flatStrs : ∀ ns : List Str, (ns.map V.str).all flatV = true
  | [] => rfl
  | n :: r => by
    rw [List.map_cons, List.all_cons, flatStrs r]
    rfl
theorem eqV_str (a b : Str) : eqV (.str a) (.str b) = decide (a = b) := by
  by_cases h : a = b
  · rw [decide_eq_true h, h]
    simp [eqV]
  · rw [decide_eq_false h]
    simp [eqV, h]
theorem strs_get {ns : List Str} {j : Nat} {a : Str} (h : ns[j]? = some a) : (ns.map V.str)[j]? = some (.str a) := by rw [List.getElem?_map, h] <;> rfl
theorem eqV_self (a : Str) : eqV (.str a) (.str a) = true := by rw [eqV_str, decide_eq_true rfl]
theorem ix_no {ns : List Str} {j : Nat} {a : Str} (nd : ns.Nodup) (hj : ns[j]? = some a) : ∀ (m : Nat) (z' : V), m < j → (ns.map V.str)[m]? = some z' → eqV z' (.str a) = false := by
  intro m z hm hz
  rw [List.getElem?_map] at hz
  cases hb : ns[m]? with
  | none => rw [hb] at hz; cases hz
  | some b =>
    rw [hb] at hz
    cases hz
    rw [eqV_str]
    refine decide_eq_false fun e => ?_
    subst e
    have := (List.getElem?_inj (List.getElem?_eq_some_iff.mp hb).1 nd).mp (hb.trans hj.symm)
    omega
theorem rep_zero (n : Nat) : (List.replicate n [V.int 0]).flatten = List.replicate n (V.int 0) := by
  induction n with
  | zero => rfl
  | succ n ih =>
    rw [List.replicate_succ, List.flatten_cons, ih]
    rfl
theorem nums_zero (ns : List Str) : numsC ns (fun _ => 0) = List.replicate ns.length (V.int 0) := by
  unfold numsC
  induction ns with
  | nil => rfl
  | cons a r ih =>
    rw [List.map_cons, ih, List.length_cons, List.replicate_succ]
    rfl
theorem Fr2.trans' {p q : Addr} {H H' : Hp} (f : Fr2 p q H H') {a : Addr} {o : HO} (h : H a = none) : Fr2 p q H (upd H' a o) := fun b u e h1 h2 => by
  rw [upd_ne (ne_of_none e h)]
  exact f b u e h1 h2
theorem StrAt.upd {H : Hp} {p q : Addr} {B : Nat} (s : StrAt H p q B) {a : Addr} {o : HO} (h1 : a ≠ p) (h2 : a ≠ q) : StrAt (L2.upd H a o) p q B := by
  obtain ⟨ns, x, y, z, g1, g2, g3⟩ := s.ex
  exact ⟨ns, x, y, z, by rw [upd_ne h1.symm]; exact g1, by rw [upd_ne h2.symm]; exact g2, g3⟩
section
variable {P : Program} {w : World} {K : PySem.W.Frag} {mg : Str → Option Value} {base : Heap}
/-! ### _law_replayed -/
abbrev N_w_replayed : List Str := ["_law_stream", "_law_rows_here", "_law_needs_here", "_law_names_here", "_law_name", "_law_events", "_law_cut", "_law_found", "_law_turn", "_law_ready", "_law_at"]
theorem sc_w_replayed : FnScope N_w_replayed ["_law_stream", "_law_rows_here", "_law_needs_here"] (defScope s_w_replayed) := ⟨rfl, rfl, rfl, by decide +kernel, rfl, by decide +kernel, by decide +kernel⟩
/-- a list of numbers that is not the stream's -/
def NumQ (p q : Addr) (ns : List Str) (M : Sol) (H : Hp) (v : V) (e : Id) : Prop := ∃ l, v = .ref l ∧ l ≠ p ∧ l ≠ q ∧ H l = some (.lst (ns.map fun a => .int (M e a : Nat)))
def sp_replayed : Sp := fun vs H Q _ => ∃ (p q L d : Addr) (B : Nat) (ns : List Str) (R : Rec) (ar : List (Id × Id)) (N : Sol) (ord : List Id), vs = [.ref p, .ref L, .ref d] ∧ StrAt H p q B ∧ B + 5000 ≤ 1000000 ∧ L ≠ p ∧ L ≠ q ∧ Good ns R ∧ LRows H L (rowsOf ns R) ∧ Arr R ar ∧ Lin R (Stp R ar) ord ∧ IsN R ar N ∧
  TB (NumQ p q ns N) H d (allIds ns R) ∧
  ∀ (l : Addr) H' fnd xs, H l = none → H' l = some (.lst xs) → Paired (IdV H') xs fnd → Lin R (Stp R ar) fnd → fnd.length = (allIds ns R).length → StrAt H' p q (B + 4000) → Fr2 p q H H' → Q (.ref l) H'
theorem ok_replayed (T : Txt K mg) (G_w_draw : Gf P w K mg base 1 "_law_draw" ["_law_stream", "_law_many"] sp_draw) (G_w_open : Gf P w K mg base 1 "_law_open" ["_law_rows_here", "_law_needs_here", "_law_cut"] sp_open) {f : Addr} {fd : FuncData} (F : FunD K "_law_replayed" "_law_replayed" (defArgs s_w_replayed) (defBody s_w_replayed) (defScope s_w_replayed) [] [] f fd) :
    FnOk P w K mg base CX0 2 f fd ["_law_stream", "_law_rows_here", "_law_needs_here"] sp_replayed := by
  refine ok0 F sc_w_replayed (fun vs H Q E h => ?_) (fun cdv A outer s H vs Q E hr h => ?_)
  · obtain ⟨p, q, L, d, B, ns, R, ar, N, ord, rfl, _⟩ := h
    rfl
  · obtain ⟨p, q, L, d, B, ns, R, ar, N, ord, rfl, S, hB, nLp, nLq, g, ⟨xs, hL, hxs⟩, hA, lin, isN, TN, k⟩ := h
    have hu := hu_of hr
    refine ⟨_, (pss_cons (ps_setLc (i := 3) (own := [("_law_name", 4), ("_law_events", 5)]) (by rfl) sc_w_replayed.nd rfl rfl (sw_true rfl rfl rfl (by decide +kernel)) (q_plist K rfl (pv 1)) (blkOk_by (N := N_w_replayed) (sc := defScope s_w_replayed) (by decide +kernel)) (fun _ _ _ _ _ => (q_tup (n := 2) K rfl rfl (pgs_cons (pg_name (i := 4) sc_w_replayed.nd rfl (Or.inl rfl)) (pgs_cons (pg_name (i := 5) sc_w_replayed.nd rfl (Or.inl rfl)) pgs_nil)))) (fun _ _ _ _ _ => pts_nil) (fun _ _ _ _ _ => (pv 4)))
      (pss_cons (ps_set (i := 6) sc_w_replayed.nd rfl (Or.inl rfl) (pe_op op_rep (pe_lst (pa_cons pe_int pa_nil)) (pe_callB (q_len K rfl) (by rfl) T.z_len (by decide +kernel) (pa_cons (pv 1) pa_nil))))
      (pss_cons (ps_set (i := 7) sc_w_replayed.nd rfl (Or.inl rfl) (pe_lst pa_nil))
      (pss_cons (ps_for PassesOwn.never rfl (pi_range1 (by rfl) T.z_range (pa_cons (pe_callB call_len_dT (by rfl) T.z_len (by decide +kernel) (pa_cons (pv 2) pa_nil)) pa_nil)) (pg_name (i := 8) sc_w_replayed.nd rfl (Or.inl rfl))
        (pss_cons (ps_set (i := 9) sc_w_replayed.nd rfl (Or.inl rfl) (pe_call G_w_open.F (G_w_open.room hr) (by rfl) G_w_open.mg G_w_open.kp G_w_open.b .nil pass0 (pa_cons (pv 1) (pa_cons (pv 2) (pa_cons (pv 6) pa_nil)))))
        (pss_cons (ps_set (i := 4) sc_w_replayed.nd rfl (Or.inl rfl) (pe_ix (q_ixl K rfl) (pv 9) (pe_call G_w_draw.F (G_w_draw.room hr) (by rfl) G_w_draw.mg G_w_draw.kp G_w_draw.b .nil pass0 (pa_cons (pv 0) (pa_cons (pe_callB (q_len K rfl) (by rfl) T.z_len (by decide +kernel) (pa_cons (pv 9) pa_nil)) pa_nil))) (fun _ _ => rfl)))
        (pss_cons (ps_set (i := 10) sc_w_replayed.nd rfl (Or.inl rfl) (q_bm K rfl PySem.F.plainAttrs_list PySem.F.slot_list_index PySem.F.type_list_index (q_index K rfl) (pv 3) (pa_cons (pv 4) pa_nil)))
        (pss_cons (ps_asg (pe_op op_add (pe_ix (q_ixl K rfl) (pv 6) (pv 10) (fun _ _ => rfl)) pe_int) (pg_sub (pv 6) (pv 10) set_list))
        (pss_one (ps_expr (q_bm K rfl PySem.F.plainAttrs_list PySem.F.slot_list_append PySem.F.type_list_append mt_append (pv 7) (pa_cons (pe_tup (pa_cons (pv 4) (pa_cons (pe_ix (q_ixl K rfl) (pv 6) (pv 10) (fun _ _ => rfl)) pa_nil))) pa_nil)))))))))
      (pss_one (ps_ret (pv 7))))))), ?_⟩
    have nlen : xs.length = ns.length := by rw [plen hxs, rows_len]
    have nid : (allIds ns R).length ≤ 3600 := Nat.le_trans (allIds_len g.len ns) (Nat.mul_le_mul_right 900 g.n4)
    have n4 := g.n4
    have n2 := g.n2
    -- the names
    refine ⟨_, rfl, L, rfl, ⟨_, sq hL⟩, fun nl hnl => lc_pure (walk_list (K := K) (a := L) (xs := xs)) hnl ns nlen.symm (by omega) (fun b v _ => v = .str b) (fun _ _ _ _ _ z => z) (fun _ => true) (fun H' e => sq (e _ _ hL)) (fun _ _ _ _ y => yat_same y) ?_ ?_⟩
    · rintro i b x H1 H2 kk hb e ⟨rfl, hx⟩ ht hf
      obtain ⟨a, t, y, z, es, hna, rfl, ht', rfl, hz, hes⟩ := row_at hxs hx
      have : a = b := by
        rw [hna] at hb
        exact Option.some.inj hb
      subst this
      exact ⟨t, _, rfl, sqt (e _ _ ht'), rfl, _, _, rfl, _, _, rfl, rfl, rfl, _, rfl, ht _ _ (Same.refl _) rfl rfl⟩
    intro ys H1 e1 hn1 hys
    rw [List.filter_eq_self.mpr (fun _ _ => rfl)] at hys
    have ey := plist hys
    subst ey
    clear hys
    have back : ∀ {H' : Hp} {l : Addr}, Same H H' → H' l = none → H l = none := by
      intro H' l e hl
      cases hh : H l with
      | none => rfl
      | some o => rw [e _ _ hh] at hl; cases hl
    -- cut = [0] * len(rows)
    refine ⟨s1, fun z0 hz0 => ?_⟩
    have e2 : Same H1 (upd H1 z0 (.lst [.int 0])) := same_new hz0
    refine ⟨_, rfl, _, _, rfl, .inl ⟨_, sq (e2 _ _ (e1 _ _ hL)), rfl⟩, z0, _, _, rfl, rfl, upd_same, by omega, by omega, ?_, fun cu hcu => ?_⟩
    · simp
      exact sz (by omega)
    rw [rep_zero]
    have e3 : Same H1 (upd (upd H1 z0 (.lst [.int 0])) cu (.lst (List.replicate ((xs.length : Nat) : Int).toNat (.int 0)))) := e2.trans (same_new hcu)
    have hcuH := back (e1.trans e2) hcu
    have hcu3 : (upd (upd H1 z0 (.lst [.int 0])) cu (.lst (List.replicate ((xs.length : Nat) : Int).toNat (.int 0)))) cu = some (.lst (numsC ns (fun _ => 0))) := by
      rw [upd_same, nums_zero]
      have : ((xs.length : Nat) : Int).toNat = ns.length := by omega
      rw [this]
    have ncn : nl ≠ cu := ne_of_none (e2 _ _ hn1) hcu
    generalize upd (upd H1 z0 (.lst [.int 0])) cu (.lst (List.replicate ((xs.length : Nat) : Int).toNat (.int 0))) = H3 at e3 hcu3
    -- found = []
    refine ⟨s0, fun fo hfo => ?_⟩
    have e03 := e1.trans e3
    have hfoH := back e03 hfo
    have ncf : cu ≠ fo := ne_of_none hcu3 hfo
    have nnf : nl ≠ fo := ne_of_none (e3 _ _ hn1) hfo
    have e4 : Same H (upd H3 fo (.lst [])) := e03.trans (same_new hfo)
    have hcu4 : (upd H3 fo (.lst [])) cu = some (.lst (numsC ns (fun _ => 0))) := (same_new hfo) _ _ hcu3
    have hfo4 : (upd H3 fo (.lst [])) fo = some (.lst []) := upd_same
    have hn4 : (upd H3 fo (.lst [])) nl = some (.lst (ns.map V.str)) := (same_new hfo) _ _ (e3 _ _ hn1)
    generalize upd H3 fo (.lst []) = H4 at e4 hcu4 hfo4 hn4
    clear e3 hcu3 e03 hfo hcu e2 hz0 hn1 e1
    have pcu := S.nep (H' := H) hcuH
    have pfo := S.nep (H' := H) hfoH
    have pnl := S.nep (H' := H) hnl
    obtain ⟨kvs, hkv, hkeys, hvals⟩ := TN.ex
    have hkl : kvs.length = (allIds ns R).length := by
      have := congrArg List.length hkeys
      simpa using this
    have dpq : d ≠ p ∧ d ≠ q := by
      obtain ⟨_, _, _, _, h1, h2, _⟩ := S.ex
      exact ⟨ne_of hkv h1 (fun z => nomatch z), ne_of hkv h2 (fun z => nomatch z)⟩
    refine ⟨_, rfl, d, kvs, rfl, e4 _ _ hkv, _, rfl, by omega, by omega, ?_⟩
    refine for_range (lo := 0) (n := ((kvs.length : Nat) : Int).toNat) (fun i σ' H1 => ∃ (v4 v8 v9 v10 : Option V) (C : Cut) (fnd : List Id) (zs : List V), σ' = [some (.ref p), some (.ref L), some (.ref d), some (.ref nl), v4, none, some (.ref cu), some (.ref fo), v8, v9, v10] ∧ Fr2 p q H H1 ∧ H1 nl = some (.lst (ns.map V.str)) ∧ H1 cu = some (.lst (numsC ns C)) ∧ H1 fo = some (.lst zs) ∧ Paired (IdV H1) zs fnd ∧
        Done R ar C fnd ∧ Clo R N C ∧ (ns.map C).sum = i ∧ fnd.length = i ∧ StrAt H1 p q (B + i))
      ⟨none, none, none, none, _, [], [], rfl, Fr2.of e4, hn4, hcu4, hfo4, .nil, done_nil R ar, clo_zero R N, by simp [List.map_const'], rfl, S.frame e4⟩ ?_ ?_
    · rintro i σ' H5 hi ⟨v4, v8, v9, v10, C, fnd, zs, rfl, f5, hn5, hcu5, hfo5, hzs, dn, clo, hsum, hfl, S5⟩
      have hi' : i < (allIds ns R).length := by omega
      have T5 : TB (NumL ns N) H5 d (allIds ns R) := TN.imp (fun _ h => f5 _ _ h dpq.1 dpq.2) fun v e he h => by
        obtain ⟨l, rfl, h1, h2, hl⟩ := h
        exact ⟨l, rfl, f5 _ _ hl h1 h2⟩
      have ts5 : TupS H H5 := f5.tups S
      have hL5 := f5 _ _ hL nLp nLq
      have hrows5 : LRows H5 L (rowsOf ns R) := ⟨xs, hL5, L2.Paired.mapP hxs fun _ _ z => z.mono ts5⟩
      obtain ⟨a0, ha0, hlt0⟩ := open_ex clo (by rw [hsum]; exact hi')
      obtain ⟨a1, ha1, hr1⟩ := live g hA lin isN clo hlt0
      refine ⟨_, rfl, _, rfl, _, rfl, L, d, cu, ns, R, N, C, rfl, g, hrows5, T5, .inl hcu5, fun rl H6 hrl hrl6 e6 => ?_⟩
      have hpos : 0 < (ns.filter (rdyB ns R N C)).length := List.length_pos_of_mem (List.mem_filter.mpr ⟨ha1, hr1⟩)
      have hle4 := List.length_filter_le (rdyB ns R N C) ns
      refine ⟨_, rfl, _, rfl, _, rfl, _, _, rfl, .inl ⟨_, sq hrl6, rfl⟩, p, q, _, B + i, rfl, S5.frame e6, by omega, by rw [List.length_map]; omega, by rw [List.length_map]; omega, fun r H7 r0 r1 S7 f7 => ?_⟩
      rw [List.length_map] at r1
      have prl := S5.nep (H' := H5) hrl
      obtain ⟨va, hva, hat⟩ := atI_mem (xs := (ns.filter (rdyB ns R N C)).map V.str) r0 (by rw [List.length_map]; omega)
      obtain ⟨a, ha, rfl⟩ := List.mem_map.mp hva
      obtain ⟨ham, har⟩ := List.mem_filter.mp ha
      refine ⟨rl, _, r, _, rfl, rfl, sq (f7 _ _ hrl6 prl.1 prl.2), hat, ?_⟩
      have hn7 := f7 _ _ (e6 _ _ hn5) pnl.1 pnl.2
      have hcu7 := f7 _ _ (e6 _ _ hcu5) pcu.1 pcu.2
      have hfo7 := f7 _ _ (e6 _ _ hfo5) pfo.1 pfo.2
      have ts7 : TupS H5 H7 := tut (stups e6) (f7.tups (S5.frame e6))
      obtain ⟨j, hj⟩ := List.mem_iff_getElem?.mp ham
      have hjn : j < ns.length := (List.getElem?_eq_some_iff.mp hj).1
      refine ⟨_, rfl, tyl hn7, _, rfl, nl, _, .str a, j, .str a, rfl, rfl, sq hn7, rfl, flatStrs ns, strs_get hj, eqV_self a, ix_no g.nd hj, ?_⟩
      refine ⟨_, rfl, _, rfl, cu, _, j, .int (C a : Nat), rfl, rfl, sq hcu7, atI_nat (nums_get hj), (C a : Nat), 1, rfl, rfl, _, rfl, _, rfl, cu, _, j, j, rfl, rfl, hcu7, ixN_at (by rw [nums_len]; exact hjn), ?_⟩
      rw [set_bump g.nd hj]
      have f8 : Fr2 p q H (upd H7 cu (.lst (numsC ns (bump C a)))) := (f5.trans ((Fr2.of e6).trans f7)).trans' hcuH
      have ts8 : TupS H7 (upd H7 cu (.lst (numsC ns (bump C a)))) := tups_mut hcu7 (fun zs z => nomatch z)
      have hcu8 : (upd H7 cu (.lst (numsC ns (bump C a)))) cu = _ := upd_same
      have hfo8 : (upd H7 cu (.lst (numsC ns (bump C a)))) fo = some (.lst zs) := by rw [upd_ne ncf.symm]; exact hfo7
      have hn8 : (upd H7 cu (.lst (numsC ns (bump C a)))) nl = some (.lst (ns.map V.str)) := by rw [upd_ne ncn]; exact hn7
      have S8 : StrAt (upd H7 cu (.lst (numsC ns (bump C a)))) p q (B + i + 1) := S7.upd pcu.1 pcu.2
      generalize upd H7 cu (.lst (numsC ns (bump C a))) = H8 at f8 ts8 hcu8 hfo8 hn8 S8
      have hlenz : zs.length < sizeLine := by rw [plen hzs, hfl]; exact szl (by omega)
      refine ⟨_, rfl, tyl hfo8, _, rfl, _, rfl, _, rfl, cu, _, j, .int (bump C a a : Nat), rfl, rfl, sq hcu8, atI_nat (nums_get hj), s2, fun tp htp => ?_⟩
      have e9 : Same H8 (upd H8 tp (.tup [.str a, .int (bump C a a : Nat)])) := same_new htp
      have htp9 : (upd H8 tp (.tup [.str a, .int (bump C a a : Nat)])) tp = _ := upd_same
      generalize upd H8 tp (.tup [.str a, .int (bump C a a : Nat)]) = H9 at e9 htp9
      refine ⟨fo, zs, .ref tp, rfl, rfl, e9 _ _ hfo8, hlenz, ?_⟩
      have ts10 : TupS H9 (upd H9 fo (.lst (zs ++ [.ref tp]))) := tups_mut (e9 _ _ hfo8) (fun zs z => nomatch z)
      refine ⟨_, _, _, _, bump C a, fnd ++ [(a, C a + 1)], zs ++ [.ref tp], rfl, (f8.trans (Fr2.of e9)).trans' hfoH, ?_, ?_, upd_same, ?_, done_step g hA lin isN dn har, clo_bump g isN clo har, by rw [sum_bump g.nd ham, hsum], by rw [List.length_append, hfl] <;> rfl, (S8.frame e9).upd pfo.1 pfo.2⟩
      · rw [upd_ne nnf]
        exact e9 _ _ hn8
      · rw [upd_ne ncf]
        exact e9 _ _ hcu8
      · refine Paired.snoc (L2.Paired.mapP hzs fun _ _ z => z.mono (tut ts7 (tut ts8 (tut (stups e9) ts10)))) ⟨tp, rfl, ts10 _ _ ?_⟩
        rw [htp9, bump_self]
        rfl
    · rintro σ' H5 ⟨v4, v8, v9, v10, C, fnd, zs, rfl, f5, hn5, hcu5, hfo5, hzs, dn, clo, hsum, hfl, S5⟩
      have hm : ((kvs.length : Nat) : Int).toNat = (allIds ns R).length := by omega
      rw [hm] at hsum hfl S5
      exact ⟨_, rfl, k fo H5 fnd zs hfoH hfo5 hzs (dn.lin hA (full_of g clo hsum)) hfl (S5.mono (by omega)) f5⟩
end
end Rr

set_option Elab.async false
set_option linter.all false
set_option maxRecDepth 100000
set_option maxHeartbeats 4000000
namespace Rr
open PySem PySem.Spec PyProof.Rows L2 Xr
theorem cut_take (xs : List V) (r : Nat) : cutV xs none (some (r : Int)) = xs.take r := by
  unfold cutV
  rw [HT.sIx_none, HT.sIx_nat, List.drop_zero, Nat.sub_zero]
  rcases Nat.le_total r xs.length with h | h
  · rw [Nat.min_eq_left h]
  · rw [Nat.min_eq_right h, List.take_of_length_le (Nat.le_refl _), List.take_of_length_le h]
theorem ptake {α β : Type} {F : α → β → Prop} : ∀ {xs : List α} {ys : List β} (n : Nat), Paired F xs ys → Paired F (xs.take n) (ys.take n)
  | _, _, 0, _ => by simpa using Paired.nil
  | _, _, n + 1, .nil => by simpa using Paired.nil
  | _, _, n + 1, .cons h t => by
    rw [List.take_succ_cons, List.take_succ_cons]
    exact .cons h (ptake n t)
/-- waits that an order keeps -/
structure WaitsOk (R : Rec) (fnd : List Id) (ws : List (Id × Id)) : Prop where
  bef : ∀ p ∈ ws, Bef fnd p.1 p.2
  ne : ∀ p ∈ ws, p.1.1 ≠ p.2.1
theorem WaitsOk.arr {R : Rec} {S : Id → Id → Prop} {fnd : List Id} {ws : List (Id × Id)} (l : Lin R S fnd) (w : WaitsOk R fnd ws) : Arr R ws := fun p hp => by
  obtain ⟨i, j, h1, h2, _⟩ := w.bef p hp
  exact ⟨(l.mem _).mp (List.mem_of_getElem? h1), (l.mem _).mp (List.mem_of_getElem? h2)⟩
section
variable {P : Program} {w : World} {K : PySem.W.Frag} {mg : Str → Option Value} {base : Heap}
/-! ### _law_waits -/
abbrev N_w_waits : List Str := ["_law_stream", "_law_rows_here", "_law_many", "_law_events", "_law_found", "_law_k", "_law_at", "_law_to"]
theorem sc_w_waits : FnScope N_w_waits ["_law_stream", "_law_rows_here", "_law_many"] (defScope s_w_waits) := ⟨rfl, rfl, rfl, by decide +kernel, rfl, by decide +kernel, by decide +kernel⟩
def sp_waits : Sp := fun vs H Q _ => ∃ (p q L : Addr) (B m : Nat) (ns : List Str) (R : Rec) (ord : List Id), vs = [.ref p, .ref L, .int (m : Nat)] ∧ StrAt H p q B ∧ B + 10000 ≤ 1000000 ∧ m ≤ 1000 ∧ L ≠ p ∧ L ≠ q ∧ Good ns R ∧ LRows H L (rowsOf ns R) ∧ Lin R (Stp R (msgsOf ns R)) ord ∧
  ∀ (l : Addr) H' fnd ws, H l = none → LPairs H' l ws → Lin R (Stp R (msgsOf ns R)) fnd → WaitsOk R fnd ws → ws.length ≤ m + 1 → StrAt H' p q (B + 4001 + 2 * m) → Fr2 p q H H' → Q (.ref l) H'
theorem ok_waits (T : Txt K mg) (G_w_draw : Gf P w K mg base 1 "_law_draw" ["_law_stream", "_law_many"] sp_draw) (G_w_messages : Gf P w K mg base 1 "_law_messages" ["_law_rows_here"] sp_messages) (G_w_needs : Gf P w K mg base 1 "_law_needs" ["_law_rows_here", "_law_arrows"] sp_needs) (G_w_replayed : Gf P w K mg base 2 "_law_replayed" ["_law_stream", "_law_rows_here", "_law_needs_here"] sp_replayed)
    {f : Addr} {fd : FuncData} (F : FunD K "_law_waits" "_law_waits" (defArgs s_w_waits) (defBody s_w_waits) (defScope s_w_waits) [] [] f fd) : FnOk P w K mg base CX0 3 f fd ["_law_stream", "_law_rows_here", "_law_many"] sp_waits := by
  refine ok0 F sc_w_waits (fun vs H Q E h => ?_) (fun cdv A outer s H vs Q E hr h => ?_)
  · obtain ⟨p, q, L, B, m, ns, R, ord, rfl, _⟩ := h
    rfl
  · obtain ⟨p, q, L, B, m, ns, R, ord, rfl, S, hB, hm, nLp, nLq, g, ⟨xs, hL, hxs⟩, lin, k⟩ := h
    have hu := hu_of hr
    refine ⟨_, (pss_cons (ps_set (i := 3) sc_w_waits.nd rfl (Or.inl rfl) (pe_call G_w_replayed.F (G_w_replayed.room hr) (by rfl) G_w_replayed.mg G_w_replayed.kp G_w_replayed.b .nil pass0 (pa_cons (pv 0) (pa_cons (pv 1) (pa_cons (pe_call G_w_needs.F (G_w_needs.room hr) (by rfl) G_w_needs.mg G_w_needs.kp G_w_needs.b .nil pass0 (pa_cons (pv 1) (pa_cons (pe_call G_w_messages.F (G_w_messages.room hr) (by rfl) G_w_messages.mg G_w_messages.kp G_w_messages.b .nil pass0 (pa_cons (pv 1) pa_nil)) pa_nil))) pa_nil)))))
      (pss_cons (ps_set (i := 4) sc_w_waits.nd rfl (Or.inl rfl) (pe_lst pa_nil))
      (pss_cons (ps_for PassesOwn.never rfl (pi_range1 (by rfl) T.z_range (pa_cons (pe_op op_mul (pv 2) (pe_callTy call_int1 (by rfl) T.z_int (by decide +kernel) (pa_cons (pe_cmpR op_gt (pe_callB (q_len K rfl) (by rfl) T.z_len (by decide +kernel) (pa_cons (pv 3) pa_nil)) pe_int (nomark _)) pa_nil))) pa_nil)) (pg_name (i := 5) sc_w_waits.nd rfl (Or.inl rfl))
        (pss_cons (ps_set (i := 6) sc_w_waits.nd rfl (Or.inl rfl) (pe_call G_w_draw.F (G_w_draw.room hr) (by rfl) G_w_draw.mg G_w_draw.kp G_w_draw.b .nil pass0 (pa_cons (pv 0) (pa_cons (pe_op op_sub (pe_callB (q_len K rfl) (by rfl) T.z_len (by decide +kernel) (pa_cons (pv 3) pa_nil)) pe_int) pa_nil))))
        (pss_cons (ps_set (i := 7) sc_w_waits.nd rfl (Or.inl rfl) (pe_op op_add (pe_op op_add (pv 6) pe_int) (pe_call G_w_draw.F (G_w_draw.room hr) (by rfl) G_w_draw.mg G_w_draw.kp G_w_draw.b .nil pass0 (pa_cons (pv 0) (pa_cons (pe_op op_sub (pe_op op_sub (pe_callB (q_len K rfl) (by rfl) T.z_len (by decide +kernel) (pa_cons (pv 3) pa_nil)) pe_int) (pv 6)) pa_nil)))))
        (pss_one (ps_if (pt_cmpR op_ne (pe_ix (q_ixt K rfl) (pe_ix (q_ixl K rfl) (pv 3) (pv 6) (fun _ _ => rfl)) pe_int (fun _ _ => rfl)) (pe_ix (q_ixt K rfl) (pe_ix (q_ixl K rfl) (pv 3) (pv 7) (fun _ _ => rfl)) pe_int (fun _ _ => rfl)) (nomark _))
          (pss_one (ps_expr (q_bm K rfl PySem.F.plainAttrs_list PySem.F.slot_list_append PySem.F.type_list_append mt_append (pv 4) (pa_cons (pe_tup (pa_cons (pe_ix (q_ixl K rfl) (pv 3) (pv 6) (fun _ _ => rfl)) (pa_cons (pe_ix (q_ixl K rfl) (pv 3) (pv 7) (fun _ _ => rfl)) pa_nil))) pa_nil))))
          pss_nil)))))
      (pss_one (ps_ret (pe_op op_cat (pv 4) (pe_slice (q_sll K rfl) (pv 4) po_none (po_some (pe_call G_w_draw.F (G_w_draw.room hr) (by rfl) G_w_draw.mg G_w_draw.kp G_w_draw.b .nil pass0 (pa_cons (pv 0) (pa_cons pe_int pa_nil))))))))))), ?_⟩
    have nid : (allIds ns R).length ≤ 3600 := Nat.le_trans (allIds_len g.len ns) (Nat.mul_le_mul_right 900 g.n4)
    have hmA := msgs_arr ns R
    have hmL : (msgsOf ns R).length ≤ 5000 := Nat.le_trans (msgsOf_len g.len ns) (Nat.le_trans (Nat.mul_le_mul_right 900 g.n4) (by decide))
    -- messages, needs, replayed
    refine ⟨_, rfl, _, rfl, _, rfl, _, rfl, L, ns, R, rfl, g, ⟨xs, hL, hxs⟩, fun mA H1 hmA0 hmP e1 => ?_⟩
    refine ⟨L, mA, ns, R, msgsOf ns R, rfl, g, ⟨xs, e1 _ _ hL, L2.Paired.mapP hxs fun _ _ z => z.mono (stups e1)⟩, hmP, hmA, hmL, fun d H2 N hd isN TN e2 => ?_⟩
    have e12 := e1.trans e2
    have S2 := S.frame e12
    refine ⟨p, q, L, d, B, ns, R, msgsOf ns R, N, ord, rfl, S2, by omega, nLp, nLq, g, ⟨xs, e12 _ _ hL, L2.Paired.mapP hxs fun _ _ z => z.mono (stups e12)⟩, hmA, lin, isN, ?_, ?_⟩
    · exact TN.imp (fun _ h => h) fun v e _ h => by
        obtain ⟨l, rfl, hl0, hl⟩ := h
        have := S.nep (H' := H) (same_back e1 hl0)
        exact ⟨l, rfl, this.1, this.2, hl⟩
    intro le H3 fnd es hle hes hesP lf flen S3 f3
    have hleH : H le = none := same_back e12 hle
    have F3 : Fr2 p q H H3 := (Fr2.of e12).trans f3
    have ple := S.nep (H' := H) hleH
    clear e1 e2 e12 S2 hle f3 hmP hmA0 hd TN
    -- found = []
    refine ⟨s0, fun fo hfo => ?_⟩
    have e4 : Same H3 (upd H3 fo (.lst [])) := same_new hfo
    have hfoH : H fo = none := by
      cases hh : H fo with
      | none => rfl
      | some o =>
        obtain ⟨_, _, _, _, h1, h2, _⟩ := S3.ex
        by_cases q1 : fo = p
        · rw [q1, h1] at hfo; cases hfo
        · by_cases q2 : fo = q
          · rw [q2, h2] at hfo; cases hfo
          · rw [F3 _ _ hh q1 q2] at hfo; cases hfo
    have pfo := S.nep (H' := H) hfoH
    have nlf : le ≠ fo := ne_of_none hes hfo
    have hes4 := e4 _ _ hes
    have hP4 := L2.Paired.mapP hesP fun _ _ z => z.mono (stups e4)
    have hfo4 : (upd H3 fo (.lst [])) fo = some (.lst []) := upd_same
    have F4 : Fr2 p q H (upd H3 fo (.lst [])) := F3.trans (Fr2.of e4)
    have S4 := S3.frame e4
    generalize upd H3 fo (.lst []) = H4 at e4 hes4 hP4 hfo4 F4 S4
    clear e4 hesP hes F3 S3 hfo
    have hel : es.length = fnd.length := plen hP4
    refine ⟨_, rfl, _, rfl, _, _, rfl, .inl ⟨_, sq hes4, rfl⟩, _, _, rfl, rfl, .inr ⟨_, rfl, _, _, rfl, rfl, .inl ⟨by omega, by omega⟩, _, rfl, ?_, ?_, ?_⟩⟩
    · split <;> omega
    · split <;> omega
    generalize hn : ((m : Int) * (if decide (((es.length : Nat) : Int) > 1) = true then 1 else 0)).toNat = n
    have hnm : n ≤ m := by
      rw [← hn]
      split <;> omega
    have hn1 : 0 < n → 1 < es.length := by
      intro h
      apply Classical.byContradiction
      intro hc
      rw [← hn, if_neg (by simp; omega)] at h
      simp at h
    clear hn
    refine for_range (lo := 0) (n := n) (fun i σ' H1 => ∃ (v5 v6 v7 : Option V) (ws : List (Id × Id)) (zs : List V), σ' = [some (.ref p), some (.ref L), some (.int m), some (.ref le), some (.ref fo), v5, v6, v7] ∧ Fr2 p q H H1 ∧ H1 le = some (.lst es) ∧ Paired (IdV H1) es fnd ∧ H1 fo = some (.lst zs) ∧ Paired (IdP H1) zs ws ∧ WaitsOk R fnd ws ∧ ws.length ≤ i ∧ StrAt H1 p q (B + 4000 + 2 * i))
      ⟨none, none, none, [], [], rfl, F4, hes4, hP4, hfo4, .nil, ⟨fun _ h => (by cases h), fun _ h => (by cases h)⟩, Nat.le_refl _, S4⟩ ?_ ?_
    · rintro i σ' H5 hi ⟨v5, v6, v7, ws, zs, rfl, f5, hes5, hP5, hfo5, hz5, wok, hwl, S5⟩
      have hlen := hn1 (by omega)
      refine ⟨_, rfl, _, rfl, _, _, rfl, .inl ⟨_, sq hes5, rfl⟩, _, _, rfl, rfl, p, q, _, B + 4000 + 2 * i, rfl, S5, by omega, by omega, by omega, fun a H6 a0 a1 S6 f6 => ?_⟩
      obtain ⟨a, rfl⟩ := Int.eq_ofNat_of_zero_le a0
      have hes6 := f6 _ _ hes5 ple.1 ple.2
      refine ⟨_, rfl, _, _, rfl, rfl, _, rfl, _, rfl, _, _, rfl, .inl ⟨_, sq hes6, rfl⟩, _, _, rfl, rfl, _, rfl, _, _, rfl, rfl, p, q, _, B + 4000 + 2 * i + 1, rfl, S6, by omega, by omega, by omega, fun b H7 b0 b1 S7 f7 => ?_⟩
      obtain ⟨b, rfl⟩ := Int.eq_ofNat_of_zero_le b0
      have hes7 := f7 _ _ hes6 ple.1 ple.2
      have f57 := f6.trans f7
      have ts57 : TupS H5 H7 := f57.tups S5
      have hfo7 := f57 _ _ hfo5 pfo.1 pfo.2
      have hP7 := L2.Paired.mapP hP5 fun _ _ z => z.mono ts57
      have hz7 := L2.Paired.mapP hz5 fun _ _ z => z.mono ts57
      have ha : a < es.length := by omega
      have hc : a + 1 + b < es.length := by omega
      obtain ⟨x, hx, ta, hta, htx⟩ := pget hP7 (List.getElem?_eq_getElem ha)
      obtain ⟨y, hy, tb, htb, hty⟩ := pget hP7 (List.getElem?_eq_getElem hc)
      have hga : es[a]? = some (.ref ta) := by rw [List.getElem?_eq_getElem ha, hta]
      have hgb : es[a + 1 + b]? = some (.ref tb) := by rw [List.getElem?_eq_getElem hc, htb]
      refine ⟨_, _, rfl, rfl, ?_⟩
      have ecast : ((a : Nat) : Int) + 1 + ((b : Nat) : Int) = ((a + 1 + b : Nat) : Int) := by omega
      simp only [show (Int.ofNat a : Int) = ((a : Nat) : Int) from rfl, show (Int.ofNat b : Int) = ((b : Nat) : Int) from rfl, ecast]
      refine ⟨_, rfl, _, rfl, le, _, a, .ref ta, rfl, rfl, sq hes7, atI_nat hga, ta, _, 0, .str x.1, rfl, rfl, sqt htx, atI_nat (j := 0) rfl, _, rfl, _, rfl, le, _, (a + 1 + b : Nat), .ref tb, rfl, rfl, sq hes7, atI_nat hgb, tb, _, 0, .str y.1, rfl, rfl, sqt hty, atI_nat (j := 0) rfl, rfl, _, rfl, ?_⟩
      have S7' := S7.mono (show B + 4000 + 2 * i + 1 + 1 ≤ B + 4000 + 2 * (i + 1) by omega)
      by_cases hxy : x.1 = y.1
      · have : (!decide (V.str x.1 = V.str y.1)) = false := by rw [hxy]; simp
        rw [this]
        exact iteF ⟨_, _, _, ws, zs, rfl, f5.trans f57, hes7, hP7, hfo7, hz7, wok, by omega, S7'⟩
      · have : (!decide (V.str x.1 = V.str y.1)) = true := by simp [hxy]
        rw [this]
        refine iteT ?_
        refine ⟨_, rfl, tyl hfo7, _, rfl, _, rfl, le, _, a, .ref ta, rfl, rfl, sq hes7, atI_nat hga, _, rfl, _, rfl, le, _, (a + 1 + b : Nat), .ref tb, rfl, rfl, sq hes7, atI_nat hgb, s2, fun tw htw => ?_⟩
        have e8 : Same H7 (upd H7 tw (.tup [.ref ta, .ref tb])) := same_new htw
        have htw8 : (upd H7 tw (.tup [.ref ta, .ref tb])) tw = _ := upd_same
        generalize upd H7 tw (.tup [.ref ta, .ref tb]) = H8 at e8 htw8
        have ts9 : TupS H8 (upd H8 fo (.lst (zs ++ [.ref tw]))) := tups_mut (e8 _ _ hfo7) (fun zs z => nomatch z)
        have ts79 := tut (stups e8) ts9
        refine ⟨fo, zs, .ref tw, rfl, rfl, e8 _ _ hfo7, szl (by rw [plen hz7]; omega), ?_⟩
        refine ⟨_, _, _, ws ++ [(x, y)], zs ++ [.ref tw], rfl, ((f5.trans f57).trans (Fr2.of e8)).trans' hfoH, ?_, L2.Paired.mapP hP7 fun _ _ z => z.mono ts79, upd_same, ?_, ⟨?_, ?_⟩, by rw [List.length_append]; simp; omega, (S7'.frame e8).upd pfo.1 pfo.2⟩
        · rw [upd_ne nlf]
          exact e8 _ _ hes7
        · exact Paired.snoc (L2.Paired.mapP hz7 fun _ _ z => z.mono ts79) ⟨_, _, ⟨tw, rfl, ts9 _ _ htw8⟩, ⟨ta, rfl, ts79 _ _ htx⟩, ⟨tb, rfl, ts79 _ _ hty⟩⟩
        · intro pp hpp
          rcases List.mem_append.mp hpp with h | h
          · exact wok.bef pp h
          · rw [List.mem_singleton] at h
            subst h
            exact ⟨a, a + 1 + b, hx, hy, by omega⟩
        · intro pp hpp
          rcases List.mem_append.mp hpp with h | h
          · exact wok.ne pp h
          · rw [List.mem_singleton] at h
            subst h
            exact hxy
    · rintro σ' H5 ⟨v5, v6, v7, ws, zs, rfl, f5, hes5, hP5, hfo5, hz5, wok, hwl, S5⟩
      have hzl : zs.length ≤ 1000 := by rw [plen hz5]; omega
      refine ⟨_, rfl, _, rfl, _, rfl, p, q, 2, B + 4000 + 2 * n, rfl, S5, by omega, by decide, by decide, fun r H6 r0 r1 S6 f6 => ?_⟩
      obtain ⟨r, rfl⟩ := Int.eq_ofNat_of_zero_le r0
      have hfo6 := f6 _ _ hfo5 pfo.1 pfo.2
      refine ⟨r, rfl, fo, zs, rfl, sq hfo6, fun lc hlc => ?_⟩
      rw [cut_take]
      have e7 : Same H6 (upd H6 lc (.lst (zs.take r))) := same_new hlc
      refine ⟨fo, lc, zs, zs.take r, rfl, rfl, e7 _ _ hfo6, upd_same, sz (by rw [List.length_take]; omega), fun lr hlr => ?_⟩
      have e8 : Same H6 (upd (upd H6 lc (.lst (zs.take r))) lr (.lst (zs ++ zs.take r))) := e7.trans (same_new hlr)
      have hlrH : H lr = none := by
        have F7 := f5.trans (f6.trans (Fr2.of e7))
        have S7 := S6.frame e7
        cases hh : H lr with
        | none => rfl
        | some o =>
          obtain ⟨_, _, _, _, h1, h2, _⟩ := S7.ex
          by_cases q1 : lr = p
          · rw [q1, h1] at hlr; cases hlr
          · by_cases q2 : lr = q
            · rw [q2, h2] at hlr; cases hlr
            · rw [F7 _ _ hh q1 q2] at hlr; cases hlr
      have ts : TupS H5 (upd (upd H6 lc (.lst (zs.take r))) lr (.lst (zs ++ zs.take r))) := tut (f6.tups S5) (stups e8)
      have hz8 := L2.Paired.mapP hz5 fun _ _ z => z.mono ts
      refine k lr _ fnd (ws ++ ws.take r) hlrH ⟨zs ++ zs.take r, upd_same, pappend hz8 (ptake r hz8)⟩ lf ⟨?_, ?_⟩ ?_ ((S6.frame e8).mono (by omega)) (f5.trans (f6.trans (Fr2.of e8)))
      · intro pp hpp
        rcases List.mem_append.mp hpp with h | h
        · exact wok.bef pp h
        · exact wok.bef pp (List.mem_of_mem_take h)
      · intro pp hpp
        rcases List.mem_append.mp hpp with h | h
        · exact wok.ne pp h
        · exact wok.ne pp (List.mem_of_mem_take h)
      · rw [List.length_append, List.length_take]
        omega
end
end Rr

set_option Elab.async false
set_option linter.all false
set_option maxRecDepth 100000
set_option maxHeartbeats 4000000
namespace Rr
open PySem PySem.Spec PyProof.Rows L2 Xr
/-! ### frozen -/
inductive Tr where | leaf (v : V) | node (ts : List Tr)
inductive Leaf : V → Prop
  | str (x : Str) : Leaf (.str x)
  | int (i : Int) : Leaf (.int i)
  | bl (b : Bool) : Leaf (.bl b)
  | non : Leaf .non
/-- v is the tree t: tuples, or (k) lists too -/
def TrV (k : Bool) (H : Hp) : Nat → V → Tr → Prop
  | _, v, .leaf u => v = u ∧ Leaf u
  | 0, _, .node _ => False
  | n + 1, v, .node ts => ∃ a xs, v = .ref a ∧ (H a = some (.tup xs) ∨ (k = true ∧ H a = some (.lst xs))) ∧ xs.length ≤ 100000 ∧ Paired (TrV k H n) xs ts
theorem TrV.leaf {k : Bool} {H : Hp} {n : Nat} {u : V} (h : Leaf u) : TrV k H n u (.leaf u) := by
  cases n <;> exact ⟨rfl, h⟩
theorem TrV.node {k : Bool} {H : Hp} {n : Nat} {a : Addr} {xs : List V} {ts : List Tr} (h : H a = some (.tup xs) ∨ (k = true ∧ H a = some (.lst xs))) (hz : xs.length ≤ 100000) (p : Paired (TrV k H n) xs ts) : TrV k H (n + 1) (.ref a) (.node ts) := ⟨a, xs, rfl, h, hz, p⟩
theorem TrV.ls {k : Bool} {H H' : Hp} (e : Ls H H') : ∀ {n : Nat} {v : V} {t : Tr}, TrV k H n v t → TrV k H' n v t
  | 0, _, .leaf _, h => h
  | _ + 1, _, .leaf _, h => h
  | n + 1, _, .node _, h => by
    obtain ⟨a, xs, h1, h2, hz, h3⟩ := h
    refine ⟨a, xs, h1, ?_, hz, L2.Paired.mapP h3 fun _ _ z => TrV.ls e z⟩
    rcases h2 with h2 | ⟨h2, h4⟩
    · exact .inl (e.t _ _ h2)
    · exact .inr ⟨h2, e.l _ _ h4⟩
theorem TrV.tups {H H' : Hp} (e : TupS H H') : ∀ {n : Nat} {v : V} {t : Tr}, TrV false H n v t → TrV false H' n v t
  | 0, _, .leaf _, h => h
  | _ + 1, _, .leaf _, h => h
  | n + 1, _, .node _, h => by
    obtain ⟨a, xs, h1, h2, hz, h3⟩ := h
    refine ⟨a, xs, h1, ?_, hz, L2.Paired.mapP h3 fun _ _ z => TrV.tups e z⟩
    rcases h2 with h2 | ⟨h2, h4⟩
    · exact .inl (e _ _ h2)
    · cases h2
theorem isiT2 {K : PySem.W.Frag} {n : String} {b : Bool} (h1 : kitB n "tuple" = some b) (h2 : b = false → kitB n "list" = some false) : PySem.W.kitAny K (.type n) [.type "tuple", .type "list"] = some b := by
  refine kitAny_cons (kit_ty h1) (fun hb => ?_) (fun hb => hb)
  rw [hb]
  exact kitAny_cons (kit_ty (h2 hb)) (fun _ => kitAny_nil) (fun z => nomatch z)
theorem isiT2l {K : PySem.W.Frag} : PySem.W.kitAny K (.type "list") [.type "tuple", .type "list"] = some true := by
  refine kitAny_cons (b := false) (kit_ty (by decide +kernel)) (fun _ => ?_) (fun z => nomatch z)
  exact kitAny_cons (b := true) (kit_ty (by decide +kernel)) (fun z => nomatch z) (fun _ => rfl)
theorem cls2 : Paired ClsV [V.ty "tuple", V.ty "list"] [.type "tuple", .type "list"] := .cons (.ty _) (.cons (.ty _) .nil)
section
variable {P : Program} {w : World} {K : PySem.W.Frag} {mg : Str → Option Value} {base : Heap}
abbrev N_frozen : List Str := ["thing", "part"]
theorem sc_frozen : FnScope N_frozen ["thing"] (defScope s_frozen) := ⟨rfl, rfl, rfl, by decide +kernel, rfl, by decide +kernel, by decide +kernel⟩
def sp_frozen : Nat → Sp
  | 0 => fun _ _ _ _ => False
  | n + 1 => fun vs H Q _ => ∃ v t, vs = [v] ∧ TrV true H n v t ∧ ∀ v' H', Same H H' → TrV false H' n v' t → Q v' H'
theorem ok_frozen (T : Txt K mg) {f : Addr} {fd : FuncData} (F : FunD K "frozen" "frozen" (defArgs s_frozen) (defBody s_frozen) (defScope s_frozen) [] [] f fd) (hmg : mg "frozen" = some (.ref f)) (hkp : PySem.W.keepIn K (.ref f) = true) (hb : Binds K fd ["thing"] []) : ∀ n : Nat, FnOk P w K mg base CX0 n f fd ["thing"] (sp_frozen n)
  | 0 => ⟨fun _ _ _ _ h => h.elim, fun _ _ _ _ _ _ _ _ _ _ _ _ _ h => h.elim⟩
  | n + 1 => by
    have G_frozen : Gf P w K mg base n "frozen" ["thing"] (sp_frozen n) := ⟨f, fd, ok_frozen T F hmg hkp hb n, hmg, hkp, hb⟩
    refine ok0 F sc_frozen (fun vs H Q E h => ?_) (fun cdv A outer s H vs Q E hr h => ?_)
    · obtain ⟨v, t, rfl, _⟩ := h
      rfl
    · obtain ⟨v, t, rfl, hv, k⟩ := h
      refine ⟨_, (pss_cons (ps_if (pt_val (pe_callB (q_isiT K rfl) (by rfl) T.z_isinstance (by decide +kernel) (pa_cons (pv 0) (pa_cons (pe_tup (pa_cons (pe_bltn (v := .ty "tuple") (u := .type "tuple") (by rfl) T.z_tuple (by decide +kernel) rfl) (pa_cons (pe_bltn (v := .ty "list") (u := .type "list") (by rfl) T.z_list (by decide +kernel) rfl) pa_nil))) pa_nil))))
        (pss_one (ps_ret (pe_callTy (q_tuple K rfl) (by rfl) T.z_tuple (by decide +kernel) (pa_cons (pe_lc (own := [("part", 1)]) (by rfl) sc_frozen.nd (q_seq K rfl (pv 0)) (blkOk_by (N := N_frozen) (sc := defScope s_frozen) (by decide +kernel)) (fun _ _ _ _ _ => (pg_name (i := 1) sc_frozen.nd rfl (Or.inl rfl))) (fun _ _ _ _ _ => pts_nil) (fun _ _ _ _ _ => (pe_call G_frozen.F (G_frozen.room hr) (by rfl) G_frozen.mg G_frozen.kp G_frozen.b .nil pass0 (pa_cons (pv 1) pa_nil)))) pa_nil))))
        pss_nil)
      (pss_one (ps_ret (pv 0)))), ?_⟩
      have e0 : ∀ tp, H tp = none → Same H (upd H tp (.tup [.ty "tuple", .ty "list"])) := fun tp h => same_new h
      cases t with
      | leaf u =>
        have hv' : v = u ∧ Leaf u := by cases n <;> exact hv
        obtain ⟨rfl, hl⟩ := hv'
        refine ⟨_, rfl, s2, fun tp htp => ?_⟩
        have fin : ∀ H', Same H H' → Q v H' := fun H' e => k v H' e (.leaf hl)
        cases hl with
        | str x => exact ⟨.str x, tp, _, _, _, false, rfl, upd_same, cls2, .base (.str x), isiT2 (by decide +kernel) (fun _ => by decide +kernel), false, rfl, iteF ⟨_, rfl, fin _ (e0 tp htp)⟩⟩
        | int x => exact ⟨.int x, tp, _, _, _, false, rfl, upd_same, cls2, .base (.int x), isiT2 (by decide +kernel) (fun _ => by decide +kernel), false, rfl, iteF ⟨_, rfl, fin _ (e0 tp htp)⟩⟩
        | bl x => exact ⟨.bl x, tp, _, _, _, false, rfl, upd_same, cls2, .base (.bl x), isiT2 (by decide +kernel) (fun _ => by decide +kernel), false, rfl, iteF ⟨_, rfl, fin _ (e0 tp htp)⟩⟩
        | non => exact ⟨.non, tp, _, _, _, false, rfl, upd_same, cls2, .base .non, isiT2 (by decide +kernel) (fun _ => by decide +kernel), false, rfl, iteF ⟨_, rfl, fin _ (e0 tp htp)⟩⟩
      | node ts =>
        cases n with
        | zero => exact hv.elim
        | succ n =>
          obtain ⟨a, xs, rfl, ha, hz, hxs⟩ := hv
          refine ⟨_, rfl, s2, fun tp htp => ?_⟩
          have e1 := e0 tp htp
          have htp1 : (upd H tp (.tup [.ty "tuple", .ty "list"])) tp = _ := upd_same
          generalize upd H tp (.tup [.ty "tuple", .ty "list"]) = H1 at e1 htp1
          have ha1 : H1 a = some (.tup xs) ∨ (true = true ∧ H1 a = some (.lst xs)) := ha.imp (fun h => e1 _ _ h) fun h => ⟨rfl, e1 _ _ h.2⟩
          have hxs1 := L2.Paired.mapP hxs fun _ _ z => z.ls (Ls.of e1)
          have hlen : xs.length = ts.length := plen hxs
          obtain ⟨tv, htv, hkt⟩ : ∃ tv, TyX K H1 (.ref a) tv ∧ PySem.W.kitAny K tv [.type "tuple", .type "list"] = some true := by
            rcases ha1 with h | ⟨_, h⟩
            · exact ⟨_, .base (.tup h), isiT2 (by decide +kernel) (fun z => by cases z)⟩
            · exact ⟨_, .base (.lst h), isiT2l⟩
          refine ⟨.ref a, tp, _, tv, _, true, rfl, htp1, cls2, htv, hkt, true, rfl, iteT ?_⟩
          obtain ⟨J, G, wk, hG, hJ⟩ := seq_walk (K := K) ha1
          unfold tRet tCB tCons tLc
          refine hJ (tVar 0) (L2.start N_frozen [V.ref a]) _ _ (fun Q q => ⟨_, rfl, q⟩) ?_
          intro D hD
          refine lc_pure wk hD ts hlen.symm hz (fun t v H' => TrV false H' n v t) (fun _ _ _ _ e z => z.tups e) (fun _ => true) hG (fun _ _ _ _ y => yat_same y) ?_ ?_
          · rintro i b x H3 H2 kk hb e ⟨rfl, hx⟩ ht hf
            obtain ⟨t, h1, h2⟩ := pget hxs1 hx
            have : t = b := by
              rw [hb] at h1
              exact (Option.some.inj h1).symm
            subst this
            exact ⟨rfl, _, rfl, x, t, rfl, h2.ls (Ls.of e), fun v' H' e' z => ht v' H' e' rfl z⟩
          · intro ys H2 e hD2 hp
            rw [List.filter_eq_self.mpr (fun _ _ => rfl)] at hp
            exact ⟨D, ys, rfl, .inl ⟨sq hD2, fun y hy => k (.ref y) _ (e1.trans (e.trans (same_new hy))) (.node (.inl upd_same) (by rw [plen hp, ← hlen]; exact hz) (L2.Paired.mapP hp fun _ _ z => z.tups (stups (same_new hy))))⟩⟩
end
end Rr

set_option Elab.async false
set_option linter.all false
set_option maxRecDepth 100000
set_option maxHeartbeats 4000000
namespace Rr
open PySem PySem.Spec PyProof.Rows L2 Xr
section
variable {P : Program} {w : World} {K : PySem.W.Frag} {mg : Str → Option Value} {base : Heap}
abbrev N_is_name : List Str := ["thing", "letter"]
theorem sc_is_name : FnScope N_is_name ["thing"] (defScope s_is_name) := ⟨rfl, rfl, rfl, by decide +kernel, rfl, by decide +kernel, by decide +kernel⟩
def sp_is_name : Sp := fun vs H Q _ => ∃ x : Str, vs = [.str x] ∧ x.length ≤ 100000 ∧ ∀ H', Same H H' → Q (.bl (nameB x)) H'
theorem ok_is_name (T : Txt K mg) (T2 : Txt2 w K mg) {f : Addr} {fd : FuncData} (F : FunD K "is_name" "is_name" (defArgs s_is_name) (defBody s_is_name) (defScope s_is_name) [] [] f fd) : FnOk P w K mg base CX0 1 f fd ["thing"] sp_is_name := by
  refine ok0 F sc_is_name (fun vs H Q E h => ?_) (fun cdv A outer s H vs Q E hr h => ?_)
  · obtain ⟨x, rfl, _⟩ := h
    rfl
  · obtain ⟨x, rfl, hx, k⟩ := h
    have hres := T2.RESERVED.choose_spec.2 H
    refine ⟨_, (pss_cons (ps_if (PW.pt (pw_or (pt_not (pt_val (pe_callB (q_isi K rfl) (by rfl) T.z_isinstance (by decide +kernel) (pa_cons (pv 0) (pa_cons (pe_bltn (v := .ty "str") (u := .type "str") (by rfl) T.z_str (by decide +kernel) rfl) pa_nil))))) (pw_or (pt_not (pt_chain op_le op_le pe_int (pe_callB (q_len K rfl) (by rfl) T.z_len (by decide +kernel) (pa_cons (pv 0) pa_nil)) (pe_glob (v := .int 8) rfl T.LONGEST.choose_spec ⟨_, rfl⟩))) (pw_or1 (pt_cmpR (q_in K rfl) (pv 0) (pe_glob (v := .ref T2.RESERVED.choose) rfl T2.RESERVED.choose_spec.1 rfl) (by rfl))))))
        (pss_one (ps_ret pe_bl))
        pss_nil)
      (pss_one (ps_ret (pe_callB (q_all K rfl rfl) (by rfl) T.z_all (by decide +kernel) (pa_cons (pe_lc (own := [("letter", 1)]) (by rfl) sc_is_name.nd (pi_str (pv 0)) (blkOk_by (N := N_is_name) (sc := defScope s_is_name) (by decide +kernel)) (fun _ _ _ _ _ => (pg_name (i := 1) sc_is_name.nd rfl (Or.inl rfl))) (fun _ _ _ _ _ => pts_nil) (fun _ _ _ _ _ => (pe_cmpR op_in_sign (pv 1) (pe_glob (v := .str alphaS) rfl T.LETTERS.choose_spec ⟨_, rfl⟩) (by rfl)))) pa_nil))))), ?_⟩
    refine isi rfl (.base (.str x)) (b := true) (by decide +kernel) ⟨true, rfl, iteF ?_⟩
    refine ⟨_, rfl, _, x.length, rfl, ⟨sz hx, rfl⟩, _, _, rfl, rfl, _, rfl, ?_⟩
    have fin : ∀ b, nameB x = b → Q (.bl b) H := fun b hb => hb ▸ k H (Same.refl _)
    by_cases h1 : 1 ≤ x.length
    · rw [decide_eq_true (show (1 : Int) ≤ ((x.length : Nat) : Int) by omega)]
      refine iteT ⟨_, _, rfl, rfl, _, rfl, ?_⟩
      by_cases h2 : x.length ≤ 8
      · rw [decide_eq_true (show ((x.length : Nat) : Int) ≤ 8 by omega)]
        refine iteF ⟨_, rfl, _, _, rfl, .inr hres, rfl, flatStrs _, _, rfl, ?_⟩
        rw [inV_strs]
        by_cases h3 : x ∈ resA ++ resB
        · rw [decide_eq_true h3]
          refine iteT (fin false ?_)
          unfold nameB
          simp only [decide_eq_true h1, decide_eq_true h2, decide_eq_true h3, Bool.true_and, Bool.not_true, Bool.false_and]
        · rw [decide_eq_false h3]
          refine iteF ⟨_, rfl, x, rfl, ?_⟩
          have hcs : x.cps.size ≤ 8 := h2
          intro D hD
          refine lc_pure (walk_str (z := x)) hD x.cps.toList (by simp) (by omega) (fun c v _ => v = .bl (decide (c ∈ alphaS.cps.toList))) (fun _ _ _ _ _ z => z) (fun _ => true) (fun _ _ => trivial) (fun _ _ _ _ y => by rw [y.1]; exact Same.refl _) ?_ ?_
          · rintro i c v H1' H1 kk hb e ⟨rfl, c', hc, rfl⟩ ht hf
            have : c' = c := by
              have h5 : x.cps.toList[i]? = some c' := by simpa using hc
              rw [hb] at h5
              exact (Option.some.inj h5).symm
            subst this
            exact ⟨rfl, _, rfl, c', _, rfl, rfl, ht _ _ (Same.refl _) rfl rfl⟩
          · intro ys H1 e hD1 hys
            rw [List.filter_eq_self.mpr (fun _ _ => rfl)] at hys
            have ey := plist hys
            subst ey
            refine ⟨D, x.cps.toList.map fun c => decide (c ∈ alphaS.cps.toList), rfl, sq (by rw [hD1, List.map_map] <;> rfl), ?_⟩
            have : ((x.cps.toList.map fun c => decide (c ∈ alphaS.cps.toList)).all id) = nameB x := by
              unfold nameB
              rw [List.all_map]
              simp only [decide_eq_true h1, decide_eq_true h2, decide_eq_false h3, Bool.true_and, Bool.not_false]
              rfl
            rw [this]
            exact k H1 e
      · rw [decide_eq_false (show ¬ ((x.length : Nat) : Int) ≤ 8 by omega)]
        refine iteT (fin false ?_)
        unfold nameB
        simp only [decide_eq_false h2, Bool.false_and, Bool.and_false]
    · rw [decide_eq_false (show ¬ (1 : Int) ≤ ((x.length : Nat) : Int) by omega)]
      refine iteF ⟨_, rfl, ?_⟩
      refine iteT (fin false ?_)
      unfold nameB
      simp only [decide_eq_false h1, Bool.false_and]
/-! ### fits -/
abbrev N_fits : List Str := ["kind", "part", "name", "names"]
theorem sc_fits : FnScope N_fits ["kind", "part", "name", "names"] (defScope s_fits) := ⟨rfl, rfl, rfl, by decide +kernel, rfl, by decide +kernel, by decide +kernel⟩
def kindOk (ns : List Str) (nm : Str) : Str → V → Bool
  | k, .str x => if k = "variable" then nameB x else if k = "value" then false else decide (x ∈ ns) && decide (x ≠ nm)
  | k, .int i => if k = "value" then decide ((i.natAbs : Int) < 10 ^ 30) else false
  | _, _ => false
theorem kindOk_str (ns : List Str) (nm k x : Str) : kindOk ns nm k (.str x) = (if k = "variable" then nameB x else if k = "value" then false else decide (x ∈ ns) && decide (x ≠ nm)) := rfl
theorem kindOk_int (ns : List Str) (nm k : Str) (i : Int) : kindOk ns nm k (.int i) = (if k = "value" then decide ((i.natAbs : Int) < 10 ^ 30) else false) := rfl
def sp_fits : Sp := fun vs H Q _ => ∃ (k : Str) (v : V) (nm : Str) (l : Addr) (ns : List Str), vs = [.str k, v, .str nm, .ref l] ∧ H l = some (.lst (ns.map V.str)) ∧ kindOk ns nm k v = true ∧ (k = "variable" → ∃ x : Str, v = .str x ∧ x.length ≤ 100000) ∧ ∀ H', Same H H' → Q (.bl true) H'
theorem ok_fits (T : Txt K mg) (G_is_name : Gf P w K mg base 1 "is_name" ["thing"] sp_is_name) (G_is_small : Gf P w K mg base 2 "is_small" ["thing"] sp_is_small) {f : Addr} {fd : FuncData} (F : FunD K "fits" "fits" (defArgs s_fits) (defBody s_fits) (defScope s_fits) [] [] f fd) : FnOk P w K mg base CX0 3 f fd ["kind", "part", "name", "names"] sp_fits := by
  refine ok0 F sc_fits (fun vs H Q E h => ?_) (fun cdv A outer s H vs Q E hr h => ?_)
  · obtain ⟨k, v, nm, l, ns, rfl, _⟩ := h
    rfl
  · obtain ⟨kd, v, nm, l, ns, rfl, hl, hk, hv, k⟩ := h
    refine ⟨_, (pss_cons (ps_if (pt_cmpR op_eq (pv 0) pe_str (nomark _))
        (pss_one (ps_ret (pe_call G_is_name.F (G_is_name.room hr) (by rfl) G_is_name.mg G_is_name.kp G_is_name.b .nil pass0 (pa_cons (pv 1) pa_nil))))
        pss_nil)
      (pss_cons (ps_if (pt_cmpR op_eq (pv 0) pe_str (nomark _))
        (pss_one (ps_ret (pe_call G_is_small.F (G_is_small.room hr) (by rfl) G_is_small.mg G_is_small.kp G_is_small.b .nil pass0 (pa_cons (pv 1) pa_nil))))
        pss_nil)
      (pss_one (ps_ret (pe_and (pe_callB (q_isi K rfl) (by rfl) T.z_isinstance (by decide +kernel) (pa_cons (pv 1) (pa_cons (pe_bltn (v := .ty "str") (u := .type "str") (by rfl) T.z_str (by decide +kernel) rfl) pa_nil))) (pe_and (pe_cmpR (q_in K rfl) (pv 1) (pv 3) (by rfl)) (pe_one (pe_cmpR op_ne (pv 1) (pv 2) (nomark _))))))))), ?_⟩
    refine ⟨_, rfl, rfl, _, rfl, ?_⟩
    by_cases h1 : kd = "variable"
    · subst h1
      obtain ⟨x, rfl, hx⟩ := hv rfl
      rw [decide_eq_true rfl]
      refine iteT ⟨_, rfl, x, rfl, hx, fun H' e => ?_⟩
      rw [kindOk_str, if_pos rfl] at hk
      rw [hk]
      exact k H' e
    · rw [decide_eq_false (fun z => h1 (V.str.inj z))]
      refine iteF ⟨_, rfl, rfl, _, rfl, ?_⟩
      by_cases h2 : kd = "value"
      · subst h2
        rw [decide_eq_true rfl]
        cases v with
        | int i =>
          rw [kindOk_int, if_pos rfl] at hk
          refine iteT ⟨_, rfl, i, rfl, ?_⟩
          rw [hk]
          exact k H (Same.refl _)
        | _ => cases hk
      · rw [decide_eq_false (fun z => h2 (V.str.inj z))]
        refine iteF ?_
        cases v with
        | str x =>
          rw [kindOk_str, if_neg h1, if_neg h2, Bool.and_eq_true, decide_eq_true_eq, decide_eq_true_eq] at hk
          refine isi rfl (.base (.str x)) (b := true) (by decide +kernel) ⟨true, rfl, iteT ?_⟩
          refine ⟨_, rfl, _, rfl, l, _, rfl, .inl (sq hl), rfl, flatStrs ns, ?_⟩
          rw [if_neg Bool.false_ne_true, inV_strs, decide_eq_true hk.1]
          refine ⟨true, rfl, iteT ⟨_, rfl, _, rfl, rfl, ?_⟩⟩
          rw [decide_eq_false (fun z => hk.2 (V.str.inj z))]
          exact k H (Same.refl _)
        | int i =>
          rw [kindOk_int, if_neg h2] at hk
          cases hk
        | _ => cases hk
end
end Rr

set_option Elab.async false
set_option linter.all false
set_option maxRecDepth 100000
set_option maxHeartbeats 4000000
namespace Rr
open PySem PySem.Spec PyProof.Rows L2 Xr
def Ev.kinds : Ev → List Str
  | .set _ _ => ["variable", "value"]
  | .inp _ _ => ["variable", "value"]
  | .snd _ _ => ["process", "value"]
  | .rcv _ _ _ _ => ["process", "variable", "value"]
  | .chk => []
theorem Ev.kinds_len (e : Ev) : e.kinds.length = e.rest.length := by cases e <;> rfl
theorem Ev.kinds_mem (e : Ev) : (e.word, e.kinds) ∈ ([("set", ["variable", "value"]), ("send", ["process", "value"]), ("receive", ["process", "variable", "value"]), ("take", ["process", "variable", "value"]), ("input", ["variable", "value"]), ("checkpoint", [])] : List (Str × List Str)) := by
  cases e with
  | rcv t q x v => cases t <;> simp [Ev.word, Ev.kinds]
  | _ => simp [Ev.word, Ev.kinds]
theorem kind_var {ns : List Str} {nm x : Str} (h : nameB x = true) : kindOk ns nm "variable" (.str x) = true := by rw [kindOk_str, if_pos rfl, h]
theorem kind_val {ns : List Str} {nm : Str} {i : Int} (h : (i.natAbs : Int) < 10 ^ 30) : kindOk ns nm "value" (.int i) = true := by rw [kindOk_int, if_pos rfl, decide_eq_true h]
theorem kind_proc {ns : List Str} {nm q : Str} (h : q ∈ ns) (h2 : q ≠ nm) : kindOk ns nm "process" (.str q) = true := by
  rw [kindOk_str, if_neg (by decide), if_neg (by decide), decide_eq_true h, decide_eq_true h2] <;> rfl
theorem kinds_ok {ns : List Str} {nm : Str} {e : Ev} (h : EvOk ns nm e) : ∀ p ∈ e.kinds.zip e.rest, kindOk ns nm p.1 p.2 = true ∧ (p.1 = "variable" → ∃ x : Str, p.2 = .str x ∧ x.length ≤ 100000) := by
  have nv : ("value" : Str) ≠ "variable" := by decide
  have np : ("process" : Str) ≠ "variable" := by decide
  cases h with
  | set hx hv =>
    intro p hp
    simp only [Ev.kinds, Ev.rest, List.zip_cons_cons, List.zip_nil_right, List.mem_cons, List.not_mem_nil, or_false] at hp
    rcases hp with rfl | rfl
    · exact ⟨kind_var hx, fun _ => ⟨_, rfl, Nat.le_trans (nameB_len hx) (by decide)⟩⟩
    · exact ⟨kind_val hv, fun z => (nv z).elim⟩
  | inp hx hv =>
    intro p hp
    simp only [Ev.kinds, Ev.rest, List.zip_cons_cons, List.zip_nil_right, List.mem_cons, List.not_mem_nil, or_false] at hp
    rcases hp with rfl | rfl
    · exact ⟨kind_var hx, fun _ => ⟨_, rfl, Nat.le_trans (nameB_len hx) (by decide)⟩⟩
    · exact ⟨kind_val hv, fun z => (nv z).elim⟩
  | snd hq hn hv =>
    intro p hp
    simp only [Ev.kinds, Ev.rest, List.zip_cons_cons, List.zip_nil_right, List.mem_cons, List.not_mem_nil, or_false] at hp
    rcases hp with rfl | rfl
    · exact ⟨kind_proc hq hn, fun z => (np z).elim⟩
    · exact ⟨kind_val hv, fun z => (nv z).elim⟩
  | rcv hq hn hx hv =>
    intro p hp
    simp only [Ev.kinds, Ev.rest, List.zip_cons_cons, List.zip_nil_right, List.mem_cons, List.not_mem_nil, or_false] at hp
    rcases hp with rfl | rfl | rfl
    · exact ⟨kind_proc hq hn, fun z => (np z).elim⟩
    · exact ⟨kind_var hx, fun _ => ⟨_, rfl, Nat.le_trans (nameB_len hx) (by decide)⟩⟩
    · exact ⟨kind_val hv, fun z => (nv z).elim⟩
  | chk =>
    intro p hp
    simp [Ev.kinds, Ev.rest] at hp
theorem cut_tailV (v : V) (r : List V) : cutV (v :: r) (some 1) none = r := by
  unfold cutV
  rw [show HT.sIx (v :: r).length 0 (some 1) = 1 from (HT.sIx_nat _ _ 1).trans (by rw [List.length_cons]; omega), HT.sIx_none]
  rw [List.drop_succ_cons, List.drop_zero, List.take_of_length_le (by simp)]
section
variable {P : Program} {w : World} {K : PySem.W.Frag} {mg : Str → Option Value} {base : Heap}
/-! ### is_form -/
abbrev N_is_form : List Str := ["event", "name", "names", "kinds", "kind", "part"]
theorem sc_is_form : FnScope N_is_form ["event", "name", "names"] (defScope s_is_form) := ⟨rfl, rfl, rfl, by decide +kernel, rfl, by decide +kernel, by decide +kernel⟩
def sp_is_form : Sp := fun vs H Q _ => ∃ (v : V) (nm : Str) (l : Addr) (ns : List Str) (e : Ev), vs = [v, .str nm, .ref l] ∧ EvV H v e ∧ EvOk ns nm e ∧ H l = some (.lst (ns.map V.str)) ∧ ∀ H', Same H H' → Q (.bl true) H'
theorem ok_is_form (T : Txt K mg) (T2 : Txt2 w K mg) (G_fits : Gf P w K mg base 3 "fits" ["kind", "part", "name", "names"] sp_fits) {f : Addr} {fd : FuncData} (F : FunD K "is_form" "is_form" (defArgs s_is_form) (defBody s_is_form) (defScope s_is_form) [] [] f fd) : FnOk P w K mg base CX0 4 f fd ["event", "name", "names"] sp_is_form := by
  refine ok0 F sc_is_form (fun vs H Q E h => ?_) (fun cdv A outer s H vs Q E hr h => ?_)
  · obtain ⟨v, nm, l, ns, e, rfl, _⟩ := h
    rfl
  · obtain ⟨v, nm, l, ns, e, rfl, ⟨t, rfl, ht⟩, hok, hl, k⟩ := h
    obtain ⟨es, n, hfm, kd, htab⟩ := T2.FORMS.choose_spec
    obtain ⟨tf, hns, hseq⟩ := htab _ _ e.kinds_mem
    rw [Ev.vs_eq] at ht
    refine ⟨_, (pss_cons (ps_if (PW.pt (pw_or (pt_not (pt_val (pe_callB (q_isi K rfl) (by rfl) T.z_isinstance (by decide +kernel) (pa_cons (pv 0) (pa_cons (pe_bltn (v := .ty "tuple") (u := .type "tuple") (by rfl) T.z_tuple (by decide +kernel) rfl) pa_nil))))) (pw_or (pt_cmpR op_eq (pe_callB (q_len K rfl) (by rfl) T.z_len (by decide +kernel) (pa_cons (pv 0) pa_nil)) pe_int (nomark _)) (pw_or (pt_not (pt_val (pe_callB (q_isi K rfl) (by rfl) T.z_isinstance (by decide +kernel) (pa_cons (pe_ix (q_ixt K rfl) (pv 0) pe_int (fun _ _ => rfl)) (pa_cons (pe_bltn (v := .ty "str") (u := .type "str") (by rfl) T.z_str (by decide +kernel) rfl) pa_nil))))) (pw_or1 (pt_cmpR (q_notInK K w rfl rfl) (pe_ix (q_ixt K rfl) (pv 0) pe_int (fun _ _ => rfl)) (pe_glob (v := .ref T2.FORMS.choose) rfl T2.FORMS.choose_spec.choose_spec.choose_spec.1 rfl) (by rfl)))))))
        (pss_one (ps_ret pe_bl))
        pss_nil)
      (pss_cons (ps_set (i := 3) sc_is_form.nd rfl (Or.inl rfl) (pe_ix (q_ixK K w rfl rfl) (pe_glob (v := .ref T2.FORMS.choose) rfl T2.FORMS.choose_spec.choose_spec.choose_spec.1 rfl) (pe_ix (q_ixt K rfl) (pv 0) pe_int (fun _ _ => rfl)) (fun _ _ => rfl)))
      (pss_cons (ps_if (pt_cmpR op_ne (pe_callB (q_len K rfl) (by rfl) T.z_len (by decide +kernel) (pa_cons (pv 0) pa_nil)) (pe_op op_add pe_int (pe_callB (q_len K rfl) (by rfl) T.z_len (by decide +kernel) (pa_cons (pv 3) pa_nil))) (nomark _))
        (pss_one (ps_ret pe_bl))
        pss_nil)
      (pss_one (ps_ret (pe_callB (q_all K rfl rfl) (by rfl) T.z_all (by decide +kernel) (pa_cons (pe_lc (own := [("kind", 4), ("part", 5)]) (by rfl) sc_is_form.nd (q_zip K rfl .t .t (by rfl) T.z_zip (pa_cons (pv 3) (pa_cons (pe_slice (q_slt K rfl) (pv 0) (po_some pe_int) po_none) pa_nil))) (blkOk_by (N := N_is_form) (sc := defScope s_is_form) (by decide +kernel)) (fun _ _ _ _ _ => (q_tup (n := 2) K rfl rfl (pgs_cons (pg_name (i := 4) sc_is_form.nd rfl (Or.inl rfl)) (pgs_cons (pg_name (i := 5) sc_is_form.nd rfl (Or.inl rfl)) pgs_nil)))) (fun _ _ _ _ _ => pts_nil) (fun _ _ _ _ _ => (pe_call G_fits.F (G_fits.room hr) (by rfl) G_fits.mg G_fits.kp G_fits.b .nil pass0 (pa_cons (pv 4) (pa_cons (pv 5) (pa_cons (pv 1) (pa_cons (pv 2) pa_nil))))))) pa_nil))))))), ?_⟩
    refine isi rfl (.base (.tup ht)) (b := true) (by decide +kernel) ⟨true, rfl, iteF ?_⟩
    refine ⟨_, rfl, _, _, rfl, .inr ⟨_, sqt ht, rfl⟩, rfl, _, rfl, ?_⟩
    rw [decide_eq_false (fun z => by have := V.int.inj z; simp at this; omega)]
    refine iteF ⟨_, rfl, t, _, 0, .str e.word, rfl, rfl, sqt ht, atI_nat (j := 0) rfl, ?_⟩
    refine ⟨.str e.word, .ty "str", .type "str", .type "str", true, rfl, .ty "str", .base (.str _), kit_ty (by decide +kernel), true, rfl, iteF ?_⟩
    refine ⟨_, rfl, t, _, 0, .str e.word, rfl, rfl, sqt ht, atI_nat (j := 0) rfl, _, _, es, n, some (.ref tf), rfl, rfl, kd, hns, _, rfl, iteF ?_⟩
    refine ⟨_, rfl, t, _, 0, .str e.word, rfl, rfl, sqt ht, atI_nat (j := 0) rfl, _, e.word, .ref tf, rfl, rfl, ⟨es, n, .ref tf, kd.at_, kd.lit, hns, rfl⟩, ?_⟩
    refine ⟨_, rfl, _, _, rfl, .inr ⟨_, sqt ht, rfl⟩, _, rfl, _, _, rfl, .inr ⟨_, hseq H, rfl⟩, _, _, rfl, rfl, rfl, _, rfl, ?_⟩
    have hlen : (!decide (V.int (((V.str e.word :: e.rest).length : Nat) : Int) = V.int (1 + (((e.kinds.map V.str).length : Nat) : Int)))) = false := by
      rw [decide_eq_true]
      · rfl
      · congr 1
        rw [List.length_map, Ev.kinds_len, List.length_cons]
        omega
    rw [hlen]
    refine iteF ⟨_, rfl, _, rfl, 1, rfl, t, _, rfl, sqt ht, fun hw => ?_, fun _ sl hsl => ?_⟩
    · exfalso
      have h1 := hw.1
      rw [show HT.sIx (V.str e.word :: e.rest).length 0 (some 1) = 1 from (HT.sIx_nat _ _ 1).trans (by rw [List.length_cons]; omega)] at h1
      omega
    rw [cut_tailV]
    have e1 : Same H (upd H sl (.tup e.rest)) := same_new hsl
    have hsl1 : (upd H sl (.tup e.rest)) sl = some (.tup e.rest) := upd_same
    generalize upd H sl (.tup e.rest) = H1 at e1 hsl1
    have hl1 := e1 _ _ hl
    have hk := kinds_ok hok
    have hln := Ev.kinds_len e
    have hle : e.rest.length ≤ 3 := by cases e <;> simp [Ev.rest]
    refine ⟨tf, sl, _, _, rfl, hseq H1, sqt hsl1, fun D hD => ?_⟩
    refine lc_pure (walk_zipA2 (k1 := .t) (k2 := .t) (a := tf) (b := sl) (xs := e.kinds.map V.str) (ys := e.rest) rfl) hD (e.kinds.zip e.rest) (by rw [List.length_zip, List.length_map]) (by rw [List.length_map]; omega) (fun p v _ => v = .bl true) (fun _ _ _ _ _ z => z) (fun _ => true) (fun H' e => ⟨hseq H', sqt (e _ _ hsl1)⟩) (fun _ _ _ _ y => ypair_same y) ?_ ?_
    · rintro i p x H6 H5 kk hp e5 ⟨T', x1, y1, rfl, hT, rfl, hx1, hy1⟩ htk hf
      have hpz := hk p (List.mem_of_getElem? hp)
      rw [List.getElem?_zip_eq_some] at hp
      have hx1' : x1 = .str p.1 := by
        have h : (e.kinds.map V.str)[i]? = some x1 := hx1
        rw [List.getElem?_map, hp.1] at h
        exact (Option.some.inj h).symm
      have hy1' : y1 = p.2 := by
        have h : e.rest[i]? = some y1 := hy1
        rw [hp.2] at h
        exact (Option.some.inj h).symm
      subst hx1'
      subst hy1'
      refine ⟨T', _, rfl, sqt upd_same, rfl, _, _, rfl, _, _, rfl, rfl, ?_⟩
      have e6 : Same H6 (upd H6 T' (.tup [.str p.1, p.2])) := same_new hT
      refine ⟨rfl, _, rfl, _, rfl, _, rfl, _, rfl, p.1, p.2, nm, l, ns, rfl, e6 _ _ (e5 _ _ hl1), hpz.1, hpz.2, fun H' e' => htk _ _ e' rfl rfl⟩
    · intro ys H5 e5 hD5 hys
      rw [List.filter_eq_self.mpr (fun _ _ => rfl)] at hys
      have ez := plist hys
      subst ez
      refine ⟨D, (e.kinds.zip e.rest).map fun _ => true, rfl, sq (by rw [hD5, List.map_map] <;> rfl), ?_⟩
      have : (((e.kinds.zip e.rest).map fun _ => true).all id) = true := by simp
      rw [this]
      exact k H5 (e1.trans e5)
end
end Rr

set_option Elab.async false
set_option linter.all false
set_option maxRecDepth 100000
set_option maxHeartbeats 4000000
namespace Rr
open PySem PySem.Spec PyProof.Rows L2 Xr
/-- a tuple of rows -/
def TRows (H : Hp) (L : Addr) (rs : List Row) : Prop := ∃ xs, H L = some (.tup xs) ∧ Paired (RowV H) xs rs
theorem TRows.mono {H H' : Hp} {L : Addr} {rs : List Row} (e : TupS H H') (h : TRows H L rs) : TRows H' L rs := let ⟨xs, a, b⟩ := h; ⟨xs, e _ _ a, L2.Paired.mapP b fun _ _ z => z.mono e⟩
theorem dec_false {a b : V} (h : a ≠ b) : decide (a = b) = false := decide_eq_false h
section
variable {P : Program} {w : World} {K : PySem.W.Frag} {mg : Str → Option Value} {base : Heap}
/-! ### check_rows -/
abbrev N_check_rows : List Str := ["rows", "known", "index", "row"]
theorem sc_check_rows : FnScope N_check_rows ["rows"] (defScope s_check_rows) := ⟨rfl, rfl, rfl, by decide +kernel, rfl, by decide +kernel, by decide +kernel⟩
def sp_check_rows : Sp := fun vs H Q _ => ∃ (L : Addr) (ns : List Str) (R : Rec), vs = [.ref L] ∧ Good ns R ∧ TRows H L (rowsOf ns R) ∧ ∀ H', Same H H' → Q .non H'
theorem ok_check_rows (T : Txt K mg) (G_is_name : Gf P w K mg base 1 "is_name" ["thing"] sp_is_name) {f : Addr} {fd : FuncData} (F : FunD K "check_rows" "check_rows" (defArgs s_check_rows) (defBody s_check_rows) (defScope s_check_rows) [] [] f fd) : FnOk P w K mg base CX0 2 f fd ["rows"] sp_check_rows := by
  refine ok0 F sc_check_rows (fun vs H Q E h => ?_) (fun cdv A outer s H vs Q E hr h => ?_)
  · obtain ⟨L, ns, R, rfl, _⟩ := h
    rfl
  · obtain ⟨L, ns, R, rfl, g, ⟨xs, hL, hxs⟩, k⟩ := h
    refine ⟨_, (pss_cons (ps_if (pt_cmpR op_eq (pe_callB (q_len K rfl) (by rfl) T.z_len (by decide +kernel) (pa_cons (pv 0) pa_nil)) pe_int (nomark _))
        (pss_one ps_never)
        pss_nil)
      (pss_cons (ps_set (i := 1) sc_check_rows.nd rfl (Or.inl rfl) (pe_lst pa_nil))
      (pss_one (ps_for PassesOwn.never rfl (q_enumA K rfl .t (by rfl) T.z_enumerate (pa_cons (pv 0) pa_nil)) (q_tup (n := 2) K rfl rfl (pgs_cons (pg_name (i := 2) sc_check_rows.nd rfl (Or.inl rfl)) (pgs_cons (pg_name (i := 3) sc_check_rows.nd rfl (Or.inl rfl)) pgs_nil)))
        (pss_cons (ps_if (PW.pt (pw_or (pt_cmpR op_eq (pv 2) (pe_glob (v := .int 40) rfl T.MOST.choose_spec ⟨_, rfl⟩) (nomark _)) (pw_or (pt_not (pt_val (pe_callB (q_isi K rfl) (by rfl) T.z_isinstance (by decide +kernel) (pa_cons (pv 3) (pa_cons (pe_bltn (v := .ty "tuple") (u := .type "tuple") (by rfl) T.z_tuple (by decide +kernel) rfl) pa_nil))))) (pw_or1 (pt_cmpR op_ne (pe_callB (q_len K rfl) (by rfl) T.z_len (by decide +kernel) (pa_cons (pv 3) pa_nil)) pe_int (nomark _))))))
          (pss_one ps_never)
          pss_nil)
        (pss_cons (ps_if (PW.pt (pw_or (pt_not (pt_val (pe_call G_is_name.F (G_is_name.room hr) (by rfl) G_is_name.mg G_is_name.kp G_is_name.b .nil pass0 (pa_cons (pe_ix (q_ixt K rfl) (pv 3) pe_int (fun _ _ => rfl)) pa_nil)))) (pw_or (pt_cmpR (q_in K rfl) (pe_ix (q_ixt K rfl) (pv 3) pe_int (fun _ _ => rfl)) (pv 1) (by rfl)) (pw_or1 (pt_not (pt_val (pe_callB (q_isi K rfl) (by rfl) T.z_isinstance (by decide +kernel) (pa_cons (pe_ix (q_ixt K rfl) (pv 3) pe_int (fun _ _ => rfl)) (pa_cons (pe_bltn (v := .ty "tuple") (u := .type "tuple") (by rfl) T.z_tuple (by decide +kernel) rfl) pa_nil)))))))))
          (pss_one ps_never)
          pss_nil)
        (pss_one (ps_expr (q_bm K rfl PySem.F.plainAttrs_list PySem.F.slot_list_append PySem.F.type_list_append mt_append (pv 1) (pa_cons (pe_ix (q_ixt K rfl) (pv 3) pe_int (fun _ _ => rfl)) pa_nil)))))))))), ?_⟩
    have nlen : xs.length = ns.length := by rw [plen hxs, rows_len]
    have n2 := g.n2
    have n4 := g.n4
    refine ⟨_, rfl, _, _, rfl, .inr ⟨_, sqt hL, rfl⟩, rfl, _, rfl, ?_⟩
    rw [dec_false (fun z => by have := V.int.inj z; omega)]
    refine iteF ⟨s0, fun kn hkn => ?_⟩
    have e0 : Same H (upd H kn (.lst [])) := same_new hkn
    refine ⟨_, rfl, L, xs, rfl, sqt (e0 _ _ hL), for_it (walk_enumA (K := K) (k := .t) (a := L) (k0 := 0) (xs := xs)) (fun i σ' H1 => ∃ (v2 v3 : Option V), σ' = [some (.ref L), some (.ref kn), v2, v3] ∧ Same H H1 ∧ H1 kn = some (.lst ((ns.take i).map V.str)))
      ⟨none, none, rfl, e0, upd_same⟩ (fun i σ' H1 _ h => ?_) ?_ ?_⟩
    · obtain ⟨_, _, _, e, _⟩ := h
      exact sqt (e _ _ hL)
    · rintro i x σ' H1 H2 hi ⟨v2, v3, rfl, e1, hk1⟩ ⟨T', x1, y1, rfl, hT, rfl, hx1, hy1⟩
      cases hx1
      obtain ⟨a, t, y, z, es, hna, rfl, ht, rfl, hz, hes⟩ := row_at hxs hy1
      have e2 : Same H1 (upd H1 T' (.tup [.int (0 + (i : Nat)), .ref t])) := same_new hT
      have hT2 : (upd H1 T' (.tup [.int (0 + (i : Nat)), .ref t])) T' = _ := upd_same
      generalize upd H1 T' (.tup [.int (0 + (i : Nat)), .ref t]) = H2 at e2 hT2
      have e02 := e1.trans e2
      have ht2 := e02 _ _ ht
      have hz2 := e02 _ _ hz
      have hk2 := e2 _ _ hk1
      have ha := g.nm a (List.mem_of_getElem? hna)
      refine ⟨T', _, rfl, sqt hT2, rfl, _, _, rfl, _, _, rfl, rfl, ?_⟩
      refine ⟨_, rfl, rfl, _, rfl, ?_⟩
      rw [dec_false (fun z => by have := V.int.inj z; omega)]
      refine iteF (isi rfl (.base (.tup ht2)) (b := true) (by decide +kernel) ⟨true, rfl, iteF ?_⟩)
      refine ⟨_, rfl, _, _, rfl, .inr ⟨_, sqt ht2, rfl⟩, rfl, _, rfl, iteF ?_⟩
      refine ⟨_, rfl, t, _, 0, .str a, rfl, rfl, sqt ht2, atI_nat (j := 0) rfl, a, rfl, Nat.le_trans (nameB_len ha) (by decide), fun H3 e3 => ?_⟩
      rw [ha]
      refine ⟨true, rfl, iteF ?_⟩
      have ht3 := e3 _ _ ht2
      have hk3 := e3 _ _ hk2
      have hz3 := e3 _ _ hz2
      refine ⟨_, rfl, t, _, 0, .str a, rfl, rfl, sqt ht3, atI_nat (j := 0) rfl, _, rfl, kn, _, rfl, .inl (sq hk3), rfl, flatStrs _, ?_⟩
      rw [if_neg Bool.false_ne_true, inV_strs, decide_eq_false (not_mem_take g.nd hna)]
      refine ⟨_, rfl, iteF ⟨_, rfl, t, _, 1, .ref z, rfl, rfl, sqt ht3, atI_nat (j := 1) rfl, ?_⟩⟩
      refine ⟨.ref z, .ty "tuple", .type "tuple", .type "tuple", true, rfl, .ty "tuple", .base (.tup hz3), kit_ty (by decide +kernel), true, rfl, iteF ?_⟩
      refine ⟨_, rfl, tyl hk3, _, rfl, t, _, 0, .str a, rfl, rfl, sqt ht3, atI_nat (j := 0) rfl, kn, _, .str a, rfl, rfl, hk3, szl (by rw [List.length_map, List.length_take]; omega), ?_⟩
      refine ⟨_, _, rfl, same_mut (e02.trans e3) hkn, ?_⟩
      rw [upd_same, take_succ' hna, List.map_append]
      rfl
    · rintro σ' H1 ⟨v2, v3, rfl, e1, hk1⟩
      exact k H1 e1
/-! ### check_events -/
abbrev N_check_events : List Str := ["rows", "names", "name", "events", "number", "event"]
theorem sc_check_events : FnScope N_check_events ["rows"] (defScope s_check_events) := ⟨rfl, rfl, rfl, by decide +kernel, rfl, by decide +kernel, by decide +kernel⟩
def sp_check_events : Sp := fun vs H Q _ => ∃ (L : Addr) (ns : List Str) (R : Rec), vs = [.ref L] ∧ Good ns R ∧ TRows H L (rowsOf ns R) ∧ ∀ H', Same H H' → Q .non H'
theorem ok_check_events (T : Txt K mg) (G_is_form : Gf P w K mg base 4 "is_form" ["event", "name", "names"] sp_is_form) {f : Addr} {fd : FuncData} (F : FunD K "check_events" "check_events" (defArgs s_check_events) (defBody s_check_events) (defScope s_check_events) [] [] f fd) : FnOk P w K mg base CX0 5 f fd ["rows"] sp_check_events := by
  refine ok0 F sc_check_events (fun vs H Q E h => ?_) (fun cdv A outer s H vs Q E hr h => ?_)
  · obtain ⟨L, ns, R, rfl, _⟩ := h
    rfl
  · obtain ⟨L, ns, R, rfl, g, ⟨xs, hL, hxs⟩, k⟩ := h
    refine ⟨_, (pss_cons (ps_setLc (i := 1) (own := [("name", 2), ("events", 3)]) (by rfl) sc_check_events.nd rfl rfl (sw_true rfl rfl rfl (by decide +kernel)) (q_ptup K rfl (pv 0)) (blkOk_by (N := N_check_events) (sc := defScope s_check_events) (by decide +kernel)) (fun _ _ _ _ _ => (q_tup (n := 2) K rfl rfl (pgs_cons (pg_name (i := 2) sc_check_events.nd rfl (Or.inl rfl)) (pgs_cons (pg_name (i := 3) sc_check_events.nd rfl (Or.inl rfl)) pgs_nil)))) (fun _ _ _ _ _ => pts_nil) (fun _ _ _ _ _ => (pv 2)))
      (pss_one (ps_for PassesOwn.never rfl (q_ptup K rfl (pv 0)) (q_tup (n := 2) K rfl rfl (pgs_cons (pg_name (i := 2) sc_check_events.nd rfl (Or.inl rfl)) (pgs_cons (pg_name (i := 3) sc_check_events.nd rfl (Or.inl rfl)) pgs_nil)))
        (pss_one (ps_for PassesOwn.never rfl (q_enumS K rfl .t (by rfl) T.z_enumerate (pa_cons (pv 3) (pa_cons pe_int pa_nil))) (q_tup (n := 2) K rfl rfl (pgs_cons (pg_name (i := 4) sc_check_events.nd rfl (Or.inl rfl)) (pgs_cons (pg_name (i := 5) sc_check_events.nd rfl (Or.inl rfl)) pgs_nil)))
          (pss_one (ps_if (pt_not (pt_val (pe_call G_is_form.F (G_is_form.room hr) (by rfl) G_is_form.mg G_is_form.kp G_is_form.b .nil pass0 (pa_cons (pv 5) (pa_cons (pv 2) (pa_cons (pv 1) pa_nil))))))
            (pss_one ps_never)
            pss_nil))))))), ?_⟩
    have nlen : xs.length = ns.length := by rw [plen hxs, rows_len]
    have n4 := g.n4
    refine ⟨_, rfl, L, rfl, ⟨_, sqt hL⟩, fun nl hnl => lc_pure (walk_tup (K := K) (a := L) (xs := xs)) hnl ns nlen.symm (by omega) (fun b v _ => v = .str b) (fun _ _ _ _ _ z => z) (fun _ => true) (fun H' e => sqt (e _ _ hL)) (fun _ _ _ _ y => yat_same y) ?_ ?_⟩
    · rintro i b x H1 H2 kk hb e ⟨rfl, hx⟩ ht hf
      obtain ⟨a, t, y, z, es, hna, rfl, ht', rfl, hz, hes⟩ := row_at hxs hx
      have : a = b := by
        rw [hna] at hb
        exact Option.some.inj hb
      subst this
      exact ⟨t, _, rfl, sqt (e _ _ ht'), rfl, _, _, rfl, _, _, rfl, rfl, rfl, _, rfl, ht _ _ (Same.refl _) rfl rfl⟩
    intro ys H1 e1 hn1 hys
    rw [List.filter_eq_self.mpr (fun _ _ => rfl)] at hys
    have ey := plist hys
    subst ey
    clear hys
    refine ⟨_, rfl, L, rfl, ⟨_, sqt (e1 _ _ hL)⟩, for_it (walk_tup (K := K) (a := L) (xs := xs)) (fun i σ' H2 => ∃ (v2 v3 v4 v5 : Option V), σ' = [some (.ref L), some (.ref nl), v2, v3, v4, v5] ∧ Same H1 H2)
      ⟨none, none, none, none, rfl, Same.refl _⟩ (fun i σ' H2 _ h => ?_) ?_ ?_⟩
    · obtain ⟨_, _, _, _, _, e⟩ := h
      exact sqt (e _ _ (e1 _ _ hL))
    · rintro i x σ' H2' H2 hi ⟨v2, v3, v4, v5, rfl, e2⟩ ⟨rfl, hx⟩
      obtain ⟨a, t, y, z, es, hna, rfl, ht, rfl, hz, hes⟩ := row_at hxs hx
      have e12 := e1.trans e2
      refine ⟨t, _, rfl, sqt (e12 _ _ ht), rfl, _, _, rfl, _, _, rfl, rfl, ?_⟩
      refine ⟨_, rfl, z, es, 1, rfl, sqt (e12 _ _ hz), by decide, by decide, for_it (walk_enumA (K := K) (k := .t) (a := z) (k0 := 1) (xs := es)) (fun j σ' H3 => ∃ (v4 v5 : Option V), σ' = [some (.ref L), some (.ref nl), some (.str a), some (.ref z), v4, v5] ∧ Same H1 H3)
        ⟨v4, v5, rfl, e2⟩ (fun j σ' H3 _ h => ?_) ?_ ?_⟩
      · obtain ⟨_, _, _, e⟩ := h
        exact sqt (e _ _ (e1 _ _ hz))
      · rintro j x σ' H3 H4' hj ⟨v4, v5, rfl, e3⟩ ⟨T', x1, y1, rfl, hT, rfl, hx1, hy1⟩
        cases hx1
        obtain ⟨ev, hev, t', rfl, ht'⟩ := pget hes hy1
        have e4 : Same H3 (upd H3 T' (.tup [.int (1 + (j : Nat)), .ref t'])) := same_new hT
        have hT4 : (upd H3 T' (.tup [.int (1 + (j : Nat)), .ref t'])) T' = _ := upd_same
        generalize upd H3 T' (.tup [.int (1 + (j : Nat)), .ref t']) = H4 at e4 hT4
        have e14 := e1.trans (e3.trans e4)
        refine ⟨T', _, rfl, sqt hT4, rfl, _, _, rfl, _, _, rfl, rfl, ?_⟩
        refine ⟨_, rfl, _, rfl, _, rfl, .ref t', a, nl, ns, ev, rfl, ⟨t', rfl, e14 _ _ ht'⟩, g.ev a (List.mem_of_getElem? hna) ev (List.mem_of_getElem? hev), (e3.trans e4) _ _ hn1, fun H5 e5 => ⟨true, rfl, iteF ?_⟩⟩
        exact ⟨_, _, rfl, e3.trans (e4.trans e5)⟩
      · rintro σ' H3 ⟨v4, v5, rfl, e3⟩
        exact ⟨_, _, _, _, rfl, e3⟩
    · rintro σ' H2 ⟨v2, v3, v4, v5, rfl, e2⟩
      exact k H2 (e1.trans e2)
end
end Rr

set_option Elab.async false
set_option linter.all false
set_option maxRecDepth 100000
set_option maxHeartbeats 4000000
namespace Rr
open PySem PySem.Spec PyProof.Rows L2 Xr
def keyF {β : Type} (g : Str → Str → List β) : List Key → List β
  | [.inr a, .inr b] => g a b
  | _ => []
theorem keyF_upd {β : Type} (g : Str → Str → List β) (a q : Str) (y : β) : (fun j => if j = k2 a q then keyF g (k2 a q) ++ [y] else keyF g j) = keyF (fun x z => if x = a ∧ z = q then g a q ++ [y] else g x z) := by
  funext j
  by_cases hj : j = k2 a q
  · rw [if_pos hj, hj]
    show g a q ++ [y] = if a = a ∧ q = q then g a q ++ [y] else g a q
    rw [if_pos ⟨rfl, rfl⟩]
  · rw [if_neg hj]
    match j, hj with
    | [.inr x, .inr z], hj =>
      show g x z = if x = a ∧ z = q then g a q ++ [y] else g x z
      rw [if_neg (fun h => hj (by rw [h.1, h.2] <;> rfl))]
    | [], _ => rfl
    | [.inl _], _ => rfl
    | [.inr _], _ => rfl
    | .inl _ :: _ :: _, _ => rfl
    | [.inr _, .inl _], _ => rfl
    | .inr _ :: .inl _ :: _ :: _, _ => rfl
    | .inr _ :: .inr _ :: _ :: _, _ => rfl
def SndV (H : Hp) (v : V) (s : Nat × Int) : Prop := TupV H v [.int (s.1 : Nat), .int s.2]
theorem SndV_mono (H H' : Hp) (v : V) (x : Nat × Int) (t : TupS H H') (h : SndV H v x) : SndV H' v x := TupV.mono t h
def gS (_ : Str) (s : Nat × Int) : Nat × Int := s
theorem sentF_gS (T : Rec) : sentF gS T = fun x y => sendsTo (T x) y := by
  funext x y
  unfold sentF
  exact List.map_id' _
theorem dT_l : ∀ (a : List (List Key × V)) (b : HO) (xs : List V), HO.dT a = b → b ≠ .lst xs := fun _ _ _ h q => by rw [← h] at q; cases q
theorem dT_t : ∀ (a : List (List Key × V)) (b : HO) (xs : List V), HO.dT a = b → b ≠ .tup xs := fun _ _ _ h q => by rw [← h] at q; cases q
section
variable {P : Program} {w : World} {K : PySem.W.Frag} {mg : Str → Option Value} {base : Heap}
/-! ### sends_of -/
abbrev N_sends_of : List Str := ["rows", "found", "name", "events", "number", "event"]
theorem sc_sends_of : FnScope N_sends_of ["rows"] (defScope s_sends_of) := ⟨rfl, rfl, rfl, by decide +kernel, rfl, by decide +kernel, by decide +kernel⟩
def sp_sends_of : Sp := fun vs H Q _ => ∃ (L : Addr) (ns : List Str) (R : Rec), vs = [.ref L] ∧ Good ns R ∧ TRows H L (rowsOf ns R) ∧ ∀ d H' kvs, H d = none → DI HO.dT SndV H' d kvs (keyF fun a b => sendsTo (R a) b) → kvs.length ≤ 3600 → Same H H' → Q (.ref d) H'
theorem ok_sends_of (T : Txt K mg) {f : Addr} {fd : FuncData} (F : FunD K "sends_of" "sends_of" (defArgs s_sends_of) (defBody s_sends_of) (defScope s_sends_of) [] [] f fd) : FnOk P w K mg base CX0 1 f fd ["rows"] sp_sends_of := by
  refine ok0 F sc_sends_of (fun vs H Q E h => ?_) (fun cdv A outer s H vs Q E hr h => ?_)
  · obtain ⟨L, ns, R, rfl, _⟩ := h
    rfl
  · obtain ⟨L, ns, R, rfl, g, ⟨xs, hL, hxs⟩, k⟩ := h
    have hu := hu_of hr
    refine ⟨_, (pss_cons (ps_set (i := 1) sc_sends_of.nd rfl (Or.inl rfl) pe_dnewT)
      (pss_cons (ps_for PassesOwn.never rfl (q_ptup K rfl (pv 0)) (q_tup (n := 2) K rfl rfl (pgs_cons (pg_name (i := 2) sc_sends_of.nd rfl (Or.inl rfl)) (pgs_cons (pg_name (i := 3) sc_sends_of.nd rfl (Or.inl rfl)) pgs_nil)))
        (pss_one (ps_for PassesOwn.never rfl (q_enumS K rfl .t (by rfl) T.z_enumerate (pa_cons (pv 3) (pa_cons pe_int pa_nil))) (q_tup (n := 2) K rfl rfl (pgs_cons (pg_name (i := 4) sc_sends_of.nd rfl (Or.inl rfl)) (pgs_cons (pg_name (i := 5) sc_sends_of.nd rfl (Or.inl rfl)) pgs_nil)))
          (pss_one (ps_if (pt_cmpR op_eq (pe_ix (q_ixt K rfl) (pv 5) pe_int (fun _ _ => rfl)) pe_str (nomark _))
            (pss_one (ps_expr (q_bm K rfl PySem.F.plainAttrs_list PySem.F.slot_list_append PySem.F.type_list_append mt_append (pe_dsd hu (pv 1) (pe_tup (pa_cons (pv 2) (pa_cons (pe_ix (q_ixt K rfl) (pv 5) pe_int (fun _ _ => rfl)) pa_nil))) (pe_lst pa_nil) ⟨by rfl, by rfl, by rfl, by rfl⟩) (pa_cons (pe_tup (pa_cons (pv 4) (pa_cons (pe_ix (q_ixt K rfl) (pv 5) pe_int (fun _ _ => rfl)) pa_nil))) pa_nil))))
            pss_nil)))))
      (pss_one (ps_ret (pv 1))))), ?_⟩
    have nlen : xs.length = ns.length := by rw [plen hxs, rows_len]
    have n4 := g.n4
    refine fun d hd => ?_
    have e0 : Same H (upd H d (.dT [])) := same_new hd
    have D0 : DI HO.dT SndV (upd H d (.dT [])) d [] (keyF (sentF gS (Tof ns R 0))) := ⟨upd_same, fun k => .inl ⟨rfl, by rw [Tof_zero, sent_nil]; unfold keyF; split <;> rfl⟩, fun k j l h => by cases h⟩
    refine ⟨_, rfl, L, rfl, ⟨_, sqt (e0 _ _ hL)⟩, for_it (walk_tup (K := K) (a := L) (xs := xs)) (fun i σ' H1 => ∃ (v2 v3 v4 v5 : Option V) (kvs : List (List Key × V)), σ' = [some (.ref L), some (.ref d), v2, v3, v4, v5] ∧ (∀ k l, valV kvs k = some (.ref l) → H l = none) ∧ Same H H1 ∧ DI HO.dT SndV H1 d kvs (keyF (sentF gS (Tof ns R i))) ∧ kvs.length ≤ i * 900)
      ⟨none, none, none, none, [], rfl, fun _ _ h => (by cases h), e0, D0, by simp⟩ (fun i σ' H1 _ h => ?_) ?_ ?_⟩
    · obtain ⟨_, _, _, _, _, _, _, e, _⟩ := h
      exact sqt (e _ _ hL)
    · clear e0 D0
      rintro i x σ' H1' H1 hi ⟨v2, v3, v4, v5, kvs, rfl, hfr, e1, D1, hkl⟩ ⟨rfl, hx⟩
      obtain ⟨a, t, y, z, es, hna, rfl, ht, rfl, hz, hes⟩ := row_at hxs hx
      have elen : es.length = (R a).length := plen hes
      have hla := g.len a
      refine ⟨t, _, rfl, sqt (e1 _ _ ht), rfl, _, _, rfl, _, _, rfl, rfl, ?_⟩
      refine ⟨_, rfl, z, es, 1, rfl, sqt (e1 _ _ hz), by decide, by decide, for_it (walk_enumA (K := K) (k := .t) (a := z) (k0 := 1) (xs := es)) (fun j σ' H2 => ∃ (v4 v5 : Option V) (kvs : List (List Key × V)), σ' = [some (.ref L), some (.ref d), some (.str a), some (.ref z), v4, v5] ∧ (∀ k l, valV kvs k = some (.ref l) → H l = none) ∧ Same H H2 ∧ DI HO.dT SndV H2 d kvs (keyF (sentF gS (Tin ns R i a j))) ∧ kvs.length ≤ i * 900 + j)
        ⟨v4, v5, kvs, rfl, hfr, e1, by rw [Tin_zero g.nd hna]; exact D1, hkl⟩ (fun j σ' H2 _ h => ?_) ?_ ?_⟩
      · obtain ⟨_, _, _, _, _, e, _⟩ := h
        exact sqt (e _ _ hz)
      · clear e1 D1 hkl hfr kvs
        rintro j x σ' H2 H3' hj ⟨v4, v5, kvs, rfl, hfr, e2, D2, hkl⟩ ⟨T', x1, y1, rfl, hT, rfl, hx1, hy1⟩
        cases hx1
        have hj' : j < (R a).length := by omega
        have hka : (R a)[j]? = some (R a)[j] := List.getElem?_eq_getElem hj'
        obtain ⟨te, hte, htv⟩ := evs_at hes hj'
        have : y1 = .ref te := by
          have h : es[j]? = some y1 := hy1
          rw [hte] at h
          exact (Option.some.inj h).symm
        subst this
        have e3 : Same H2 (upd H2 T' (.tup [.int (1 + (j : Nat)), .ref te])) := same_new hT
        have hT3 : (upd H2 T' (.tup [.int (1 + (j : Nat)), .ref te])) T' = _ := upd_same
        generalize upd H2 T' (.tup [.int (1 + (j : Nat)), .ref te]) = H3 at e3 hT3
        have e03 := e2.trans e3
        have htv3 := e03 _ _ htv
        have D3 := D2.same SndV_mono e3
        refine ⟨T', _, rfl, sqt hT3, rfl, _, _, rfl, _, _, rfl, rfl, ?_⟩
        refine ⟨_, rfl, te, _, 0, .str (R a)[j].word, rfl, rfl, sqt htv3, atI_nat (j := 0) rfl, rfl, _, rfl, ?_⟩
        by_cases hw : (R a)[j].word = "send"
        · obtain ⟨q, v, hq⟩ := Ev.word_send.mp hw
          rw [hq] at htv3 hka
          rw [hq]
          refine iteT ?_
          have hid : IsD H3 d := .inr ⟨_, .inl D3.at_⟩
          refine ⟨_, rfl, d, rfl, hid, _, rfl, _, rfl, te, _, 1, .str q, rfl, rfl, sqt htv3, atI_nat (j := 1) rfl, s2, fun tp htp => ⟨s0, fun le hle => ?_⟩⟩
          have e4 : Same H3 (upd (upd H3 tp (.tup [.str a, .str q])) le (.lst [])) := (same_new htp).trans (same_new hle)
          have htp4 : (upd (upd H3 tp (.tup [.str a, .str q])) le (.lst [])) tp = some (.tup [.str a, .str q]) := by rw [upd_ne (ne_of_none upd_same hle)]; exact upd_same
          have hle4 : (upd (upd H3 tp (.tup [.str a, .str q])) le (.lst [])) le = some (.lst []) := upd_same
          have hleH : H le = none := same_back (e03.trans (same_new htp)) hle
          have hlev : ∀ k, valV kvs k ≠ some (.ref le) := fun k h => by
            rcases D3.val k with ⟨h1, _⟩ | ⟨l, xs, h1, h2, _⟩
            · rw [h1] at h; cases h
            · rw [h1] at h
              cases h
              have := (same_new (o := .tup [.str a, .str q]) htp) _ _ h2
              rw [this] at hle
              cases hle
          generalize upd (upd H3 tp (.tup [.str a, .str q])) le (.lst []) = H4 at e4 htp4 hle4
          have D4 := D3.same SndV_mono e4
          have e04 := e03.trans e4
          refine ⟨kvs, k2 a q, tp, D4.at_, rfl, htp4, szl (by omega), fun kvs' H5 v5 hcase => ?_⟩
          -- the list at the key
          obtain ⟨l, us, rfl, e05, ts45, hvl, hkl', hl5, hlH, hfr5, D5⟩ : ∃ l us, v5 = .ref l ∧ Same H H5 ∧ TupS H4 H5 ∧ valV kvs' (k2 a q) = some (.ref l) ∧ kvs'.length ≤ kvs.length + 1 ∧ H5 l = some (.lst us) ∧ H l = none ∧ (∀ k l, valV kvs' k = some (.ref l) → H l = none) ∧ DI HO.dT SndV H5 d kvs' (keyF (sentF gS (Tin ns R i a j))) := by
            rcases hcase with ⟨rfl, rfl, hv⟩ | ⟨rfl, rfl, rfl, hn⟩
            · rcases D4.val (k2 a q) with ⟨h1, _⟩ | ⟨l, us, h1, h2, _⟩
              · rw [h1] at hv; cases hv
              · rw [h1] at hv
                cases hv
                exact ⟨l, us, rfl, e04, tur _, h1, by omega, h2, hfr _ _ h1, hfr, D4⟩
            · refine ⟨le, [], rfl, same_mut e04 hd, tups_mut D4.at_ (fun zs q => nomatch q), by rw [valV_put, if_pos rfl], length_putK _ _ _, ?_, hleH, fun k l h => ?_, D4.add SndV_mono dT_l dT_t hle4 hlev hn⟩
              · rw [upd_ne (ne_of hle4 D4.at_ (fun q => nomatch q))]
                exact hle4
              · rw [valV_put] at h
                by_cases hk : k = k2 a q
                · rw [if_pos hk] at h
                  cases h
                  exact hleH
                · rw [if_neg hk] at h
                  exact hfr _ _ h
          have htv5 := e05 _ _ htv
          rw [hq] at htv5
          refine ⟨tyl hl5, _, rfl, _, rfl, te, _, 2, .int v, rfl, rfl, sqt htv5, atI_nat (j := 2) rfl, s2, fun ti hti => ?_⟩
          have e6 : Same H5 (upd H5 ti (.tup [.int (1 + (j : Nat)), .int v])) := same_new hti
          have hti6 : (upd H5 ti (.tup [.int (1 + (j : Nat)), .int v])) ti = _ := upd_same
          generalize upd H5 ti (.tup [.int (1 + (j : Nat)), .int v]) = H6 at e6 hti6
          have D6 := D5.same SndV_mono e6
          have hus : us.length ≤ 900 := by
            rcases D5.val (k2 a q) with ⟨h1, _⟩ | ⟨m, vs, h1, h2, h3⟩
            · rw [h1] at hvl; cases hvl
            · rw [h1] at hvl
              cases hvl
              rw [hl5] at h2
              cases h2
              rw [plen h3]
              show (sentF gS (Tin ns R i a j) a q).length ≤ 900
              unfold sentF
              rw [List.length_map]
              refine Nat.le_trans (sendsTo_len _ _) ?_
              rw [Tin_self, List.length_take]
              omega
          refine ⟨l, us, .ref ti, rfl, rfl, e6 _ _ hl5, szl (by omega), ?_⟩
          have D7 := D6.app SndV_mono dT_l hvl (e6 _ _ hl5) (v := .ref ti) (y := (j + 1, v)) ⟨ti, rfl, by
            rw [hti6]
            show _ = some (HO.tup [.int ((j + 1 : Nat) : Int), .int v])
            have : (1 + (j : Nat) : Int) = ((j + 1 : Nat) : Int) := by omega
            rw [this]⟩
          rw [keyF_upd] at D7
          have hs : (fun x z => if x = a ∧ z = q then sentF gS (Tin ns R i a j) a q ++ [(j + 1, v)] else sentF gS (Tin ns R i a j) x z) = sentF gS (Tin ns R i a (j + 1)) := sent_snd gS hka
          refine ⟨_, _, kvs', rfl, hfr5, same_mut (e05.trans e6) hlH, ?_, by omega⟩
          rw [← hs]
          exact D7
        · have hne : ∀ q v, (R a)[j] ≠ .snd q v := fun q v hq => hw (by rw [hq] <;> rfl)
          rw [dec_false (fun z => hw (V.str.inj z))]
          refine iteF ⟨_, _, kvs, rfl, hfr, e03, ?_, by omega⟩
          rw [← sent_other gS hka hne]
          exact D3
      · rintro σ' H2 ⟨v4, v5, kvs, rfl, hfr, e2, D2, hkl⟩
        refine ⟨_, _, _, _, kvs, rfl, hfr, e2, ?_, by rw [Nat.succ_mul]; omega⟩
        rw [elen, Tin_full hna] at D2
        exact D2
    · rintro σ' H1 ⟨v2, v3, v4, v5, kvs, rfl, hfr, e1, D1, hkl⟩
      rw [nlen, Tof_full g.out, sentF_gS] at D1
      exact ⟨_, rfl, k d H1 kvs hd D1 (Nat.le_trans hkl (by rw [nlen]; exact Nat.mul_le_mul_right 900 n4)) e1⟩
end
end Rr

set_option Elab.async false
set_option linter.all false
set_option maxRecDepth 100000
set_option maxHeartbeats 4000000
namespace Rr
open PySem PySem.Spec PyProof.Rows L2 Xr
structure Lnk (H : Hp) (kvs : List (List Key × V)) (ms : List (Id × Id)) : Prop where
  val : ∀ p ∈ ms, (∃ v, valV kvs (kE p.1) = some v ∧ IdV H v p.2) ∧ (∃ v, valV kvs (kE p.2) = some v ∧ IdV H v p.1)
  none : ∀ e, (∀ p ∈ ms, p.1 ≠ e ∧ p.2 ≠ e) → valV kvs (kE e) = none
theorem Lnk.mono {H H' : Hp} {kvs : List (List Key × V)} {ms : List (Id × Id)} (e : TupS H H') (z : Lnk H kvs ms) : Lnk H' kvs ms :=
  ⟨fun p hp => let ⟨⟨v, a, b⟩, ⟨u, c, d⟩⟩ := z.val p hp; ⟨⟨v, a, b.mono e⟩, ⟨u, c, d.mono e⟩⟩, z.none⟩
theorem Lnk.put {H : Hp} {kvs : List (List Key × V)} {ms : List (Id × Id)} (z : Lnk H kvs ms) {x y : Id} {vx vy : V} (hx : IdV H vx x) (hy : IdV H vy y) (h1 : ∀ p ∈ ms, p.1 = x → p.2 = y) (h2 : ∀ p ∈ ms, p.2 = y → p.1 = x) (h3 : ∀ p ∈ ms, p.1 ≠ y ∧ p.2 ≠ x) (hxy : x ≠ y) :
    Lnk H (putK (putK kvs (kE x) vy) (kE y) vx) (ms ++ [(x, y)]) := by
  have hval : ∀ e, valV (putK (putK kvs (kE x) vy) (kE y) vx) (kE e) = if e = y then some vx else if e = x then some vy else valV kvs (kE e) := by
    intro e
    rw [valV_put, valV_put]
    by_cases q1 : e = y
    · rw [if_pos (by rw [q1]), if_pos q1]
    · rw [if_neg (fun q => q1 (kE_inj q)), if_neg q1]
      by_cases q2 : e = x
      · rw [if_pos (by rw [q2]), if_pos q2]
      · rw [if_neg (fun q => q2 (kE_inj q)), if_neg q2]
  refine ⟨fun p hp => ?_, fun e he => ?_⟩
  · rcases List.mem_append.mp hp with hp | hp
    · obtain ⟨⟨v, a, b⟩, ⟨u, c, d⟩⟩ := z.val p hp
      obtain ⟨n1, n2⟩ := h3 p hp
      rw [hval, hval, if_neg n1, if_neg n2]
      refine ⟨?_, ?_⟩
      · by_cases q : p.1 = x
        · rw [if_pos q]
          exact ⟨vy, rfl, (h1 p hp q) ▸ hy⟩
        · rw [if_neg q]
          exact ⟨v, a, b⟩
      · by_cases q : p.2 = y
        · rw [if_pos q]
          exact ⟨vx, rfl, (h2 p hp q) ▸ hx⟩
        · rw [if_neg q]
          exact ⟨u, c, d⟩
    · rw [List.mem_singleton] at hp
      subst hp
      rw [hval, hval, if_neg hxy, if_pos rfl, if_pos rfl]
      exact ⟨⟨vy, rfl, hy⟩, ⟨vx, rfl, hx⟩⟩
  · have hl := he (x, y) (List.mem_append_right _ (List.mem_singleton_self _))
    rw [hval, if_neg (fun q => hl.2 q.symm), if_neg (fun q => hl.1 q.symm)]
    exact z.none e fun p hp => he p (List.mem_append_left _ hp)
theorem keyF_k2 {β : Type} (g : Str → Str → List β) (a b : Str) : keyF g (k2 a b) = g a b := rfl
section
variable {P : Program} {w : World} {K : PySem.W.Frag} {mg : Str → Option Value} {base : Heap}
/-! ### linked -/
abbrev N_linked : List Str := ["rows", "sends", "links", "name", "events", "taken", "number", "event", "sender", "at", "channel"]
theorem sc_linked : FnScope N_linked ["rows"] (defScope s_linked) := ⟨rfl, rfl, rfl, by decide +kernel, rfl, by decide +kernel, by decide +kernel⟩
def sp_linked : Sp := fun vs H Q _ => ∃ (L : Addr) (ns : List Str) (R : Rec), vs = [.ref L] ∧ Good ns R ∧ TRows H L (rowsOf ns R) ∧ ∀ d H' kvs, H d = none → H' d = some (.dT kvs) → Lnk H' kvs (msgsOf ns R) → Same H H' → Q (.ref d) H'
theorem ok_linked (T : Txt K mg) (T2 : Txt2 w K mg) (G_sends_of : Gf P w K mg base 1 "sends_of" ["rows"] sp_sends_of) {f : Addr} {fd : FuncData} (F : FunD K "linked" "linked" (defArgs s_linked) (defBody s_linked) (defScope s_linked) [] [] f fd) : FnOk P w K mg base CX0 2 f fd ["rows"] sp_linked := by
  refine ok0 F sc_linked (fun vs H Q E h => ?_) (fun cdv A outer s H vs Q E hr h => ?_)
  · obtain ⟨L, ns, R, rfl, _⟩ := h
    rfl
  · obtain ⟨L, ns, R, rfl, g, ⟨xs, hL, hxs⟩, k⟩ := h
    have hu := hu_of hr
    have hrec := T2.RECEIVING.choose_spec.2
    refine ⟨_, (pss_cons (ps_set (i := 1) sc_linked.nd rfl (Or.inl rfl) (pe_call G_sends_of.F (G_sends_of.room hr) (by rfl) G_sends_of.mg G_sends_of.kp G_sends_of.b .nil pass0 (pa_cons (pv 0) pa_nil)))
      (pss_cons (ps_set (i := 2) sc_linked.nd rfl (Or.inl rfl) pe_dnewT)
      (pss_cons (ps_for PassesOwn.never rfl (q_ptup K rfl (pv 0)) (q_tup (n := 2) K rfl rfl (pgs_cons (pg_name (i := 3) sc_linked.nd rfl (Or.inl rfl)) (pgs_cons (pg_name (i := 4) sc_linked.nd rfl (Or.inl rfl)) pgs_nil)))
        (pss_cons (ps_set (i := 5) sc_linked.nd rfl (Or.inl rfl) pe_dnewK)
        (pss_one (ps_for PassesOwn.never rfl (q_enumS K rfl .t (by rfl) T.z_enumerate (pa_cons (pv 4) (pa_cons pe_int pa_nil))) (q_tup (n := 2) K rfl rfl (pgs_cons (pg_name (i := 6) sc_linked.nd rfl (Or.inl rfl)) (pgs_cons (pg_name (i := 7) sc_linked.nd rfl (Or.inl rfl)) pgs_nil)))
          (pss_one (ps_if (pt_cmpR (q_in K rfl) (pe_ix (q_ixt K rfl) (pv 7) pe_int (fun _ _ => rfl)) (pe_glob (v := .ref T2.RECEIVING.choose) rfl T2.RECEIVING.choose_spec.1 rfl) (by rfl))
            (pss_cons (ps_set (i := 8) sc_linked.nd rfl (Or.inl rfl) (pe_ix (q_ixt K rfl) (pv 7) pe_int (fun _ _ => rfl)))
            (pss_cons (ps_set (i := 9) sc_linked.nd rfl (Or.inl rfl) (pe_dget2 hu (pv 5) (pv 8) pe_int ⟨by rfl, by rfl, by rfl, by rfl⟩))
            (pss_cons (ps_dput hu (pv 5) (pv 8) (pe_op op_add (pv 9) pe_int) rfl)
            (pss_cons (ps_set (i := 10) sc_linked.nd rfl (Or.inl rfl) (pe_dget2 hu (pv 1) (pe_tup (pa_cons (pv 8) (pa_cons (pv 3) pa_nil))) (pe_lst pa_nil) ⟨by rfl, by rfl, by rfl, by rfl⟩))
            (pss_cons (ps_if (PW.pt (pw_or (pt_cmpR op_ge (pv 9) (pe_callB (q_len K rfl) (by rfl) T.z_len (by decide +kernel) (pa_cons (pv 10) pa_nil)) (nomark _)) (pw_or1 (pt_cmpR (q_neD K rfl hr.units) (pe_ix (q_ixt K rfl) (pe_ix (q_ixl K rfl) (pv 10) (pv 9) (fun _ _ => rfl)) pe_int (fun _ _ => rfl)) (pe_ix (q_ixt K rfl) (pv 7) pe_int (fun _ _ => rfl)) (nomark _)))))
              (pss_one ps_never)
              pss_nil)
            (pss_cons (ps_dput hu (pv 2) (pe_tup (pa_cons (pv 8) (pa_cons (pe_ix (q_ixt K rfl) (pe_ix (q_ixl K rfl) (pv 10) (pv 9) (fun _ _ => rfl)) pe_int (fun _ _ => rfl)) pa_nil))) (pe_tup (pa_cons (pv 3) (pa_cons (pv 6) pa_nil))) rfl)
            (pss_one (ps_dput hu (pv 2) (pe_tup (pa_cons (pv 3) (pa_cons (pv 6) pa_nil))) (pe_tup (pa_cons (pv 8) (pa_cons (pe_ix (q_ixt K rfl) (pe_ix (q_ixl K rfl) (pv 10) (pv 9) (fun _ _ => rfl)) pe_int (fun _ _ => rfl)) pa_nil))) rfl))))))))
            pss_nil))))))
      (pss_one (ps_ret (pv 2)))))), ?_⟩
    have nlen : xs.length = ns.length := by rw [plen hxs, rows_len]
    have n4 := g.n4
    refine ⟨_, rfl, L, ns, R, rfl, g, ⟨xs, hL, hxs⟩, fun sd H0 skv hsdH S0 hskl e0 => fun d hd => ?_⟩
    have hdH : H d = none := same_back e0 hd
    have e1 : Same H0 (upd H0 d (.dT [])) := same_new hd
    have hd1 : (upd H0 d (.dT [])) d = some (.dT []) := upd_same
    generalize upd H0 d (.dT []) = H1 at e1 hd1
    have S1 := S0.same SndV_mono e1
    have nsd : sd ≠ d := ne_of_none S0.at_ hd
    have e01 := e0.trans e1
    clear hd e1 e0 S0
    refine ⟨_, rfl, L, rfl, ⟨_, sqt (e01 _ _ hL)⟩, for_it (walk_tup (K := K) (a := L) (xs := xs)) (fun i σ' H2 => ∃ (v3 v4 v5 v6 v7 v8 v9 v10 : Option V) (kvs : List (List Key × V)), σ' = [some (.ref L), some (.ref sd), some (.ref d), v3, v4, v5, v6, v7, v8, v9, v10] ∧ Same H H2 ∧ FrS [d] H1 H2 ∧ H2 d = some (.dT kvs) ∧ kvs.length ≤ 2 * (i * 900) ∧ Lnk H2 kvs (msgsOf (ns.take i) R))
      ⟨none, none, none, none, none, none, none, none, [], rfl, e01, FrS.of (Same.refl _), hd1, by simp, ⟨fun p hp => (by simp [msgsOf] at hp), fun _ _ => rfl⟩⟩ (fun i σ' H1 _ h => ?_) ?_ ?_⟩
    · obtain ⟨_, _, _, _, _, _, _, _, _, _, e, _⟩ := h
      exact sqt (e _ _ hL)
    · rintro i x σ' H2' H2 hi ⟨v3, v4, v5, v6, v7, v8, v9, v10, kvs, rfl, e2, f2, hd2, hkl, K2⟩ ⟨rfl, hx⟩
      obtain ⟨a, t, y, z, es, hna, rfl, ht, rfl, hz, hes⟩ := row_at hxs hx
      have elen : es.length = (R a).length := plen hes
      have hla := g.len a
      refine ⟨t, _, rfl, sqt (e2 _ _ ht), rfl, _, _, rfl, _, _, rfl, rfl, ?_⟩
      refine fun tk htk => ?_
      have htkH : H tk = none := same_back e2 htk
      have e3 : Same H2 (upd H2 tk (.dK [])) := same_new htk
      have ntd : tk ≠ d := (ne_of_none hd2 htk).symm
      have C3 : CntAt (upd H2 tk (.dK [])) tk 0 (fun _ => 0) := CntAt.new
      generalize upd H2 tk (.dK []) = H3 at e3 C3
      refine ⟨_, rfl, z, es, 1, rfl, sqt ((e2.trans e3) _ _ hz), by decide, by decide, for_it (walk_enumA (K := K) (k := .t) (a := z) (k0 := 1) (xs := es)) (fun j σ' H4 => ∃ (v6 v7 v8 v9 v10 : Option V) (kvs : List (List Key × V)), σ' = [some (.ref L), some (.ref sd), some (.ref d), some (.str a), some (.ref z), some (.ref tk), v6, v7, v8, v9, v10] ∧ Same H H4 ∧ FrS [d, tk] H3 H4 ∧ H4 d = some (.dT kvs) ∧ kvs.length ≤ 2 * (i * 900 + j) ∧ Lnk H4 kvs (msgsOf (ns.take i) R ++ msgsB R a j) ∧ CntAt H4 tk j (cntR ((R a).take j)))
        ⟨v6, v7, v8, v9, v10, kvs, rfl, e2.trans e3, FrS.of (Same.refl _), e3 _ _ hd2, by omega, by rw [msgsB, List.append_nil]; exact K2.mono (stups e3), C3⟩ (fun j σ' H4 _ h => ?_) ?_ ?_⟩
      · obtain ⟨_, _, _, _, _, _, _, e, _⟩ := h
        exact sqt (e _ _ hz)
      · rintro j x σ' H4 H5' hj ⟨v6, v7, v8, v9, v10, kvs, rfl, e4, f4, hd4, hkl4, K4, C4⟩ ⟨T', x1, y1, rfl, hT, rfl, hx1, hy1⟩
        cases hx1
        have hj' : j < (R a).length := by omega
        have hka : (R a)[j]? = some (R a)[j] := List.getElem?_eq_getElem hj'
        obtain ⟨te, hte, htv⟩ := evs_at hes hj'
        have : y1 = .ref te := by
          have h : es[j]? = some y1 := hy1
          rw [hte] at h
          exact (Option.some.inj h).symm
        subst this
        have f14 : FrS [d, tk] H1 H4 := fun b o hb hn => by
          simp only [List.mem_cons, List.not_mem_nil, or_false, not_or] at hn
          refine f4 b o (e3 _ _ (f2 b o hb (by simpa using hn.1))) (by simp [hn.1, hn.2])
        have ts14 : TupS H1 H4 := fun b zs hb => f14 b _ hb (by
          simp only [List.mem_cons, List.not_mem_nil, or_false, not_or]
          have h2 := f2 b _ hb (by simp; exact ne_of hb hd1 (fun q => nomatch q))
          exact ⟨ne_of hb hd1 (fun q => nomatch q), ne_of_none h2 htk⟩)
        have e5 : Same H4 (upd H4 T' (.tup [.int (1 + (j : Nat)), .ref te])) := same_new hT
        have hT5 : (upd H4 T' (.tup [.int (1 + (j : Nat)), .ref te])) T' = _ := upd_same
        generalize upd H4 T' (.tup [.int (1 + (j : Nat)), .ref te]) = H5 at e5 hT5
        have e05 := e4.trans e5
        have htv5 := e05 _ _ htv
        have hd5 := e5 _ _ hd4
        have K5 := K4.mono (stups e5)
        obtain ⟨ckv, hck, hckl, hckv⟩ := C4.ex
        have hck5 := e5 _ _ hck
        have C5 := C4.fr (hck5.trans hck.symm)
        refine ⟨T', _, rfl, sqt hT5, rfl, _, _, rfl, _, _, rfl, rfl, ?_⟩
        refine ⟨_, rfl, te, _, 0, .str (R a)[j].word, rfl, rfl, sqt htv5, atI_nat (j := 0) rfl, _, _, rfl, .inr (hrec H5), rfl, flatStrs _, ?_⟩
        rw [if_neg Bool.false_ne_true, inV_strs]
        refine ⟨_, rfl, ?_⟩
        by_cases hw : (R a)[j].word = "receive" ∨ (R a)[j].word = "take"
        · have hin : (R a)[j].word ∈ recS := by
            rcases hw with h | h <;> (rw [h]; decide)
          obtain ⟨t', q, x', v, hq⟩ := Ev.word_rcv.mp hw
          rw [decide_eq_true hin]
          refine iteT ?_
          rw [hq] at htv5 hka
          obtain ⟨s', hm1, hm2⟩ := g.mate hka
          have htv5' : H5 te = some (.tup [.str (Ev.rcv t' q x' v).word, .str q, .str x', .int v]) := htv5
          -- sender, at
          refine ⟨_, rfl, te, _, 1, .str q, rfl, rfl, sqt htv5', atI_nat (j := 1) rfl, ?_⟩
          obtain ⟨u, gu, gu'⟩ := C5.get q
          refine ⟨_, rfl, tk, rfl, C5.isD, _, rfl, u, gu, ?_⟩
          rw [gu']
          -- taken[sender] = at + 1
          have hj9 : j ≤ 50000 := by omega
          obtain ⟨H6, hput, C6, o6, eH6, kvs6, hkv6⟩ := C5.put hj9 q (cntR ((R a).take j) q + 1)
          refine ⟨_, rfl, _, 1, rfl, rfl, _, rfl, _, rfl, tk, H6, rfl, hput, ?_⟩
          have ts6 : TupS H5 H6 := by rw [eH6]; exact tups_mut hkv6 (fun zs z => nomatch z)
          have e06 : Same H H6 := by rw [eH6]; exact same_mut e05 htkH
          have hd6 : H6 d = some (.dT kvs) := by rw [eH6, upd_ne ntd.symm]; exact hd5
          have f16 : FrS [d, tk] H1 H6 := by
            rw [eH6]
            exact (f14.trans (FrS.of e5)).trans (FrS.upd (by simp))
          have K6 := K5.mono ts6
          have ts16 : TupS H1 H6 := tut ts14 (tut (stups e5) ts6)
          have f36 : FrS [d, tk] H3 H6 := by
            rw [eH6]
            exact (f4.trans (FrS.of e5)).trans (FrS.upd (by simp))
          have htv6 := ts6 _ _ htv5'
          clear hput eH6 hkv6 kvs6 o6 gu gu' C5 hck5
          -- channel
          have hS := S1.val (k2 q a)
          rw [keyF_k2] at hS
          obtain ⟨l, us, hl1, hl2, hl3⟩ : ∃ l us, valV skv (k2 q a) = some (.ref l) ∧ H1 l = some (.lst us) ∧ Paired (SndV H1) us (sendsTo (R q) a) := by
            rcases hS with ⟨_, h⟩ | h
            · rw [h] at hm2
              cases hm2
            · exact h
          refine ⟨_, rfl, sd, rfl, .inr ⟨skv, .inl (f16 _ _ S1.at_ (by simp only [List.mem_cons, List.not_mem_nil, or_false, not_or]; exact ⟨nsd, fun q => by
            have h2 := f2 _ _ S1.at_ (by simp; exact nsd)
            rw [q, htk] at h2; cases h2⟩))⟩, _, rfl, _, rfl, s2, fun tp htp => ⟨s0, fun le hle => ?_⟩⟩
          have e7 : Same H6 (upd (upd H6 tp (.tup [.str q, .str a])) le (.lst [])) := (same_new htp).trans (same_new hle)
          have htp7 : (upd (upd H6 tp (.tup [.str q, .str a])) le (.lst [])) tp = some (.tup [.str q, .str a]) := by rw [upd_ne (ne_of_none upd_same hle)]; exact upd_same
          generalize upd (upd H6 tp (.tup [.str q, .str a])) le (.lst []) = H7 at e7 htp7
          have hnot : ∀ b o, H1 b = some o → b ≠ d → b ∉ [d, tk] := fun b o hb hn => by
            simp only [List.mem_cons, List.not_mem_nil, or_false, not_or]
            exact ⟨hn, ne_of_none (f2 _ _ hb (by simp; exact hn)) htk⟩
          have hsd7 := e7 _ _ (f16 _ _ S1.at_ (hnot _ _ S1.at_ nsd))
          have hl7 := e7 _ _ (f16 _ _ hl2 (hnot _ _ hl2 (ne_of hl2 hd1 (fun q => nomatch q))))
          refine ⟨_, DGet.t (k := k2 q a) hsd7 htp7, ?_⟩
          rw [hl1]
          have hcl : cntR ((R a).take j) q < us.length := by
            rw [plen hl3]
            exact (List.getElem?_eq_some_iff.mp hm2).1
          obtain ⟨vc, hvc, tv, rfl, htvc⟩ := pget' hl3 hm2
          have htvc7 := stups e7 _ _ (ts16 _ _ htvc)
          have htv7 := e7 _ _ htv6
          refine ⟨_, rfl, _, rfl, _, _, rfl, .inl ⟨_, sq hl7, rfl⟩, _, _, rfl, rfl, _, rfl, ?_⟩
          rw [decide_eq_false (show ¬ ((cntR ((R a).take j) q : Nat) : Int) ≥ ((us.length : Nat) : Int) by omega)]
          refine iteF ⟨_, rfl, _, rfl, l, us, (cntR ((R a).take j) q : Nat), .ref tv, rfl, rfl, sq hl7, atI_nat hvc, tv, _, 1, .int v, rfl, rfl, sqt htvc7, atI_nat (j := 1) rfl, _, rfl, te, _, 3, .int v, rfl, rfl, sqt htv7, atI_nat (j := 3) rfl, .int v, .int v, .int v, .int v, rfl, rfl, _, rfl, ?_⟩
          have heq : (!PyData.eqv (.int v) (.int v)) = false := by simp [PyData.eqv]
          rw [heq]
          refine iteF ?_
          have e1j : (0 : Int) + 1 = 1 := rfl
          have enum : (1 + (j : Nat) : Int) = ((j + 1 : Nat) : Int) := by omega
          -- links[sender, ..] = name, number
          refine ⟨_, rfl, _, rfl, s2, fun t1 ht1 => ?_⟩
          have e8 : Same H7 (upd H7 t1 (.tup [.str a, .int (1 + (j : Nat))])) := same_new ht1
          have ht18 : (upd H7 t1 (.tup [.str a, .int (1 + (j : Nat))])) t1 = some (.tup (idVs (a, j + 1))) := by
            rw [upd_same, enum]
            rfl
          generalize upd H7 t1 (.tup [.str a, .int (1 + (j : Nat))]) = H8 at e8 ht18
          refine ⟨_, rfl, _, rfl, _, rfl, _, rfl, l, us, (cntR ((R a).take j) q : Nat), .ref tv, rfl, rfl, sq (e8 _ _ hl7), atI_nat hvc, tv, _, 0, .int (s' : Nat), rfl, rfl, sqt (e8 _ _ htvc7), atI_nat (j := 0) rfl, s2, fun t2 ht2 => ?_⟩
          have e9 : Same H8 (upd H8 t2 (.tup [.str q, .int (s' : Nat)])) := same_new ht2
          have ht29 : (upd H8 t2 (.tup [.str q, .int (s' : Nat)])) t2 = some (.tup ((kE (q, s')).map kV)) := upd_same
          generalize upd H8 t2 (.tup [.str q, .int (s' : Nat)]) = H9 at e9 ht29
          have e69 := e7.trans (e8.trans e9)
          have hd9 := e69 _ _ hd6
          have hkl9 : kvs.length < sizeLine := szl (by omega)
          refine ⟨d, _, rfl, DPut.t (k := kE (q, s')) hd9 ht29 hkl9, ?_⟩
          have ts10 : TupS H9 (upd H9 d (.dT (putK kvs (kE (q, s')) (.ref t1)))) := tups_mut hd9 (fun zs z => nomatch z)
          have hd10 : (upd H9 d (.dT (putK kvs (kE (q, s')) (.ref t1)))) d = _ := upd_same
          have e010 : Same H (upd H9 d (.dT (putK kvs (kE (q, s')) (.ref t1)))) := same_mut (e06.trans e69) hdH
          have f310 : FrS [d, tk] H3 (upd H9 d (.dT (putK kvs (kE (q, s')) (.ref t1)))) := (f36.trans (FrS.of e69)).trans (FrS.upd (by simp))
          have hl10 : (upd H9 d (.dT (putK kvs (kE (q, s')) (.ref t1)))) l = some (.lst us) := by
            rw [upd_ne (ne_of (e9 _ _ (e8 _ _ hl7)) hd9 (fun q => nomatch q))]
            exact e9 _ _ (e8 _ _ hl7)
          have C10 : CntAt (upd H9 d (.dT (putK kvs (kE (q, s')) (.ref t1)))) tk (j + 1) _ := C6.fr (by
            obtain ⟨kc, g1, _⟩ := C6.ex
            rw [upd_ne ntd, g1]
            exact e69 _ _ g1)
          have ts610 : TupS H6 (upd H9 d (.dT (putK kvs (kE (q, s')) (.ref t1)))) := tut (stups e69) ts10
          have htvc10 := ts10 _ _ (e9 _ _ (e8 _ _ htvc7))
          have ht110 := ts10 _ _ (e9 _ _ ht18)
          generalize upd H9 d (.dT (putK kvs (kE (q, s')) (.ref t1))) = H10 at ts10 hd10 e010 f310 hl10 C10 ts610 htvc10 ht110
          -- links[name, number] = sender, ..
          refine ⟨_, rfl, _, rfl, _, rfl, l, us, (cntR ((R a).take j) q : Nat), .ref tv, rfl, rfl, sq hl10, atI_nat hvc, tv, _, 0, .int (s' : Nat), rfl, rfl, sqt htvc10, atI_nat (j := 0) rfl, s2, fun t3 ht3 => ?_⟩
          have e11 : Same H10 (upd H10 t3 (.tup [.str q, .int (s' : Nat)])) := same_new ht3
          have ht311 : (upd H10 t3 (.tup [.str q, .int (s' : Nat)])) t3 = some (.tup (idVs (q, s'))) := upd_same
          generalize upd H10 t3 (.tup [.str q, .int (s' : Nat)]) = H11 at e11 ht311
          refine ⟨_, rfl, _, rfl, _, rfl, s2, fun t4 ht4 => ?_⟩
          have e12 : Same H11 (upd H11 t4 (.tup [.str a, .int (1 + (j : Nat))])) := same_new ht4
          have ht412 : (upd H11 t4 (.tup [.str a, .int (1 + (j : Nat))])) t4 = some (.tup ((kE (a, j + 1)).map kV)) := by
            rw [upd_same, enum]
            rfl
          generalize upd H11 t4 (.tup [.str a, .int (1 + (j : Nat))]) = H12 at e12 ht412
          have e1012 := e11.trans e12
          have hd12 := e1012 _ _ hd10
          refine ⟨d, _, rfl, DPut.t (k := kE (a, j + 1)) hd12 ht412 (szl (by have := length_putK kvs (kE (q, s')) (V.ref t1); omega)), ?_⟩
          have ts13 : TupS H12 (upd H12 d (.dT (putK (putK kvs (kE (q, s')) (.ref t1)) (kE (a, j + 1)) (.ref t3)))) := tups_mut hd12 (fun zs z => nomatch z)
          have hlen13 : (putK (putK kvs (kE (q, s')) (V.ref t1)) (kE (a, j + 1)) (V.ref t3)).length ≤ 2 * (i * 900 + (j + 1)) := by
            have := length_putK kvs (kE (q, s')) (V.ref t1)
            have := length_putK (putK kvs (kE (q, s')) (V.ref t1)) (kE (a, j + 1)) (V.ref t3)
            omega
          refine ⟨_, _, _, _, _, _, rfl, same_mut (e010.trans e1012) hdH, (f310.trans (FrS.of e1012)).trans (FrS.upd (by simp)), upd_same, hlen13, ?_, ?_⟩
          · rw [msgsB_rcv hm1, ← List.append_assoc]
            have K13 := K6.mono (tut ts610 (tut (stups e1012) ts13))
            have hmem : ((q, s'), (a, j + 1)) ∈ msgsOf ns R := mem_msgs.mpr ⟨a, List.mem_of_getElem? hna, j, v, hj', hm1, rfl⟩
            have hsub : ∀ p ∈ msgsOf (ns.take i) R ++ msgsB R a j, p ∈ msgsOf ns R := by
              intro p hp
              rcases List.mem_append.mp hp with h | h
              · obtain ⟨b, hb, r⟩ := mem_msgs.mp h
                exact mem_msgs.mpr ⟨b, List.mem_of_mem_take hb, r⟩
              · obtain ⟨k, v, h1, h2, h3⟩ := mem_msgsB.mp h
                exact mem_msgs.mpr ⟨a, List.mem_of_getElem? hna, k, v, by omega, h2, h3⟩
            refine K13.put ⟨t3, rfl, ts13 _ _ (e12 _ _ ht311)⟩ ⟨t1, rfl, ts13 _ _ (e1012 _ _ ht110)⟩ ?_ ?_ ?_ ?_
            · intro p hp q1
              exact msg_snd g (q1 ▸ hsub p hp) hmem
            · intro p hp q1
              exact msg_fst g (q1 ▸ hsub p hp) hmem
            · intro p hp
              exact ⟨msg_ne g (hsub p hp) hmem, fun q1 => msg_ne g hmem (hsub p hp) q1.symm⟩
            · exact msg_ne g hmem hmem
          · rw [cnt_step hka] at C10
            exact C10.fr (by
              obtain ⟨kc, g1, _⟩ := C10.ex
              rw [upd_ne ntd, g1]
              exact e1012 _ _ g1)
        · have hin : (R a)[j].word ∉ recS := by
            intro z
            apply hw
            simpa [recS] using z
          have hne : ∀ t q x v, (R a)[j] ≠ .rcv t q x v := fun t q x v hq => hw (Ev.word_rcv.mpr ⟨t, q, x, v, hq⟩)
          rw [decide_eq_false hin]
          refine iteF ⟨_, _, _, _, _, kvs, rfl, e05, f4.trans (FrS.of e5), hd5, by omega, ?_, ?_⟩
          · rw [msgsB_other (mate_none hka hne)]
            exact K5
          · rw [← cnt_other hka hne]
            exact ⟨ckv, hck5, by omega, hckv⟩
      · rintro σ' H4 ⟨v6, v7, v8, v9, v10, kvs, rfl, e4, f4, hd4, hkl, L4, C4⟩
        refine ⟨_, _, _, _, _, _, _, _, kvs, rfl, e4, ?_, hd4, by rw [Nat.succ_mul]; omega, ?_⟩
        · intro b o hb hn
          have h2 := f2 b o hb hn
          refine f4 b o (e3 _ _ h2) ?_
          simp only [List.mem_cons, List.not_mem_nil, or_false, not_or]
          exact ⟨fun q => hn (by simp [q]), ne_of_none h2 htk⟩
        · rw [elen, ← msgs_take hna] at L4
          exact L4
    · rintro σ' H2 ⟨v3, v4, v5, v6, v7, v8, v9, v10, kvs, rfl, e2, f2, hd2, hkl, K2⟩
      rw [nlen, List.take_length] at K2
      exact ⟨_, rfl, k d H2 kvs hdH hd2 K2 e2⟩
end
end Rr

set_option Elab.async false
set_option linter.all false
set_option maxRecDepth 100000
set_option maxHeartbeats 4000000
namespace Rr
open PySem PySem.Spec PyProof.Rows L2 Xr
structure ExI (R : Rec) (P : Cut) (fnd : List Id) : Prop where
  nd : fnd.Nodup
  mem : ∀ e, e ∈ fnd ↔ 1 ≤ e.2 ∧ e.2 ≤ P e.1
  le : ∀ a, P a ≤ (R a).length
theorem exI_nil (R : Rec) : ExI R (fun _ => 0) [] := ⟨List.nodup_nil, fun e => by simp; omega, fun _ => Nat.zero_le _⟩
theorem ExI.step {R : Rec} {P : Cut} {fnd : List Id} (z : ExI R P fnd) {a : Str} (h : P a < (R a).length) : ExI R (bump P a) (fnd ++ [(a, P a + 1)]) := by
  refine ⟨?_, fun e => ?_, fun b => ?_⟩
  · refine List.nodup_append.mpr ⟨z.nd, by simp, ?_⟩
    rintro x hx y hy rfl
    rw [List.mem_singleton] at hy
    subst hy
    have := ((z.mem _).mp hx).2
    simp only at this
    omega
  · rw [List.mem_append, List.mem_singleton, z.mem]
    obtain ⟨b, k⟩ := e
    by_cases hb : b = a
    · subst hb
      rw [bump_self]
      simp only [Prod.mk.injEq, true_and]
      omega
    · rw [bump_ne P hb]
      simp [hb]
  · by_cases hb : b = a
    · rw [hb, bump_self]
      omega
    · rw [bump_ne P hb]
      exact z.le b
section
variable {P : Program} {w : World} {K : PySem.W.Frag} {mg : Str → Option Value} {base : Heap}
/-! ### executable -/
abbrev N_executable : List Str := ["rows", "links", "found", "places", "name", "events", "moved", "event"]
theorem sc_executable : FnScope N_executable ["rows", "links"] (defScope s_executable) := ⟨rfl, rfl, rfl, by decide +kernel, rfl, by decide +kernel, by decide +kernel⟩
def sp_executable : Sp := fun vs H Q _ => ∃ (L d : Addr) (ns : List Str) (R : Rec) (kvs : List (List Key × V)) (ord : List Id), vs = [.ref L, .ref d] ∧ Good ns R ∧ TRows H L (rowsOf ns R) ∧ H d = some (.dT kvs) ∧ Lnk H kvs (msgsOf ns R) ∧ Lin R (Stp R (msgsOf ns R)) ord ∧
  ∀ l H' xs sq, H l = none → H' l = some (.lst xs) → Paired (IdV H') xs sq → sq.Nodup → (∀ e, e ∈ sq ↔ IsEv R e) → Same H H' → Q (.ref l) H'
theorem ok_executable (T : Txt K mg) (T2 : Txt2 w K mg) {f : Addr} {fd : FuncData} (F : FunD K "executable" "executable" (defArgs s_executable) (defBody s_executable) (defScope s_executable) [] [] f fd) : FnOk P w K mg base CX0 1 f fd ["rows", "links"] sp_executable := by
  refine ok0 F sc_executable (fun vs H Q E h => ?_) (fun cdv A outer s H vs Q E hr h => ?_)
  · obtain ⟨L, d, ns, R, kvs, ord, rfl, _⟩ := h
    rfl
  · obtain ⟨L, d, ns, R, kvs, ord, rfl, g, ⟨xs, hL, hxs⟩, hd, K0, lin, k⟩ := h
    have hu := hu_of hr
    have hrec := T2.RECEIVING.choose_spec.2
    refine ⟨_, (pss_cons (ps_set (i := 2) sc_executable.nd rfl (Or.inl rfl) (pe_lst pa_nil))
      (pss_cons (ps_setDc (i := 3) (own := [("name", 4), ("events", 5)]) (by rfl) sc_executable.nd rfl rfl (sw_trueD rfl rfl rfl (by decide +kernel)) (q_ptup K rfl (pv 0)) (blkOk_by (N := N_executable) (sc := defScope s_executable) (by decide +kernel)) (fun _ _ _ _ _ => (q_tup (n := 2) K rfl rfl (pgs_cons (pg_name (i := 4) sc_executable.nd rfl (Or.inl rfl)) (pgs_cons (pg_name (i := 5) sc_executable.nd rfl (Or.inl rfl)) pgs_nil)))) (fun _ _ _ _ _ => pts_nil) (fun _ _ _ _ _ => (pv 4)) (fun _ _ _ _ _ => pe_int))
      (pss_cons (ps_set (i := 6) sc_executable.nd rfl (Or.inl rfl) pe_bl)
      (pss_cons (ps_while PassesOwn.never (pt_val (pv 6))
        (pss_cons (ps_set (i := 6) sc_executable.nd rfl (Or.inl rfl) pe_bl)
        (pss_one (ps_for PassesOwn.never rfl (q_ptup K rfl (pv 0)) (q_tup (n := 2) K rfl rfl (pgs_cons (pg_name (i := 4) sc_executable.nd rfl (Or.inl rfl)) (pgs_cons (pg_name (i := 5) sc_executable.nd rfl (Or.inl rfl)) pgs_nil)))
          (pss_one (ps_while PassesOwn.never (pt_cmpR op_lt (pe_dget hu (pv 3) (pv 4) (fun _ _ => rfl)) (pe_callB (q_len K rfl) (by rfl) T.z_len (by decide +kernel) (pa_cons (pv 5) pa_nil)) (nomark _))
            (pss_cons (ps_set (i := 7) sc_executable.nd rfl (Or.inl rfl) (pe_tup (pa_cons (pv 4) (pa_cons (pe_op op_add (pe_dget hu (pv 3) (pv 4) (fun _ _ => rfl)) pe_int) pa_nil))))
            (Evl.pss_cut (ps_if (PW.pt (pw_and (pt_cmpR (q_in K rfl) (pe_ix (q_ixt K rfl) (pe_ix (q_ixt K rfl) (pv 5) (pe_dget hu (pv 3) (pv 4) (fun _ _ => rfl)) (fun _ _ => rfl)) pe_int (fun _ _ => rfl)) (pe_glob (v := .ref T2.RECEIVING.choose) rfl T2.RECEIVING.choose_spec.1 rfl) (by rfl)) (pw_and1 (pt_cmpR op_gt (pe_ix (q_ixt K rfl) (pe_dget hu (pv 1) (pv 7) (fun _ _ => rfl)) pe_int (fun _ _ => rfl)) (pe_dget hu (pv 3) (pe_ix (q_ixt K rfl) (pe_dget hu (pv 1) (pv 7) (fun _ _ => rfl)) pe_int (fun _ _ => rfl)) (fun _ _ => rfl)) (nomark _)))))
              (pss_one ps_break)
              pss_nil)
            (pss_cons (ps_daug hu (pv 3) (pv 4) pe_int in_add (fun _ _ _ => rfl))
            (pss_cons (ps_expr (q_bm K rfl PySem.F.plainAttrs_list PySem.F.slot_list_append PySem.F.type_list_append mt_append (pv 2) (pa_cons (pv 7) pa_nil)))
            (pss_one (ps_set (i := 6) sc_executable.nd rfl (Or.inl rfl) pe_bl))))))))))))
      (pss_one (ps_ret (pv 2))))))), ?_⟩
    have nlen : xs.length = ns.length := by rw [plen hxs, rows_len]
    have n4 := g.n4
    refine ⟨s0, fun fo hfo => ?_⟩
    have e1 : Same H (upd H fo (.lst [])) := same_new hfo
    have hfo1 : (upd H fo (.lst [])) fo = some (.lst []) := upd_same
    generalize upd H fo (.lst []) = H1 at e1 hfo1
    -- places
    refine ⟨_, rfl, L, rfl, ⟨_, sqt (e1 _ _ hL)⟩, fun pl hpl => dc_it (walk_tup (K := K) (a := L) (xs := xs)) (fun i H2 => Same H1 H2 ∧ TN (PlV fun _ => 0) H2 pl (ns.take i)) ⟨same_new hpl, TN.new⟩ (fun i H2 _ h => sqt (h.1 _ _ (e1 _ _ hL))) ?_ ?_⟩
    · rintro i x H2 H2' hi ⟨e2, T2⟩ ⟨rfl, hx⟩
      obtain ⟨a, t, y, z, es, hna, rfl, ht, rfl, hz, hes⟩ := row_at hxs hx
      refine ⟨t, _, rfl, sqt (e2 _ _ (e1 _ _ ht)), rfl, _, _, rfl, _, _, rfl, rfl, ?_⟩
      obtain ⟨kv, h1, h2, h3⟩ := T2.add (G := PlV fun _ => 0) (v := .int 0) (not_mem_take g.nd hna) (fun _ => rfl) (fun _ _ _ _ h => h)
      refine ⟨rfl, _, rfl, kv, .inr a, rfl, h1, szl (by rw [h2, List.length_take]; omega), same_mut e2 hpl, ?_⟩
      rw [take_succ' hna]
      exact h3
    rintro H2 ⟨e2, T2⟩
    rw [nlen, List.take_length] at T2
    have hplH : H pl = none := same_back e1 hpl
    have e02 := e1.trans e2
    have hfo2 := e2 _ _ hfo1
    have nfp : fo ≠ pl := ne_of_none hfo1 hpl
    clear hpl e1 e2
    generalize hT : (allIds ns R).length = tot
    have hsumle : ∀ C : Cut, (∀ a, C a ≤ (R a).length) → (ns.map C).sum ≤ tot := fun C hC => by
      rw [← hT, allIds_sum]
      exact sum_le fun b _ => hC b
    refine ⟨fun n σ' H3 => ∃ (v4 v5 v7 : Option V) (ch : Bool) (C : Cut) (fnd : List Id) (zs : List V), σ' = [some (.ref L), some (.ref d), some (.ref fo), some (.ref pl), v4, v5, some (.bl ch), v7] ∧ n = (tot - (ns.map C).sum) + (if ch = true then 1 else 0) ∧ Same H H3 ∧ H3 fo = some (.lst zs) ∧ Paired (IdV H3) zs fnd ∧ TN (PlV C) H3 pl ns ∧ ExI R C fnd ∧ (ch = false → ∀ a ∈ ns, Stuck R C a),
      ⟨_, none, none, none, true, fun _ => 0, [], [], rfl, rfl, e02, hfo2, .nil, T2, exI_nil R, fun z => by cases z⟩, ?_⟩
    rintro n σ' H3 ⟨v4, v5, v7, ch, C, fnd, zs, rfl, rfl, e3, hfo3, hz3, T3, ex3, st3⟩
    refine ⟨_, rfl, ch, rfl, ?_⟩
    cases ch with
    | false =>
      rw [if_neg Bool.false_ne_true]
      have hall := exec_done g lin ex3.le (st3 rfl)
      exact ⟨_, rfl, k fo H3 zs fnd hfo hfo3 hz3 ex3.nd (fun e => by rw [ex3.mem, hall]; exact Iff.rfl) e3⟩
    | true =>
      rw [if_pos rfl]
      refine ⟨_, fun σ' H' h => h, ?_⟩
      refine ⟨_, rfl, L, rfl, ⟨_, sqt (e3 _ _ hL)⟩, for_it (walk_tup (K := K) (a := L) (xs := xs)) (fun i σ' H4 => ∃ (v4 v5 v7 : Option V) (ch : Bool) (C' : Cut) (fnd : List Id) (zs : List V), σ' = [some (.ref L), some (.ref d), some (.ref fo), some (.ref pl), v4, v5, some (.bl ch), v7] ∧ Same H H4 ∧ H4 fo = some (.lst zs) ∧ Paired (IdV H4) zs fnd ∧ TN (PlV C') H4 pl ns ∧ ExI R C' fnd ∧
          (ch = false → C' = C ∧ ∀ (j : Nat) a, j < i → ns[j]? = some a → Stuck R C a) ∧ (ch = true → (ns.map C).sum < (ns.map C').sum))
        ⟨v4, v5, v7, false, C, fnd, zs, rfl, e3, hfo3, hz3, T3, ex3, fun _ => ⟨rfl, fun _ _ h => by omega⟩, fun z => by cases z⟩ (fun i σ' H1 _ h => ?_) ?_ ?_⟩
      · obtain ⟨_, _, _, _, _, _, _, _, e, _⟩ := h
        exact sqt (e _ _ hL)
      · rintro i x σ' H4' H4 hi ⟨v4, v5, v7, ch, C', fnd', zs', rfl, e4, hfo4, hz4, T4, ex4, c0, c1⟩ ⟨rfl, hx⟩
        obtain ⟨a, t, y, z, es, hna, rfl, ht, rfl, hz, hes⟩ := row_at hxs hx
        have ham := List.mem_of_getElem? hna
        have elen : es.length = (R a).length := plen hes
        refine ⟨t, _, rfl, sqt (e4 _ _ ht), rfl, _, _, rfl, _, _, rfl, rfl, ?_⟩
        refine ⟨fun m σ' H5 => ∃ (v7 : Option V) (ch : Bool) (C' : Cut) (fnd : List Id) (zs : List V), σ' = [some (.ref L), some (.ref d), some (.ref fo), some (.ref pl), some (.str a), some (.ref z), some (.bl ch), v7] ∧ m = (R a).length - C' a ∧ Same H H5 ∧ H5 fo = some (.lst zs) ∧ Paired (IdV H5) zs fnd ∧ TN (PlV C') H5 pl ns ∧ ExI R C' fnd ∧
          (ch = false → C' = C ∧ ∀ (j : Nat) a, j < i → ns[j]? = some a → Stuck R C a) ∧ (ch = true → (ns.map C).sum < (ns.map C').sum),
          ⟨_, v7, ch, C', fnd', zs', rfl, rfl, e4, hfo4, hz4, T4, ex4, c0, c1⟩, ?_⟩
        clear e4 hfo4 hz4 T4 ex4 c0 c1
        rintro m σ' H5 ⟨v7, ch, C', fnd', zs', rfl, rfl, e5, hfo5, hz5, T5, ex5, c0, c1⟩
        obtain ⟨v, rfl, gd⟩ := T5.get ham
        refine ⟨_, rfl, _, rfl, pl, _, rfl, gd, _, rfl, _, _, rfl, .inr ⟨_, sqt (e5 _ _ hz), rfl⟩, _, _, rfl, rfl, _, rfl, ?_⟩
        -- leaving
        have leave : ∀ (v7 : Option V) (HH : Hp), Same H5 HH → Stuck R C' a → ∃ (v4 v5 v7' : Option V) (ch' : Bool) (C'' : Cut) (fnd'' : List Id) (zs'' : List V), [some (.ref L), some (.ref d), some (.ref fo), some (.ref pl), some (.str a), some (.ref z), some (.bl ch), v7] = [some (.ref L), some (.ref d), some (.ref fo), some (.ref pl), v4, v5, some (.bl ch'), v7'] ∧ Same H HH ∧ HH fo = some (.lst zs'') ∧ Paired (IdV HH) zs'' fnd'' ∧ TN (PlV C'') HH pl ns ∧ ExI R C'' fnd'' ∧
            (ch' = false → C'' = C ∧ ∀ (j : Nat) a, j < i + 1 → ns[j]? = some a → Stuck R C a) ∧ (ch' = true → (ns.map C).sum < (ns.map C'').sum) := fun v7 HH eh hst =>
          ⟨_, _, _, ch, C', fnd', zs', rfl, e5.trans eh, eh _ _ hfo5, L2.Paired.mapP hz5 fun _ _ z => z.mono (stups eh), T5.imp (fun _ h => eh _ _ h) (fun _ _ _ h => h), ex5, fun hc => ⟨(c0 hc).1, fun j b hj hb => by
            by_cases hji : j < i
            · exact (c0 hc).2 j b hji hb
            · have : j = i := by omega
              rw [this, hna] at hb
              cases hb
              exact (c0 hc).1 ▸ hst⟩, c1⟩
        by_cases hlt : C' a < (R a).length
        · rw [decide_eq_true (show ((C' a : Nat) : Int) < ((es.length : Nat) : Int) by omega)]
          refine iteT ⟨_, fun σ' H' h => h, ?_⟩
          refine ⟨_, rfl, _, rfl, _, rfl, pl, _, rfl, gd, (C' a : Nat), 1, rfl, rfl, s2, fun te hte => ?_⟩
          have e6 : Same H5 (upd H5 te (.tup [.str a, .int ((C' a : Nat) + 1)])) := same_new hte
          have hte6 : (upd H5 te (.tup [.str a, .int ((C' a : Nat) + 1)])) te = some (.tup ((kE (a, C' a + 1)).map kV)) := upd_same
          generalize upd H5 te (.tup [.str a, .int ((C' a : Nat) + 1)]) = H6 at e6 hte6
          have e06 := e5.trans e6
          have T6 : TN (PlV C') H6 pl ns := T5.imp (fun _ h => e6 _ _ h) fun _ _ _ h => h
          have hz6 := e06 _ _ hz
          have hd6 := e06 _ _ hd
          have gd6 := dget_same e6 gd
          have hka : (R a)[C' a]? = some (R a)[C' a] := List.getElem?_eq_getElem hlt
          obtain ⟨tev, htev, htv⟩ := evs_at hes hlt
          have htv6 := e06 _ _ htv
          refine ⟨fun σ' H' => H' = H6 ∧ σ' = [some (.ref L), some (.ref d), some (.ref fo), some (.ref pl), some (.str a), some (.ref z), some (.bl ch), some (.ref te)], ?_, ?_⟩
          · refine ⟨_, rfl, _, rfl, _, rfl, pl, _, rfl, gd6, z, _, (C' a : Nat), .ref tev, rfl, rfl, sqt hz6, atI_nat htev, tev, _, 0, .str (R a)[C' a].word, rfl, rfl, sqt htv6, atI_nat (j := 0) rfl, _, _, rfl, .inr (hrec H6), rfl, flatStrs _, ?_⟩
            rw [if_neg Bool.false_ne_true, inV_strs]
            refine ⟨_, rfl, ?_⟩
            by_cases hw : (R a)[C' a].word = "receive" ∨ (R a)[C' a].word = "take"
            · have hin : (R a)[C' a].word ∈ recS := by
                rcases hw with h | h <;> (rw [h]; decide)
              obtain ⟨t', q, x', v, hq⟩ := Ev.word_rcv.mp hw
              rw [decide_eq_true hin]
              refine iteT ?_
              rw [hq] at hka
              obtain ⟨s', hm1, hm2⟩ := g.mate hka
              have hmem : ((q, s'), (a, C' a + 1)) ∈ msgsOf ns R := mem_msgs.mpr ⟨a, ham, C' a, v, hlt, hm1, rfl⟩
              obtain ⟨vl, hvl, tl, rfl, htl⟩ := (K0.val _ hmem).2
              have htl6 : H6 tl = some (.tup [.str q, .int (s' : Nat)]) := e06 _ _ htl
              have hgl : DGet H6 d (.ref te) (some (.ref tl)) := by
                rw [← hvl]
                exact DGet.t (k := kE (a, C' a + 1)) hd6 hte6
              have hqn : q ∈ ns := g.mem (e := (q, s')) (msgs_arr ns R _ hmem).1
              obtain ⟨vq, rfl, gq⟩ := T6.get hqn
              refine ⟨_, rfl, _, rfl, d, _, rfl, hgl, tl, _, 1, .int (s' : Nat), rfl, rfl, sqt htl6, atI_nat (j := 1) rfl, _, rfl, _, rfl, _, rfl, d, _, rfl, hgl, tl, _, 0, .str q, rfl, rfl, sqt htl6, atI_nat (j := 0) rfl, pl, _, rfl, gq, _, _, rfl, rfl, _, rfl, ?_⟩
              by_cases hgt : C' q < s'
              · rw [decide_eq_true (show ((s' : Nat) : Int) > ((C' q : Nat) : Int) by omega)]
                refine iteT ?_
                exact leave (some (.ref te)) H6 e6 (.inr ⟨q, s', v, hm1, hgt⟩)
              · rw [decide_eq_false (show ¬ ((s' : Nat) : Int) > ((C' q : Nat) : Int) by omega)]
                exact iteF ⟨rfl, rfl⟩
            · have hin : (R a)[C' a].word ∉ recS := by
                intro z
                apply hw
                simpa [recS] using z
              rw [decide_eq_false hin]
              exact iteF ⟨rfl, rfl⟩
          · rintro σ' H6 ⟨rfl, rfl⟩
            have hfo6 := e6 _ _ hfo5
            have hz6' := L2.Paired.mapP hz5 fun _ _ z => z.mono (stups e6)
            obtain ⟨kv, o, hkv, hput, T7⟩ := T6.put (G := PlV (bump C' a)) ham (v := .int ((C' a : Nat) + 1)) (szl (by omega)) (fun _ => by show _ = V.int ((bump C' a a : Nat) : Int); rw [bump_self]; rfl) (fun v' b o hb hne h => by
              show v' = V.int ((bump C' a b : Nat) : Int)
              rw [bump_ne C' hne]
              exact h)
            refine ⟨_, rfl, _, rfl, pl, _, rfl, gd6, (C' a : Nat), 1, rfl, rfl, _, hput, ?_⟩
            have ts7 : TupS H6 (upd H6 pl (.dK o)) := tups_mut hkv (fun zs z => nomatch z)
            have hfo7 : (upd H6 pl (.dK o)) fo = some (.lst zs') := by rw [upd_ne nfp]; exact hfo6
            have e07 : Same H (upd H6 pl (.dK o)) := same_mut e06 hplH
            have hte7 := ts7 _ _ hte6
            generalize upd H6 pl (.dK o) = H7 at ts7 hfo7 e07 T7 hte7
            have hzl : zs'.length < sizeLine := by
              rw [plen hz5]
              have h1 : fnd'.length ≤ (allIds ns R).length := ex5.nd.length_le_of_subset fun e he => g.allIds.mpr (by
                have := (ex5.mem e).mp he
                exact ⟨this.1, Nat.le_trans this.2 (ex5.le _)⟩)
              have h2 := allIds_len g.len ns
              have h3 : ns.length * 900 ≤ 4 * 900 := Nat.mul_le_mul_right _ n4
              exact szl (by omega)
            refine ⟨_, rfl, tyl hfo7, _, rfl, fo, zs', .ref te, rfl, rfl, hfo7, hzl, ?_⟩
            have ts8 : TupS H7 (upd H7 fo (.lst (zs' ++ [.ref te]))) := tups_mut hfo7 (fun zs z => nomatch z)
            refine ⟨_, ?_, _, true, bump C' a, fnd' ++ [(a, C' a + 1)], zs' ++ [.ref te], rfl, rfl, same_mut e07 hfo, upd_same, ?_, ?_, ex5.step hlt, fun z => (by cases z), fun _ => ?_⟩
            · rw [bump_self]
              omega
            · exact Paired.snoc (L2.Paired.mapP hz6' fun _ _ z => z.mono (tut ts7 ts8)) ⟨te, rfl, ts8 _ _ hte7⟩
            · exact T7.imp (fun kvs h => by rw [upd_ne nfp.symm]; exact h) fun _ _ _ h => h
            · rw [sum_bump g.nd ham]
              cases ch with
              | false => rw [(c0 rfl).1]; omega
              | true => have := c1 rfl; omega
        · rw [decide_eq_false (show ¬ ((C' a : Nat) : Int) < ((es.length : Nat) : Int) by omega)]
          refine iteF ?_
          exact leave v7 H5 (Same.refl _) (.inl (by have := ex5.le a; omega))
      · rintro σ' H4 ⟨v4, v5, v7, ch, C', fnd', zs', rfl, e4, hfo4, hz4, T4, ex4, c0, c1⟩
        refine ⟨_, ?_, _, _, _, ch, C', fnd', zs', rfl, rfl, e4, hfo4, hz4, T4, ex4, fun hc a ha => ?_⟩
        · cases ch with
          | false =>
            rw [(c0 rfl).1, if_neg Bool.false_ne_true, if_pos rfl]
            omega
          | true =>
            have h1 := c1 rfl
            have h2 := hsumle C' ex4.le
            rw [if_pos rfl]
            omega
        · rw [(c0 hc).1]
          obtain ⟨j, hj⟩ := List.mem_iff_getElem?.mp ha
          refine (c0 hc).2 j a ?_ hj
          rw [nlen]
          exact (List.getElem?_eq_some_iff.mp hj).1
end
end Rr

set_option Elab.async false
set_option linter.all false
set_option maxRecDepth 100000
set_option maxHeartbeats 4000000
namespace Rr
open PySem PySem.Spec PyProof.Rows L2 Xr
/-! ### rows as trees -/
theorem pleaf {k : Bool} {H : Hp} {n : Nat} : ∀ vs : List V, (∀ v ∈ vs, Leaf v) → Paired (TrV k H n) vs (vs.map .leaf)
  | [], _ => .nil
  | v :: r, h => .cons (.leaf (h v (List.mem_cons_self ..))) (pleaf r fun u hu => h u (List.mem_cons_of_mem _ hu))
theorem pleaf_eq {k : Bool} {H : Hp} {n : Nat} : ∀ {xs vs : List V}, Paired (TrV k H n) xs (vs.map .leaf) → xs = vs
  | [], [], _ => rfl
  | x :: xs, [], h => by cases h
  | [], v :: vs, h => by cases h
  | x :: xs, v :: vs, .cons h t => by
    have : x = v := by cases n <;> exact h.1
    rw [this, pleaf_eq t]
theorem leaf_vs (e : Ev) : ∀ v ∈ e.vs, Leaf v := by
  intro v hv
  cases e <;> simp only [Ev.vs, List.mem_cons, List.not_mem_nil, or_false] at hv <;> rcases hv with rfl | rfl | rfl | rfl <;> first | exact .str _ | exact .int _
def evTr (e : Ev) : Tr := .node (e.vs.map .leaf)
def rowTr (r : Row) : Tr := .node [.leaf (.str r.1), .node (r.2.map evTr)]
theorem ev_tr {k : Bool} {H : Hp} {v : V} {e : Ev} (h : EvV H v e) : TrV k H 1 v (evTr e) := by
  obtain ⟨a, rfl, h⟩ := h
  exact .node (.inl h) (by cases e <;> simp [Ev.vs]) (pleaf _ (leaf_vs e))
theorem ev_untr {H : Hp} {v : V} {e : Ev} (h : TrV false H 1 v (evTr e)) : EvV H v e := by
  obtain ⟨a, xs, rfl, h1, _, h2⟩ := h
  have := pleaf_eq h2
  subst this
  rcases h1 with h1 | ⟨h1, _⟩
  · exact ⟨a, rfl, h1⟩
  · cases h1
theorem evs_tr {k : Bool} {H : Hp} : ∀ {xs : List V} {es : List Ev}, Paired (EvV H) xs es → Paired (TrV k H 1) xs (es.map evTr)
  | _, _, .nil => .nil
  | _, _, .cons h t => .cons (ev_tr h) (evs_tr t)
theorem evs_untr {H : Hp} : ∀ {xs : List V} {es : List Ev}, Paired (TrV false H 1) xs (es.map evTr) → Paired (EvV H) xs es
  | [], [], _ => .nil
  | _ :: _, [], h => by cases h
  | [], _ :: _, h => by cases h
  | _ :: _, _ :: _, .cons h t => .cons (ev_untr h) (evs_untr t)
theorem row_tr {k : Bool} {H : Hp} {v : V} {r : Row} (h : RowV H v r) (hl : r.2.length ≤ 100000) : TrV k H 3 v (rowTr r) := by
  obtain ⟨y, ⟨a, rfl, h1⟩, xs, ⟨b, rfl, h2⟩, h3⟩ := h
  refine .node (.inl h1) (by simp) (.cons (.leaf (.str _)) (.cons (.node (.inl h2) (by rw [plen h3]; exact hl) (evs_tr h3)) .nil))
theorem row_untr {H : Hp} {v : V} {r : Row} (h : TrV false H 3 v (rowTr r)) : RowV H v r := by
  obtain ⟨a, xs, rfl, h1, _, h2⟩ := h
  cases h2 with
  | cons hx ht =>
    cases ht with
    | cons hy hn =>
      cases hn
      obtain ⟨b, ys, rfl, h3, _, h4⟩ := hy
      have := hx.1
      subst this
      have h1' : H a = some (.tup [.str r.1, .ref b]) := by
        rcases h1 with h1 | ⟨h1, _⟩
        · exact h1
        · cases h1
      have h3' : H b = some (.tup ys) := by
        rcases h3 with h3 | ⟨h3, _⟩
        · exact h3
        · cases h3
      exact ⟨.ref b, ⟨a, rfl, h1'⟩, ys, ⟨b, rfl, h3'⟩, evs_untr h4⟩
/-! ### the object -/
/-- what is asked of the class -/
structure CRec (K : PySem.W.Frag) (C : Addr) : Prop where
  cl : Cls K C
  rows : NoAttr K C "rows"
  table : NoAttr K C "table"
  links : NoAttr K C "links"
  sequence : NoAttr K C "sequence"
abbrev EvsF (R : Rec) : Hp → V → Str → Prop := fun H v a => EvsV H v (R a)
/-- frames with exclusion -/
structure Fx (S : List Addr) (H H' : Hp) : Prop where
  f : FrS S H H'
  t : TupS H H'
theorem Fx.of {S : List Addr} {H H' : Hp} (e : Same H H') : Fx S H H' := ⟨FrS.of e, stups e⟩
theorem Fx.trans {S : List Addr} {H H1 H2 : Hp} (a : Fx S H H1) (b : Fx S H1 H2) : Fx S H H2 := ⟨a.f.trans b.f, tut a.t b.t⟩
/-- a record at r -/
structure RecAt (S : List Addr) (H : Hp) (C r : Addr) (ns : List Str) (R : Rec) : Prop where
  ex : ∃ (dx L tb lk sq : Addr) (kvs : List (List Key × V)) (xs : List V) (seq : List Id), H r = some (.ins C dx [("rows", .ref L), ("table", .ref tb), ("links", .ref lk), ("sequence", .ref sq)]) ∧ TRows H L (rowsOf ns R) ∧ TN (EvsF R) H tb ns ∧ H lk = some (.dT kvs) ∧ Lnk H kvs (msgsOf ns R) ∧
    H sq = some (.lst xs) ∧ Paired (IdV H) xs seq ∧ seq.Nodup ∧ (∀ e, e ∈ seq ↔ IsEv R e) ∧ r ∉ S ∧ tb ∉ S ∧ lk ∉ S ∧ sq ∉ S
theorem RecAt.fx {S : List Addr} {H H' : Hp} {C r : Addr} {ns : List Str} {R : Rec} (z : RecAt S H C r ns R) (e : Fx S H H') : RecAt S H' C r ns R := by
  obtain ⟨dx, L, tb, lk, sq, kvs, xs, seq, h1, h2, h3, h4, h5, h6, h7, h8, h9, n1, n2, n3, n4⟩ := z.ex
  exact ⟨dx, L, tb, lk, sq, kvs, xs, seq, e.f _ _ h1 n1, h2.mono e.t, h3.imp (fun _ h => e.f _ _ h n2) (fun _ _ _ h => h.mono e.t), e.f _ _ h4 n3, h5.mono e.t, e.f _ _ h6 n4, L2.Paired.mapP h7 fun _ _ q => q.mono e.t, h8, h9, n1, n2, n3, n4⟩
theorem RecAt.same {S : List Addr} {H H' : Hp} {C r : Addr} {ns : List Str} {R : Rec} (z : RecAt S H C r ns R) (e : Same H H') : RecAt S H' C r ns R := z.fx (.of e)
/-- S may be any that H does not know -/
theorem RecAt.grow {S S' : List Addr} {H : Hp} {C r : Addr} {ns : List Str} {R : Rec} (z : RecAt S H C r ns R) (h : ∀ a ∈ S', a ∈ S ∨ H a = none) : RecAt S' H C r ns R := by
  obtain ⟨dx, L, tb, lk, sq, kvs, xs, seq, h1, h2, h3, h4, h5, h6, h7, h8, h9, n1, n2, n3, n4⟩ := z.ex
  have go : ∀ {a : Addr} {o : HO}, H a = some o → a ∉ S → a ∉ S' := fun ha hn hm => by
    rcases h _ hm with q | q
    · exact hn q
    · rw [ha] at q
      cases q
  obtain ⟨kvt, ht, _⟩ := h3.ex
  exact ⟨dx, L, tb, lk, sq, kvs, xs, seq, h1, h2, h3, h4, h5, h6, h7, h8, h9, go h1 n1, go ht n2, go h4 n3, go h6 n4⟩
theorem seq_len {R : Rec} {seq : List Id} (nd : seq.Nodup) (hm : ∀ e, e ∈ seq ↔ IsEv R e) (a : Str) : (R a).length ≤ (seq.filter fun e => decide (e.1 = a)).length := by
  have h1 : ((List.range (R a).length).map fun k => ((a, k + 1) : Id)).Nodup := by
    refine List.Pairwise.map _ ?_ List.nodup_range
    intro x y hxy q
    have := congrArg Prod.snd q
    simp at this
    exact hxy this
  have h2 := h1.length_le_of_subset (l₂ := seq.filter fun e => decide (e.1 = a)) (fun e he => by
    obtain ⟨k, hk, rfl⟩ := List.mem_map.mp he
    have := List.mem_range.mp hk
    exact List.mem_filter.mpr ⟨(hm _).mpr ⟨by simp, by show k + 1 ≤ (R a).length; omega⟩, decide_eq_true rfl⟩)
  simpa using h2
section
variable {P : Program} {w : World} {K : PySem.W.Frag} {mg : Str → Option Value} {base : Heap}
/-! ### Record.__init__ -/
abbrev N_Record_init : List Str := ["self", "rows", "row", "name", "events", "done", "event"]
theorem sc_Record_init : FnScope N_Record_init ["self", "rows"] (defScope s_Record_init) := ⟨rfl, rfl, rfl, by decide +kernel, rfl, by decide +kernel, by decide +kernel⟩
def sp_Record_init (K : PySem.W.Frag) : Sp := fun vs H Q _ => ∃ (S0 : List Addr) (C r dx L : Addr) (ns : List Str) (R : Rec) (ord : List Id), vs = [.ref r, .ref L] ∧ CRec K C ∧ H r = some (.ins C dx []) ∧ (∀ s ∈ S0, ∃ zs : List V, H s = some (.lst zs)) ∧ Good ns R ∧ LRows H L (rowsOf ns R) ∧ Lin R (Stp R (msgsOf ns R)) ord ∧
  ∀ H', RecAt S0 H' C r ns R → (∀ b o, H b = some o → b ≠ r → H' b = some o) → Q .non H'
theorem ok_Record_init (T : Txt K mg) (G_frozen : Gf P w K mg base 4 "frozen" ["thing"] (sp_frozen 4)) (G_check_rows : Gf P w K mg base 2 "check_rows" ["rows"] sp_check_rows) (G_check_events : Gf P w K mg base 5 "check_events" ["rows"] sp_check_events)
    (G_linked : Gf P w K mg base 2 "linked" ["rows"] sp_linked) (G_executable : Gf P w K mg base 1 "executable" ["rows", "links"] sp_executable) {f : Addr} {fd : FuncData} (F : FunD K "__init__" "Record.__init__" (defArgs s_Record_init) (defBody s_Record_init) (defScope s_Record_init) [] [] f fd) :
    FnOk P w K mg base CX0 6 f fd ["self", "rows"] (sp_Record_init K) := by
  refine ok0 F sc_Record_init (fun vs H Q E h => ?_) (fun cdv A outer s H vs Q E hr h => ?_)
  · obtain ⟨S0, C, r, dx, L, ns, R, ord, rfl, _⟩ := h
    rfl
  · obtain ⟨S0, C, r, dx, L, ns, R, ord, rfl, cr, hro, hS0, g, ⟨xs, hL, hxs⟩, lin, k⟩ := h
    have hu := hu_of hr
    refine ⟨_, (pss_cons (q_sfld K rfl (pv 0) (pe_callTy (q_tuple K rfl) (by rfl) T.z_tuple (by decide +kernel) (pa_cons (pe_lc (own := [("row", 2)]) (by rfl) sc_Record_init.nd (q_plist K rfl (pv 1)) (blkOk_by (N := N_Record_init) (sc := defScope s_Record_init) (by decide +kernel)) (fun _ _ _ _ _ => (pg_name (i := 2) sc_Record_init.nd rfl (Or.inl rfl))) (fun _ _ _ _ _ => pts_nil) (fun _ _ _ _ _ => (pe_call G_frozen.F (G_frozen.room hr) (by rfl) G_frozen.mg G_frozen.kp G_frozen.b .nil pass0 (pa_cons (pv 2) pa_nil)))) pa_nil)) rfl)
      (pss_cons (ps_expr (pe_call G_check_rows.F (G_check_rows.room hr) (by rfl) G_check_rows.mg G_check_rows.kp G_check_rows.b .nil pass0 (pa_cons (q_fld K rfl (pv 0) rfl) pa_nil)))
      (pss_cons (ps_expr (pe_call G_check_events.F (G_check_events.room hr) (by rfl) G_check_events.mg G_check_events.kp G_check_events.b .nil pass0 (pa_cons (q_fld K rfl (pv 0) rfl) pa_nil)))
      (pss_cons (q_sfld K rfl (pv 0) (pe_dc (own := [("name", 3), ("events", 4)]) (by rfl) sc_Record_init.nd (q_ptup K rfl (q_fld K rfl (pv 0) rfl)) (blkOk_by (N := N_Record_init) (sc := defScope s_Record_init) (by decide +kernel)) (fun _ _ _ _ _ => (q_tup (n := 2) K rfl rfl (pgs_cons (pg_name (i := 3) sc_Record_init.nd rfl (Or.inl rfl)) (pgs_cons (pg_name (i := 4) sc_Record_init.nd rfl (Or.inl rfl)) pgs_nil)))) (fun _ _ _ _ _ => pts_nil) (fun _ _ _ _ _ => (pv 3)) (fun _ _ _ _ _ => (pv 4))) rfl)
      (pss_cons (q_sfld K rfl (pv 0) (pe_call G_linked.F (G_linked.room hr) (by rfl) G_linked.mg G_linked.kp G_linked.b .nil pass0 (pa_cons (q_fld K rfl (pv 0) rfl) pa_nil)) rfl)
      (pss_cons (q_sfld K rfl (pv 0) (pe_call G_executable.F (G_executable.room hr) (by rfl) G_executable.mg G_executable.kp G_executable.b .nil pass0 (pa_cons (q_fld K rfl (pv 0) rfl) (pa_cons (q_fld K rfl (pv 0) rfl) pa_nil))) rfl)
      (pss_one (ps_for PassesOwn.never rfl (q_ptup K rfl (q_fld K rfl (pv 0) rfl)) (q_tup (n := 2) K rfl rfl (pgs_cons (pg_name (i := 3) sc_Record_init.nd rfl (Or.inr rfl)) (pgs_cons (pg_name (i := 4) sc_Record_init.nd rfl (Or.inl rfl)) pgs_nil)))
        (pss_cons (ps_set (i := 5) sc_Record_init.nd rfl (Or.inl rfl) (pe_callB (q_len K rfl) (by rfl) T.z_len (by decide +kernel) (pa_cons (pe_lc (own := [("event", 6)]) (by rfl) sc_Record_init.nd (q_plist K rfl (q_fld K rfl (pv 0) rfl)) (blkOk_by (N := N_Record_init) (sc := defScope s_Record_init) (by decide +kernel)) (fun _ _ _ _ _ => (pg_name (i := 6) sc_Record_init.nd rfl (Or.inl rfl))) (fun _ _ _ _ _ => (pts_one (pt_cmpR op_eq (pe_ix (q_ixt K rfl) (pv 6) pe_int (fun _ _ => rfl)) (pv 3) (nomark _)))) (fun _ _ _ _ _ => (pv 6))) pa_nil)))
        (pss_one (ps_if (pt_cmpR op_lt (pv 5) (pe_callB (q_len K rfl) (by rfl) T.z_len (by decide +kernel) (pa_cons (pv 4) pa_nil)) (nomark _))
          (pss_one ps_never)
          pss_nil))))))))))), ?_⟩
    have nlen : xs.length = ns.length := by rw [plen hxs, rows_len]
    have n4 := g.n4
    -- self.rows = tuple([frozen(row) for row in rows])
    refine ⟨_, rfl, L, rfl, ⟨_, sq hL⟩, fun D hD => lc_pure (walk_list (K := K) (a := L) (xs := xs)) hD (rowsOf ns R) (by rw [rows_len, nlen]) (by omega) (fun b v H' => RowV H' v b) (fun _ _ _ _ e z => z.mono e) (fun _ => true) (fun H' e => sq (e _ _ hL)) (fun _ _ _ _ y => yat_same y) ?_ ?_⟩
    · rintro i b x H1 H2 kk hb e ⟨rfl, hx⟩ ht hf
      obtain ⟨b', hb', hrow⟩ := pget hxs hx
      have : b' = b := by
        rw [hb] at hb'
        exact (Option.some.inj hb').symm
      subst this
      have hbl : b'.2.length ≤ 100000 := by
        obtain ⟨a, _, rfl⟩ := List.mem_map.mp (List.mem_of_getElem? hb)
        exact Nat.le_trans (g.len a) (by decide)
      exact ⟨rfl, _, rfl, x, rowTr b', rfl, row_tr (hrow.mono (stups e)) hbl, fun v' H' e' z => ht v' H' e' rfl (row_untr z)⟩
    intro ys H1 e1 hD1 hys
    rw [List.filter_eq_self.mpr (fun _ _ => rfl)] at hys
    refine ⟨D, ys, rfl, .inl ⟨sq hD1, fun tL htL => ?_⟩⟩
    have e2 : Same H1 (upd H1 tL (.tup ys)) := same_new htL
    have htL2 : (upd H1 tL (.tup ys)) tL = _ := upd_same
    generalize upd H1 tL (.tup ys) = H2 at e2 htL2
    have hro2 := e2 _ _ (e1 _ _ hro)
    have e02 := e1.trans e2
    have hR2 : TRows H2 tL (rowsOf ns R) := ⟨ys, htL2, L2.Paired.mapP hys fun _ _ z => z.mono (stups e2)⟩
    have tm : ∀ {H : Hp} {fs : List (Str × V)} {o : HO}, H r = some (.ins C dx fs) → TupS H (upd H r o) := fun h => tups_mut h (fun zs z => nomatch z)
    refine ⟨_, rfl, r, C, dx, [], rfl, hro2, cr.cl, cr.rows, by simp, ?_⟩
    have hro3 : (upd H2 r (.ins C dx (putF "rows" (.ref tL) []))) r = some (.ins C dx [("rows", .ref tL)]) := upd_same
    have f03 : FrS [r] H (upd H2 r (.ins C dx (putF "rows" (.ref tL) []))) := (FrS.of e02).trans (FrS.upd (List.mem_singleton_self r))
    have hR3 := hR2.mono (tm hro2 (o := .ins C dx (putF "rows" (.ref tL) [])))
    generalize upd H2 r (.ins C dx (putF "rows" (.ref tL) [])) = H3 at hro3 f03 hR3
    clear hro2 e02 hR2 e1 e2 htL2 hD1 hys htL
    -- check_rows, check_events
    refine ⟨_, rfl, r, C, dx, _, .ref tL, rfl, hro3, cr.cl, cr.rows, rfl, tL, ns, R, rfl, g, hR3, fun H4 e4 => ?_⟩
    have hro4 := e4 _ _ hro3
    have hR4 := hR3.mono (stups e4)
    have f04 := f03.trans (FrS.of e4)
    clear hro3 hR3 f03 e4
    refine ⟨_, rfl, r, C, dx, _, .ref tL, rfl, hro4, cr.cl, cr.rows, rfl, tL, ns, R, rfl, g, hR4, fun H5 e5 => ?_⟩
    have hro5 := e5 _ _ hro4
    have hR5 := hR4.mono (stups e5)
    have f05 := f04.trans (FrS.of e5)
    clear hro4 hR4 f04 e5
    -- table
    obtain ⟨zs, htL5, hzs⟩ := hR5
    have zlen : zs.length = ns.length := by rw [plen hzs, rows_len]
    refine ⟨_, rfl, r, C, dx, _, .ref tL, rfl, hro5, cr.cl, cr.rows, rfl, tL, rfl, ⟨_, sqt htL5⟩, fun tb htb => dc_it (walk_tup (K := K) (a := tL) (xs := zs)) (fun i H6 => Same H5 H6 ∧ TN (EvsF R) H6 tb (ns.take i)) ⟨same_new htb, TN.new⟩ (fun i H6 _ h => sqt (h.1 _ _ htL5)) ?_ ?_⟩
    · rintro i x H6 H6' hi ⟨e6, T6⟩ ⟨rfl, hx⟩
      obtain ⟨a, t, y, z, es, hna, rfl, ht, rfl, hz, hes⟩ := row_at hzs hx
      refine ⟨t, _, rfl, sqt (e6 _ _ ht), rfl, _, _, rfl, _, _, rfl, rfl, ?_⟩
      have hkt : ∀ (H : Hp) (o : List (Key × V)), (∃ kvs, H tb = some (.dK kvs)) → TupS H (upd H tb (.dK o)) := fun H o ⟨kvs, h⟩ => tups_mut h (fun zs z => nomatch z)
      have hkt6 : ∃ kvs, H6' tb = some (.dK kvs) := let ⟨kvs, h, _⟩ := T6.ex; ⟨kvs, h⟩
      obtain ⟨kv, h1, h2, h3⟩ := T6.add (G := EvsF R) (a := a) (v := .ref z) (not_mem_take g.nd hna) (fun o => ⟨es, ⟨z, rfl, hkt _ o hkt6 _ _ (e6 _ _ hz)⟩, L2.Paired.mapP hes fun _ _ q => q.mono (tut (stups e6) (hkt _ o hkt6))⟩) (fun _ _ o _ h => h.mono (hkt _ o hkt6))
      refine ⟨rfl, _, rfl, _, rfl, kv, .inr a, rfl, h1, szl (by rw [h2, List.length_take]; omega), same_mut e6 htb, ?_⟩
      rw [take_succ' hna]
      exact h3
    rintro H6 ⟨e6, T6⟩
    rw [zlen, List.take_length] at T6
    have hro6 := e6 _ _ hro5
    have hR6 : TRows H6 tL (rowsOf ns R) := ⟨zs, e6 _ _ htL5, L2.Paired.mapP hzs fun _ _ z => z.mono (stups e6)⟩
    have f06 := f05.trans (FrS.of e6)
    have ntr : tb ≠ r := (ne_of_none hro5 htb).symm
    have htbH : tb ∉ [r] := by simpa using ntr
    clear hro5 f05 e6 htL5 hzs htb
    refine ⟨_, rfl, r, C, dx, _, rfl, hro6, cr.cl, cr.table, by simp, ?_⟩
    have hro7 : (upd H6 r (.ins C dx (putF "table" (.ref tb) [("rows", .ref tL)]))) r = some (.ins C dx [("rows", .ref tL), ("table", .ref tb)]) := upd_same
    have hR7 := hR6.mono (tm hro6 (o := .ins C dx (putF "table" (.ref tb) [("rows", .ref tL)])))
    have T7 : TN (EvsF R) (upd H6 r (.ins C dx (putF "table" (.ref tb) [("rows", .ref tL)]))) tb ns := T6.imp (fun _ h => by rw [upd_ne ntr]; exact h) fun _ _ _ h => h.mono (tm hro6)
    have f07 : FrS [r] H (upd H6 r (.ins C dx (putF "table" (.ref tb) [("rows", .ref tL)]))) := f06.trans (FrS.upd (List.mem_singleton_self r))
    generalize upd H6 r (.ins C dx (putF "table" (.ref tb) [("rows", .ref tL)])) = H7 at hro7 hR7 T7 f07
    clear hro6 hR6 T6 f06
    -- links
    refine ⟨_, rfl, r, C, dx, _, .ref tL, rfl, hro7, cr.cl, cr.rows, rfl, tL, ns, R, rfl, g, hR7, fun lk H8 kvs hlk hlk8 L8 e8 => ?_⟩
    have nlr : lk ≠ r := (ne_of_none hro7 hlk).symm
    have hro8 := e8 _ _ hro7
    have hR8 := hR7.mono (stups e8)
    have T8 : TN (EvsF R) H8 tb ns := T7.imp (fun _ h => e8 _ _ h) fun _ _ _ h => h.mono (stups e8)
    have f08 := f07.trans (FrS.of e8)
    clear hro7 hR7 T7 f07 hlk e8
    refine ⟨_, rfl, r, C, dx, _, rfl, hro8, cr.cl, cr.links, by simp, ?_⟩
    have hro9 : (upd H8 r (.ins C dx (putF "links" (.ref lk) [("rows", .ref tL), ("table", .ref tb)]))) r = some (.ins C dx [("rows", .ref tL), ("table", .ref tb), ("links", .ref lk)]) := upd_same
    have hR9 := hR8.mono (tm hro8 (o := .ins C dx (putF "links" (.ref lk) [("rows", .ref tL), ("table", .ref tb)])))
    have T9 : TN (EvsF R) (upd H8 r (.ins C dx (putF "links" (.ref lk) [("rows", .ref tL), ("table", .ref tb)]))) tb ns := T8.imp (fun _ h => by rw [upd_ne ntr]; exact h) fun _ _ _ h => h.mono (tm hro8)
    have f09 : FrS [r] H (upd H8 r (.ins C dx (putF "links" (.ref lk) [("rows", .ref tL), ("table", .ref tb)]))) := f08.trans (FrS.upd (List.mem_singleton_self r))
    have hlk9 : (upd H8 r (.ins C dx (putF "links" (.ref lk) [("rows", .ref tL), ("table", .ref tb)]))) lk = some (.dT kvs) := by rw [upd_ne nlr]; exact hlk8
    have L9 := L8.mono (tm hro8 (o := .ins C dx (putF "links" (.ref lk) [("rows", .ref tL), ("table", .ref tb)])))
    generalize upd H8 r (.ins C dx (putF "links" (.ref lk) [("rows", .ref tL), ("table", .ref tb)])) = H9 at hro9 hR9 T9 f09 hlk9 L9
    clear hro8 hR8 T8 f08 hlk8 L8
    -- sequence
    refine ⟨_, rfl, r, C, dx, _, .ref tL, rfl, hro9, cr.cl, cr.rows, rfl, _, rfl, r, C, dx, _, .ref lk, rfl, hro9, cr.cl, cr.links, rfl, tL, lk, ns, R, kvs, ord, rfl, g, hR9, hlk9, L9, lin, fun sq H10 qs seq hsq hsq10 hqs snd smem e10 => ?_⟩
    have nsr : sq ≠ r := (ne_of_none hro9 hsq).symm
    have hro10 := e10 _ _ hro9
    have hR10 := hR9.mono (stups e10)
    have T10 : TN (EvsF R) H10 tb ns := T9.imp (fun _ h => e10 _ _ h) fun _ _ _ h => h.mono (stups e10)
    have f010 := f09.trans (FrS.of e10)
    have hlk10 := e10 _ _ hlk9
    have L10 := L9.mono (stups e10)
    have nS0 : ∀ {b : Addr} {u : HO}, H10 b = some u → (∀ zs, u ≠ .lst zs) → b ∉ S0 := fun {b u} hb hu hm => by
      obtain ⟨zs, hz⟩ := hS0 b hm
      have hbr : b ≠ r := ne_of hz hro (fun z => nomatch z)
      rw [f010 b _ hz (by simpa using hbr)] at hb
      exact hu zs (Option.some.inj hb).symm
    have nsqS : sq ∉ S0 := fun hm => by
      obtain ⟨zs, hz⟩ := hS0 sq hm
      rw [f09 sq _ hz (by simpa using nsr)] at hsq
      cases hsq
    have nrS : r ∉ S0 := nS0 hro10 (fun _ z => nomatch z)
    have ntS : tb ∉ S0 := by
      obtain ⟨kk, hk, _⟩ := T10.ex
      exact nS0 hk (fun _ z => nomatch z)
    have nlS : lk ∉ S0 := nS0 hlk10 (fun _ z => nomatch z)
    clear hro9 hR9 T9 f09 hsq e10 hlk9 L9
    refine ⟨_, rfl, r, C, dx, _, rfl, hro10, cr.cl, cr.sequence, by simp, ?_⟩
    have hro11 : (upd H10 r (.ins C dx (putF "sequence" (.ref sq) [("rows", .ref tL), ("table", .ref tb), ("links", .ref lk)]))) r = some (.ins C dx [("rows", .ref tL), ("table", .ref tb), ("links", .ref lk), ("sequence", .ref sq)]) := upd_same
    have f011 : FrS [r] H (upd H10 r (.ins C dx (putF "sequence" (.ref sq) [("rows", .ref tL), ("table", .ref tb), ("links", .ref lk)]))) := f010.trans (FrS.upd (List.mem_singleton_self r))
    have ts11 := tm hro10 (o := .ins C dx (putF "sequence" (.ref sq) [("rows", .ref tL), ("table", .ref tb), ("links", .ref lk)]))
    have hR11 := hR10.mono ts11
    have hsq11 : (upd H10 r (.ins C dx (putF "sequence" (.ref sq) [("rows", .ref tL), ("table", .ref tb), ("links", .ref lk)]))) sq = some (.lst qs) := by rw [upd_ne nsr]; exact hsq10
    have hqs11 := L2.Paired.mapP hqs fun _ _ z => z.mono ts11
    have rec11 : RecAt S0 (upd H10 r (.ins C dx (putF "sequence" (.ref sq) [("rows", .ref tL), ("table", .ref tb), ("links", .ref lk)]))) C r ns R :=
      ⟨dx, tL, tb, lk, sq, kvs, qs, seq, hro11, hR11, T10.imp (fun _ h => by rw [upd_ne ntr]; exact h) (fun _ _ _ h => h.mono ts11), by rw [upd_ne nlr]; exact hlk10, L10.mono ts11, hsq11, hqs11, snd, smem, nrS, ntS, nlS, nsqS⟩
    generalize upd H10 r (.ins C dx (putF "sequence" (.ref sq) [("rows", .ref tL), ("table", .ref tb), ("links", .ref lk)])) = H11 at hro11 f011 ts11 hR11 hsq11 hqs11 rec11
    clear hro10 hR10 T10 f010 hlk10 L10 hsq10 hqs ts11
    -- the check
    obtain ⟨zs, htL11, hzs⟩ := hR11
    have zlen : zs.length = ns.length := by rw [plen hzs, rows_len]
    refine ⟨_, rfl, r, C, dx, _, .ref tL, rfl, hro11, cr.cl, cr.rows, rfl, tL, rfl, ⟨_, sqt htL11⟩, for_it (walk_tup (K := K) (a := tL) (xs := zs)) (fun i σ' H12 => ∃ (v2 v3 v4 v5 v6 : Option V), σ' = [some (.ref r), some (.ref L), v2, v3, v4, v5, v6] ∧ Same H11 H12)
      ⟨none, none, none, none, none, rfl, Same.refl _⟩ (fun i σ' H12 _ h => ?_) ?_ ?_⟩
    · obtain ⟨_, _, _, _, _, _, e⟩ := h
      exact sqt (e _ _ htL11)
    · rintro i x σ' H12' H12 hi ⟨v2, v3, v4, v5, v6, rfl, e12⟩ ⟨rfl, hx⟩
      obtain ⟨a, t, y, z, es, hna, rfl, ht, rfl, hz, hes⟩ := row_at hzs hx
      refine ⟨t, _, rfl, sqt (e12 _ _ ht), rfl, _, _, rfl, _, _, rfl, rfl, ?_⟩
      have hro12 := e12 _ _ hro11
      have hsq12 := e12 _ _ hsq11
      have hqs12 := L2.Paired.mapP hqs11 fun _ _ z => z.mono (stups e12)
      have hql : qs.length ≤ 3600 := by
        rw [plen hqs11]
        have h1 : seq.length ≤ (allIds ns R).length := snd.length_le_of_subset fun e he => g.allIds.mpr ((smem e).mp he)
        have h2 := allIds_len g.len ns
        have h3 : ns.length * 900 ≤ 4 * 900 := Nat.mul_le_mul_right _ n4
        omega
      refine ⟨_, rfl, r, C, dx, _, .ref sq, rfl, hro12, cr.cl, cr.sequence, rfl, sq, rfl, ⟨_, Rr.sq hsq12⟩, fun D2 hD2 => lc_pure (walk_list (K := K) (a := sq) (xs := qs)) hD2 seq (plen hqs12).symm (by omega) (fun b v H' => IdV H' v b) (fun _ _ _ _ e z => z.mono e) (fun e => decide (e.1 = a)) (fun H' e => Rr.sq (e _ _ hsq12)) (fun _ _ _ _ y => yat_same y) ?_ ?_⟩
      · rintro j b x H13' H13 kk hb e ⟨rfl, hx⟩ hht hf
        obtain ⟨b', hb', tx, rfl, htx⟩ := pget hqs12 hx
        have : b' = b := by
          rw [hb] at hb'
          exact (Option.some.inj hb').symm
        subst this
        have htx13 := stups e _ _ htx
        refine ⟨rfl, _, rfl, tx, _, 0, .str b'.1, rfl, rfl, sqt htx13, atI_nat (j := 0) rfl, _, rfl, rfl, _, rfl, ?_⟩
        by_cases q : b'.1 = a
        · rw [decide_eq_true (show V.str b'.1 = V.str a by rw [q])]
          exact iteT ⟨_, rfl, hht _ _ (Same.refl _) (decide_eq_true q) ⟨tx, rfl, htx13⟩⟩
        · rw [dec_false (fun z => q (V.str.inj z))]
          exact iteF (hf _ (Same.refl _) (decide_eq_false q))
      · intro us H13 e13 hD13 hus
        have hlen := seq_len snd smem a
        refine ⟨_, _, rfl, .inl ⟨_, Rr.sq hD13, rfl⟩, _, rfl, _, rfl, _, _, rfl, .inr ⟨_, sqt (e13 _ _ (e12 _ _ hz)), rfl⟩, _, _, rfl, rfl, _, rfl, ?_⟩
        rw [decide_eq_false (show ¬ ((us.length : Nat) : Int) < ((es.length : Nat) : Int) by rw [plen hus, plen hes]; omega)]
        exact iteF ⟨_, _, _, _, _, rfl, e12.trans e13⟩
    · rintro σ' H12 ⟨v2, v3, v4, v5, v6, rfl, e12⟩
      exact k H12 (rec11.same e12) fun b o hb hn => e12 _ _ (f011 b o hb (by simpa using hn))
end
end Rr

set_option Elab.async false
set_option linter.all false
set_option maxRecDepth 100000
set_option maxHeartbeats 4000000
namespace Rr
open PySem PySem.Spec PyProof.Rows L2 Xr
theorem isiL2 {K : PySem.W.Frag} {n : String} {b : Bool} (h1 : kitB n "list" = some b) (h2 : b = false → kitB n "tuple" = some true) : PySem.W.kitAny K (.type n) [.type "list", .type "tuple"] = some true := by
  cases b with
  | true => exact kitAny_cons (b := true) (kit_ty h1) (fun z => nomatch z) (fun _ => rfl)
  | false => exact kitAny_cons (b := false) (kit_ty h1) (fun _ => kitAny_cons (b := true) (kit_ty (h2 rfl)) (fun z => nomatch z) (fun _ => rfl)) (fun z => nomatch z)
theorem clsL : Paired ClsV [V.ty "list", V.ty "tuple"] [.type "list", .type "tuple"] := .cons (.ty _) (.cons (.ty _) .nil)
/-- an event of the record, as numbers from outside tell it -/
def hasB (ns : List Str) (R : Rec) (a : Str) (i : Int) : Bool := decide (a ∈ ns) && (decide (1 ≤ i) && decide (i ≤ ((R a).length : Nat)))
theorem hasB_ev {ns : List Str} {R : Rec} (g : Good ns R) {e : Id} (h : IsEv R e) : hasB ns R e.1 (e.2 : Nat) = true := by
  unfold hasB
  rw [decide_eq_true (g.mem h), decide_eq_true (show (1 : Int) ≤ ((e.2 : Nat) : Int) by have := h.1; omega), decide_eq_true (show ((e.2 : Nat) : Int) ≤ (((R e.1).length : Nat) : Int) by have := h.2; omega)]
  rfl
/-- a pair (name, number) as a tuple, or (k) as a list -/
def PairV (H : Hp) (v : V) (a : Str) (i : Int) : Prop := ∃ t, v = .ref t ∧ (H t = some (.tup [.str a, .int i]) ∨ H t = some (.lst [.str a, .int i]))
theorem IdV.pair {H : Hp} {v : V} {e : Id} (h : IdV H v e) : PairV H v e.1 (e.2 : Nat) := let ⟨t, a, b⟩ := h; ⟨t, a, .inl b⟩
section
variable {P : Program} {w : World} {K : PySem.W.Frag} {mg : Str → Option Value} {base : Heap} {CR : Addr}
/-! ### names, check_name, events, length -/
abbrev N_Record_names : List Str := ["self", "name", "events"]
theorem sc_Record_names : FnScope N_Record_names ["self"] (defScope s_Record_names) := ⟨rfl, rfl, rfl, by decide +kernel, rfl, by decide +kernel, by decide +kernel⟩
def sp_Record_names (CR : Addr) : Sp := fun vs H Q _ => ∃ (S : List Addr) (r : Addr) (ns : List Str) (R : Rec), vs = [.ref r] ∧ Good ns R ∧ RecAt S H CR r ns R ∧ ∀ t H', H t = none → H' t = some (.tup (ns.map V.str)) → Same H H' → Q (.ref t) H'
theorem ok_Record_names (T : Txt K mg) (cr : CRec K CR) {f : Addr} {fd : FuncData} (F : FunD K "names" "Record.names" (defArgs s_Record_names) (defBody s_Record_names) (defScope s_Record_names) [] [] f fd) : FnOk P w K mg base CX0 1 f fd ["self"] (sp_Record_names CR) := by
  refine ok0 F sc_Record_names (fun vs H Q E h => ?_) (fun cdv A outer s H vs Q E hr h => ?_)
  · obtain ⟨S, r, ns, R, rfl, _⟩ := h
    rfl
  · obtain ⟨S, r, ns, R, rfl, g, rec, k⟩ := h
    obtain ⟨dx, L, tb, lk, sq, kvs, qs, seq, hro, ⟨xs, hL, hxs⟩, _⟩ := rec.ex
    refine ⟨_, (pss_one (ps_ret (pe_callTy (q_tuple K rfl) (by rfl) T.z_tuple (by decide +kernel) (pa_cons (pe_lc (own := [("name", 1), ("events", 2)]) (by rfl) sc_Record_names.nd (q_ptup K rfl (q_fld K rfl (pv 0) rfl)) (blkOk_by (N := N_Record_names) (sc := defScope s_Record_names) (by decide +kernel)) (fun _ _ _ _ _ => (q_tup (n := 2) K rfl rfl (pgs_cons (pg_name (i := 1) sc_Record_names.nd rfl (Or.inl rfl)) (pgs_cons (pg_name (i := 2) sc_Record_names.nd rfl (Or.inl rfl)) pgs_nil)))) (fun _ _ _ _ _ => pts_nil) (fun _ _ _ _ _ => (pv 1))) pa_nil)))), ?_⟩
    have nlen : xs.length = ns.length := by rw [plen hxs, rows_len]
    have n4 := g.n4
    refine ⟨_, rfl, r, CR, dx, _, .ref L, rfl, hro, cr.cl, cr.rows, rfl, L, rfl, ⟨_, sqt hL⟩, fun D hD => lc_pure (walk_tup (K := K) (a := L) (xs := xs)) hD ns nlen.symm (by omega) (fun b v _ => v = .str b) (fun _ _ _ _ _ z => z) (fun _ => true) (fun H' e => sqt (e _ _ hL)) (fun _ _ _ _ y => yat_same y) ?_ ?_⟩
    · rintro i b x H1 H2 kk hb e ⟨rfl, hx⟩ ht hf
      obtain ⟨a, t, y, z, es, hna, rfl, ht', rfl, hz, hes⟩ := row_at hxs hx
      have : a = b := by
        rw [hna] at hb
        exact Option.some.inj hb
      subst this
      exact ⟨t, _, rfl, sqt (e _ _ ht'), rfl, _, _, rfl, _, _, rfl, rfl, rfl, _, rfl, ht _ _ (Same.refl _) rfl rfl⟩
    · intro ys H1 e1 hD1 hys
      rw [List.filter_eq_self.mpr (fun _ _ => rfl)] at hys
      have ey := plist hys
      subst ey
      exact ⟨D, _, rfl, .inl ⟨Rr.sq hD1, fun t ht => k t _ (same_back e1 ht) upd_same (e1.trans (same_new ht))⟩⟩
abbrev N_Record_check_name : List Str := ["self", "name"]
theorem sc_Record_check_name : FnScope N_Record_check_name ["self", "name"] (defScope s_Record_check_name) := ⟨rfl, rfl, rfl, by decide +kernel, rfl, by decide +kernel, by decide +kernel⟩
def sp_Record_check_name (CR : Addr) : Sp := fun vs H Q _ => ∃ (S : List Addr) (r : Addr) (ns : List Str) (R : Rec) (a : Str), vs = [.ref r, .str a] ∧ Good ns R ∧ RecAt S H CR r ns R ∧ a ∈ ns ∧ ∀ H', Same H H' → Q .non H'
theorem ok_Record_check_name (T : Txt K mg) (G_Record_names : Gm P w K mg base 1 CR "names" ["self"] (sp_Record_names CR)) {f : Addr} {fd : FuncData} (F : FunD K "check_name" "Record.check_name" (defArgs s_Record_check_name) (defBody s_Record_check_name) (defScope s_Record_check_name) [] [] f fd) : FnOk P w K mg base CX0 2 f fd ["self", "name"] (sp_Record_check_name CR) := by
  refine ok0 F sc_Record_check_name (fun vs H Q E h => ?_) (fun cdv A outer s H vs Q E hr h => ?_)
  · obtain ⟨S, r, ns, R, a, rfl, _⟩ := h
    rfl
  · obtain ⟨S, r, ns, R, a, rfl, g, rec, ha, k⟩ := h
    obtain ⟨dx, L, tb, lk, sq, kvs, qs, seq, hro, _⟩ := rec.ex
    refine ⟨_, (pss_one (ps_if (pt_cmpR (q_notIn K rfl) (pv 1) (pe_meth0 (pv 0) G_Record_names.cl G_Record_names.m G_Record_names.F (G_Record_names.room hr) G_Record_names.b .nil pass0) (by rfl))
        (pss_one ps_never)
        pss_nil)), ?_⟩
    refine ⟨_, rfl, _, rfl, r, dx, _, rfl, hro, rfl, S, r, ns, R, rfl, g, rec, fun t H1 _ ht e1 => ?_⟩
    refine ⟨t, _, rfl, .inr (sqt ht), rfl, flatStrs ns, ?_⟩
    rw [if_pos rfl, inV_strs, decide_eq_true ha]
    exact ⟨_, rfl, iteF (k H1 e1)⟩
abbrev N_Record_events : List Str := ["self", "name"]
theorem sc_Record_events : FnScope N_Record_events ["self", "name"] (defScope s_Record_events) := ⟨rfl, rfl, rfl, by decide +kernel, rfl, by decide +kernel, by decide +kernel⟩
def sp_Record_events (CR : Addr) : Sp := fun vs H Q _ => ∃ (S : List Addr) (r : Addr) (ns : List Str) (R : Rec) (a : Str), vs = [.ref r, .str a] ∧ Good ns R ∧ RecAt S H CR r ns R ∧ a ∈ ns ∧ ∀ v H', EvsV H' v (R a) → Same H H' → Q v H'
theorem ok_Record_events (T : Txt K mg) (cr : CRec K CR) (G_Record_check_name : Gm P w K mg base 2 CR "check_name" ["self", "name"] (sp_Record_check_name CR)) {f : Addr} {fd : FuncData} (F : FunD K "events" "Record.events" (defArgs s_Record_events) (defBody s_Record_events) (defScope s_Record_events) [] [] f fd) : FnOk P w K mg base CX0 3 f fd ["self", "name"] (sp_Record_events CR) := by
  refine ok0 F sc_Record_events (fun vs H Q E h => ?_) (fun cdv A outer s H vs Q E hr h => ?_)
  · obtain ⟨S, r, ns, R, a, rfl, _⟩ := h
    rfl
  · obtain ⟨S, r, ns, R, a, rfl, g, rec, ha, k⟩ := h
    have hu := hu_of hr
    obtain ⟨dx, L, tb, lk, sq, kvs, qs, seq, hro, hL, hT, _⟩ := rec.ex
    refine ⟨_, (pss_cons (ps_expr (pe_meth (pv 0) G_Record_check_name.cl G_Record_check_name.m G_Record_check_name.F (G_Record_check_name.room hr) G_Record_check_name.b .nil pass0 (pa_cons (pv 1) pa_nil)))
      (pss_one (ps_ret (pe_dget hu (q_fld K rfl (pv 0) rfl) (pv 1) (fun _ _ => rfl))))), ?_⟩
    refine ⟨_, rfl, r, dx, _, rfl, hro, rfl, _, rfl, S, r, ns, R, a, rfl, g, rec, ha, fun H1 e1 => ?_⟩
    obtain ⟨v, hv, gd⟩ := hT.get ha
    exact ⟨_, rfl, r, CR, dx, _, .ref tb, rfl, e1 _ _ hro, cr.cl, cr.table, rfl, _, rfl, tb, v, rfl, dget_same e1 gd, k v H1 (hv.mono (stups e1)) e1⟩
abbrev N_Record_length : List Str := ["self", "name"]
theorem sc_Record_length : FnScope N_Record_length ["self", "name"] (defScope s_Record_length) := ⟨rfl, rfl, rfl, by decide +kernel, rfl, by decide +kernel, by decide +kernel⟩
def sp_Record_length (CR : Addr) : Sp := fun vs H Q _ => ∃ (S : List Addr) (r : Addr) (ns : List Str) (R : Rec) (a : Str), vs = [.ref r, .str a] ∧ Good ns R ∧ RecAt S H CR r ns R ∧ a ∈ ns ∧ ∀ H', Same H H' → Q (.int ((R a).length : Nat)) H'
theorem ok_Record_length (T : Txt K mg) (G_Record_events : Gm P w K mg base 3 CR "events" ["self", "name"] (sp_Record_events CR)) {f : Addr} {fd : FuncData} (F : FunD K "length" "Record.length" (defArgs s_Record_length) (defBody s_Record_length) (defScope s_Record_length) [] [] f fd) : FnOk P w K mg base CX0 4 f fd ["self", "name"] (sp_Record_length CR) := by
  refine ok0 F sc_Record_length (fun vs H Q E h => ?_) (fun cdv A outer s H vs Q E hr h => ?_)
  · obtain ⟨S, r, ns, R, a, rfl, _⟩ := h
    rfl
  · obtain ⟨S, r, ns, R, a, rfl, g, rec, ha, k⟩ := h
    obtain ⟨dx, L, tb, lk, sq, kvs, qs, seq, hro, _⟩ := rec.ex
    refine ⟨_, (pss_one (ps_ret (pe_callB (q_len K rfl) (by rfl) T.z_len (by decide +kernel) (pa_cons (pe_meth (pv 0) G_Record_events.cl G_Record_events.m G_Record_events.F (G_Record_events.room hr) G_Record_events.b .nil pass0 (pa_cons (pv 1) pa_nil)) pa_nil)))), ?_⟩
    refine ⟨_, rfl, r, dx, _, rfl, hro, rfl, _, rfl, S, r, ns, R, a, rfl, g, rec, ha, fun v H1 hv e1 => ?_⟩
    obtain ⟨es, ⟨z, rfl, hz⟩, hes⟩ := hv
    refine ⟨_, _, rfl, .inr ⟨_, sqt hz, rfl⟩, ?_⟩
    rw [plen hes]
    exact k H1 e1
/-! ### has_event, event_of, partner -/
abbrev N_Record_has_event : List Str := ["self", "thing", "name", "number"]
theorem sc_Record_has_event : FnScope N_Record_has_event ["self", "thing"] (defScope s_Record_has_event) := ⟨rfl, rfl, rfl, by decide +kernel, rfl, by decide +kernel, by decide +kernel⟩
def sp_Record_has_event (CR : Addr) : Sp := fun vs H Q _ => ∃ (S : List Addr) (r : Addr) (ns : List Str) (R : Rec) (v : V) (a : Str) (i : Int), vs = [.ref r, v] ∧ Good ns R ∧ RecAt S H CR r ns R ∧ PairV H v a i ∧ ∀ H', Same H H' → Q (.bl (hasB ns R a i)) H'
theorem ok_Record_has_event (T : Txt K mg) (cr : CRec K CR) (G_is_integer : Gf P w K mg base 1 "is_integer" ["thing"] sp_is_integer) {f : Addr} {fd : FuncData} (F : FunD K "has_event" "Record.has_event" (defArgs s_Record_has_event) (defBody s_Record_has_event) (defScope s_Record_has_event) [] [] f fd) : FnOk P w K mg base CX0 2 f fd ["self", "thing"] (sp_Record_has_event CR) := by
  refine ok0 F sc_Record_has_event (fun vs H Q E h => ?_) (fun cdv A outer s H vs Q E hr h => ?_)
  · obtain ⟨S, r, ns, R, v, a, i, rfl, _⟩ := h
    rfl
  · obtain ⟨S, r, ns, R, v, a, i, rfl, g, rec, ⟨t, rfl, ht⟩, k⟩ := h
    have hu := hu_of hr
    obtain ⟨dx, L, tb, lk, sq, kvs, qs, seq, hro, hL, hT, _⟩ := rec.ex
    refine ⟨_, (pss_cons (ps_if (PW.pt (pw_or (pt_not (pt_val (pe_callB (q_isiT K rfl) (by rfl) T.z_isinstance (by decide +kernel) (pa_cons (pv 1) (pa_cons (pe_tup (pa_cons (pe_bltn (v := .ty "list") (u := .type "list") (by rfl) T.z_list (by decide +kernel) rfl) (pa_cons (pe_bltn (v := .ty "tuple") (u := .type "tuple") (by rfl) T.z_tuple (by decide +kernel) rfl) pa_nil))) pa_nil))))) (pw_or1 (pt_cmpR op_ne (pe_callB (q_len K rfl) (by rfl) T.z_len (by decide +kernel) (pa_cons (pv 1) pa_nil)) pe_int (nomark _)))))
        (pss_one (ps_ret pe_bl))
        pss_nil)
      (pss_cons (ps_asg (pv 1) (q_sq (n := 2) K rfl rfl (pgs_cons (pg_name (i := 2) sc_Record_has_event.nd rfl (Or.inl rfl)) (pgs_cons (pg_name (i := 3) sc_Record_has_event.nd rfl (Or.inl rfl)) pgs_nil))))
      (pss_cons (ps_if (PW.pt (pw_or (pt_not (pt_val (pe_callB (q_isi K rfl) (by rfl) T.z_isinstance (by decide +kernel) (pa_cons (pv 2) (pa_cons (pe_bltn (v := .ty "str") (u := .type "str") (by rfl) T.z_str (by decide +kernel) rfl) pa_nil))))) (pw_or (pt_cmp (pc_dnotin hu (pv 2) (q_fld K rfl (pv 0) rfl))) (pw_or1 (pt_not (pt_val (pe_call G_is_integer.F (G_is_integer.room hr) (by rfl) G_is_integer.mg G_is_integer.kp G_is_integer.b .nil pass0 (pa_cons (pv 3) pa_nil))))))))
        (pss_one (ps_ret pe_bl))
        pss_nil)
      (pss_one (ps_ret (pe_chain op_le op_le pe_int (pv 3) (pe_callB (q_len K rfl) (by rfl) T.z_len (by decide +kernel) (pa_cons (pe_dget hu (q_fld K rfl (pv 0) rfl) (pv 2) (fun _ _ => rfl)) pa_nil)))))))), ?_⟩
    refine ⟨_, rfl, s2, fun tp htp => ?_⟩
    have e1 : Same H (upd H tp (.tup [.ty "list", .ty "tuple"])) := same_new htp
    have htp1 : (upd H tp (.tup [.ty "list", .ty "tuple"])) tp = _ := upd_same
    generalize upd H tp (.tup [.ty "list", .ty "tuple"]) = H1 at e1 htp1
    have hro1 := e1 _ _ hro
    have T1 : TN (EvsF R) H1 tb ns := hT.imp (fun _ h => e1 _ _ h) fun _ _ _ h => h.mono (stups e1)
    have ht1 : H1 t = some (.tup [.str a, .int i]) ∨ H1 t = some (.lst [.str a, .int i]) := ht.imp (fun h => e1 _ _ h) fun h => e1 _ _ h
    obtain ⟨tv, htv, hkt⟩ : ∃ tv, TyX K H1 (.ref t) tv ∧ PySem.W.kitAny K tv [.type "list", .type "tuple"] = some true := by
      rcases ht1 with h | h
      · exact ⟨_, .base (.tup h), isiL2 (b := false) (by decide +kernel) (fun _ => by decide +kernel)⟩
      · exact ⟨_, .base (.lst h), isiL2 (b := true) (by decide +kernel) (fun z => by cases z)⟩
    refine ⟨.ref t, tp, _, tv, _, true, rfl, htp1, clsL, htv, hkt, true, rfl, iteF ?_⟩
    have hlv : LenV K (.ref t) H1 2 := by
      rcases ht1 with h | h
      · exact .inr ⟨_, sqt h, rfl⟩
      · exact .inl ⟨_, Rr.sq h, rfl⟩
    refine ⟨_, rfl, _, _, rfl, hlv, rfl, _, rfl, iteF ?_⟩
    refine ⟨_, rfl, t, _, rfl, ht1.elim (fun h => .inr (sqt h)) (fun h => .inl (Rr.sq h)), rfl, _, _, rfl, _, _, rfl, rfl, ?_⟩
    refine isi rfl (.base (.str a)) (b := true) (by decide +kernel) ⟨true, rfl, iteF ?_⟩
    by_cases ha : a ∈ ns
    · obtain ⟨v, ⟨es, ⟨z, rfl, hz⟩, hes⟩, gd⟩ := T1.get ha
      refine ⟨_, rfl, _, rfl, r, CR, dx, _, .ref tb, rfl, hro1, cr.cl, cr.table, rfl, tb, _, rfl, gd, _, rfl, iteF ?_⟩
      refine ⟨_, rfl, i, rfl, true, rfl, iteF ?_⟩
      refine ⟨_, rfl, _, _, rfl, rfl, _, rfl, ?_⟩
      have hh : hasB ns R a i = (decide (1 ≤ i) && decide (i ≤ ((R a).length : Nat))) := by
        unfold hasB
        rw [decide_eq_true ha, Bool.true_and]
      by_cases h1 : 1 ≤ i
      · rw [decide_eq_true h1] at hh ⊢
        refine iteT ⟨_, rfl, r, CR, dx, _, .ref tb, rfl, hro1, cr.cl, cr.table, rfl, _, rfl, tb, _, rfl, gd, _, _, rfl, .inr ⟨_, sqt hz, rfl⟩, _, _, rfl, rfl, ?_⟩
        rw [plen hes]
        rw [Bool.true_and] at hh
        have h9 := k H1 e1
        rw [hh] at h9
        exact h9
      · rw [decide_eq_false h1] at hh ⊢
        refine iteF ?_
        rw [Bool.false_and] at hh
        rw [← hh]
        exact k H1 e1
    · refine ⟨_, rfl, _, rfl, r, CR, dx, _, .ref tb, rfl, hro1, cr.cl, cr.table, rfl, tb, _, rfl, T1.miss ha, _, rfl, iteT ?_⟩
      have hh : hasB ns R a i = false := by
        unfold hasB
        rw [decide_eq_false ha, Bool.false_and]
      rw [← hh]
      exact k H1 e1
/-! ### event_of, partner -/
abbrev N_event_of : List Str := ["record", "thing"]
theorem sc_event_of : FnScope N_event_of ["record", "thing"] (defScope s_event_of) := ⟨rfl, rfl, rfl, by decide +kernel, rfl, by decide +kernel, by decide +kernel⟩
def sp_event_of (CR : Addr) : Sp := fun vs H Q _ => ∃ (S : List Addr) (r : Addr) (ns : List Str) (R : Rec) (v : V) (e : Id), vs = [.ref r, v] ∧ Good ns R ∧ RecAt S H CR r ns R ∧ IdV H v e ∧ IsEv R e ∧ ∀ v' H', IdV H' v' e → Same H H' → Q v' H'
theorem ok_event_of (T : Txt K mg) (G_Record_has_event : Gm P w K mg base 2 CR "has_event" ["self", "thing"] (sp_Record_has_event CR)) {f : Addr} {fd : FuncData} (F : FunD K "event_of" "event_of" (defArgs s_event_of) (defBody s_event_of) (defScope s_event_of) [] [] f fd) : FnOk P w K mg base CX0 3 f fd ["record", "thing"] (sp_event_of CR) := by
  refine ok0 F sc_event_of (fun vs H Q E h => ?_) (fun cdv A outer s H vs Q E hr h => ?_)
  · obtain ⟨S, r, ns, R, v, e, rfl, _⟩ := h
    rfl
  · obtain ⟨S, r, ns, R, v, e, rfl, g, rec, hv, he, k⟩ := h
    obtain ⟨dx, L, tb, lk, sq, kvs, qs, seq, hro, _⟩ := rec.ex
    refine ⟨_, (pss_cons (ps_if (pt_not (pt_val (pe_meth (pv 0) G_Record_has_event.cl G_Record_has_event.m G_Record_has_event.F (G_Record_has_event.room hr) G_Record_has_event.b .nil pass0 (pa_cons (pv 1) pa_nil))))
        (pss_one ps_never)
        pss_nil)
      (pss_one (ps_ret (pe_callTy (q_tuple K rfl) (by rfl) T.z_tuple (by decide +kernel) (pa_cons (pv 1) pa_nil))))), ?_⟩
    refine ⟨_, rfl, r, dx, _, rfl, hro, rfl, _, rfl, S, r, ns, R, v, e.1, (e.2 : Nat), rfl, g, rec, hv.pair, fun H1 e1 => ?_⟩
    rw [hasB_ev g he]
    obtain ⟨t, rfl, ht⟩ := hv
    exact ⟨true, rfl, iteF ⟨_, rfl, t, _, rfl, .inr ⟨sqt (e1 _ _ ht), k _ H1 ⟨t, rfl, e1 _ _ ht⟩ e1⟩⟩⟩
abbrev N_Record_partner : List Str := ["self", "event"]
theorem sc_Record_partner : FnScope N_Record_partner ["self", "event"] (defScope s_Record_partner) := ⟨rfl, rfl, rfl, by decide +kernel, rfl, by decide +kernel, by decide +kernel⟩
def sp_Record_partner (CR : Addr) : Sp := fun vs H Q _ => ∃ (S : List Addr) (r : Addr) (ns : List Str) (R : Rec) (v : V) (e : Id), vs = [.ref r, v] ∧ Good ns R ∧ RecAt S H CR r ns R ∧ IdV H v e ∧ IsEv R e ∧
  ∀ v' H', ((v' = .non ∧ ∀ p ∈ msgsOf ns R, p.1 ≠ e ∧ p.2 ≠ e) ∨ ∃ f, IdV H' v' f ∧ ((e, f) ∈ msgsOf ns R ∨ (f, e) ∈ msgsOf ns R)) → Same H H' → Q v' H'
theorem ok_Record_partner (T : Txt K mg) (cr : CRec K CR) (G_event_of : Gf P w K mg base 3 "event_of" ["record", "thing"] (sp_event_of CR)) {f : Addr} {fd : FuncData} (F : FunD K "partner" "Record.partner" (defArgs s_Record_partner) (defBody s_Record_partner) (defScope s_Record_partner) [] [] f fd) : FnOk P w K mg base CX0 4 f fd ["self", "event"] (sp_Record_partner CR) := by
  refine ok0 F sc_Record_partner (fun vs H Q E h => ?_) (fun cdv A outer s H vs Q E hr h => ?_)
  · obtain ⟨S, r, ns, R, v, e, rfl, _⟩ := h
    rfl
  · obtain ⟨S, r, ns, R, v, e, rfl, g, rec, hv, he, k⟩ := h
    have hu := hu_of hr
    obtain ⟨dx, L, tb, lk, sq, kvs, qs, seq, hro, hL, hT, hlk, hK, _⟩ := rec.ex
    refine ⟨_, (pss_one (ps_ret (pe_dget1 hu (q_fld K rfl (pv 0) rfl) (pe_call G_event_of.F (G_event_of.room hr) (by rfl) G_event_of.mg G_event_of.kp G_event_of.b .nil pass0 (pa_cons (pv 0) (pa_cons (pv 1) pa_nil))) ⟨by rfl, by rfl, by rfl, by rfl⟩))), ?_⟩
    refine ⟨_, rfl, r, CR, dx, _, .ref lk, rfl, hro, cr.cl, cr.links, rfl, lk, rfl, .inr ⟨kvs, .inl hlk⟩, _, rfl, _, rfl, S, r, ns, R, v, e, rfl, g, rec, hv, he, fun v' H1 hv' e1 => ?_⟩
    obtain ⟨t, rfl, ht⟩ := hv'
    refine ⟨_, DGet.t (k := kE e) (e1 _ _ hlk) ht, k _ H1 ?_ e1⟩
    by_cases hm : ∃ p ∈ msgsOf ns R, p.1 = e ∨ p.2 = e
    · obtain ⟨p, hp, hpe⟩ := hm
      obtain ⟨⟨v1, a1, b1⟩, ⟨v2, a2, b2⟩⟩ := hK.val p hp
      rcases hpe with rfl | rfl
      · rw [a1]
        exact .inr ⟨p.2, b1.mono (stups e1), .inl hp⟩
      · rw [a2]
        exact .inr ⟨p.1, b2.mono (stups e1), .inr hp⟩
    · have hn : ∀ p ∈ msgsOf ns R, p.1 ≠ e ∧ p.2 ≠ e := fun p hp => ⟨fun q => hm ⟨p, hp, .inl q⟩, fun q => hm ⟨p, hp, .inr q⟩⟩
      rw [hK.none e hn]
      exact .inl ⟨rfl, hn⟩
end
end Rr

set_option Elab.async false
set_option linter.all false
set_option maxRecDepth 100000
set_option maxHeartbeats 4000000
namespace Rr
open PySem PySem.Spec PyProof.Rows L2 Xr
def Prg (R : Rec) (x y : Id) : Prop := x.1 = y.1 ∧ y.2 = x.2 + 1 ∧ 1 ≤ x.2 ∧ y.2 ≤ (R y.1).length
/-- the pairs found so far: steps into D1, messages out of D2 -/
structure ArrI (ns : List Str) (R : Rec) (D1 D2 : List Id) (ps : List (Id × Id)) : Prop where
  mem : ∀ x y, (x, y) ∈ ps ↔ (Prg R x y ∧ y ∈ D1) ∨ ((x, y) ∈ msgsOf ns R ∧ x ∈ D2)
  len : ps.length ≤ D1.length + D2.length
theorem ArrI.full {ns : List Str} {R : Rec} (g : Good ns R) {ps : List (Id × Id)} (z : ArrI ns R (allIds ns R) (allIds ns R) ps) (x y : Id) : (x, y) ∈ ps ↔ Stp R (msgsOf ns R) x y := by
  rw [z.mem]
  unfold Stp Prg
  constructor
  · rintro (⟨h, _⟩ | ⟨h, _⟩)
    · exact .inl h
    · exact .inr h
  · rintro (h | h)
    · exact .inl ⟨h, g.allIds.mpr ⟨by omega, h.2.2.2⟩⟩
    · exact .inr ⟨h, g.allIds.mpr (msgs_arr ns R _ h).1⟩
theorem ArrI.skip {ns : List Str} {R : Rec} {D1 D2 : List Id} {ps : List (Id × Id)} (z : ArrI ns R D1 D2 ps) {e : Id} (h : ∀ x, ¬ Prg R x e) : ArrI ns R (D1 ++ [e]) D2 ps := by
  refine ⟨fun x y => ?_, by have := z.len; simp; omega⟩
  rw [z.mem]
  constructor
  · rintro (⟨p, q⟩ | q)
    · exact .inl ⟨p, List.mem_append_left _ q⟩
    · exact .inr q
  · rintro (⟨p, q⟩ | q)
    · rcases List.mem_append.mp q with q | q
      · exact .inl ⟨p, q⟩
      · rw [List.mem_singleton] at q
        exact (h x (q ▸ p)).elim
    · exact .inr q
theorem ArrI.prog {ns : List Str} {R : Rec} {D1 D2 : List Id} {ps : List (Id × Id)} (z : ArrI ns R D1 D2 ps) {e f : Id} (h : Prg R f e) : ArrI ns R (D1 ++ [e]) D2 (ps ++ [(f, e)]) := by
  refine ⟨fun x y => ?_, by have := z.len; simp; omega⟩
  rw [List.mem_append, List.mem_singleton, z.mem]
  constructor
  · rintro ((⟨p, q⟩ | q) | q)
    · exact .inl ⟨p, List.mem_append_left _ q⟩
    · exact .inr q
    · cases q
      exact .inl ⟨h, List.mem_append_right _ (List.mem_singleton_self _)⟩
  · rintro (⟨p, q⟩ | q)
    · rcases List.mem_append.mp q with q | q
      · exact .inl (.inl ⟨p, q⟩)
      · rw [List.mem_singleton] at q
        subst q
        right
        have : x = f := Prod.ext (p.1.trans h.1.symm) (by have := p.2.1; have := h.2.1; omega)
        rw [this]
    · exact .inl (.inr q)
theorem ArrI.nomsg {ns : List Str} {R : Rec} {D1 D2 : List Id} {ps : List (Id × Id)} (z : ArrI ns R D1 D2 ps) {e : Id} (h : ∀ y, (e, y) ∉ msgsOf ns R) : ArrI ns R D1 (D2 ++ [e]) ps := by
  refine ⟨fun x y => ?_, by have := z.len; simp; omega⟩
  rw [z.mem]
  constructor
  · rintro (q | ⟨p, q⟩)
    · exact .inl q
    · exact .inr ⟨p, List.mem_append_left _ q⟩
  · rintro (q | ⟨p, q⟩)
    · exact .inl q
    · rcases List.mem_append.mp q with q | q
      · exact .inr ⟨p, q⟩
      · rw [List.mem_singleton] at q
        exact (h y (q ▸ p)).elim
theorem ArrI.msg {ns : List Str} {R : Rec} (g : Good ns R) {D1 D2 : List Id} {ps : List (Id × Id)} (z : ArrI ns R D1 D2 ps) {e f : Id} (h : (e, f) ∈ msgsOf ns R) : ArrI ns R D1 (D2 ++ [e]) (ps ++ [(e, f)]) := by
  refine ⟨fun x y => ?_, by have := z.len; simp; omega⟩
  rw [List.mem_append, List.mem_singleton, z.mem]
  constructor
  · rintro ((q | ⟨p, q⟩) | q)
    · exact .inl q
    · exact .inr ⟨p, List.mem_append_left _ q⟩
    · cases q
      exact .inr ⟨h, List.mem_append_right _ (List.mem_singleton_self _)⟩
  · rintro (q | ⟨p, q⟩)
    · exact .inl (.inl q)
    · rcases List.mem_append.mp q with q | q
      · exact .inl (.inr ⟨p, q⟩)
      · rw [List.mem_singleton] at q
        subst q
        right
        rw [msg_snd g p h]
section
variable {P : Program} {w : World} {K : PySem.W.Frag} {mg : Str → Option Value} {base : Heap} {CR : Addr}
abbrev N_arrows_of : List Str := ["record", "found", "name", "events", "number"]
theorem sc_arrows_of : FnScope N_arrows_of ["record"] (defScope s_arrows_of) := ⟨rfl, rfl, rfl, by decide +kernel, rfl, by decide +kernel, by decide +kernel⟩
def sp_arrows_of (CR : Addr) : Sp := fun vs H Q _ => ∃ (S : List Addr) (r : Addr) (ns : List Str) (R : Rec), vs = [.ref r] ∧ Good ns R ∧ RecAt S H CR r ns R ∧ ∀ l H' ps, H l = none → LPairs H' l ps → (∀ x y, (x, y) ∈ ps ↔ Stp R (msgsOf ns R) x y) → ps.length ≤ 7200 → Same H H' → Q (.ref l) H'
theorem ok_arrows_of (T : Txt K mg) (G_Record_names : Gm P w K mg base 1 CR "names" ["self"] (sp_Record_names CR)) (G_Record_events : Gm P w K mg base 3 CR "events" ["self", "name"] (sp_Record_events CR)) (G_Record_partner : Gm P w K mg base 4 CR "partner" ["self", "event"] (sp_Record_partner CR))
    {f : Addr} {fd : FuncData} (F : FunD K "arrows_of" "arrows_of" (defArgs s_arrows_of) (defBody s_arrows_of) (defScope s_arrows_of) [] [] f fd) : FnOk P w K mg base CX0 5 f fd ["record"] (sp_arrows_of CR) := by
  refine ok0 F sc_arrows_of (fun vs H Q E h => ?_) (fun cdv A outer s H vs Q E hr h => ?_)
  · obtain ⟨S, r, ns, R, rfl, _⟩ := h
    rfl
  · obtain ⟨S, r, ns, R, rfl, g, rec, k⟩ := h
    obtain ⟨dx, L, tb, lk, sq, kvs, qs, seq, hro, _⟩ := rec.ex
    refine ⟨_, (pss_cons (ps_set (i := 1) sc_arrows_of.nd rfl (Or.inl rfl) (pe_lst pa_nil))
      (pss_cons (ps_for PassesOwn.never rfl (q_ptup K rfl (pe_meth0 (pv 0) G_Record_names.cl G_Record_names.m G_Record_names.F (G_Record_names.room hr) G_Record_names.b .nil pass0)) (pg_name (i := 2) sc_arrows_of.nd rfl (Or.inl rfl))
        (pss_cons (ps_set (i := 3) sc_arrows_of.nd rfl (Or.inl rfl) (pe_meth (pv 0) G_Record_events.cl G_Record_events.m G_Record_events.F (G_Record_events.room hr) G_Record_events.b .nil pass0 (pa_cons (pv 2) pa_nil)))
        (pss_one (ps_for PassesOwn.never rfl (pi_range2 (by rfl) T.z_range (pa_cons pe_int (pa_cons (pe_op op_add (pe_callB (q_len K rfl) (by rfl) T.z_len (by decide +kernel) (pa_cons (pv 3) pa_nil)) pe_int) pa_nil))) (pg_name (i := 4) sc_arrows_of.nd rfl (Or.inl rfl))
          (Evl.pss_cut (ps_if (pt_cmpR op_gt (pv 4) pe_int (nomark _))
            (pss_one (ps_expr (q_bm K rfl PySem.F.plainAttrs_list PySem.F.slot_list_append PySem.F.type_list_append mt_append (pv 1) (pa_cons (pe_tup (pa_cons (pe_tup (pa_cons (pv 2) (pa_cons (pe_op op_sub (pv 4) pe_int) pa_nil))) (pa_cons (pe_tup (pa_cons (pv 2) (pa_cons (pv 4) pa_nil))) pa_nil))) pa_nil))))
            pss_nil)
          (pss_one (ps_if (PW.pt (pw_and (pt_cmpR op_eq (pe_ix (q_ixt K rfl) (pe_ix (q_ixt K rfl) (pv 3) (pe_op op_sub (pv 4) pe_int) (fun _ _ => rfl)) pe_int (fun _ _ => rfl)) pe_str (nomark _)) (pw_and1 (pt_cmp (pc_notN (pe_meth (pv 0) G_Record_partner.cl G_Record_partner.m G_Record_partner.F (G_Record_partner.room hr) G_Record_partner.b .nil pass0 (pa_cons (pe_tup (pa_cons (pv 2) (pa_cons (pv 4) pa_nil))) pa_nil)))))))
            (pss_one (ps_expr (q_bm K rfl PySem.F.plainAttrs_list PySem.F.slot_list_append PySem.F.type_list_append mt_append (pv 1) (pa_cons (pe_tup (pa_cons (pe_tup (pa_cons (pv 2) (pa_cons (pv 4) pa_nil))) (pa_cons (pe_meth (pv 0) G_Record_partner.cl G_Record_partner.m G_Record_partner.F (G_Record_partner.room hr) G_Record_partner.b .nil pass0 (pa_cons (pe_tup (pa_cons (pv 2) (pa_cons (pv 4) pa_nil))) pa_nil)) pa_nil))) pa_nil))))
            pss_nil)))))))
      (pss_one (ps_ret (pv 1))))), ?_⟩
    have n4 := g.n4
    refine ⟨s0, fun fo hfo => ?_⟩
    have e1 : Same H (upd H fo (.lst [])) := same_new hfo
    have hfo1 : (upd H fo (.lst [])) fo = some (.lst []) := upd_same
    generalize upd H fo (.lst []) = H1 at e1 hfo1
    refine ⟨_, rfl, r, dx, _, rfl, e1 _ _ hro, rfl, S, r, ns, R, rfl, g, rec.same e1, fun tn H2 _ htn e2 => ?_⟩
    have e02 := e1.trans e2
    refine ⟨tn, rfl, ⟨_, sqt htn⟩, for_it (walk_tup (K := K) (a := tn) (xs := ns.map V.str)) (fun i σ' H3 => ∃ (v2 v3 v4 : Option V) (ps : List (Id × Id)) (zs : List V), σ' = [some (.ref r), some (.ref fo), v2, v3, v4] ∧ Same H H3 ∧ H3 tn = some (.tup (ns.map V.str)) ∧ H3 fo = some (.lst zs) ∧ Paired (IdP H3) zs ps ∧ ArrI ns R (allIds (ns.take i) R) (allIds (ns.take i) R) ps)
      ⟨none, none, none, [], [], rfl, e02, htn, e2 _ _ hfo1, .nil, ⟨fun x y => by simp [allIds], by simp⟩⟩ (fun i σ' H3 _ h => ?_) ?_ ?_⟩
    · obtain ⟨_, _, _, _, _, _, _, h, _⟩ := h
      exact sqt h
    · rintro i x σ' H3' H3 hi ⟨v2, v3, v4, ps, zs, rfl, e3, htn3, hfo3, hz3, A3⟩ ⟨rfl, hx⟩
      have hin : i < ns.length := by simpa using hi
      have hna : ns[i]? = some ns[i] := List.getElem?_eq_getElem hin
      generalize ha : ns[i] = a at hna
      have exv : x = .str a := by
        rw [List.getElem?_map, hna] at hx
        exact (Option.some.inj hx).symm
      subst exv
      have ham := List.mem_of_getElem? hna
      have hla := g.len a
      refine ⟨_, rfl, r, dx, _, rfl, e3 _ _ hro, rfl, _, rfl, S, r, ns, R, a, rfl, g, rec.same e3, ham, fun v H4 hv e4 => ?_⟩
      obtain ⟨es, ⟨z, rfl, hz⟩, hes⟩ := hv
      have elen := plen hes
      have e04 := e3.trans e4
      refine ⟨_, rfl, _, _, rfl, .inr ⟨_, sqt hz, rfl⟩, _, _, rfl, rfl, _, _, rfl, ⟨by omega, by omega, by omega, by omega⟩, ?_⟩
      refine for_range (lo := 1) (n := (((es.length : Nat) : Int) + 1 - 1).toNat) (fun j σ' H5 => ∃ (v4 : Option V) (ps : List (Id × Id)) (zs : List V), σ' = [some (.ref r), some (.ref fo), some (.str a), some (.ref z), v4] ∧ Same H H5 ∧ H5 tn = some (.tup (ns.map V.str)) ∧ H5 z = some (.tup es) ∧ Paired (EvV H5) es (R a) ∧ H5 fo = some (.lst zs) ∧ Paired (IdP H5) zs ps ∧ ArrI ns R (allIds (ns.take i) R ++ (List.range j).map fun k => (a, k + 1)) (allIds (ns.take i) R ++ (List.range j).map fun k => (a, k + 1)) ps)
        ⟨v4, ps, zs, rfl, e04, e4 _ _ htn3, hz, hes, e4 _ _ hfo3, L2.Paired.mapP hz3 fun _ _ q => q.mono (stups e4), by simpa using A3⟩ ?_ ?_
      · rintro j σ' H5 hj ⟨v4, ps, zs, rfl, e5, htn5, hz5, hes5, hfo5, hp5, A5⟩
        have hj' : j < (R a).length := by omega
        have hka : (R a)[j]? = some (R a)[j] := List.getElem?_eq_getElem hj'
        have hD : (allIds (ns.take i) R ++ (List.range (j + 1)).map fun k => ((a, k + 1) : Id)) = (allIds (ns.take i) R ++ (List.range j).map fun k => (a, k + 1)) ++ [(a, j + 1)] := by
          rw [List.range_succ, List.map_append, ← List.append_assoc]
          rfl
        have hDl : (allIds (ns.take i) R ++ (List.range j).map fun k => ((a, k + 1) : Id)).length ≤ 3600 := by
          have h1 := allIds_len g.len (ns.take i)
          have h3 : (ns.take i).length * 900 ≤ 3 * 900 := Nat.mul_le_mul_right _ (by rw [List.length_take]; omega)
          rw [List.length_append, List.length_map, List.length_range]
          omega
        generalize allIds (ns.take i) R ++ (List.range j).map (fun k => ((a, k + 1) : Id)) = D at A5 hD hDl
        rw [hD]
        have hev : IsEv R (a, j + 1) := ⟨by simp, hj'⟩
        refine ⟨fun σ' H6 => ∃ (ps : List (Id × Id)) (zs : List V), σ' = [some (.ref r), some (.ref fo), some (.str a), some (.ref z), some (.int (1 + (j : Nat)))] ∧ Same H H6 ∧ H6 tn = some (.tup (ns.map V.str)) ∧ H6 z = some (.tup es) ∧ Paired (EvV H6) es (R a) ∧ H6 fo = some (.lst zs) ∧ Paired (IdP H6) zs ps ∧ ArrI ns R (D ++ [(a, j + 1)]) D ps, ?_, ?_⟩
        · refine ⟨_, rfl, _, _, rfl, rfl, _, rfl, ?_⟩
          by_cases hj0 : j = 0
          · rw [decide_eq_false (show ¬ (1 + (j : Nat) : Int) > 1 by omega)]
            refine iteF ⟨ps, zs, rfl, e5, htn5, hz5, hes5, hfo5, hp5, A5.skip fun x h => ?_⟩
            have h1 := h.2.1
            have h2 := h.2.2.1
            simp only at h1
            omega
          · rw [decide_eq_true (show (1 + (j : Nat) : Int) > 1 by omega)]
            refine iteT ?_
            refine ⟨_, rfl, tyl hfo5, _, rfl, _, rfl, _, _, rfl, rfl, s2, fun t1 h1 => ⟨_, rfl, _, rfl, s2, fun t2 h2 => ⟨s2, fun t3 h3 => ?_⟩⟩⟩
            have e6 : Same H5 (upd (upd (upd H5 t1 (.tup [.str a, .int (1 + (j : Nat) - 1)])) t2 (.tup [.str a, .int (1 + (j : Nat))])) t3 (.tup [.ref t1, .ref t2])) := (same_new h1).trans ((same_new h2).trans (same_new h3))
            have g3 : (upd (upd (upd H5 t1 (.tup [.str a, .int (1 + (j : Nat) - 1)])) t2 (.tup [.str a, .int (1 + (j : Nat))])) t3 (.tup [.ref t1, .ref t2])) t3 = _ := upd_same
            have g2 : (upd (upd (upd H5 t1 (.tup [.str a, .int (1 + (j : Nat) - 1)])) t2 (.tup [.str a, .int (1 + (j : Nat))])) t3 (.tup [.ref t1, .ref t2])) t2 = some (.tup [.str a, .int (1 + (j : Nat))]) := (same_new h3) _ _ upd_same
            have g1 : (upd (upd (upd H5 t1 (.tup [.str a, .int (1 + (j : Nat) - 1)])) t2 (.tup [.str a, .int (1 + (j : Nat))])) t3 (.tup [.ref t1, .ref t2])) t1 = some (.tup [.str a, .int (1 + (j : Nat) - 1)]) := (same_new h3) _ _ ((same_new h2) _ _ upd_same)
            generalize upd (upd (upd H5 t1 (.tup [.str a, .int (1 + (j : Nat) - 1)])) t2 (.tup [.str a, .int (1 + (j : Nat))])) t3 (.tup [.ref t1, .ref t2]) = H6 at e6 g1 g2 g3
            have hfo6 := e6 _ _ hfo5
            have ts7 : TupS H6 (upd H6 fo (.lst (zs ++ [.ref t3]))) := tups_mut hfo6 (fun zs z => nomatch z)
            refine ⟨fo, zs, .ref t3, rfl, rfl, hfo6, szl (by have := A5.len; rw [plen hp5]; omega), ?_⟩
            refine ⟨ps ++ [((a, j), (a, j + 1))], zs ++ [.ref t3], rfl, same_mut (e5.trans e6) hfo, ts7 _ _ (e6 _ _ htn5), ts7 _ _ (e6 _ _ hz5), L2.Paired.mapP hes5 fun _ _ q => q.mono (tut (stups e6) ts7), upd_same, ?_, A5.prog ⟨rfl, rfl, by simp; omega, hj'⟩⟩
            refine Paired.snoc (L2.Paired.mapP hp5 fun _ _ q => q.mono (tut (stups e6) ts7)) ⟨_, _, ⟨t3, rfl, ts7 _ _ g3⟩, ⟨t1, rfl, ?_⟩, ⟨t2, rfl, ?_⟩⟩
            · rw [ts7 _ _ g1]
              have : (1 + (j : Nat) - 1 : Int) = ((j : Nat) : Int) := by omega
              rw [this]
              rfl
            · rw [ts7 _ _ g2]
              have : (1 + (j : Nat) : Int) = ((j + 1 : Nat) : Int) := by omega
              rw [this]
              rfl
        · clear hfo5 hp5 A5 ps zs hz5 hes5 e5 htn5
          rintro σ' H6 ⟨ps, zs, rfl, e6, htn6, hz6, hes6, hfo6, hp6, A6⟩
          obtain ⟨te, hte, htv⟩ := evs_at hes6 hj'
          refine ⟨_, rfl, _, rfl, _, _, rfl, rfl, z, _, (j : Nat), .ref te, rfl, ?_, sqt hz6, atI_nat hte, te, _, 0, .str (R a)[j].word, rfl, rfl, sqt htv, atI_nat (j := 0) rfl, rfl, _, rfl, ?_⟩
          · show V.int _ = V.int _
            congr 1
            omega
          have e1j : (1 + (j : Nat) : Int) = ((j + 1 : Nat) : Int) := by omega
          by_cases hw : (R a)[j].word = "send"
          · rw [decide_eq_true (show V.str (R a)[j].word = V.str "send" by rw [hw])]
            obtain ⟨q, v, hq⟩ := Ev.word_send.mp hw
            rw [hq] at hka
            refine iteT ?_
            refine ⟨_, rfl, r, dx, _, rfl, e6 _ _ hro, rfl, _, rfl, _, rfl, s2, fun t1 h1 => ?_⟩
            have e7 : Same H6 (upd H6 t1 (.tup [.str a, .int (1 + (j : Nat))])) := same_new h1
            have g1 : (upd H6 t1 (.tup [.str a, .int (1 + (j : Nat))])) t1 = some (.tup (idVs (a, j + 1))) := by
              rw [upd_same, e1j]
              rfl
            generalize upd H6 t1 (.tup [.str a, .int (1 + (j : Nat))]) = H7 at e7 g1
            have e07 := e6.trans e7
            refine ⟨S, r, ns, R, .ref t1, (a, j + 1), rfl, g, rec.same e07, ⟨t1, rfl, g1⟩, hev, fun v' H8 hv' e8 => ?_⟩
            have e68 := e7.trans e8
            have e08 := e6.trans e68
            rcases hv' with ⟨rfl, hno⟩ | ⟨f, hf, hmf⟩
            · refine ⟨_, rfl, iteF ⟨_, ps, zs, rfl, e08, e68 _ _ htn6, e68 _ _ hz6, L2.Paired.mapP hes6 fun _ _ q => q.mono (stups e68), e68 _ _ hfo6, L2.Paired.mapP hp6 fun _ _ q => q.mono (stups e68), A6.nomsg fun y hy => (hno _ hy).1 rfl⟩⟩
            · have hmf' : ((a, j + 1), f) ∈ msgsOf ns R := by
                rcases hmf with h | h
                · exact h
                · obtain ⟨_, t, o, z, u, h2⟩ := msg_kind g h
                  simp only [Nat.add_sub_cancel] at h2
                  rw [hka] at h2
                  cases h2
              obtain ⟨tf, rfl, htf⟩ := hf
              refine ⟨_, rfl, iteT ?_⟩
              have hfo8 := e68 _ _ hfo6
              refine ⟨_, rfl, tyl hfo8, _, rfl, _, rfl, s2, fun t2 h2 => ?_⟩
              have e9 : Same H8 (upd H8 t2 (.tup [.str a, .int (1 + (j : Nat))])) := same_new h2
              have g2 : (upd H8 t2 (.tup [.str a, .int (1 + (j : Nat))])) t2 = some (.tup (idVs (a, j + 1))) := by
                rw [upd_same, e1j]
                rfl
              generalize upd H8 t2 (.tup [.str a, .int (1 + (j : Nat))]) = H9 at e9 g2
              refine ⟨_, rfl, r, dx, _, rfl, (e08.trans e9) _ _ hro, rfl, _, rfl, _, rfl, s2, fun t3 h3 => ?_⟩
              have e10 : Same H9 (upd H9 t3 (.tup [.str a, .int (1 + (j : Nat))])) := same_new h3
              have g3 : (upd H9 t3 (.tup [.str a, .int (1 + (j : Nat))])) t3 = some (.tup (idVs (a, j + 1))) := by
                rw [upd_same, e1j]
                rfl
              generalize upd H9 t3 (.tup [.str a, .int (1 + (j : Nat))]) = H10 at e10 g3
              have e010 := e08.trans (e9.trans e10)
              refine ⟨S, r, ns, R, .ref t3, (a, j + 1), rfl, g, rec.same e010, ⟨t3, rfl, g3⟩, hev, fun v2 H11 hv2 e11 => ?_⟩
              obtain ⟨f2, hf2, hmf2⟩ : ∃ f2, IdV H11 v2 f2 ∧ ((a, j + 1), f2) ∈ msgsOf ns R := by
                rcases hv2 with ⟨_, hno⟩ | ⟨f2, hf2, hm2⟩
                · exact ((hno _ hmf').1 rfl).elim
                · rcases hm2 with h | h
                  · exact ⟨f2, hf2, h⟩
                  · obtain ⟨_, t, o, z, u, h2⟩ := msg_kind g h
                    simp only [Nat.add_sub_cancel] at h2
                    rw [hka] at h2
                    cases h2
              refine ⟨s2, fun t4 h4 => ?_⟩
              have e12 : Same H11 (upd H11 t4 (.tup [.ref t2, v2])) := same_new h4
              have g4 : (upd H11 t4 (.tup [.ref t2, v2])) t4 = _ := upd_same
              generalize upd H11 t4 (.tup [.ref t2, v2]) = H12 at e12 g4
              have e812 := e9.trans (e10.trans (e11.trans e12))
              have hfo12 := e812 _ _ hfo8
              have ts13 : TupS H12 (upd H12 fo (.lst (zs ++ [.ref t4]))) := tups_mut hfo12 (fun zs z => nomatch z)
              have e612 := e68.trans e812
              refine ⟨fo, zs, .ref t4, rfl, rfl, hfo12, szl (by have := A6.len; rw [plen hp6]; simp at this; omega), ?_⟩
              refine ⟨_, ps ++ [((a, j + 1), f2)], zs ++ [.ref t4], rfl, same_mut (e6.trans e612) hfo, ts13 _ _ (e612 _ _ htn6), ts13 _ _ (e612 _ _ hz6), L2.Paired.mapP hes6 fun _ _ q => q.mono (tut (stups e612) ts13), upd_same, ?_, A6.msg g hmf2⟩
              exact Paired.snoc (L2.Paired.mapP hp6 fun _ _ q => q.mono (tut (stups e612) ts13)) ⟨_, _, ⟨t4, rfl, ts13 _ _ g4⟩, ⟨t2, rfl, ts13 _ _ ((e10.trans (e11.trans e12)) _ _ g2)⟩, hf2.mono (tut (stups e12) ts13)⟩
          · rw [dec_false (fun z => hw (V.str.inj z))]
            refine iteF (iteF ⟨_, ps, zs, rfl, e6, htn6, hz6, hes6, hfo6, hp6, A6.nomsg fun y hy => ?_⟩)
            obtain ⟨⟨b, v, h1⟩, _⟩ := msg_kind g hy
            simp only [Nat.add_sub_cancel] at h1
            rw [hka] at h1
            exact hw (Ev.word_send.mpr ⟨b, v, Option.some.inj h1⟩)
      · rintro σ' H5 ⟨v4, ps, zs, rfl, e5, htn5, hz5, hes5, hfo5, hp5, A5⟩
        have : (((es.length : Nat) : Int) + 1 - 1).toNat = (R a).length := by omega
        rw [this, ← allIds_take hna] at A5
        exact ⟨_, _, _, ps, zs, rfl, e5, htn5, hfo5, hp5, A5⟩
    · rintro σ' H3 ⟨v2, v3, v4, ps, zs, rfl, e3, htn3, hfo3, hz3, A3⟩
      rw [List.length_map, List.take_length] at A3
      have hl := A3.len
      have h1 := allIds_len g.len ns
      have h2 : ns.length * 900 ≤ 4 * 900 := Nat.mul_le_mul_right _ n4
      exact ⟨_, rfl, k fo H3 ps hfo ⟨zs, hfo3, hz3⟩ (A3.full g) (by omega) e3⟩
end
end Rr

set_option Elab.async false
set_option linter.all false
set_option maxRecDepth 100000
set_option maxHeartbeats 4000000
namespace Rr
open PySem PySem.Spec PyProof.Rows L2 Xr
structure CRch (K : PySem.W.Frag) (C : Addr) : Prop where
  cl : Cls K C
  places : NoAttr K C "places"
  sources : NoAttr K C "sources"
  behind : NoAttr K C "behind"
def withM (B : Sol) : Sol := fun e a => if a = e.1 then max (B e a) e.2 else B e a
abbrev PlcF (ns : List Str) : Hp → V → Str → Prop := fun _ v a => ∃ i : Nat, ns[i]? = some a ∧ v = .int (i : Nat)
def SrcF (src : Id → List Id) : Hp → V → Id → Prop := fun H v e => ∃ l xs, v = .ref l ∧ H l = some (.lst xs) ∧ Paired (IdV H) xs (src e)
/-- a reach at o; be: the dict that changes -/
structure RchAt (H : Hp) (C o be : Addr) (ns : List Str) (ids : List Id) (src : Id → List Id) (B : Sol) : Prop where
  ex : ∃ (dx pl so : Addr), H o = some (.ins C dx [("places", .ref pl), ("sources", .ref so), ("behind", .ref be)]) ∧ TN (PlcF ns) H pl ns ∧ TB (SrcF src) H so ids ∧ TB (NumL ns B) H be ids ∧ so ≠ be
theorem SrcF.ls {src : Id → List Id} {H H' : Hp} {v : V} {e : Id} (k : Ls H H') (h : SrcF src H v e) : SrcF src H' v e := let ⟨l, xs, a, b, c⟩ := h; ⟨l, xs, a, k.l _ _ b, L2.Paired.mapP c fun _ _ q => q.mono k.t⟩
theorem RchAt.same {H H' : Hp} {C o be : Addr} {ns : List Str} {ids : List Id} {src : Id → List Id} {B : Sol} (z : RchAt H C o be ns ids src B) (e : Same H H') : RchAt H' C o be ns ids src B := by
  obtain ⟨dx, pl, so, h1, h2, h3, h4, h5⟩ := z.ex
  exact ⟨dx, pl, so, e _ _ h1, h2.imp (fun _ h => e _ _ h) (fun _ _ _ h => h), h3.imp (fun _ h => e _ _ h) (fun _ _ _ h => h.ls (Ls.of e)), h4.imp (fun _ h => e _ _ h) (fun _ _ _ h => h.ls (Ls.of e)), h5⟩
/-- .. that is read -/
structure TBR (F : Hp → V → Id → Prop) (H : Hp) (d : Addr) (ids : List Id) : Prop where
  ex : ∃ kvs : List (List Key × V), Rd H d (.dT kvs) ∧ kvs.map Prod.fst = ids.map kE ∧ ∀ e ∈ ids, ∃ v, valV kvs (kE e) = some v ∧ F H v e
theorem TB.r {F : Hp → V → Id → Prop} {H : Hp} {d : Addr} {ids : List Id} (z : TB F H d ids) : TBR F H d ids := let ⟨kvs, a, b⟩ := z.ex; ⟨kvs, .inl a, b⟩
theorem TBR.get {F : Hp → V → Id → Prop} {H : Hp} {d : Addr} {ids : List Id} (z : TBR F H d ids) {e : Id} (he : e ∈ ids) : ∃ v, F H v e ∧ ∀ tp, H tp = some (.tup (idVs e)) → DGet H d (.ref tp) (some v) := by
  obtain ⟨kvs, h1, h2, h3⟩ := z.ex
  obtain ⟨v, g1, g2⟩ := h3 e he
  exact ⟨v, g2, fun tp ht => .inr ⟨kvs, kE e, tp, h1, rfl, ht, g1.symm⟩⟩
structure RchR (H : Hp) (C o be : Addr) (ns : List Str) (ids : List Id) (src : Id → List Id) (B : Sol) : Prop where
  ex : ∃ (dx pl so : Addr), H o = some (.ins C dx [("places", .ref pl), ("sources", .ref so), ("behind", .ref be)]) ∧ TN (PlcF ns) H pl ns ∧ TBR (NumL ns B) H be ids
theorem RchAt.r {H : Hp} {C o be : Addr} {ns : List Str} {ids : List Id} {src : Id → List Id} {B : Sol} (z : RchAt H C o be ns ids src B) : RchR H C o be ns ids src B := by
  obtain ⟨dx, pl, so, h1, h2, h3, h4, h5⟩ := z.ex
  exact ⟨dx, pl, so, h1, h2, h4.r⟩
theorem RchR.same {H H' : Hp} {C o be : Addr} {ns : List Str} {ids : List Id} {src : Id → List Id} {B : Sol} (z : RchR H C o be ns ids src B) (e : Same H H') : RchR H' C o be ns ids src B := by
  obtain ⟨dx, pl, so, h1, h2, kvs, h4, h5, h6⟩ := z.ex
  exact ⟨dx, pl, so, e _ _ h1, h2.imp (fun _ h => e _ _ h) (fun _ _ _ h => h), kvs, Rd_same e h4, h5, fun x hx => let ⟨v, a, b⟩ := h6 x hx; ⟨v, a, b.ls (Ls.of e)⟩⟩
def numsM (ns : List Str) (M : Sol) (e : Id) : List V := ns.map fun b => V.int (M e b : Nat)
theorem numsM_get {ns : List Str} {M : Sol} {e : Id} {i : Nat} {a : Str} (h : ns[i]? = some a) : (numsM ns M e)[i]? = some (.int (M e a : Nat)) := nums_get (C := M e) h
theorem numsM_len (ns : List Str) (M : Sol) (e : Id) : (numsM ns M e).length = ns.length := by simp [numsM]
theorem set_with {ns : List Str} (nd : ns.Nodup) {B : Sol} {e : Id} {i : Nat} (h : ns[i]? = some e.1) : (numsM ns B e).set i (.int ((max (B e e.1) e.2 : Nat) : Int)) = numsM ns (withM B) e := by
  unfold numsM
  refine List.ext_getElem? fun j => ?_
  rw [List.getElem?_set]
  have hi : i < ns.length := (List.getElem?_eq_some_iff.mp h).1
  by_cases hj : i = j
  · subst hj
    rw [if_pos rfl, if_pos (by rw [List.length_map]; exact hi), List.getElem?_map, h, Option.map_some]
    unfold withM
    rw [if_pos rfl]
  · rw [if_neg hj, List.getElem?_map, List.getElem?_map]
    cases hb : ns[j]? with
    | none => rfl
    | some b =>
      have : b ≠ e.1 := fun q => hj ((List.getElem?_inj hi nd).mp (h.trans (q ▸ hb.symm)))
      rw [Option.map_some, Option.map_some]
      unfold withM
      rw [if_neg this]
theorem max_int (p q : Nat) : (if ((q : Nat) : Int) > ((p : Nat) : Int) then ((q : Nat) : Int) else ((p : Nat) : Int)) = ((max p q : Nat) : Int) := by
  split <;> omega
section
variable {P : Program} {w : World} {K : PySem.W.Frag} {mg : Str → Option Value} {base : Heap} {CH : Addr}
/-! ### with_itself, ahead -/
abbrev N_Reach_with_itself : List Str := ["self", "event", "found", "at"]
theorem sc_Reach_with_itself : FnScope N_Reach_with_itself ["self", "event"] (defScope s_Reach_with_itself) := ⟨rfl, rfl, rfl, by decide +kernel, rfl, by decide +kernel, by decide +kernel⟩
def sp_Reach_with_itself (CH : Addr) : Sp := fun vs H Q _ => ∃ (o be : Addr) (ns : List Str) (ids : List Id) (src : Id → List Id) (B : Sol) (v : V) (e : Id), vs = [.ref o, v] ∧ ns.Nodup ∧ RchR H CH o be ns ids src B ∧ IdV H v e ∧ e ∈ ids ∧ e.1 ∈ ns ∧ ∀ l H', H l = none → H' l = some (.lst (numsM ns (withM B) e)) → Same H H' → Q (.ref l) H'
theorem ok_Reach_with_itself (T : Txt K mg) (ch : CRch K CH) {f : Addr} {fd : FuncData} (F : FunD K "with_itself" "Reach.with_itself" (defArgs s_Reach_with_itself) (defBody s_Reach_with_itself) (defScope s_Reach_with_itself) [] [] f fd) : FnOk P w K mg base CX0 1 f fd ["self", "event"] (sp_Reach_with_itself CH) := by
  refine ok0 F sc_Reach_with_itself (fun vs H Q E h => ?_) (fun cdv A outer s H vs Q E hr h => ?_)
  · obtain ⟨o, be, ns, ids, src, B, v, e, rfl, _⟩ := h
    rfl
  · obtain ⟨o, be, ns, ids, src, B, v, e, rfl, nd, rch, ⟨te, rfl, hte⟩, hin, hen, k⟩ := h
    have hu := hu_of hr
    obtain ⟨dx, pl, so, hro, hpl, hbe⟩ := rch.ex
    refine ⟨_, (pss_cons (ps_set (i := 2) sc_Reach_with_itself.nd rfl (Or.inl rfl) (pe_callTy (q_list K rfl) (by rfl) T.z_list (by decide +kernel) (pa_cons (pe_dget hu (q_fld K rfl (pv 0) rfl) (pv 1) (fun _ _ => rfl)) pa_nil)))
      (pss_cons (ps_set (i := 3) sc_Reach_with_itself.nd rfl (Or.inl rfl) (pe_dget hu (q_fld K rfl (pv 0) rfl) (pe_ix (q_ixt K rfl) (pv 1) pe_int (fun _ _ => rfl)) (fun _ _ => rfl)))
      (pss_cons (ps_asg (pe_callB (call_max2 rfl) (by rfl) T.z_max (by decide +kernel) (pa_cons (pe_ix (q_ixl K rfl) (pv 2) (pv 3) (fun _ _ => rfl)) (pa_cons (pe_ix (q_ixt K rfl) (pv 1) pe_int (fun _ _ => rfl)) pa_nil))) (pg_sub (pv 2) (pv 3) set_list))
      (pss_one (ps_ret (pv 2)))))), ?_⟩
    obtain ⟨vb, ⟨lb, rfl, hlb⟩, gb⟩ := hbe.get hin
    refine ⟨_, rfl, o, CH, dx, _, .ref be, rfl, hro, ch.cl, ch.behind, rfl, _, rfl, be, _, rfl, gb _ hte, lb, _, rfl, .inl (sq hlb), fun fo hfo => ?_⟩
    have e1 : Same H (upd H fo (.lst (numsM ns B e))) := same_new hfo
    have hfo1 : (upd H fo (.lst (numsM ns B e))) fo = some (.lst (numsM ns B e)) := upd_same
    obtain ⟨vp, ⟨i, hi, rfl⟩, gp⟩ := hpl.get hen
    refine ⟨_, rfl, o, CH, dx, _, .ref pl, rfl, e1 _ _ hro, ch.cl, ch.places, rfl, _, rfl, te, _, 0, .str e.1, rfl, rfl, sqt (e1 _ _ hte), atI_nat (j := 0) rfl, pl, _, rfl, dget_same e1 gp, ?_⟩
    have hil : i < ns.length := (List.getElem?_eq_some_iff.mp hi).1
    refine ⟨_, rfl, _, rfl, fo, _, (i : Nat), .int (B e e.1 : Nat), rfl, rfl, sq hfo1, atI_nat (numsM_get hi), _, rfl, te, _, 1, .int (e.2 : Nat), rfl, rfl, sqt (e1 _ _ hte), atI_nat (j := 1) rfl, _, _, rfl, _, rfl, _, rfl, fo, _, (i : Nat), i, rfl, rfl, hfo1, ixN_at (by rw [numsM_len]; exact hil), ?_⟩
    rw [max_int, set_with nd hi]
    exact ⟨_, rfl, k fo _ hfo upd_same (same_mut e1 hfo)⟩
abbrev N_Reach_ahead : List Str := ["self", "one", "other"]
theorem sc_Reach_ahead : FnScope N_Reach_ahead ["self", "one", "other"] (defScope s_Reach_ahead) := ⟨rfl, rfl, rfl, by decide +kernel, rfl, by decide +kernel, by decide +kernel⟩
def sp_Reach_ahead (CH : Addr) : Sp := fun vs H Q _ => ∃ (o be : Addr) (ns : List Str) (ids : List Id) (src : Id → List Id) (B : Sol) (v u : V) (e f : Id), vs = [.ref o, v, u] ∧ RchR H CH o be ns ids src B ∧ IdV H v e ∧ IdV H u f ∧ f ∈ ids ∧ e.1 ∈ ns ∧ Q (.bl (decide (e.2 ≤ B f e.1))) H
theorem ok_Reach_ahead (T : Txt K mg) (ch : CRch K CH) {f : Addr} {fd : FuncData} (F : FunD K "ahead" "Reach.ahead" (defArgs s_Reach_ahead) (defBody s_Reach_ahead) (defScope s_Reach_ahead) [] [] f fd) : FnOk P w K mg base CX0 1 f fd ["self", "one", "other"] (sp_Reach_ahead CH) := by
  refine ok0 F sc_Reach_ahead (fun vs H Q E h => ?_) (fun cdv A outer s H vs Q E hr h => ?_)
  · obtain ⟨o, be, ns, ids, src, B, v, u, e, f, rfl, _⟩ := h
    rfl
  · obtain ⟨o, be, ns, ids, src, B, v, u, e, f, rfl, rch, ⟨te, rfl, hte⟩, ⟨tf, rfl, htf⟩, hin, hen, k⟩ := h
    have hu := hu_of hr
    obtain ⟨dx, pl, so, hro, hpl, hbe⟩ := rch.ex
    refine ⟨_, (pss_one (ps_ret (pe_cmpR op_ge (pe_ix (q_ixl K rfl) (pe_dget hu (q_fld K rfl (pv 0) rfl) (pv 2) (fun _ _ => rfl)) (pe_dget hu (q_fld K rfl (pv 0) rfl) (pe_ix (q_ixt K rfl) (pv 1) pe_int (fun _ _ => rfl)) (fun _ _ => rfl)) (fun _ _ => rfl)) (pe_ix (q_ixt K rfl) (pv 1) pe_int (fun _ _ => rfl)) (nomark _)))), ?_⟩
    obtain ⟨vb, ⟨lb, rfl, hlb⟩, gb⟩ := hbe.get hin
    obtain ⟨vp, ⟨i, hi, rfl⟩, gp⟩ := hpl.get hen
    refine ⟨_, rfl, o, CH, dx, _, .ref be, rfl, hro, ch.cl, ch.behind, rfl, _, rfl, be, _, rfl, gb _ htf, _, rfl, o, CH, dx, _, .ref pl, rfl, hro, ch.cl, ch.places, rfl, _, rfl, te, _, 0, .str e.1, rfl, rfl, sqt hte, atI_nat (j := 0) rfl, pl, _, rfl, gp, lb, _, (i : Nat), .int (B f e.1 : Nat), rfl, rfl, sq hlb, atI_nat (numsM_get hi), _, rfl, te, _, 1, .int (e.2 : Nat), rfl, rfl, sqt hte, atI_nat (j := 1) rfl, _, _, rfl, rfl, ?_⟩
    have : decide (((B f e.1 : Nat) : Int) ≥ ((e.2 : Nat) : Int)) = decide (e.2 ≤ B f e.1) := decide_eq_decide.mpr (by omega)
    show Q (.bl (decide (((B f e.1 : Nat) : Int) ≥ ((e.2 : Nat) : Int)))) H
    rw [this]
    exact k
end
end Rr

set_option Elab.async false
set_option linter.all false
set_option maxRecDepth 100000
set_option maxHeartbeats 4000000
namespace Rr
open PySem PySem.Spec PyProof.Rows L2 Xr
def jn (B : Sol) (acc : Str → Nat) (ss : List Id) : Str → Nat := ss.foldl (fun acc s a => max (acc a) (withM B s a)) acc
theorem jn_snoc (B : Sol) (acc : Str → Nat) (ss : List Id) (s : Id) : jn B acc (ss ++ [s]) = fun a => max (jn B acc ss a) (withM B s a) := by
  unfold jn
  rw [List.foldl_append]
  rfl
theorem jn_ge (B : Sol) (acc : Str → Nat) (a : Str) : ∀ (ss : List Id), acc a ≤ jn B acc ss a := by
  intro ss
  induction ss generalizing acc with
  | nil => exact Nat.le_refl _
  | cons s r ih => exact Nat.le_trans (Nat.le_max_left _ _) (ih (fun a => max (acc a) (withM B s a)))
theorem jn_mem {B : Sol} {a : Str} {s : Id} : ∀ {ss : List Id} (acc : Str → Nat), s ∈ ss → withM B s a ≤ jn B acc ss a
  | [], _, h => by cases h
  | x :: r, acc, h => by
    show withM B s a ≤ jn B (fun a => max (acc a) (withM B x a)) r a
    rcases List.mem_cons.mp h with q | q
    · rw [q]
      exact Nat.le_trans (Nat.le_max_right (acc a) (withM B x a)) (jn_ge B (fun a => max (acc a) (withM B x a)) a r)
    · exact jn_mem _ q
theorem jn_of {B : Sol} {a : Str} : ∀ {ss : List Id} (acc : Str → Nat), jn B acc ss a = acc a ∨ ∃ s ∈ ss, jn B acc ss a = withM B s a
  | [], acc => .inl rfl
  | x :: r, acc => by
    rcases jn_of (B := B) (a := a) (ss := r) (fun a => max (acc a) (withM B x a)) with h | ⟨s, h1, h2⟩
    · rcases Nat.le_total (acc a) (withM B x a) with q | q
      · right
        refine ⟨x, List.mem_cons_self .., ?_⟩
        show jn B (fun a => max (acc a) (withM B x a)) r a = _
        rw [h]
        exact Nat.max_eq_right q
      · left
        show jn B (fun a => max (acc a) (withM B x a)) r a = _
        rw [h]
        exact Nat.max_eq_left q
    · exact .inr ⟨s, List.mem_cons_of_mem _ h1, h2⟩
/-- one event joined -/
def joinB (src : Id → List Id) (B : Sol) (e : Id) : Sol := fun x a => if x = e then jn B (B e) (src e) a else B x a
def numsF (ns : List Str) (f : Str → Nat) : List V := ns.map fun b => V.int (f b : Nat)
theorem numsF_get {ns : List Str} {f : Str → Nat} {i : Nat} {a : Str} (h : ns[i]? = some a) : (numsF ns f)[i]? = some (.int (f a : Nat)) := nums_get (C := f) h
theorem numsF_len (ns : List Str) (f : Str → Nat) : (numsF ns f).length = ns.length := by simp [numsF]
section
variable {P : Program} {w : World} {K : PySem.W.Frag} {mg : Str → Option Value} {base : Heap} {CH : Addr}
abbrev N_Reach_joined : List Str := ["self", "event", "found", "source", "pair", "new"]
theorem sc_Reach_joined : FnScope N_Reach_joined ["self", "event"] (defScope s_Reach_joined) := ⟨rfl, rfl, rfl, by decide +kernel, rfl, by decide +kernel, by decide +kernel⟩
def sp_Reach_joined (CH : Addr) : Sp := fun vs H Q _ => ∃ (o be : Addr) (ns : List Str) (ids : List Id) (src : Id → List Id) (B : Sol) (v : V) (e : Id), vs = [.ref o, v] ∧ ns.Nodup ∧ ns.length ≤ 4 ∧ ids.length ≤ 3600 ∧ RchAt H CH o be ns ids src B ∧ IdV H v e ∧ e ∈ ids ∧ (∀ x ∈ ids, x.1 ∈ ns) ∧ (∀ x ∈ src e, x ∈ ids) ∧
  ∀ b H', RchAt H' CH o be ns ids src (joinB src B e) → (b = false → ∀ a ∈ ns, jn B (B e) (src e) a = B e a) → (b = true → ∃ a ∈ ns, jn B (B e) (src e) a ≠ B e a) → FrS [be] H H' → TupS H H' → Q (.bl b) H'
theorem ok_Reach_joined (T : Txt K mg) (ch : CRch K CH) (G_Reach_with_itself : Gm P w K mg base 1 CH "with_itself" ["self", "event"] (sp_Reach_with_itself CH)) {f : Addr} {fd : FuncData} (F : FunD K "joined" "Reach.joined" (defArgs s_Reach_joined) (defBody s_Reach_joined) (defScope s_Reach_joined) [] [] f fd) : FnOk P w K mg base CX0 2 f fd ["self", "event"] (sp_Reach_joined CH) := by
  refine ok0 F sc_Reach_joined (fun vs H Q E h => ?_) (fun cdv A outer s H vs Q E hr h => ?_)
  · obtain ⟨o, be, ns, ids, src, B, v, e, rfl, _⟩ := h
    rfl
  · obtain ⟨o, be, ns, ids, src, B, v, e, rfl, nd, n4, il, rch, ⟨te, rfl, hte⟩, hin, hns, hsrc, k⟩ := h
    have hu := hu_of hr
    obtain ⟨dx, pl, so, hro, hpl, hso, hbe, nsb⟩ := rch.ex
    refine ⟨_, (pss_cons (ps_set (i := 2) sc_Reach_joined.nd rfl (Or.inl rfl) (pe_callTy (q_list K rfl) (by rfl) T.z_list (by decide +kernel) (pa_cons (pe_dget hu (q_fld K rfl (pv 0) rfl) (pv 1) (fun _ _ => rfl)) pa_nil)))
      (pss_cons (ps_for PassesOwn.never rfl (q_plist K rfl (pe_dget hu (q_fld K rfl (pv 0) rfl) (pv 1) (fun _ _ => rfl))) (pg_name (i := 3) sc_Reach_joined.nd rfl (Or.inl rfl))
        (pss_one (ps_setLcZ (i := 2) (own := [("pair", 4)]) (by rfl) sc_Reach_joined.nd rfl rfl (sw_true rfl rfl rfl (by decide +kernel)) (by rfl) T.z_zip (pa_cons (pv 2) (pa_cons (pe_meth (pv 0) G_Reach_with_itself.cl G_Reach_with_itself.m G_Reach_with_itself.F (G_Reach_with_itself.room hr) G_Reach_with_itself.b .nil pass0 (pa_cons (pv 3) pa_nil)) pa_nil)) (blkOk_by (N := N_Reach_joined) (sc := defScope s_Reach_joined) (by decide +kernel)) (fun _ _ _ _ _ => (pg_name (i := 4) sc_Reach_joined.nd rfl (Or.inl rfl))) (fun _ _ _ _ _ => pts_nil) (fun _ _ _ _ _ => (pe_callB (q_maxT K rfl rfl hr.units) (by rfl) T.z_max (by decide +kernel) (pa_cons (pv 4) pa_nil))))))
      (pss_cons (ps_set (i := 5) sc_Reach_joined.nd rfl (Or.inl rfl) (pe_cmpR (q_neD K rfl hr.units) (pv 2) (pe_dget hu (q_fld K rfl (pv 0) rfl) (pv 1) (fun _ _ => rfl)) (nomark _)))
      (pss_cons (ps_dput hu (q_fld K rfl (pv 0) rfl) (pv 1) (pv 2) rfl)
      (pss_one (ps_ret (pv 5))))))), ?_⟩
    obtain ⟨vb, ⟨lb, rfl, hlb⟩, gb⟩ := hbe.get hin
    obtain ⟨vs, ⟨ls, sxs, rfl, hls, hsx⟩, gs⟩ := hso.get hin
    refine ⟨_, rfl, o, CH, dx, _, .ref be, rfl, hro, ch.cl, ch.behind, rfl, _, rfl, be, _, rfl, gb _ hte, lb, _, rfl, .inl (sq hlb), fun fo hfo => ?_⟩
    have e1 : Same H (upd H fo (.lst (numsF ns (B e)))) := same_new hfo
    have hfo1 : (upd H fo (.lst (numsF ns (B e)))) fo = some (.lst (numsF ns (B e))) := upd_same
    refine ⟨_, rfl, o, CH, dx, _, .ref so, rfl, e1 _ _ hro, ch.cl, ch.sources, rfl, _, rfl, so, _, rfl, dget_same e1 (gs _ hte), ls, rfl, ⟨_, sq (e1 _ _ hls)⟩, for_it (walk_list (K := K) (a := ls) (xs := sxs)) (fun i σ' H2 => ∃ (v3 : Option V) (fo : Addr), σ' = [some (.ref o), some (.ref te), some (.ref fo), v3, none, none] ∧ Same H H2 ∧ H fo = none ∧ H2 fo = some (.lst (numsF ns (jn B (B e) ((src e).take i)))))
      ⟨none, fo, rfl, e1, hfo, by rw [List.take_zero]; exact hfo1⟩ (fun i σ' H2 _ h => ?_) ?_ ?_⟩
    · obtain ⟨_, _, _, e, _⟩ := h
      exact sq (e _ _ hls)
    · clear e1 hfo1 hfo fo
      rintro i x σ' H2' H2 hi ⟨v3, fo, rfl, e2, hfo, hfo2⟩ ⟨rfl, hx⟩
      obtain ⟨s1, hs1, hsv⟩ := pget hsx hx
      have hs1m := List.mem_of_getElem? hs1
      refine ⟨_, rfl, _, rfl, o, dx, _, rfl, e2 _ _ hro, rfl, _, rfl, o, be, ns, ids, src, B, x, s1, rfl, nd, (rch.same e2).r, hsv.mono (stups e2), hsrc _ hs1m, hns _ (hsrc _ hs1m), fun l H3 hl hl3 e3 => ?_⟩
      have hfo3 := e3 _ _ hfo2
      refine ⟨fo, l, _, _, rfl, sq hfo3, sq hl3, fun D hD => ?_⟩
      refine ⟨fun i' H4 => Same H3 H4 ∧ H4 D = some (.lst (numsF (ns.take i') fun a => max (jn B (B e) ((src e).take i) a) (withM B s1 a))), ⟨same_new hD, upd_same⟩, fun i' H4 h => ⟨sq (h.1 _ _ hfo3), sq (h.1 _ _ hl3)⟩, ?_, ?_⟩
      · rintro i' x1 y1 T' H4 hx1 hy1 ⟨e4, hD4⟩ hT
        have hin' : i' < ns.length := by
          have := (List.getElem?_eq_some_iff.mp hx1).1
          rw [numsF_len] at this
          exact this
        have hna : ns[i']? = some ns[i'] := List.getElem?_eq_getElem hin'
        have hx1' := (numsF_get (f := jn B (B e) ((src e).take i)) hna).symm.trans hx1
        have hy1' := (numsM_get (M := withM B) (e := s1) hna).symm.trans hy1
        cases hx1'
        cases hy1'
        have e5 : Same H4 (upd H4 T' (.tup [.int (jn B (B e) ((src e).take i) ns[i'] : Nat), .int (withM B s1 ns[i'] : Nat)])) := same_new hT
        refine ⟨rfl, _, rfl, T', _, _, rfl, sqt upd_same, _, e5 _ _ hD4, szl (by rw [numsF_len, List.length_take]; omega), tur _, same_mut (e4.trans e5) hD, ?_⟩
        rw [upd_same]
        unfold numsF
        rw [take_succ' hna, List.map_append]
        have : (max ((jn B (B e) ((src e).take i) ns[i'] : Nat) : Int) ((withM B s1 ns[i'] : Nat) : Int)) = ((max (jn B (B e) ((src e).take i) ns[i']) (withM B s1 ns[i']) : Nat) : Int) := by omega
        rw [this]
        rfl
      · rintro H4 ⟨e4, hD4⟩
        rw [numsF_len, numsM_len, Nat.min_self, List.take_length] at hD4
        refine ⟨_, D, rfl, e2.trans (e3.trans e4), same_back (e2.trans e3) hD, ?_⟩
        rw [hD4, take_succ' hs1, jn_snoc]
    · clear e1 hfo1 hfo fo
      rintro σ' H2 ⟨v3, fo, rfl, e2, hfo, hfo2⟩
      rw [plen hsx, List.take_length] at hfo2
      have hbe2 : TB (NumL ns B) H2 be ids := hbe.imp (fun _ h => e2 _ _ h) fun _ _ _ h => h.ls (Ls.of e2)
      refine ⟨_, rfl, _, rfl, o, CH, dx, _, .ref be, rfl, e2 _ _ hro, ch.cl, ch.behind, rfl, _, rfl, be, _, rfl, dget_same e2 (gb _ hte), _, _, .lst (sq hfo2) (dpNum (jn B (B e) (src e)) ns), .lst (sq (e2 _ _ hlb)) (dpNum (B e) ns), shapedInts _, shapedInts _, ?_⟩
      rw [eqvl_ints]
      generalize hb : (!decide ((ns.map fun a => ((jn B (B e) (src e) a : Nat) : Int)) = ns.map fun a => ((B e a : Nat) : Int))) = b
      obtain ⟨kv, hkd, _⟩ := hbe2.ex
      obtain ⟨kvs2, o2, hkv2, hput, T3⟩ := hbe2.put (G := NumL ns (joinB src B e)) hin (e2 _ _ hte) (v := .ref fo) (szl (by omega)) (fun o2 => ⟨fo, rfl, by
          rw [upd_ne (ne_of hfo2 hkd (fun z => nomatch z)), hfo2]
          unfold joinB numsF
          simp only [if_pos]⟩) (fun v' f o2 hf hfe h => by
          obtain ⟨l, rfl, hl⟩ := h
          refine ⟨l, rfl, ?_⟩
          rw [upd_ne (ne_of hl hkd (fun z => nomatch z)), hl]
          unfold joinB
          simp only [if_neg hfe])
      refine ⟨_, rfl, _, rfl, o, CH, dx, _, .ref be, rfl, e2 _ _ hro, ch.cl, ch.behind, rfl, _, rfl, be, _, rfl, hput, _, rfl, k b _ ?_ ?_ ?_ ((FrS.of e2).trans (FrS.upd (List.mem_singleton_self be))) (tut (stups e2) (tups_mut hkv2 (fun zs z => nomatch z)))⟩
      · refine ⟨dx, pl, so, ?_, ?_, ?_, T3, nsb⟩
        · rw [upd_ne (ne_of (e2 _ _ hro) hkv2 (fun z => nomatch z))]
          exact e2 _ _ hro
        · obtain ⟨kp, hkp, _⟩ := hpl.ex
          exact hpl.imp (fun _ h => by rw [upd_ne (ne_of (e2 _ _ h) hkv2 (fun z => nomatch z))]; exact e2 _ _ h) fun _ _ _ h => h
        · exact hso.imp (fun _ h => by rw [upd_ne nsb]; exact e2 _ _ h) fun _ _ _ h => h.ls ((Ls.of e2).trans (Ls.dT hkv2))
      · intro hbf a ha
        rw [← hb] at hbf
        have h9 : (ns.map fun a => ((jn B (B e) (src e) a : Nat) : Int)) = ns.map fun a => ((B e a : Nat) : Int) := by
          apply Classical.byContradiction
          intro hn
          rw [decide_eq_false hn] at hbf
          cases hbf
        have := (List.map_inj_left.mp h9) a ha
        omega
      · intro hbt
        rw [← hb] at hbt
        apply Classical.byContradiction
        intro hn
        have : (ns.map fun a => ((jn B (B e) (src e) a : Nat) : Int)) = ns.map fun a => ((B e a : Nat) : Int) := List.map_congr_left fun a ha => by
          apply Classical.byContradiction
          intro hne
          exact hn ⟨a, ha, fun q => hne (by rw [q])⟩
        rw [decide_eq_true this] at hbt
        cases hbt
end
end Rr

set_option Elab.async false
set_option linter.all false
set_option maxRecDepth 100000
set_option maxHeartbeats 4000000
namespace Rr
open PySem PySem.Spec PyProof.Rows L2 Xr
def SndB (R : Rec) (ar : List (Id × Id)) (B : Sol) : Prop := ∀ e a, IsEv R e → B e a = 0 ∨ (IsEv R (a, B e a) ∧ ∃ y, Rch (Stp R ar) (a, B e a) y ∧ Stp R ar y e)
theorem sndB_zero (R : Rec) (ar : List (Id × Id)) : SndB R ar (fun _ _ => 0) := fun _ _ _ => .inl rfl
theorem withM_of (B : Sol) (s : Id) (a : Str) : withM B s a = B s a ∨ (a = s.1 ∧ withM B s a = s.2) := by
  unfold withM
  by_cases h : a = s.1
  · rw [if_pos h]
    rcases Nat.le_total (B s a) s.2 with q | q
    · exact .inr ⟨h, Nat.max_eq_right q⟩
    · exact .inl (Nat.max_eq_left q)
  · rw [if_neg h]
    exact .inl rfl
theorem SndB.join {R : Rec} {ar : List (Id × Id)} {B : Sol} {src : Id → List Id} {e : Id} (hA : Arr R ar) (s : SndB R ar B) (hs : ∀ x ∈ src e, Stp R ar x e) : SndB R ar (joinB src B e) := by
  intro x a hx
  unfold joinB
  by_cases h : x = e
  · subst h
    simp only [if_pos]
    rcases jn_of (B := B) (a := a) (ss := src x) (B x) with q | ⟨y, hy, q⟩
    · rw [q]
      exact s x a hx
    · rw [q]
      have st := hs y hy
      have hev := (st.ev hA).1
      rcases withM_of B y a with q1 | ⟨q0, q1⟩
      · rw [q1]
        rcases s y a hev with z | ⟨z1, w, z2, z3⟩
        · exact .inl z
        · exact .inr ⟨z1, y, .step z2 z3, st⟩
      · rw [q1, q0]
        exact .inr ⟨hev, y, .refl _, st⟩
  · simp only [if_neg h]
    exact s x a hx
theorem SndB.le {R : Rec} {ar : List (Id × Id)} {B : Sol} (s : SndB R ar B) (h : ∀ a, (R a).length ≤ 900) {e : Id} (he : IsEv R e) (a : Str) : B e a ≤ 900 := by
  rcases s e a he with q | ⟨q, _⟩
  · omega
  · have h1 := h a
    have h2 : B e a ≤ (R a).length := q.2
    omega
/-- closed: what is found is the least solution -/
theorem SndB.isN {ns : List Str} {R : Rec} {ar : List (Id × Id)} {B : Sol} (g : Good ns R) (hA : Arr R ar) (s : SndB R ar B) (hc : ∀ x e, Stp R ar x e → ∀ a ∈ ns, withM B x a ≤ B e a) : IsN R ar (withM B) := by
  refine isN_of hA (fun e a he => ?_) (fun e he => ?_) (fun x y st a => ?_)
  · rcases withM_of B e a with q | ⟨q0, q⟩
    · rw [q]
      rcases s e a he with z | ⟨z1, y, z2, z3⟩
      · exact .inl z
      · exact .inr ⟨z1, .step z2 z3⟩
    · rw [q, q0]
      exact .inr ⟨he, .refl _⟩
  · unfold withM
    rw [if_pos rfl]
    exact Nat.le_max_right _ _
  · by_cases ha : a ∈ ns
    · refine Nat.le_trans (hc x y st a ha) ?_
      unfold withM
      split
      · exact Nat.le_max_left _ _
      · exact Nat.le_refl _
    · have hx := (st.ev hA).1
      have hne : a ≠ x.1 := fun q => ha (q ▸ g.mem hx)
      unfold withM
      rw [if_neg hne]
      rcases s x a hx with z | ⟨z, _⟩
      · rw [z]
        exact Nat.zero_le _
      · exact (ha (g.mem z)).elim
section
variable {P : Program} {w : World} {K : PySem.W.Frag} {mg : Str → Option Value} {base : Heap} {CH : Addr}
abbrev N_Reach_close : List Str := ["self", "changed", "event"]
theorem sc_Reach_close : FnScope N_Reach_close ["self"] (defScope s_Reach_close) := ⟨rfl, rfl, rfl, by decide +kernel, rfl, by decide +kernel, by decide +kernel⟩
def sp_Reach_close (CH : Addr) : Sp := fun vs H Q _ => ∃ (o be : Addr) (ns : List Str) (R : Rec) (ar : List (Id × Id)) (ids : List Id) (src : Id → List Id) (B : Sol), vs = [.ref o] ∧ Good ns R ∧ Arr R ar ∧ ids.length ≤ 3600 ∧ RchAt H CH o be ns ids src B ∧ (∀ e, e ∈ ids ↔ IsEv R e) ∧ (∀ e ∈ ids, ∀ x, x ∈ src e ↔ Stp R ar x e) ∧ SndB R ar B ∧
  ∀ H' B', RchAt H' CH o be ns ids src B' → SndB R ar B' → (∀ x e, Stp R ar x e → ∀ a ∈ ns, withM B' x a ≤ B' e a) → FrS [be] H H' → TupS H H' → Q .non H'
theorem ok_Reach_close (T : Txt K mg) (ch : CRch K CH) (G_Reach_joined : Gm P w K mg base 2 CH "joined" ["self", "event"] (sp_Reach_joined CH)) {f : Addr} {fd : FuncData} (F : FunD K "close" "Reach.close" (defArgs s_Reach_close) (defBody s_Reach_close) (defScope s_Reach_close) [] [] f fd) : FnOk P w K mg base CX0 3 f fd ["self"] (sp_Reach_close CH) := by
  refine ok0 F sc_Reach_close (fun vs H Q E h => ?_) (fun cdv A outer s H vs Q E hr h => ?_)
  · obtain ⟨o, be, ns, R, ar, ids, src, B, rfl, _⟩ := h
    rfl
  · obtain ⟨o, be, ns, R, ar, ids, src, B, rfl, g, hA, il, rch, hids, hsrc, snd, k⟩ := h
    have hu := hu_of hr
    refine ⟨_, (pss_cons (ps_set (i := 1) sc_Reach_close.nd rfl (Or.inl rfl) pe_bl)
      (pss_one (ps_while PassesOwn.never (pt_val (pv 1))
        (pss_cons (ps_set (i := 1) sc_Reach_close.nd rfl (Or.inl rfl) pe_bl)
        (pss_one (ps_for PassesOwn.never rfl (q_plist K rfl (pe_callTy (call_list_dT rfl) (by rfl) T.z_list (by decide +kernel) (pa_cons (q_fld K rfl (pv 0) rfl) pa_nil))) (pg_name (i := 2) sc_Reach_close.nd rfl (Or.inl rfl))
          (pss_one (ps_if (pt_val (pe_meth (pv 0) G_Reach_joined.cl G_Reach_joined.m G_Reach_joined.F (G_Reach_joined.room hr) G_Reach_joined.b .nil pass0 (pa_cons (pv 2) pa_nil)))
            (pss_one (ps_set (i := 1) sc_Reach_close.nd rfl (Or.inl rfl) pe_bl))
            pss_nil)))))))), ?_⟩
    have n4 := g.n4
    refine ⟨fun n σ' H1 => ∃ (v2 : Option V) (c : Bool) (B' : Sol), σ' = [some (.ref o), some (.bl c), v2] ∧ n = room ns ids B' + (if c = true then 1 else 0) ∧ RchAt H1 CH o be ns ids src B' ∧ SndB R ar B' ∧ FrS [be] H H1 ∧ TupS H H1 ∧ (c = false → ∀ x e, Stp R ar x e → ∀ a ∈ ns, withM B' x a ≤ B' e a),
      ⟨_, none, true, B, rfl, rfl, rch, snd, FrS.of (Same.refl _), tur _, fun z => by cases z⟩, ?_⟩
    rintro n σ' H1 ⟨v2, c, B', rfl, rfl, rch1, snd1, f1, ts1, c1⟩
    refine ⟨_, rfl, c, rfl, ?_⟩
    cases c with
    | false =>
      rw [if_neg Bool.false_ne_true]
      exact k H1 B' rch1 snd1 (c1 rfl) f1 ts1
    | true =>
      rw [if_pos rfl]
      refine ⟨_, fun σ' H' h => h, ?_⟩
      obtain ⟨dx, pl, so, hro, hpl, hso, hbe, nsb⟩ := rch1.ex
      obtain ⟨kvs, hkv, hkeys, hvals⟩ := hso.ex
      refine ⟨_, rfl, o, CH, dx, _, .ref so, rfl, hro, ch.cl, ch.sources, rfl, so, kvs, rfl, .inl hkv, fun kl bs hkl hbs => ?_⟩
      have e2 : Same H1 (upd H1 kl (.lst (bs.map V.ref))) := same_new hkl
      have hkl2 : (upd H1 kl (.lst (bs.map V.ref))) kl = some (.lst (bs.map V.ref)) := upd_same
      have rch2 := rch1.same e2
      have hbl : bs.length = ids.length := by
        rw [← plen hbs]
        have := congrArg List.length hkeys
        simpa using this
      have hbk : ∀ (i : Nat) b, bs[i]? = some b → ∃ e, ids[i]? = some e ∧ H1 b = some (.tup (idVs e)) := fun i b hb => by
        obtain ⟨p, h1, h2⟩ := pget' hbs hb
        have h3 : (kvs.map Prod.fst)[i]? = some p.1 := by rw [List.getElem?_map, h1] <;> rfl
        rw [hkeys, List.getElem?_map] at h3
        cases he : ids[i]? with
        | none => rw [he] at h3; cases h3
        | some e =>
          rw [he] at h3
          have : kE e = p.1 := Option.some.inj h3
          rw [← this] at h2
          exact ⟨e, rfl, h2⟩
      have nkb : kl ≠ be := by
        obtain ⟨kb, h, _⟩ := hbe.ex
        exact (ne_of_none h hkl).symm
      generalize upd H1 kl (.lst (bs.map V.ref)) = H2 at e2 hkl2 rch2
      refine ⟨kl, rfl, ⟨_, sq hkl2⟩, for_it (walk_list (K := K) (a := kl) (xs := bs.map V.ref)) (fun i σ' H3 => ∃ (v2 : Option V) (c : Bool) (B2 : Sol), σ' = [some (.ref o), some (.bl c), v2] ∧ RchAt H3 CH o be ns ids src B2 ∧ SndB R ar B2 ∧ FrS [be] H2 H3 ∧ TupS H2 H3 ∧ room ns ids B2 ≤ room ns ids B' ∧
          (c = false → (∀ x ∈ ids, ∀ a ∈ ns, B2 x a = B' x a) ∧ ∀ (j : Nat) e, j < i → ids[j]? = some e → ∀ x, Stp R ar x e → ∀ a ∈ ns, withM B' x a ≤ B' e a) ∧ (c = true → room ns ids B2 < room ns ids B'))
        ⟨v2, false, B', rfl, rch2, snd1, FrS.of (Same.refl _), tur _, Nat.le_refl _, fun _ => ⟨fun _ _ _ _ => rfl, fun j e h => by omega⟩, fun z => by cases z⟩ (fun i σ' H3 _ h => ?_) ?_ ?_⟩
      · obtain ⟨_, _, _, _, _, _, f, _⟩ := h
        exact sq (f _ _ hkl2 (by simpa using nkb))
      · rintro i x σ' H3' H3 hi ⟨v2, c, B2, rfl, rch3, snd3, f3, ts3, rle, c0, c1'⟩ ⟨rfl, hx⟩
        have hib : i < bs.length := by simpa using hi
        have hbi : bs[i]? = some bs[i] := List.getElem?_eq_getElem hib
        obtain ⟨e, hei, hbt⟩ := hbk i _ hbi
        have exv : x = .ref bs[i] := by
          rw [List.getElem?_map, hbi] at hx
          exact (Option.some.inj hx).symm
        subst exv
        have hein := List.mem_of_getElem? hei
        obtain ⟨dx3, pl3, so3, hro3, _⟩ := rch3.ex
        refine ⟨_, rfl, o, dx3, _, rfl, hro3, rfl, _, rfl, o, be, ns, ids, src, B2, .ref bs[i], e, rfl, g.nd, n4, il, rch3, ⟨_, rfl, ts3 _ _ (stups e2 _ _ hbt)⟩, hein, fun x hx => g.mem ((hids x).mp hx), fun x hx => (hids x).mpr (((hsrc e hein x).mp hx).ev hA).1, fun b H4 rch4 hb0 hb1 f4 ts4 => ⟨b, rfl, ?_⟩⟩
        have snd4 : SndB R ar (joinB src B2 e) := snd3.join hA fun x hx => (hsrc e hein x).mp hx
        have hge : ∀ x ∈ ids, ∀ a ∈ ns, B2 x a ≤ joinB src B2 e x a := fun x _ a _ => by
          unfold joinB
          by_cases q : x = e
          · subst q
            rw [if_pos rfl]
            exact jn_ge B2 (B2 x) a (src x)
          · rw [if_neg q]
            exact Nat.le_refl _
        have rle4 : room ns ids (joinB src B2 e) ≤ room ns ids B2 := sum_le fun x hx => sum_le fun a ha => by
          have := hge x hx a ha
          omega
        cases b with
        | false =>
          refine iteF ⟨_, c, joinB src B2 e, rfl, rch4, snd4, f3.trans f4, tut ts3 ts4, Nat.le_trans rle4 rle, fun hc => ?_, fun hc => Nat.lt_of_le_of_lt rle4 (c1' hc)⟩
          obtain ⟨q1, q2⟩ := c0 hc
          refine ⟨fun x hx a ha => ?_, fun j f hj hf x st a ha => ?_⟩
          · rw [← q1 x hx a ha]
            unfold joinB
            by_cases q : x = e
            · subst q
              rw [if_pos rfl]
              exact hb0 rfl a ha
            · rw [if_neg q]
          · by_cases hji : j < i
            · exact q2 j f hji hf x st a ha
            · have : j = i := by omega
              rw [this, hei] at hf
              cases hf
              have hxs := (hsrc e hein x).mpr st
              have hxin := (hids x).mpr (st.ev hA).1
              have h1 := jn_mem (B := B2) (a := a) (B2 e) hxs
              rw [hb0 rfl a ha, q1 e hein a ha] at h1
              have h2 : withM B2 x a = withM B' x a := by
                unfold withM
                rw [q1 x hxin a ha]
              rw [h2] at h1
              exact h1
        | true =>
          refine iteT ⟨_, true, joinB src B2 e, rfl, rch4, snd4, f3.trans f4, tut ts3 ts4, Nat.le_trans rle4 rle, fun z => (by cases z), fun _ => ?_⟩
          obtain ⟨a, ha, hne⟩ := hb1 rfl
          have hej : joinB src B2 e e a = jn B2 (B2 e) (src e) a := by
            unfold joinB
            rw [if_pos rfl]
          refine Nat.lt_of_lt_of_le (room_lt hge hein ha ?_ ?_) rle
          · rw [hej]
            have := jn_ge B2 (B2 e) a (src e)
            omega
          · have := snd4.le g.len ((hids e).mp hein) a
            omega
      · rintro σ' H3 ⟨v2, c, B2, rfl, rch3, snd3, f3, ts3, rle, c0, c1'⟩
        refine ⟨_, ?_, _, c, B2, rfl, rfl, rch3, snd3, f1.trans ((FrS.of e2).trans f3), tut ts1 (tut (stups e2) ts3), fun hc x e st a ha => ?_⟩
        · cases c with
          | false =>
            rw [if_neg Bool.false_ne_true, if_pos rfl]
            omega
          | true =>
            have := c1' rfl
            rw [if_pos rfl]
            omega
        · obtain ⟨q1, q2⟩ := c0 hc
          have hein := (hids e).mpr (st.ev hA).2
          have hxin := (hids x).mpr (st.ev hA).1
          obtain ⟨j, hj⟩ := List.mem_iff_getElem?.mp hein
          have h1 := q2 j e (by rw [List.length_map, hbl]; exact (List.getElem?_eq_some_iff.mp hj).1) hj x st a ha
          have h2 : withM B2 x a = withM B' x a := by
            unfold withM
            rw [q1 x hxin a ha]
          rw [h2, q1 e hein a ha]
          exact h1
end
end Rr

set_option Elab.async false
set_option linter.all false
set_option maxRecDepth 100000
set_option maxHeartbeats 4000000
namespace Rr
open PySem PySem.Spec PyProof.Rows L2 Xr
theorem numsF_zero (ns : List Str) : numsF ns (fun _ => 0) = List.replicate ns.length (V.int 0) := nums_zero ns
section
variable {P : Program} {w : World} {K : PySem.W.Frag} {mg : Str → Option Value} {base : Heap} {CH : Addr}
abbrev N_Reach_least_cut : List Str := ["self", "events", "found", "event", "pair"]
theorem sc_Reach_least_cut : FnScope N_Reach_least_cut ["self", "events"] (defScope s_Reach_least_cut) := ⟨rfl, rfl, rfl, by decide +kernel, rfl, by decide +kernel, by decide +kernel⟩
def sp_Reach_least_cut (CH : Addr) : Sp := fun vs H Q _ => ∃ (o be l : Addr) (ns : List Str) (ids : List Id) (src : Id → List Id) (B : Sol) (xs : List V) (es : List Id), vs = [.ref o, .ref l] ∧ ns.Nodup ∧ ns.length ≤ 4 ∧ RchR H CH o be ns ids src B ∧ H l = some (.lst xs) ∧ Paired (IdV H) xs es ∧ (∀ e ∈ es, e ∈ ids ∧ e.1 ∈ ns) ∧
  ∀ t H', H t = none → H' t = some (.tup (numsF ns (jn B (fun _ => 0) es))) → Same H H' → Q (.ref t) H'
theorem ok_Reach_least_cut (T : Txt K mg) (ch : CRch K CH) (G_Reach_with_itself : Gm P w K mg base 1 CH "with_itself" ["self", "event"] (sp_Reach_with_itself CH)) {f : Addr} {fd : FuncData} (F : FunD K "least_cut" "Reach.least_cut" (defArgs s_Reach_least_cut) (defBody s_Reach_least_cut) (defScope s_Reach_least_cut) [] [] f fd) : FnOk P w K mg base CX0 2 f fd ["self", "events"] (sp_Reach_least_cut CH) := by
  refine ok0 F sc_Reach_least_cut (fun vs H Q E h => ?_) (fun cdv A outer s H vs Q E hr h => ?_)
  · obtain ⟨o, be, l, ns, ids, src, B, xs, es, rfl, _⟩ := h
    rfl
  · obtain ⟨o, be, l, ns, ids, src, B, xs, es, rfl, nd, n4, rch, hl, hes, hall, k⟩ := h
    have hu := hu_of hr
    obtain ⟨dx, pl, so, hro, hpl, hbe⟩ := rch.ex
    refine ⟨_, (pss_cons (ps_set (i := 2) sc_Reach_least_cut.nd rfl (Or.inl rfl) (pe_op op_rep (pe_lst (pa_cons pe_int pa_nil)) (pe_callB call_lenD (by rfl) T.z_len (by decide +kernel) (pa_cons (q_fld K rfl (pv 0) rfl) pa_nil))))
      (pss_cons (ps_for PassesOwn.never rfl (q_plist K rfl (pv 1)) (pg_name (i := 3) sc_Reach_least_cut.nd rfl (Or.inl rfl))
        (pss_one (ps_setLcZ (i := 2) (own := [("pair", 4)]) (by rfl) sc_Reach_least_cut.nd rfl rfl (sw_true rfl rfl rfl (by decide +kernel)) (by rfl) T.z_zip (pa_cons (pv 2) (pa_cons (pe_meth (pv 0) G_Reach_with_itself.cl G_Reach_with_itself.m G_Reach_with_itself.F (G_Reach_with_itself.room hr) G_Reach_with_itself.b .nil pass0 (pa_cons (pv 3) pa_nil)) pa_nil)) (blkOk_by (N := N_Reach_least_cut) (sc := defScope s_Reach_least_cut) (by decide +kernel)) (fun _ _ _ _ _ => (pg_name (i := 4) sc_Reach_least_cut.nd rfl (Or.inl rfl))) (fun _ _ _ _ _ => pts_nil) (fun _ _ _ _ _ => (pe_callB (q_maxT K rfl rfl hr.units) (by rfl) T.z_max (by decide +kernel) (pa_cons (pv 4) pa_nil))))))
      (pss_one (ps_ret (pe_callTy (q_tuple K rfl) (by rfl) T.z_tuple (by decide +kernel) (pa_cons (pv 2) pa_nil)))))), ?_⟩
    refine ⟨s1, fun z0 hz0 => ?_⟩
    have e1 : Same H (upd H z0 (.lst [.int 0])) := same_new hz0
    obtain ⟨kp, hkp, hkk, _⟩ := hpl.ex
    have hkl : kp.length = ns.length := by
      have := congrArg List.length hkk
      simpa using this
    refine ⟨_, rfl, o, CH, dx, _, .ref pl, rfl, e1 _ _ hro, ch.cl, ch.places, rfl, pl, kp, rfl, e1 _ _ hkp, z0, _, _, rfl, rfl, upd_same, by omega, by omega, ?_, fun fo hfo => ?_⟩
    · simp
      exact sz (by omega)
    rw [rep_zero]
    have hfoH := same_back e1 hfo
    have e2 : Same H (upd (upd H z0 (.lst [.int 0])) fo (.lst (List.replicate ((kp.length : Nat) : Int).toNat (.int 0)))) := e1.trans (same_new hfo)
    have hfo2 : (upd (upd H z0 (.lst [.int 0])) fo (.lst (List.replicate ((kp.length : Nat) : Int).toNat (.int 0)))) fo = some (.lst (numsF ns (fun _ => 0))) := by
      rw [upd_same, numsF_zero]
      have : ((kp.length : Nat) : Int).toNat = ns.length := by omega
      rw [this]
    generalize upd (upd H z0 (.lst [.int 0])) fo (.lst (List.replicate ((kp.length : Nat) : Int).toNat (.int 0))) = H2 at e2 hfo2
    clear e1 hz0 hfo
    refine ⟨_, rfl, l, rfl, ⟨_, sq (e2 _ _ hl)⟩, for_it (walk_list (K := K) (a := l) (xs := xs)) (fun i σ' H3 => ∃ (v3 : Option V) (fo : Addr), σ' = [some (.ref o), some (.ref l), some (.ref fo), v3, none] ∧ Same H H3 ∧ H fo = none ∧ H3 fo = some (.lst (numsF ns (jn B (fun _ => 0) (es.take i)))))
      ⟨none, fo, rfl, e2, hfoH, by rw [List.take_zero]; exact hfo2⟩ (fun i σ' H3 _ h => ?_) ?_ ?_⟩
    · obtain ⟨_, _, _, e, _⟩ := h
      exact sq (e _ _ hl)
    · clear e2 hfo2 hfoH fo
      rintro i x σ' H2' H2 hi ⟨v3, fo, rfl, e2, hfo, hfo2⟩ ⟨rfl, hx⟩
      obtain ⟨s1, hs1, hsv⟩ := pget hes hx
      obtain ⟨hin1, hin2⟩ := hall s1 (List.mem_of_getElem? hs1)
      refine ⟨_, rfl, _, rfl, o, dx, _, rfl, e2 _ _ hro, rfl, _, rfl, o, be, ns, ids, src, B, x, s1, rfl, nd, rch.same e2, hsv.mono (stups e2), hin1, hin2, fun l2 H3 hl2 hl3 e3 => ?_⟩
      have hfo3 := e3 _ _ hfo2
      refine ⟨fo, l2, _, _, rfl, sq hfo3, sq hl3, fun D hD => ?_⟩
      refine ⟨fun i' H4 => Same H3 H4 ∧ H4 D = some (.lst (numsF (ns.take i') fun a => max (jn B (fun _ => 0) (es.take i) a) (withM B s1 a))), ⟨same_new hD, upd_same⟩, fun i' H4 h => ⟨sq (h.1 _ _ hfo3), sq (h.1 _ _ hl3)⟩, ?_, ?_⟩
      · rintro i' x1 y1 T' H4 hx1 hy1 ⟨e4, hD4⟩ hT
        have hin' : i' < ns.length := by
          have := (List.getElem?_eq_some_iff.mp hx1).1
          rw [numsF_len] at this
          exact this
        have hna : ns[i']? = some ns[i'] := List.getElem?_eq_getElem hin'
        have hx1' := (numsF_get (f := jn B (fun _ => 0) (es.take i)) hna).symm.trans hx1
        have hy1' := (numsM_get (M := withM B) (e := s1) hna).symm.trans hy1
        cases hx1'
        cases hy1'
        have e5 : Same H4 (upd H4 T' (.tup [.int (jn B (fun _ => 0) (es.take i) ns[i'] : Nat), .int (withM B s1 ns[i'] : Nat)])) := same_new hT
        refine ⟨rfl, _, rfl, T', _, _, rfl, sqt upd_same, _, e5 _ _ hD4, szl (by rw [numsF_len, List.length_take]; omega), tur _, same_mut (e4.trans e5) hD, ?_⟩
        rw [upd_same]
        unfold numsF
        rw [take_succ' hna, List.map_append]
        have : (max ((jn B (fun _ => 0) (es.take i) ns[i'] : Nat) : Int) ((withM B s1 ns[i'] : Nat) : Int)) = ((max (jn B (fun _ => 0) (es.take i) ns[i']) (withM B s1 ns[i']) : Nat) : Int) := by omega
        rw [this]
        rfl
      · rintro H4 ⟨e4, hD4⟩
        rw [numsF_len, numsM_len, Nat.min_self, List.take_length] at hD4
        refine ⟨_, D, rfl, e2.trans (e3.trans e4), same_back (e2.trans e3) hD, ?_⟩
        rw [hD4, take_succ' hs1, jn_snoc]
    · clear e2 hfo2 hfoH fo
      rintro σ' H2 ⟨v3, fo, rfl, e2, hfo, hfo2⟩
      rw [plen hes, List.take_length] at hfo2
      exact ⟨_, rfl, fo, _, rfl, .inl ⟨sq hfo2, fun t ht => k t _ (same_back e2 ht) upd_same (e2.trans (same_new ht))⟩⟩
end
end Rr

set_option Elab.async false
set_option linter.all false
set_option maxRecDepth 100000
set_option maxHeartbeats 4000000
namespace Rr
open PySem PySem.Spec PyProof.Rows L2 Xr
/-- the sources told by pairs -/
def srcK (ps : List (Id × Id)) (k : List Key) : List Id := (ps.filter fun p => decide (kE p.2 = k)).map Prod.fst
theorem srcK_snoc (ps : List (Id × Id)) (p : Id × Id) : (fun j => if j = kE p.2 then srcK ps (kE p.2) ++ [p.1] else srcK ps j) = srcK (ps ++ [p]) := by
  funext j
  unfold srcK
  rw [List.filter_append, List.map_append]
  by_cases h : j = kE p.2
  · rw [if_pos h, h, List.filter_cons, if_pos (decide_eq_true rfl)]
    rfl
  · have hn : ¬ kE p.2 = j := fun q => h q.symm
    rw [if_neg h, List.filter_cons, if_neg (by simp [hn])]
    simp
theorem mem_srcK {ps : List (Id × Id)} {x e : Id} : x ∈ srcK ps (kE e) ↔ (x, e) ∈ ps := by
  unfold srcK
  rw [List.mem_map]
  constructor
  · rintro ⟨p, h1, rfl⟩
    obtain ⟨h2, h3⟩ := List.mem_filter.mp h1
    have := kE_inj (of_decide_eq_true h3)
    rw [← this]
    exact h2
  · intro h
    exact ⟨(x, e), List.mem_filter.mpr ⟨h, decide_eq_true rfl⟩, rfl⟩
theorem srcK_len (ps : List (Id × Id)) (k : List Key) : (srcK ps k).length ≤ ps.length := by
  unfold srcK
  rw [List.length_map]
  exact List.length_filter_le _ _
theorem RecAt.ins {S : List Addr} {H : Hp} {C r : Addr} {ns : List Str} {R : Rec} (z : RecAt S H C r ns R) {o C1 C2 d1 d2 : Addr} {f1 f2 : List (Str × V)} (ho : H o = some (.ins C1 d1 f1)) (ne : o ≠ r) : RecAt S (upd H o (.ins C2 d2 f2)) C r ns R := by
  obtain ⟨dx, L, tb, lk, sq, kvs, xs, seq, h1, h2, h3, h4, h5, h6, h7, h8, h9, n⟩ := z.ex
  have ts : TupS H (upd H o (.ins C2 d2 f2)) := tups_mut ho (fun zs q => nomatch q)
  refine ⟨dx, L, tb, lk, sq, kvs, xs, seq, by rw [upd_ne ne.symm]; exact h1, h2.mono ts, h3.imp (fun kv h => by rw [upd_ne (ne_of h ho (fun q => nomatch q))]; exact h) (fun _ _ _ h => h.mono ts), ?_, h5.mono ts, ?_, L2.Paired.mapP h7 fun _ _ q => q.mono ts, h8, h9, n⟩
  · rw [upd_ne (ne_of h4 ho (fun q => nomatch q))]
    exact h4
  · rw [upd_ne (ne_of h6 ho (fun q => nomatch q))]
    exact h6
theorem DI.ins {F : Hp → V → Id → Prop} (hF : ∀ H H' v x, TupS H H' → F H v x → F H' v x) {H : Hp} {d : Addr} {kvs : List (List Key × V)} {f : List Key → List Id} (z : DI HO.dT F H d kvs f) {o C1 C2 d1 d2 : Addr} {f1 f2 : List (Str × V)} (ho : H o = some (.ins C1 d1 f1)) : DI HO.dT F (upd H o (.ins C2 d2 f2)) d kvs f := by
  refine ⟨by rw [upd_ne (ne_of z.at_ ho (fun q => nomatch q))]; exact z.at_, fun k => ?_, z.inj⟩
  rcases z.val k with h | ⟨l, xs, h1, h2, h3⟩
  · exact .inl h
  · exact .inr ⟨l, xs, h1, by rw [upd_ne (ne_of h2 ho (fun q => nomatch q))]; exact h2, L2.Paired.mapP h3 fun _ _ q => hF _ _ _ _ (tups_mut ho (fun zs q => nomatch q)) q⟩
theorem IdV_m : ∀ (H H' : Hp) (v : V) (x : Id), TupS H H' → IdV H v x → IdV H' v x := fun _ _ _ _ t h => h.mono t
section
variable {P : Program} {w : World} {K : PySem.W.Frag} {mg : Str → Option Value} {base : Heap} {CR CH : Addr}
abbrev N_Reach_init : List Str := ["self", "record", "pairs", "names", "at", "name", "event", "one", "other"]
theorem sc_Reach_init : FnScope N_Reach_init ["self", "record", "pairs"] (defScope s_Reach_init) := ⟨rfl, rfl, rfl, by decide +kernel, rfl, by decide +kernel, by decide +kernel⟩
def sp_Reach_init (K : PySem.W.Frag) (CR CH : Addr) : Sp := fun vs H Q _ => ∃ (S : List Addr) (o dx r pt : Addr) (ns : List Str) (R : Rec) (ws : List (Id × Id)) (wx : List V), vs = [.ref o, .ref r, .ref pt] ∧ H o = some (.ins CH dx []) ∧ Good ns R ∧ RecAt S H CR r ns R ∧ o ≠ r ∧ H pt = some (.tup wx) ∧ Paired (IdP H) wx ws ∧ Arr R ws ∧ ws.length ≤ 1000 ∧
  ∀ H' be ids src B', RchAt H' CH o be ns ids src B' → SndB R (msgsOf ns R ++ ws) B' → IsN R (msgsOf ns R ++ ws) (withM B') → ids.Nodup → (∀ e, e ∈ ids ↔ IsEv R e) → FrS [o] H H' → TupS H H' → Q .non H'
theorem ok_Reach_init (T : Txt K mg) (cr : CRec K CR) (ch : CRch K CH) (G_Record_names : Gm P w K mg base 1 CR "names" ["self"] (sp_Record_names CR)) (G_arrows_of : Gf P w K mg base 5 "arrows_of" ["record"] (sp_arrows_of CR)) (G_Reach_close : Gm P w K mg base 3 CH "close" ["self"] (sp_Reach_close CH))
    {f : Addr} {fd : FuncData} (F : FunD K "__init__" "Reach.__init__" (defArgs s_Reach_init) (defBody s_Reach_init) (defScope s_Reach_init) [] [] f fd) : FnOk P w K mg base CX0 6 f fd ["self", "record", "pairs"] (sp_Reach_init K CR CH) := by
  refine ok0 F sc_Reach_init (fun vs H Q E h => ?_) (fun cdv A outer s H vs Q E hr h => ?_)
  · obtain ⟨S, o, dx, r, pt, ns, R, ws, wx, rfl, _⟩ := h
    rfl
  · obtain ⟨S, o, dx, r, pt, ns, R, ws, wx, rfl, hoo, g, rec, nor, hpt, hwx, hwA, hwl, k⟩ := h
    have hu := hu_of hr
    obtain ⟨dxr, L, tb, lk, sqa, lkv, qs, seq, hro, hL, hTt, hlk, hLk, hsq, hqs, snd, smem, _⟩ := rec.ex
    refine ⟨_, (pss_cons (ps_set (i := 3) sc_Reach_init.nd rfl (Or.inr rfl) (pe_meth0 (pv 1) G_Record_names.cl G_Record_names.m G_Record_names.F (G_Record_names.room hr) G_Record_names.b .nil pass0))
      (pss_cons (q_sfld K rfl (pv 0) (pe_dc (own := [("at", 4), ("name", 5)]) (by rfl) sc_Reach_init.nd (q_enumA K rfl .t (by rfl) T.z_enumerate (pa_cons (pv 3) pa_nil)) (blkOk_by (N := N_Reach_init) (sc := defScope s_Reach_init) (by decide +kernel)) (fun _ _ _ _ _ => (q_tup (n := 2) K rfl rfl (pgs_cons (pg_name (i := 4) sc_Reach_init.nd rfl (Or.inl rfl)) (pgs_cons (pg_name (i := 5) sc_Reach_init.nd rfl (Or.inl rfl)) pgs_nil)))) (fun _ _ _ _ _ => pts_nil) (fun _ _ _ _ _ => (pv 5)) (fun _ _ _ _ _ => (pv 4))) rfl)
      (pss_cons (q_sfld K rfl (pv 0) (pe_dcT hu (own := [("event", 6)]) (by rfl) sc_Reach_init.nd (q_plist K rfl (q_fld K rfl (pv 1) rfl)) (blkOk_by (N := N_Reach_init) (sc := defScope s_Reach_init) (by decide +kernel)) (fun _ _ _ _ _ => (pg_name (i := 6) sc_Reach_init.nd rfl (Or.inl rfl))) (fun _ _ _ _ _ => pts_nil) (fun _ _ _ _ _ => (pv 6)) (fun _ _ _ _ _ => (pe_lst pa_nil))) rfl)
      (pss_cons (ps_for PassesOwn.never rfl (q_plist K rfl (pe_op op_cat (pe_call G_arrows_of.F (G_arrows_of.room hr) (by rfl) G_arrows_of.mg G_arrows_of.kp G_arrows_of.b .nil pass0 (pa_cons (pv 1) pa_nil)) (pe_callTy (q_list K rfl) (by rfl) T.z_list (by decide +kernel) (pa_cons (pv 2) pa_nil)))) (q_tup (n := 2) K rfl rfl (pgs_cons (pg_name (i := 7) sc_Reach_init.nd rfl (Or.inl rfl)) (pgs_cons (pg_name (i := 8) sc_Reach_init.nd rfl (Or.inl rfl)) pgs_nil)))
        (pss_one (ps_expr (q_bm K rfl PySem.F.plainAttrs_list PySem.F.slot_list_append PySem.F.type_list_append mt_append (pe_dget hu (q_fld K rfl (pv 0) rfl) (pv 8) (fun _ _ => rfl)) (pa_cons (pv 7) pa_nil)))))
      (pss_cons (q_sfld K rfl (pv 0) (pe_lock (pe_dcT hu (own := [("event", 6)]) (by rfl) sc_Reach_init.nd (pi_keys (q_fld K rfl (pv 0) rfl)) (blkOk_by (N := N_Reach_init) (sc := defScope s_Reach_init) (by decide +kernel)) (fun _ _ _ _ _ => (pg_name (i := 6) sc_Reach_init.nd rfl (Or.inl rfl))) (fun _ _ _ _ _ => pts_nil) (fun _ _ _ _ _ => (pv 6)) (fun _ _ _ _ _ => (pe_op op_rep (pe_lst (pa_cons pe_int pa_nil)) (pe_callB (q_len K rfl) (by rfl) T.z_len (by decide +kernel) (pa_cons (pv 3) pa_nil)))))) rfl)
      (pss_one (ps_expr (pe_meth0 (pv 0) G_Reach_close.cl G_Reach_close.m G_Reach_close.F (G_Reach_close.room hr) G_Reach_close.b .nil pass0)))))))), ?_⟩
    have n4 := g.n4
    refine ⟨_, rfl, r, dxr, _, rfl, hro, rfl, S, r, ns, R, rfl, g, rec, fun tn H1 htnH htn e1 => ?_⟩
    -- places
    refine ⟨_, rfl, tn, _, rfl, sqt htn, fun pl hpl => dc_it (walk_enumA (K := K) (k := .t) (a := tn) (k0 := 0) (xs := ns.map V.str)) (fun i H2 => Same H1 H2 ∧ TN (PlcF ns) H2 pl (ns.take i)) ⟨same_new hpl, TN.new⟩ (fun i H2 _ h => sqt (h.1 _ _ htn)) ?_ ?_⟩
    · rintro i x H2 H3' hi ⟨e2, T2⟩ ⟨T', x1, y1, rfl, hT, rfl, hx1, hy1⟩
      cases hx1
      have hin : i < ns.length := by simpa using hi
      have hna : ns[i]? = some ns[i] := List.getElem?_eq_getElem hin
      have : y1 = .str ns[i] := by
        have h : (ns.map V.str)[i]? = some y1 := hy1
        rw [List.getElem?_map, hna] at h
        exact (Option.some.inj h).symm
      subst this
      have e3 : Same H2 (upd H2 T' (.tup [.int (0 + (i : Nat)), .str ns[i]])) := same_new hT
      have hT3 : (upd H2 T' (.tup [.int (0 + (i : Nat)), .str ns[i]])) T' = _ := upd_same
      generalize upd H2 T' (.tup [.int (0 + (i : Nat)), .str ns[i]]) = H3 at e3 hT3
      have T3 : TN (PlcF ns) H3 pl (ns.take i) := T2.imp (fun _ h => e3 _ _ h) fun _ _ _ h => h
      refine ⟨T', _, rfl, sqt hT3, rfl, _, _, rfl, _, _, rfl, rfl, ?_⟩
      obtain ⟨kv, h1, h2, h3⟩ := T3.add (G := PlcF ns) (a := ns[i]) (v := .int (0 + (i : Nat))) (not_mem_take g.nd hna) (fun _ => ⟨i, hna, by simp⟩) (fun _ _ _ _ h => h)
      refine ⟨rfl, _, rfl, _, rfl, kv, .inr ns[i], rfl, h1, szl (by rw [h2, List.length_take]; omega), same_mut (e2.trans e3) hpl, ?_⟩
      rw [take_succ' hna]
      exact h3
    rintro H2 ⟨e2, T2⟩
    rw [List.length_map, List.take_length] at T2
    have e02 := e1.trans e2
    have hoo2 := e02 _ _ hoo
    have tno : ∀ {b : Addr} {u : HO} {H : Hp} {fs : List (Str × V)}, H b = some u → H o = some (.ins CH dx fs) → (∀ C d f, u ≠ .ins C d f) → b ≠ o := fun h1 h2 h3 => ne_of h1 h2 (h3 _ _ _)
    refine ⟨_, rfl, o, CH, dx, [], rfl, hoo2, ch.cl, ch.places, by simp, ?_⟩
    have hoo3 : (upd H2 o (.ins CH dx (putF "places" (.ref pl) []))) o = some (.ins CH dx [("places", .ref pl)]) := upd_same
    have rec3 : RecAt S (upd H2 o (.ins CH dx (putF "places" (.ref pl) []))) CR r ns R := (rec.same e02).ins hoo2 nor
    have f3 : FrS [o] H (upd H2 o (.ins CH dx (putF "places" (.ref pl) []))) := (FrS.of e02).trans (FrS.upd (List.mem_singleton_self o))
    have ts3 : TupS H (upd H2 o (.ins CH dx (putF "places" (.ref pl) []))) := tut (stups e02) (tups_mut hoo2 (fun zs q => nomatch q))
    have hpl3 : TN (PlcF ns) (upd H2 o (.ins CH dx (putF "places" (.ref pl) []))) pl ns := T2.imp (fun _ h => by rw [upd_ne (tno h hoo2 (fun _ _ _ q => nomatch q))]; exact h) fun _ _ _ h => h
    have htn3 : (upd H2 o (.ins CH dx (putF "places" (.ref pl) []))) tn = some (.tup (ns.map V.str)) := (tups_mut hoo2 (fun zs q => nomatch q)) _ _ (e2 _ _ htn)
    generalize upd H2 o (.ins CH dx (putF "places" (.ref pl) [])) = H3 at hoo3 rec3 f3 ts3 hpl3 htn3
    clear e02 hoo2 T2 e2 e1 htn htnH hro hL hTt hlk hLk hsq hqs snd smem
    obtain ⟨dxr, L, tb, lk, sqa, lkv, qs, ids, hro, hL, hTt, hlk, hLk, hsq, hqs, snd, smem, _⟩ := rec3.ex
    have hidl : ids.length ≤ 3600 := by
      have h1 : ids.length ≤ (allIds ns R).length := snd.length_le_of_subset fun e he => g.allIds.mpr ((smem e).mp he)
      have h2 := allIds_len g.len ns
      have h3 : ns.length * 900 ≤ 4 * 900 := Nat.mul_le_mul_right _ n4
      omega
    -- sources
    refine ⟨_, rfl, r, CR, dxr, _, .ref sqa, rfl, hro, cr.cl, cr.sequence, rfl, sqa, rfl, ⟨_, sq hsq⟩, fun so hso => dc_itT (walk_list (K := K) (a := sqa) (xs := qs)) (fun i H4 => Same H3 H4 ∧ ∃ kvs, DI HO.dT IdV H4 so kvs (fun _ => []) ∧ kvs.map Prod.fst = (ids.take i).map kE ∧ ∀ k l, valV kvs k = some (.ref l) → H3 l = none)
      ⟨same_new hso, [], ⟨upd_same, fun _ => .inl ⟨rfl, rfl⟩, fun _ _ _ h => (by cases h)⟩, rfl, fun _ _ h => (by cases h)⟩ (fun i H4 _ h => sq (h.1 _ _ hsq)) ?_ ?_⟩
    · rintro i x H4' H4 hi ⟨e4, kvs, D4, hk4, hf4⟩ ⟨rfl, hx⟩
      obtain ⟨e, he, te, rfl, hte⟩ := pget hqs hx
      refine ⟨rfl, _, rfl, s0, fun l hl => ?_⟩
      have e5 : Same H4 (upd H4 l (.lst [])) := same_new hl
      have D5 := D4.same (fun _ _ _ _ t h => h.mono t) e5
      have hkn : valV kvs (kE e) = none := (valV_none (kE e) kvs).mpr (by
        rw [hk4, kE_mem]
        intro hm
        obtain ⟨j, hj⟩ := List.mem_iff_getElem?.mp hm
        have hji : j < i := by
          have := (List.getElem?_eq_some_iff.mp hj).1
          rw [List.length_take] at this
          omega
        rw [List.getElem?_take_of_lt hji] at hj
        have := (List.getElem?_inj (List.getElem?_eq_some_iff.mp hj).1 snd).mp (hj.trans he.symm)
        omega)
      have hln : ∀ j, valV kvs j ≠ some (.ref l) := fun j h => by
        rcases D4.val j with ⟨h1, _⟩ | ⟨m, us, h1, h2, _⟩
        · rw [h1] at h; cases h
        · rw [h1] at h
          cases h
          rw [h2] at hl
          cases hl
      have hkl : kvs.length ≤ 3600 := by
        have := congrArg List.length hk4
        rw [List.length_map, List.length_map, List.length_take] at this
        omega
      refine ⟨kvs, kE e, te, rfl, (e4.trans e5) _ _ hte, D5.at_, szl (by omega), same_mut (e4.trans e5) hso, _, D5.add (fun _ _ _ _ t h => h.mono t) dT_l dT_t upd_same hln hkn, ?_, ?_⟩
      · rw [putK_new _ hkn, List.map_append, hk4, take_succ' he, List.map_append]
        rfl
      · intro k l' h
        rw [valV_put] at h
        by_cases hk : k = kE e
        · rw [if_pos hk] at h
          cases h
          exact same_back e4 hl
        · rw [if_neg hk] at h
          exact hf4 k l' h
    rintro H4 ⟨e4, kvs, D4, hk4, hf4⟩
    rw [plen hqs, List.take_length] at hk4
    have hoo4 := e4 _ _ hoo3
    refine ⟨_, rfl, o, CH, dx, _, rfl, hoo4, ch.cl, ch.sources, by simp, ?_⟩
    have hoo5 : (upd H4 o (.ins CH dx (putF "sources" (.ref so) [("places", .ref pl)]))) o = some (.ins CH dx [("places", .ref pl), ("sources", .ref so)]) := upd_same
    have rec5 : RecAt S (upd H4 o (.ins CH dx (putF "sources" (.ref so) [("places", .ref pl)]))) CR r ns R := (rec3.same e4).ins hoo4 nor
    have f5 : FrS [o] H (upd H4 o (.ins CH dx (putF "sources" (.ref so) [("places", .ref pl)]))) := (f3.trans (FrS.of e4)).trans (FrS.upd (List.mem_singleton_self o))
    have t45 : TupS H4 (upd H4 o (.ins CH dx (putF "sources" (.ref so) [("places", .ref pl)]))) := tups_mut hoo4 (fun zs q => nomatch q)
    have ts5 := tut ts3 (tut (stups e4) t45)
    have hpl5 : TN (PlcF ns) (upd H4 o (.ins CH dx (putF "sources" (.ref so) [("places", .ref pl)]))) pl ns := hpl3.imp (fun _ h => by rw [upd_ne (tno (e4 _ _ h) hoo4 (fun _ _ _ q => nomatch q))]; exact e4 _ _ h) fun _ _ _ h => h
    have htn5 := (tut (stups e4) t45) _ _ htn3
    have D5 := D4.ins IdV_m hoo4 (C2 := CH) (d2 := dx) (f2 := putF "sources" (.ref so) [("places", .ref pl)])
    have fr35 : ∀ b u, H3 b = some u → b ≠ o → (upd H4 o (.ins CH dx (putF "sources" (.ref so) [("places", .ref pl)]))) b = some u := fun b u hb hn => by rw [upd_ne hn]; exact e4 _ _ hb
    have hsoH : H so = none := by
      cases hh : H so with
      | none => rfl
      | some u =>
        by_cases q : so = o
        · rw [q, hoo3] at hso; cases hso
        · rw [f3 _ _ hh (by simpa using q)] at hso; cases hso
    have hlfr : ∀ k l, valV kvs k = some (.ref l) → H l = none := fun k l h => by
      have h3 := hf4 k l h
      cases hh : H l with
      | none => rfl
      | some u =>
        by_cases q : l = o
        · rw [q, hoo3] at h3; cases h3
        · rw [f3 _ _ hh (by simpa using q)] at h3; cases h3
    generalize upd H4 o (.ins CH dx (putF "sources" (.ref so) [("places", .ref pl)])) = H5 at hoo5 rec5 f5 ts5 hpl5 htn5 D5 fr35 t45
    clear hoo4 D4 t45 e4
    -- arrows_of(record) + list(pairs)
    refine ⟨_, rfl, S, r, ns, R, rfl, g, rec5, fun la H6 ps hla hps hmem hplen e6 => ?_⟩
    obtain ⟨axs, hla6, haxs⟩ := hps
    refine ⟨_, rfl, pt, wx, rfl, .inr (sqt (e6 _ _ (ts5 _ _ hpt))), fun lw hlw => ?_⟩
    have e7 : Same H6 (upd H6 lw (.lst wx)) := same_new hlw
    refine ⟨la, lw, axs, wx, rfl, rfl, e7 _ _ hla6, upd_same, sz (by rw [plen haxs, plen hwx]; omega), fun lall hlall => ?_⟩
    have e8 : Same H6 (upd (upd H6 lw (.lst wx)) lall (.lst (axs ++ wx))) := e7.trans (same_new hlall)
    have hlall8 : (upd (upd H6 lw (.lst wx)) lall (.lst (axs ++ wx))) lall = some (.lst (axs ++ wx)) := upd_same
    have hlallH5 : H5 lall = none := same_back (e6.trans e7) hlall
    generalize upd (upd H6 lw (.lst wx)) lall (.lst (axs ++ wx)) = H8 at e8 hlall8
    have e58 := e6.trans e8
    have hall : Paired (IdP H8) (axs ++ wx) (ps ++ ws) := pappend (L2.Paired.mapP haxs fun _ _ q => q.mono (stups e8)) (L2.Paired.mapP hwx fun _ _ q => q.mono (tut ts5 (stups e58)))
    have hmA : ∀ p ∈ ps ++ ws, IsEv R p.1 ∧ IsEv R p.2 := fun p hp => by
      rcases List.mem_append.mp hp with h | h
      · exact ((hmem p.1 p.2).mp h).ev (msgs_arr ns R)
      · exact hwA p h
    have D8 := D5.same IdV_m e58
    clear e7 hlall hlw hla6 haxs hla
    have hkval : ∀ e, IsEv R e → ∃ l, valV kvs (kE e) = some (.ref l) ∧ l ≠ lall ∧ H l = none := fun e he => by
      rcases D5.val (kE e) with ⟨h1, _⟩ | ⟨l, us, h1, h2, _⟩
      · have := (valV_none (kE e) kvs).mp h1
        rw [hk4, kE_mem] at this
        exact (this ((smem e).mpr he)).elim
      · exact ⟨l, h1, ne_of_none h2 hlallH5, hlfr _ _ h1⟩
    refine ⟨lall, rfl, ⟨_, sq hlall8⟩, for_it (walk_list (K := K) (a := lall) (xs := axs ++ wx)) (fun i σ' H9 => ∃ (v7 v8 : Option V), σ' = [some (.ref o), some (.ref r), some (.ref pt), some (.ref tn), none, none, none, v7, v8] ∧ H9 lall = some (.lst (axs ++ wx)) ∧ Paired (IdP H9) (axs ++ wx) (ps ++ ws) ∧ H9 o = some (.ins CH dx [("places", .ref pl), ("sources", .ref so)]) ∧ TN (PlcF ns) H9 pl ns ∧ H9 tn = some (.tup (ns.map V.str)) ∧ DI HO.dT IdV H9 so kvs (srcK ((ps ++ ws).take i)) ∧ FrS [o] H H9 ∧ TupS H H9)
      ⟨none, none, rfl, hlall8, hall, e58 _ _ hoo5, hpl5.imp (fun _ h => e58 _ _ h) (fun _ _ _ h => h), e58 _ _ htn5, by rw [List.take_zero]; exact D8, f5.trans (FrS.of e58), tut ts5 (stups e58)⟩ (fun i σ' H9 _ h => ?_) ?_ ?_⟩
    · obtain ⟨_, _, _, h, _⟩ := h
      exact sq h
    · rintro i x σ' H9' H9 hi ⟨v7, v8, rfl, hl9, hp9, hoo9, hpl9, htn9, D9, f9, ts9⟩ ⟨rfl, hx⟩
      obtain ⟨pp, hpp, vx, vy, ⟨tp, rfl, htp⟩, hvx, hvy⟩ := pget hp9 hx
      obtain ⟨ev1, ev2⟩ := hmA pp (List.mem_of_getElem? hpp)
      obtain ⟨l, hvl, nll, hlH⟩ := hkval pp.2 ev2
      obtain ⟨ty, rfl, hty⟩ := hvy
      rcases D9.val (kE pp.2) with ⟨h1, _⟩ | ⟨l', us, h1, hl, hus⟩
      · rw [hvl] at h1
        cases h1
      rw [hvl] at h1
      cases h1
      refine ⟨tp, _, rfl, sqt htp, rfl, _, _, rfl, _, _, rfl, rfl, ?_⟩
      have hul : us.length ≤ 8200 := by
        rw [plen hus]
        have h1 := srcK_len ((ps ++ ws).take i) (kE pp.2)
        rw [List.length_take, List.length_append] at h1
        omega
      refine ⟨_, rfl, o, CH, dx, _, .ref so, rfl, hoo9, ch.cl, ch.sources, rfl, _, rfl, so, .ref l, rfl, ?_, tyl hl, _, rfl, l, us, vx, rfl, rfl, hl, szl (by omega), ?_⟩
      · rw [← hvl]
        exact DGet.t (k := kE pp.2) D9.at_ hty
      have ts10 : TupS H9 (upd H9 l (.lst (us ++ [vx]))) := tups_mut hl (fun zs q => nomatch q)
      have D10 := D9.app IdV_m dT_l hvl hl hvx
      rw [srcK_snoc, ← take_succ' hpp] at D10
      refine ⟨_, _, rfl, ?_, L2.Paired.mapP hp9 fun _ _ q => q.mono ts10, ?_, hpl9.imp (fun _ h => by rw [upd_ne (ne_of h hl (fun q => nomatch q))]; exact h) (fun _ _ _ h => h), ts10 _ _ htn9, D10, fun b u hb hn => ?_, tut ts9 ts10⟩
      · rw [upd_ne nll.symm]
        exact hl9
      · rw [upd_ne (ne_of hoo9 hl (fun q => nomatch q))]
        exact hoo9
      · rw [upd_ne (ne_of_none hb hlH)]
        exact f9 b u hb hn
    rintro σ' H9 ⟨v7, v8, rfl, hl9, hp9, hoo9, hpl9, htn9, D9, f9, ts9⟩
    rw [plen hall, List.take_length] at D9
    have hkl : kvs.length = ids.length := by
      have := congrArg List.length hk4
      simpa using this
    have TS : TB (SrcF fun e => srcK (ps ++ ws) (kE e)) H9 so ids := ⟨kvs, D9.at_, hk4, fun e he => by
      rcases D9.val (kE e) with ⟨h1, _⟩ | ⟨l, us, h1, hl, hus⟩
      · have := (valV_none (kE e) kvs).mp h1
        rw [hk4, kE_mem] at this
        exact (this he).elim
      · exact ⟨_, h1, l, us, rfl, hl, hus⟩⟩
    have nos : o ≠ so := ne_of hoo9 D9.at_ (fun q => nomatch q)
    -- behind
    refine ⟨so, _, D9.at_, trivial, fun od => ⟨_, rfl, o, CH, dx, _, .ref so, rfl, by rw [upd_ne nos]; exact hoo9, ch.cl, ch.sources, rfl, so, od, rfl, .inr ⟨kvs, upd_same, fun be hbe => ?_⟩⟩⟩
    have nbs : be ≠ so := (ne_of_none upd_same hbe).symm
    have hbe9 : H9 be = none := by
      rw [upd_ne nbs] at hbe
      exact hbe
    generalize hHf : upd H9 so (.frz od (.dT kvs)) = Hf at hbe
    have htnf : Hf tn = some (.tup (ns.map V.str)) := by
      rw [← hHf, upd_ne (ne_of htn9 D9.at_ (fun q => nomatch q))]
      exact htn9
    have hsof : Hf so = some (.frz od (.dT kvs)) := by rw [← hHf]; exact upd_same
    refine dc_itT walk_keysT (fun i H10 => Same Hf H10 ∧ TB (NumL ns fun _ _ => 0) H10 be (ids.take i)) ⟨same_new hbe, TB.new⟩ (fun i H10 _ h => h.1 _ _ hsof) ?_ ?_
    · rintro i x H10' H10 hi ⟨e10, T10⟩ ⟨rfl, ky, vv, qa, hk1, rfl, hq⟩
      have hil : i < ids.length := by omega
      have hid : ids[i]? = some ids[i] := List.getElem?_eq_getElem hil
      have hkb : ky = kE ids[i] := by
        have h1 : (kvs.map Prod.fst)[i]? = some ky := by rw [List.getElem?_map, hk1] <;> rfl
        rw [hk4, List.getElem?_map, hid] at h1
        exact (Option.some.inj h1).symm
      subst hkb
      refine ⟨rfl, _, rfl, s1, fun z0 hz0 => ?_⟩
      have e11 : Same H10 (upd H10 z0 (.lst [.int 0])) := same_new hz0
      refine ⟨_, rfl, _, _, rfl, .inr ⟨_, sqt (e11 _ _ (e10 _ _ htnf)), rfl⟩, z0, _, _, rfl, rfl, upd_same, by omega, by rw [List.length_map]; omega, by simp; exact sz (by omega), fun l hl => ?_⟩
      rw [rep_zero]
      have e12 := e11.trans (same_new (o := .lst (List.replicate (((ns.map V.str).length : Nat) : Int).toNat (.int 0))) hl)
      have hl12 : (upd (upd H10 z0 (.lst [.int 0])) l (.lst (List.replicate (((ns.map V.str).length : Nat) : Int).toNat (.int 0)))) l = some (.lst (numsF ns (fun _ => 0))) := by
        rw [upd_same, numsF_zero]
        have : (((ns.map V.str).length : Nat) : Int).toNat = ns.length := by simp
        rw [this]
      generalize upd (upd H10 z0 (.lst [.int 0])) l (.lst (List.replicate (((ns.map V.str).length : Nat) : Int).toNat (.int 0))) = H12 at e12 hl12
      have T12 : TB (NumL ns fun _ _ => 0) H12 be (ids.take i) := T10.imp (fun _ h => e12 _ _ h) fun _ _ _ h => h.ls (Ls.of e12)
      have hnew : ids[i] ∉ ids.take i := fun hm => by
        obtain ⟨j, hj⟩ := List.mem_iff_getElem?.mp hm
        have hji : j < i := by
          have := (List.getElem?_eq_some_iff.mp hj).1
          rw [List.length_take] at this
          omega
        rw [List.getElem?_take_of_lt hji] at hj
        have := (List.getElem?_inj (List.getElem?_eq_some_iff.mp hj).1 snd).mp (hj.trans hid.symm)
        omega
      obtain ⟨kb, hkb, hkk, hvv⟩ := T12.ex
      have hkbl : kb.length ≤ 3600 := by
        have := congrArg List.length hkk
        rw [List.length_map, List.length_map, List.length_take] at this
        omega
      refine ⟨kb, kE ids[i], qa, rfl, e12 _ _ hq, hkb, szl (by omega), same_mut (e10.trans e12) hbe, ?_⟩
      have hn : valV kb (kE ids[i]) = none := (valV_none _ kb).mpr (by rw [hkk, kE_mem]; exact hnew)
      refine ⟨_, upd_same, ?_, fun e he => ?_⟩
      · rw [putK_new _ hn, List.map_append, hkk, take_succ' hid, List.map_append]
        rfl
      · rw [valV_put]
        by_cases hfe : e = ids[i]
        · subst hfe
          rw [if_pos rfl]
          exact ⟨_, rfl, l, rfl, by rw [upd_ne (ne_of hl12 hkb (fun q => nomatch q))]; exact hl12⟩
        · rw [if_neg (fun q => hfe (kE_inj q))]
          have he' : e ∈ ids.take i := by
            rw [take_succ' hid] at he
            rcases List.mem_append.mp he with q | q
            · exact q
            · exact (hfe (List.mem_singleton.mp q)).elim
          obtain ⟨v, g1, g2⟩ := hvv e he'
          exact ⟨v, g1, g2.ls (Ls.dT hkb)⟩
    rintro H10 ⟨e10, T10⟩
    rw [hkl, List.take_length] at T10
    refine ⟨e10 _ _ hsof, ?_⟩
    have e910 : Same H9 (upd H10 so (.dT kvs)) := fun b u hb => by
      by_cases q : b = so
      · rw [q] at hb ⊢
        rw [upd_same, ← D9.at_, hb]
      · rw [upd_ne q]
        exact e10 _ _ (by rw [← hHf, upd_ne q]; exact hb)
    have T11 : TB (NumL ns fun _ _ => 0) (upd H10 so (.dT kvs)) be ids := T10.imp (fun _ h => by rw [upd_ne nbs]; exact h) fun v e _ h => by
      obtain ⟨l, rfl, hl⟩ := h
      exact ⟨l, rfl, by rw [upd_ne (ne_of hl (e10 _ _ hsof) (fun q => nomatch q))]; exact hl⟩
    have hso11 : (upd H10 so (.dT kvs)) so = some (.dT kvs) := upd_same
    generalize upd H10 so (.dT kvs) = H11 at e910 T11 hso11
    have hoo11 := e910 _ _ hoo9
    refine ⟨_, rfl, o, CH, dx, _, rfl, hoo11, ch.cl, ch.behind, by simp, ?_⟩
    have t12 : TupS H11 (upd H11 o (.ins CH dx (putF "behind" (.ref be) [("places", .ref pl), ("sources", .ref so)]))) := tups_mut hoo11 (fun zs q => nomatch q)
    have ls12 : Ls H11 (upd H11 o (.ins CH dx (putF "behind" (.ref be) [("places", .ref pl), ("sources", .ref so)]))) := ⟨fun b xs q => by rw [upd_ne (ne_of q hoo11 (fun z => nomatch z))]; exact q, t12⟩
    have rch12 : RchAt (upd H11 o (.ins CH dx (putF "behind" (.ref be) [("places", .ref pl), ("sources", .ref so)]))) CH o be ns ids (fun e => srcK (ps ++ ws) (kE e)) (fun _ _ => 0) := by
      refine ⟨dx, pl, so, upd_same, ?_, ?_, ?_, nbs.symm⟩
      · exact hpl9.imp (fun _ h => by rw [upd_ne (ne_of (e910 _ _ h) hoo11 (fun q => nomatch q))]; exact e910 _ _ h) fun _ _ _ h => h
      · exact TS.imp (fun _ h => by rw [upd_ne nos.symm]; exact e910 _ _ h) fun _ _ _ h => h.ls ((Ls.of e910).trans ls12)
      · exact T11.imp (fun _ h => by rw [upd_ne (ne_of h hoo11 (fun q => nomatch q))]; exact h) fun _ _ _ h => h.ls ls12
    have hsrc : ∀ x e, x ∈ srcK (ps ++ ws) (kE e) ↔ Stp R (msgsOf ns R ++ ws) x e := fun x e => by
      rw [mem_srcK, List.mem_append, hmem]
      unfold Stp
      rw [List.mem_append]
      constructor
      · rintro ((h | h) | h)
        · exact .inl h
        · exact .inr (.inl h)
        · exact .inr (.inr h)
      · rintro (h | h | h)
        · exact .inl (.inl h)
        · exact .inl (.inr h)
        · exact .inr h
    have hAA : Arr R (msgsOf ns R ++ ws) := fun p hp => by
      rcases List.mem_append.mp hp with h | h
      · exact msgs_arr ns R p h
      · exact hwA p h
    have hbeH : H be = none := by
      cases hh : H be with
      | none => rfl
      | some u =>
        by_cases q : be = o
        · rw [q, hoo9] at hbe9; cases hbe9
        · rw [f9 _ _ hh (by simpa using q)] at hbe9; cases hbe9
    have hoo12 : (upd H11 o (.ins CH dx (putF "behind" (.ref be) [("places", .ref pl), ("sources", .ref so)]))) o = some (.ins CH dx [("places", .ref pl), ("sources", .ref so), ("behind", .ref be)]) := upd_same
    refine ⟨_, rfl, o, dx, _, rfl, hoo12, rfl, o, be, ns, R, msgsOf ns R ++ ws, ids, _, _, rfl, g, hAA, hidl, rch12, smem, fun e _ x => hsrc x e, sndB_zero R _, fun H13 B' rch13 snd13 hcl f13 t13 => ?_⟩
    refine k H13 be ids _ B' rch13 snd13 (snd13.isN g hAA hcl) snd smem ?_ (tut ts9 (tut (stups e910) (tut t12 t13)))
    intro b u hb hn
    have hbo : b ≠ o := by simpa using hn
    exact f13 _ _ (by rw [upd_ne hbo]; exact e910 _ _ (f9 _ _ hb hn)) (by simp; exact ne_of_none hb hbeH)
end
end Rr

set_option Elab.async false
set_option linter.all false
set_option maxRecDepth 100000
set_option maxHeartbeats 4000000
namespace Rr
open PySem PySem.Spec PyProof.Rows L2 Xr
def idTr (e : Id) : Tr := .node [.leaf (.str e.1), .leaf (.int (e.2 : Nat))]
def waitTr (p : Id × Id) : Tr := .node [idTr p.1, idTr p.2]
/-- a wait as it is passed: lists or tuples -/
def WaitT (H : Hp) (v : V) (p : Id × Id) : Prop := TrV true H 2 v (waitTr p)
theorem id_tr {k : Bool} {H : Hp} {v : V} {e : Id} (h : IdV H v e) : TrV k H 1 v (idTr e) := by
  obtain ⟨t, rfl, h⟩ := h
  exact .node (.inl h) (by simp [idVs]) (.cons (.leaf (.str _)) (.cons (.leaf (.int _)) .nil))
theorem IdP.tr {k : Bool} {H : Hp} {v : V} {p : Id × Id} (h : IdP H v p) : TrV k H 2 v (waitTr p) := by
  obtain ⟨x, y, ⟨t, rfl, ht⟩, hx, hy⟩ := h
  exact .node (.inl ht) (by simp) (.cons (id_tr hx) (.cons (id_tr hy) .nil))
theorem id_untr {H : Hp} {v : V} {e : Id} (h : TrV false H 1 v (idTr e)) : IdV H v e := by
  obtain ⟨a, xs, rfl, h1, _, h2⟩ := h
  have h3 : xs = [V.str e.1, V.int (e.2 : Nat)] := pleaf_eq (vs := [V.str e.1, V.int (e.2 : Nat)]) h2
  subst h3
  rcases h1 with h1 | ⟨h1, _⟩
  · exact ⟨a, rfl, h1⟩
  · cases h1
theorem wait_untr {H : Hp} {v : V} {p : Id × Id} (h : TrV false H 2 v (waitTr p)) : IdP H v p := by
  obtain ⟨a, xs, rfl, h1, _, h2⟩ := h
  cases h2 with
  | cons hx ht =>
    cases ht with
    | cons hy hn =>
      cases hn
      rcases h1 with h1 | ⟨h1, _⟩
      · exact ⟨_, _, ⟨a, rfl, h1⟩, id_untr hx, id_untr hy⟩
      · cases h1
theorem id_pair {k : Bool} {H : Hp} {v : V} {e : Id} (h : TrV k H 1 v (idTr e)) : PairV H v e.1 (e.2 : Nat) := by
  obtain ⟨a, xs, rfl, h1, _, h2⟩ := h
  have h3 : xs = [V.str e.1, V.int (e.2 : Nat)] := pleaf_eq (vs := [V.str e.1, V.int (e.2 : Nat)]) h2
  subst h3
  exact ⟨a, rfl, h1.imp id And.right⟩
theorem WaitT.parts {H : Hp} {v : V} {p : Id × Id} (h : WaitT H v p) : ∃ t x y, v = .ref t ∧ (H t = some (.tup [x, y]) ∨ H t = some (.lst [x, y])) ∧ PairV H x p.1.1 (p.1.2 : Nat) ∧ PairV H y p.2.1 (p.2.2 : Nat) := by
  obtain ⟨a, xs, rfl, h1, _, h2⟩ := h
  cases h2 with
  | cons hx ht =>
    cases ht with
    | cons hy hn =>
      cases hn
      exact ⟨a, _, _, rfl, h1.imp id And.right, id_pair hx, id_pair hy⟩
/-- the tree of a wait is of depth 2, whatever depth is told -/
theorem TrV.up {k : Bool} {H : Hp} {v : V} {p : Id × Id} (h : TrV k H 2 v (waitTr p)) : TrV k H 3 v (waitTr p) := by
  obtain ⟨a, xs, rfl, h1, hz, h2⟩ := h
  refine ⟨a, xs, rfl, h1, hz, ?_⟩
  have up1 : ∀ {v : V} {e : Id}, TrV k H 1 v (idTr e) → TrV k H 2 v (idTr e) := fun h => by
    obtain ⟨b, ys, rfl, g1, gz, g2⟩ := h
    refine ⟨b, ys, rfl, g1, gz, ?_⟩
    cases g2 with
    | cons q1 t =>
      cases t with
      | cons q2 n => cases n; exact .cons q1 (.cons q2 .nil)
  cases h2 with
  | cons q1 t =>
    cases t with
    | cons q2 n => cases n; exact .cons (up1 q1) (.cons (up1 q2) .nil)
theorem TrV.down {k : Bool} {H : Hp} {v : V} {p : Id × Id} (h : TrV k H 3 v (waitTr p)) : TrV k H 2 v (waitTr p) := by
  obtain ⟨a, xs, rfl, h1, hz, h2⟩ := h
  refine ⟨a, xs, rfl, h1, hz, ?_⟩
  have dn1 : ∀ {v : V} {e : Id}, TrV k H 2 v (idTr e) → TrV k H 1 v (idTr e) := fun h => by
    obtain ⟨b, ys, rfl, g1, gz, g2⟩ := h
    refine ⟨b, ys, rfl, g1, gz, ?_⟩
    cases g2 with
    | cons q1 t =>
      cases t with
      | cons q2 n => cases n; exact .cons q1 (.cons q2 .nil)
  cases h2 with
  | cons q1 t =>
    cases t with
    | cons q2 n => cases n; exact .cons (dn1 q1) (.cons (dn1 q2) .nil)
section
variable {P : Program} {w : World} {K : PySem.W.Frag} {mg : Str → Option Value} {base : Heap} {CR : Addr}
abbrev N_checked_waits : List Str := ["record", "waits", "found", "index", "wait", "event"]
theorem sc_checked_waits : FnScope N_checked_waits ["record", "waits"] (defScope s_checked_waits) := ⟨rfl, rfl, rfl, by decide +kernel, rfl, by decide +kernel, by decide +kernel⟩
def sp_checked_waits (CR : Addr) : Sp := fun vs H Q _ => ∃ (S : List Addr) (r l : Addr) (ns : List Str) (R : Rec) (b : Bool) (wx : List V) (ws : List (Id × Id)), vs = [.ref r, .ref l] ∧ Good ns R ∧ RecAt S H CR r ns R ∧ (H l = some (.tup wx) ∨ (b = true ∧ H l = some (.lst wx))) ∧ Paired (WaitT H) wx ws ∧ ws.length ≤ 1000 ∧ (∀ p ∈ ws, IsEv R p.1 ∧ IsEv R p.2 ∧ p.1.1 ≠ p.2.1) ∧
  ∀ t H' zs, H t = none → H' t = some (.tup zs) → Paired (IdP H') zs ws → Same H H' → Q (.ref t) H'
theorem ok_checked_waits (T : Txt K mg) (G_Record_has_event : Gm P w K mg base 2 CR "has_event" ["self", "thing"] (sp_Record_has_event CR)) (G_frozen : Gf P w K mg base 4 "frozen" ["thing"] (sp_frozen 4)) {f : Addr} {fd : FuncData} (F : FunD K "checked_waits" "checked_waits" (defArgs s_checked_waits) (defBody s_checked_waits) (defScope s_checked_waits) [] [] f fd) :
    FnOk P w K mg base CX0 5 f fd ["record", "waits"] (sp_checked_waits CR) := by
  refine ok0 F sc_checked_waits (fun vs H Q E h => ?_) (fun cdv A outer s H vs Q E hr h => ?_)
  · obtain ⟨S, r, l, ns, R, b, wx, ws, rfl, _⟩ := h
    rfl
  · obtain ⟨S, r, l, ns, R, b, wx, ws, rfl, g, rec, hl, hwx, hwl, hws, k⟩ := h
    obtain ⟨dxr, L, tb, lk, sqa, lkv, qs, ids, hro, _⟩ := rec.ex
    refine ⟨_, (pss_cons (ps_set (i := 2) sc_checked_waits.nd rfl (Or.inl rfl) (pe_lst pa_nil))
      (pss_cons (ps_for PassesOwn.never rfl (q_enumQ K rfl (by rfl) T.z_enumerate (pa_cons (pv 1) pa_nil)) (q_tup (n := 2) K rfl rfl (pgs_cons (pg_name (i := 3) sc_checked_waits.nd rfl (Or.inl rfl)) (pgs_cons (pg_name (i := 4) sc_checked_waits.nd rfl (Or.inl rfl)) pgs_nil)))
        (pss_cons (ps_if (PW.pt (pw_or (pt_not (pt_val (pe_callB (q_isiT K rfl) (by rfl) T.z_isinstance (by decide +kernel) (pa_cons (pv 4) (pa_cons (pe_tup (pa_cons (pe_bltn (v := .ty "list") (u := .type "list") (by rfl) T.z_list (by decide +kernel) rfl) (pa_cons (pe_bltn (v := .ty "tuple") (u := .type "tuple") (by rfl) T.z_tuple (by decide +kernel) rfl) pa_nil))) pa_nil))))) (pw_or1 (pt_cmpR op_ne (pe_callB (q_len K rfl) (by rfl) T.z_len (by decide +kernel) (pa_cons (pv 4) pa_nil)) pe_int (nomark _)))))
          (pss_one ps_never)
          pss_nil)
        (pss_cons (ps_if (PW.pt (pw_or (pt_not (pt_val (pe_callB (q_all K rfl rfl) (by rfl) T.z_all (by decide +kernel) (pa_cons (pe_lc (own := [("event", 5)]) (by rfl) sc_checked_waits.nd (q_seq K rfl (pv 4)) (blkOk_by (N := N_checked_waits) (sc := defScope s_checked_waits) (by decide +kernel)) (fun _ _ _ _ _ => (pg_name (i := 5) sc_checked_waits.nd rfl (Or.inl rfl))) (fun _ _ _ _ _ => pts_nil) (fun _ _ _ _ _ => (pe_meth (pv 0) G_Record_has_event.cl G_Record_has_event.m G_Record_has_event.F (G_Record_has_event.room hr) G_Record_has_event.b .nil pass0 (pa_cons (pv 5) pa_nil)))) pa_nil)))) (pw_or1 (pt_cmpR op_eq (pe_ix (q_ixQ K rfl) (pe_ix (q_ixQ K rfl) (pv 4) pe_int (fun _ _ => rfl)) pe_int (fun _ _ => rfl)) (pe_ix (q_ixQ K rfl) (pe_ix (q_ixQ K rfl) (pv 4) pe_int (fun _ _ => rfl)) pe_int (fun _ _ => rfl)) (nomark _)))))
          (pss_one ps_never)
          pss_nil)
        (pss_one (ps_expr (q_bm K rfl PySem.F.plainAttrs_list PySem.F.slot_list_append PySem.F.type_list_append mt_append (pv 2) (pa_cons (pe_call G_frozen.F (G_frozen.room hr) (by rfl) G_frozen.mg G_frozen.kp G_frozen.b .nil pass0 (pa_cons (pv 4) pa_nil)) pa_nil)))))))
      (pss_one (ps_ret (pe_callTy (q_tuple K rfl) (by rfl) T.z_tuple (by decide +kernel) (pa_cons (pv 2) pa_nil)))))), ?_⟩
    refine ⟨s0, fun fo hfo => ?_⟩
    have e1 : Same H (upd H fo (.lst [])) := same_new hfo
    have hfo1 : (upd H fo (.lst [])) fo = some (.lst []) := upd_same
    generalize upd H fo (.lst []) = H1 at e1 hfo1
    obtain ⟨kk, hkk⟩ : ∃ kk : SK, ∀ H', Same H H' → SqA K H' kk l wx := by
      rcases hl with h | ⟨_, h⟩
      · exact ⟨.t, fun H' e => sqt (e _ _ h)⟩
      · exact ⟨.l, fun H' e => sq (e _ _ h)⟩
    refine ⟨_, rfl, kk, l, wx, rfl, hkk _ e1, for_it (walk_enumA (K := K) (k := kk) (a := l) (k0 := 0) (xs := wx)) (fun i σ' H2 => ∃ (v3 v4 : Option V) (zs : List V), σ' = [some (.ref r), some (.ref l), some (.ref fo), v3, v4, none] ∧ Same H H2 ∧ H2 fo = some (.lst zs) ∧ Paired (IdP H2) zs (ws.take i))
      ⟨none, none, [], rfl, e1, hfo1, by simpa using Paired.nil⟩ (fun i σ' H2 _ h => ?_) ?_ ?_⟩
    · obtain ⟨_, _, _, _, e, _⟩ := h
      exact hkk _ e
    · rintro i x σ' H2 H3' hi ⟨v3, v4, zs, rfl, e2, hfo2, hz2⟩ ⟨T', x1, y1, rfl, hT, rfl, hx1, hy1⟩
      cases hx1
      obtain ⟨pp, hpp, hw⟩ := pget hwx hy1
      obtain ⟨ev1, ev2, hne⟩ := hws pp (List.mem_of_getElem? hpp)
      have e3 : Same H2 (upd H2 T' (.tup [.int (0 + (i : Nat)), y1])) := same_new hT
      have hT3 : (upd H2 T' (.tup [.int (0 + (i : Nat)), y1])) T' = _ := upd_same
      generalize upd H2 T' (.tup [.int (0 + (i : Nat)), y1]) = H3 at e3 hT3
      have e03 := e2.trans e3
      have hfo3 := e3 _ _ hfo2
      have hw3 : WaitT H3 y1 pp := hw.ls (Ls.of e03)
      obtain ⟨t, x, y, rfl, ht, hx, hy⟩ := hw3.parts
      refine ⟨T', _, rfl, sqt hT3, rfl, _, _, rfl, _, _, rfl, rfl, ?_⟩
      refine ⟨_, rfl, s2, fun tp htp => ?_⟩
      have e4 : Same H3 (upd H3 tp (.tup [.ty "list", .ty "tuple"])) := same_new htp
      have htp4 : (upd H3 tp (.tup [.ty "list", .ty "tuple"])) tp = _ := upd_same
      generalize upd H3 tp (.tup [.ty "list", .ty "tuple"]) = H4 at e4 htp4
      have e04 := e03.trans e4
      have ht4 : H4 t = some (.tup [x, y]) ∨ (true = true ∧ H4 t = some (.lst [x, y])) := ht.imp (fun h => e4 _ _ h) fun h => ⟨rfl, e4 _ _ h⟩
      obtain ⟨tv, htv, hkt⟩ : ∃ tv, TyX K H4 (.ref t) tv ∧ PySem.W.kitAny K tv [.type "list", .type "tuple"] = some true := by
        rcases ht4 with h | ⟨_, h⟩
        · exact ⟨_, .base (.tup h), isiL2 (b := false) (by decide +kernel) (fun _ => by decide +kernel)⟩
        · exact ⟨_, .base (.lst h), isiL2 (b := true) (by decide +kernel) (fun z => by cases z)⟩
      refine ⟨.ref t, tp, _, tv, _, true, rfl, htp4, clsL, htv, hkt, true, rfl, iteF ?_⟩
      have hlv : LenV K (.ref t) H4 2 := by
        rcases ht4 with h | ⟨_, h⟩
        · exact .inr ⟨_, sqt h, rfl⟩
        · exact .inl ⟨_, sq h, rfl⟩
      refine ⟨_, rfl, _, _, rfl, hlv, rfl, _, rfl, iteF ?_⟩
      have hx4 : PairV H4 x pp.1.1 (pp.1.2 : Nat) := let ⟨a, q1, q2⟩ := hx; ⟨a, q1, q2.imp (fun h => e4 _ _ h) fun h => e4 _ _ h⟩
      have hy4 : PairV H4 y pp.2.1 (pp.2.2 : Nat) := let ⟨a, q1, q2⟩ := hy; ⟨a, q1, q2.imp (fun h => e4 _ _ h) fun h => e4 _ _ h⟩
      have hfo4 := e4 _ _ hfo3
      obtain ⟨J, G, wk, hG, hJ⟩ := seq_walk (K := K) ht4
      unfold tSeq tIfS tOr tNot tB tCB tCons tLc tNext
      dsimp only
      refine hJ (tVar 4) [some (.ref r), some (.ref l), some (.ref fo), some (.int (0 + (i : Nat))), some (.ref t), none] _ _ (fun Q q => ⟨.ref t, rfl, q⟩) ?_
      intro D hD
      have hmono : ∀ {H' : Hp} {v : V} {a : Str} {i : Int}, Same H4 H' → PairV H4 v a i → PairV H' v a i := fun e ⟨a, q1, q2⟩ => ⟨a, q1, q2.imp (fun h => e _ _ h) fun h => e _ _ h⟩
      refine lc_pure wk hD [pp.1, pp.2] rfl (by simp) (fun e v _ => v = .bl true) (fun _ _ _ _ _ z => z) (fun _ => true) hG (fun _ _ _ _ y => yat_same y) ?_ ?_
      · rintro j e v H5' H5 kk2 hj e5 ⟨rfl, hv⟩ htk hf
        have hpe : PairV H5 v e.1 (e.2 : Nat) ∧ IsEv R e := by
          match j, hj, hv with
          | 0, hj, hv =>
            simp at hj hv
            subst hj
            subst hv
            exact ⟨hmono e5 hx4, ev1⟩
          | 1, hj, hv =>
            simp at hj hv
            subst hj
            subst hv
            exact ⟨hmono e5 hy4, ev2⟩
          | j + 2, hj, hv => simp at hj
        refine ⟨rfl, _, rfl, r, dxr, _, rfl, (e04.trans e5) _ _ hro, rfl, _, rfl, S, r, ns, R, v, e.1, (e.2 : Nat), rfl, g, rec.same (e04.trans e5), hpe.1, fun H' e' => ?_⟩
        exact htk _ _ e' rfl (by rw [hasB_ev g hpe.2])
      · intro ys H5 e5 hD5 hys
        rw [List.filter_eq_self.mpr (fun _ _ => rfl)] at hys
        have ez := plist hys
        subst ez
        refine ⟨D, [true, true], rfl, sq hD5, true, rfl, iteF ?_⟩
        have e05 := e04.trans e5
        have ht5 : SqL K H5 t [x, y] ∨ SqT K H5 t [x, y] := by
          rcases ht4 with h | ⟨_, h⟩
          · exact .inr (sqt (e5 _ _ h))
          · exact .inl (sq (e5 _ _ h))
        obtain ⟨tx, rfl, htx⟩ := hx4
        obtain ⟨ty, rfl, hty⟩ := hy4
        have sx : SqL K H5 tx [.str pp.1.1, .int (pp.1.2 : Nat)] ∨ SqT K H5 tx [.str pp.1.1, .int (pp.1.2 : Nat)] := htx.elim (fun h => .inr (sqt (e5 _ _ h))) fun h => .inl (sq (e5 _ _ h))
        have sy : SqL K H5 ty [.str pp.2.1, .int (pp.2.2 : Nat)] ∨ SqT K H5 ty [.str pp.2.1, .int (pp.2.2 : Nat)] := hty.elim (fun h => .inr (sqt (e5 _ _ h))) fun h => .inl (sq (e5 _ _ h))
        refine ⟨_, rfl, t, _, 0, .ref tx, rfl, rfl, ht5, atI_nat (j := 0) rfl, tx, _, 0, .str pp.1.1, rfl, rfl, sx, atI_nat (j := 0) rfl, _, rfl, t, _, 1, .ref ty, rfl, rfl, ht5, atI_nat (j := 1) rfl, ty, _, 0, .str pp.2.1, rfl, rfl, sy, atI_nat (j := 0) rfl, rfl, _, rfl, ?_⟩
        rw [dec_false (fun z => hne (V.str.inj z))]
        refine iteF ?_
        have hfo5 := e5 _ _ hfo4
        have hw5 : WaitT H5 (.ref t) pp := hw.ls (Ls.of e05)
        refine ⟨_, rfl, tyl hfo5, _, rfl, .ref t, waitTr pp, rfl, TrV.up hw5, fun v' H6 e6 hv' => ?_⟩
        have hv6 := wait_untr (TrV.down hv')
        have e06 := e05.trans e6
        have hfo6 := e6 _ _ hfo5
        have e36 := (e4.trans e5).trans e6
        have ts7 : TupS H6 (upd H6 fo (.lst (zs ++ [v']))) := tups_mut hfo6 (fun zs z => nomatch z)
        refine ⟨fo, zs, v', rfl, rfl, hfo6, szl (by rw [plen hz2, List.length_take]; omega), ?_⟩
        refine ⟨_, _, zs ++ [v'], rfl, same_mut e06 hfo, upd_same, ?_⟩
        rw [take_succ' hpp]
        exact Paired.snoc (L2.Paired.mapP hz2 fun _ _ q => q.mono (tut (stups (e3.trans e36)) ts7)) (hv6.mono ts7)
    · rintro σ' H2 ⟨v3, v4, zs, rfl, e2, hfo2, hz2⟩
      rw [plen hwx, List.take_length] at hz2
      exact ⟨_, rfl, fo, zs, rfl, .inl ⟨sq hfo2, fun t ht => k t _ zs (same_back e2 ht) upd_same (L2.Paired.mapP hz2 fun _ _ q => q.mono (stups (same_new ht))) (e2.trans (same_new ht))⟩⟩
end
end Rr

set_option Elab.async false
set_option linter.all false
set_option maxRecDepth 100000
set_option maxHeartbeats 4000000
namespace Rr
open PySem PySem.Spec PyProof.Rows L2 Xr
structure COrd (K : PySem.W.Frag) (C : Addr) : Prop where
  cl : Cls K C
  origin : NoAttr K C "origin"
  kept : NoAttr K C "kept"
  reach : NoAttr K C "reach"
  needs : NoAttr K C "needs"
/-- an order at q -/
structure OrdAt (S : List Addr) (H : Hp) (CO q r : Addr) (ns : List Str) (R : Rec) (N : Sol) (ws : List (Id × Id)) : Prop where
  ex : ∃ (dx kt rc nd : Addr) (zs : List V) (ids : List Id), H q = some (.ins CO dx [("origin", .ref r), ("kept", .ref kt), ("reach", .ref rc), ("needs", .ref nd)]) ∧ H kt = some (.tup zs) ∧ Paired (IdP H) zs ws ∧ TB (NumT ns N) H nd ids ∧ (∀ e, e ∈ ids ↔ IsEv R e) ∧ q ∉ S ∧ nd ∉ S
theorem OrdAt.fx {S : List Addr} {H H' : Hp} {CO q r : Addr} {ns : List Str} {R : Rec} {N : Sol} {ws : List (Id × Id)} (z : OrdAt S H CO q r ns R N ws) (e : Fx S H H') : OrdAt S H' CO q r ns R N ws := by
  obtain ⟨dx, kt, rc, nd, zs, ids, h1, h2, h3, h4, h5, n1, n2⟩ := z.ex
  exact ⟨dx, kt, rc, nd, zs, ids, e.f _ _ h1 n1, e.t _ _ h2, L2.Paired.mapP h3 fun _ _ q => q.mono e.t, h4.imp (fun _ h => e.f _ _ h n2) (fun _ _ _ h => TupV.mono e.t h), h5, n1, n2⟩
theorem OrdAt.same {S : List Addr} {H H' : Hp} {CO q r : Addr} {ns : List Str} {R : Rec} {N : Sol} {ws : List (Id × Id)} (z : OrdAt S H CO q r ns R N ws) (e : Same H H') : OrdAt S H' CO q r ns R N ws := z.fx (.of e)
/-- what is ahead of an event is not behind it, in an order -/
theorem Lin.lt {R : Rec} {S : Id → Id → Prop} {ord : List Id} (l : Lin R S ord) {x y : Id} (r : Rch S x y) : x = y ∨ Bef ord x y := by
  induction r with
  | refl => exact .inl rfl
  | step _ s ih =>
    right
    obtain ⟨i, j, h1, h2, h3⟩ := l.bef _ _ s
    rcases ih with h | ⟨i', j', h4, h5, h6⟩
    · subst h
      exact ⟨i, j, h1, h2, h3⟩
    · have : j' = i := (List.getElem?_inj (List.getElem?_eq_some_iff.mp h5).1 l.nd).mp (h5.trans h1.symm)
      exact ⟨i', j, h4, h2, by omega⟩
theorem prg_rch {R : Rec} {ar : List (Id × Id)} {a : Str} {i : Nat} (h1 : 1 ≤ i) : ∀ {d : Nat}, i + d ≤ (R a).length → Rch (Stp R ar) (a, i) (a, i + d)
  | 0, _ => .refl _
  | d + 1, h => .step (prg_rch h1 (d := d) (by omega)) (.inl ⟨rfl, rfl, by show 1 ≤ i + d; omega, h⟩)
/-- no event is ahead of itself -/
theorem not_ahead {R : Rec} {ar : List (Id × Id)} {ord : List Id} {B : Sol} (l : Lin R (Stp R ar) ord) (s : SndB R ar B) {e : Id} (he : IsEv R e) : ¬ e.2 ≤ B e e.1 := by
  intro hle
  rcases s e e.1 he with h | ⟨h1, y, h2, h3⟩
  · have := he.1
    omega
  · have hr : Rch (Stp R ar) e (e.1, B e e.1) := by
      have := prg_rch (R := R) (ar := ar) (a := e.1) (i := e.2) he.1 (d := B e e.1 - e.2) (by have := h1.2; simp only at this; omega)
      rw [show e.2 + (B e e.1 - e.2) = B e e.1 by omega] at this
      exact this
    obtain ⟨i, j, q1, q2, q3⟩ := l.bef y e h3
    rcases l.lt (hr.trans h2) with q | ⟨i', j', q4, q5, q6⟩
    · subst q
      exact l.irr _ h3
    · have a1 : j' = i := (List.getElem?_inj (List.getElem?_eq_some_iff.mp q5).1 l.nd).mp (q5.trans q1.symm)
      have a2 : i' = j := (List.getElem?_inj (List.getElem?_eq_some_iff.mp q4).1 l.nd).mp (q4.trans q2.symm)
      omega
theorem jn_one (B : Sol) (e : Id) : jn B (fun _ => 0) [e] = withM B e := by
  funext a
  show max 0 (withM B e a) = withM B e a
  omega
theorem Ls.ins {H : Hp} {o C1 C2 d1 d2 : Addr} {f1 f2 : List (Str × V)} (ho : H o = some (.ins C1 d1 f1)) : Ls H (upd H o (.ins C2 d2 f2)) :=
  ⟨fun b xs q => by rw [upd_ne (ne_of q ho (fun z => nomatch z))]; exact q, tups_mut ho (fun zs q => nomatch q)⟩
theorem RchAt.ins {H : Hp} {C o be : Addr} {ns : List Str} {ids : List Id} {src : Id → List Id} {B : Sol} (z : RchAt H C o be ns ids src B) {q C1 C2 d1 d2 : Addr} {f1 f2 : List (Str × V)} (hq : H q = some (.ins C1 d1 f1)) (ne : o ≠ q) : RchAt (upd H q (.ins C2 d2 f2)) C o be ns ids src B := by
  obtain ⟨dx, pl, so, h1, h2, h3, h4, h5⟩ := z.ex
  have ls := Ls.ins (C2 := C2) (d2 := d2) (f2 := f2) hq
  exact ⟨dx, pl, so, by rw [upd_ne ne]; exact h1, h2.imp (fun _ h => by rw [upd_ne (ne_of h hq (fun q => nomatch q))]; exact h) (fun _ _ _ h => h),
    h3.imp (fun _ h => by rw [upd_ne (ne_of h hq (fun q => nomatch q))]; exact h) (fun _ _ _ h => h.ls ls), h4.imp (fun _ h => by rw [upd_ne (ne_of h hq (fun q => nomatch q))]; exact h) (fun _ _ _ h => h.ls ls), h5⟩
theorem RchAt.lock {H : Hp} {C o be : Addr} {ns : List Str} {ids : List Id} {src : Id → List Id} {B : Sol} (z : RchAt H C o be ns ids src B) {kvs : List (List Key × V)} (hb : H be = some (.dT kvs)) (od : Obj) : RchR (upd H be (.frz od (.dT kvs))) C o be ns ids src B := by
  obtain ⟨dx, pl, so, h1, h2, h3, ⟨kv, h4, h5, h6⟩, h7⟩ := z.ex
  rw [hb] at h4
  cases h4
  exact ⟨dx, pl, so, by rw [upd_ne (ne_of h1 hb (fun q => nomatch q))]; exact h1, h2.imp (fun _ h => by rw [upd_ne (ne_of h hb (fun q => nomatch q))]; exact h) (fun _ _ _ h => h), kvs, .inr ⟨od, upd_same⟩, h5,
    fun x hx => let ⟨v, a, l, e, c⟩ := h6 x hx; ⟨v, a, l, e, by rw [upd_ne (ne_of c hb (fun q => nomatch q))]; exact c⟩⟩
section
variable {P : Program} {w : World} {K : PySem.W.Frag} {mg : Str → Option Value} {base : Heap} {CR CH CO : Addr}
abbrev N_Order_init : List Str := ["self", "record", "waits", "event"]
theorem sc_Order_init : FnScope N_Order_init ["self", "record", "waits"] (defScope s_Order_init) := ⟨rfl, rfl, rfl, by decide +kernel, rfl, by decide +kernel, by decide +kernel⟩
def sp_Order_init (K : PySem.W.Frag) (CR CO : Addr) : Sp := fun vs H Q _ => ∃ (S S0 : List Addr) (q dx r l : Addr) (ns : List Str) (R : Rec) (b : Bool) (wx : List V) (ws : List (Id × Id)) (ord : List Id), vs = [.ref q, .ref r, .ref l] ∧ H q = some (.ins CO dx []) ∧ (∀ s ∈ S0, ∃ kv : List (List Key × V), H s = some (.dT kv)) ∧ q ≠ r ∧ Good ns R ∧ RecAt S H CR r ns R ∧ (H l = some (.tup wx) ∨ (b = true ∧ H l = some (.lst wx))) ∧ Paired (WaitT H) wx ws ∧ ws.length ≤ 1000 ∧
  (∀ p ∈ ws, IsEv R p.1 ∧ IsEv R p.2 ∧ p.1.1 ≠ p.2.1) ∧ Lin R (Stp R (msgsOf ns R ++ ws)) ord ∧
  ∀ H' N, OrdAt S0 H' CO q r ns R N ws → IsN R (msgsOf ns R ++ ws) N → FrS [q] H H' → TupS H H' → Q .non H'
theorem ok_Order_init (T : Txt K mg) (cr : CRec K CR) (ch : CRch K CH) (co : COrd K CO) (G_checked_waits : Gf P w K mg base 5 "checked_waits" ["record", "waits"] (sp_checked_waits CR)) (G_Reach : Gk P w K mg base 6 "Reach" CH ["self", "record", "pairs"] (sp_Reach_init K CR CH))
    (G_Reach_least_cut : Gm P w K mg base 2 CH "least_cut" ["self", "events"] (sp_Reach_least_cut CH)) (G_Reach_ahead : Gm P w K mg base 1 CH "ahead" ["self", "one", "other"] (sp_Reach_ahead CH))
    {f : Addr} {fd : FuncData} {dvs : List V} (F : FunD K "__init__" "Order.__init__" (defArgs s_Order_init) (defBody s_Order_init) (defScope s_Order_init) dvs [] f fd) : FnOk P w K mg base CX0 8 f fd ["self", "record", "waits"] (sp_Order_init K CR CO) := by
  refine ok0 F sc_Order_init (fun vs H Q E h => ?_) (fun cdv A outer s H vs Q E hr h => ?_)
  · obtain ⟨S, S0, q, dx, r, l, ns, R, b, wx, ws, ord, rfl, _⟩ := h
    rfl
  · obtain ⟨S, S0, q, dx, r, l, ns, R, b, wx, ws, ord, rfl, hqo, hS0, nqr, g, rec, hl, hwx, hwl, hws, lin, k⟩ := h
    have hu := hu_of hr
    refine ⟨_, (pss_cons (q_sfld K rfl (pv 0) (pv 1) rfl)
      (pss_cons (q_sfld K rfl (pv 0) (pe_call G_checked_waits.F (G_checked_waits.room hr) (by rfl) G_checked_waits.mg G_checked_waits.kp G_checked_waits.b .nil pass0 (pa_cons (pv 1) (pa_cons (pv 2) pa_nil))) rfl)
      (pss_cons (q_sfld K rfl (pv 0) (pe_make G_Reach.M G_Reach.F (G_Reach.room hr) (by rfl) G_Reach.mg G_Reach.b .nil pass0 (pa_cons (pv 1) (pa_cons (q_fld K rfl (pv 0) rfl) pa_nil))) rfl)
      (pss_cons (q_sfld K rfl (pv 0) (pe_lock (pe_dcT hu (own := [("event", 3)]) (by rfl) sc_Order_init.nd (pi_keys (q_fld K rfl (q_fld K rfl (pv 0) rfl) rfl)) (blkOk_by (N := N_Order_init) (sc := defScope s_Order_init) (by decide +kernel)) (fun _ _ _ _ _ => (pg_name (i := 3) sc_Order_init.nd rfl (Or.inl rfl))) (fun _ _ _ _ _ => pts_nil) (fun _ _ _ _ _ => (pv 3)) (fun _ _ _ _ _ => (pe_meth (q_fld K rfl (pv 0) rfl) G_Reach_least_cut.cl G_Reach_least_cut.m G_Reach_least_cut.F (G_Reach_least_cut.room hr) G_Reach_least_cut.b .nil pass0 (pa_cons (pe_lst (pa_cons (pv 3) pa_nil)) pa_nil))))) rfl)
      (pss_one (ps_if (pt_val (pe_callB (q_any K rfl rfl) (by rfl) T.z_any (by decide +kernel) (pa_cons (pe_lock (pe_lc (own := [("event", 3)]) (by rfl) sc_Order_init.nd (pi_keys (q_fld K rfl (pv 0) rfl)) (blkOk_by (N := N_Order_init) (sc := defScope s_Order_init) (by decide +kernel)) (fun _ _ _ _ _ => (pg_name (i := 3) sc_Order_init.nd rfl (Or.inl rfl))) (fun _ _ _ _ _ => pts_nil) (fun _ _ _ _ _ => (pe_meth (q_fld K rfl (pv 0) rfl) G_Reach_ahead.cl G_Reach_ahead.m G_Reach_ahead.F (G_Reach_ahead.room hr) G_Reach_ahead.b .nil pass0 (pa_cons (pv 3) (pa_cons (pv 3) pa_nil)))))) pa_nil)))
        (pss_one ps_never)
        pss_nil)))))), ?_⟩
    have n4 := g.n4
    have hwA : Arr R ws := fun p hp => ⟨(hws p hp).1, (hws p hp).2.1⟩
    refine ⟨_, rfl, _, rfl, q, CO, dx, [], rfl, hqo, co.cl, co.origin, by simp, ?_⟩
    have hq1 : (upd H q (.ins CO dx (putF "origin" (.ref r) []))) q = some (.ins CO dx [("origin", .ref r)]) := upd_same
    have rec1 : RecAt S (upd H q (.ins CO dx (putF "origin" (.ref r) []))) CR r ns R := rec.ins hqo nqr
    have f1 : FrS [q] H (upd H q (.ins CO dx (putF "origin" (.ref r) []))) := FrS.upd (List.mem_singleton_self q)
    have ls1 : Ls H (upd H q (.ins CO dx (putF "origin" (.ref r) []))) := Ls.ins hqo
    generalize upd H q (.ins CO dx (putF "origin" (.ref r) [])) = H1 at hq1 rec1 f1 ls1
    -- kept
    refine ⟨_, rfl, _, rfl, S, r, l, ns, R, b, wx, ws, rfl, g, rec1, hl.imp (ls1.t _ _) (fun h => ⟨h.1, ls1.l _ _ h.2⟩), L2.Paired.mapP hwx fun _ _ z => z.ls ls1, hwl, hws, fun t H2 zs ht0 ht hz e2 => ?_⟩
    have hq2 := e2 _ _ hq1
    refine ⟨_, rfl, q, CO, dx, _, rfl, hq2, co.cl, co.kept, by simp, ?_⟩
    have hq3 : (upd H2 q (.ins CO dx (putF "kept" (.ref t) [("origin", .ref r)]))) q = some (.ins CO dx [("origin", .ref r), ("kept", .ref t)]) := upd_same
    have rec3 : RecAt S (upd H2 q (.ins CO dx (putF "kept" (.ref t) [("origin", .ref r)]))) CR r ns R := (rec1.same e2).ins hq2 nqr
    have f3 : FrS [q] H (upd H2 q (.ins CO dx (putF "kept" (.ref t) [("origin", .ref r)]))) := (f1.trans (FrS.of e2)).trans (FrS.upd (List.mem_singleton_self q))
    have ls23 : Ls H2 (upd H2 q (.ins CO dx (putF "kept" (.ref t) [("origin", .ref r)]))) := Ls.ins hq2
    have ts3 : TupS H (upd H2 q (.ins CO dx (putF "kept" (.ref t) [("origin", .ref r)]))) := tut ls1.t (tut (stups e2) ls23.t)
    have ht3 := ls23.t _ _ ht
    have hz3 := L2.Paired.mapP hz fun _ _ z => z.mono ls23.t
    generalize upd H2 q (.ins CO dx (putF "kept" (.ref t) [("origin", .ref r)])) = H3 at hq3 rec3 f3 ts3 ht3 hz3
    clear ls23 hq2 e2 hz ht ht0 H2 hq1 rec1 f1 ls1 H1
    -- reach
    refine ⟨_, rfl, _, rfl, q, CO, dx, _, .ref t, rfl, hq3, co.cl, co.kept, rfl, fun x dxx hx hdx hne => ?_⟩
    have hx' : (upd H3 dxx (.own x)) x = none := by rw [upd_ne hne.symm]; exact hx
    have e34 : Same H3 (upd (upd H3 dxx (.own x)) x (.ins CH dxx [])) := (same_new hdx).trans (same_new hx')
    have hxr : x ≠ r := by
      obtain ⟨_, _, _, _, _, _, _, _, h, _⟩ := rec3.ex
      exact (ne_of_none h hx).symm
    refine ⟨S, x, dxx, r, t, ns, R, ws, zs, rfl, upd_same, g, rec3.same e34, hxr, e34 _ _ ht3, L2.Paired.mapP hz3 fun _ _ z => z.mono (stups e34), hwA, hwl, fun H5 be ids src B' rch snd isn ndi mem fx tx => ⟨rfl, ?_⟩⟩
    have e35 : Same H3 H5 := fun b u hb => fx b u (e34 b u hb) (by simp; exact ne_of_none hb hx)
    clear fx tx e34 hx' hdx hne
    have hq5 := e35 _ _ hq3
    have hxq : x ≠ q := (ne_of_none hq3 hx).symm
    refine ⟨_, rfl, q, CO, dx, _, rfl, hq5, co.cl, co.reach, by simp, ?_⟩
    have hq6 : (upd H5 q (.ins CO dx (putF "reach" (.ref x) [("origin", .ref r), ("kept", .ref t)]))) q = some (.ins CO dx [("origin", .ref r), ("kept", .ref t), ("reach", .ref x)]) := upd_same
    have f6 : FrS [q] H (upd H5 q (.ins CO dx (putF "reach" (.ref x) [("origin", .ref r), ("kept", .ref t)]))) := (f3.trans (FrS.of e35)).trans (FrS.upd (List.mem_singleton_self q))
    have ls56 : Ls H5 (upd H5 q (.ins CO dx (putF "reach" (.ref x) [("origin", .ref r), ("kept", .ref t)]))) := Ls.ins hq5
    have ts6 : TupS H (upd H5 q (.ins CO dx (putF "reach" (.ref x) [("origin", .ref r), ("kept", .ref t)]))) := tut ts3 (tut (stups e35) ls56.t)
    have ht6 := ls56.t _ _ (e35 _ _ ht3)
    have hz6 := L2.Paired.mapP hz3 fun _ _ z => z.mono (tut (stups e35) ls56.t)
    have rch6 : RchAt (upd H5 q (.ins CO dx (putF "reach" (.ref x) [("origin", .ref r), ("kept", .ref t)]))) CH x be ns ids src B' := rch.ins hq5 hxq
    generalize upd H5 q (.ins CO dx (putF "reach" (.ref x) [("origin", .ref r), ("kept", .ref t)])) = H6 at hq6 f6 ls56 ts6 ht6 hz6 rch6
    clear ls56 hq5 rch hq3 f3 ts3 ht3 hz3 e35 hx hxr rec3 H5 H3
    -- needs
    obtain ⟨kvs, hkv, hkeys, _⟩ := (let ⟨_, _, _, _, _, _, h, _⟩ := rch6.ex; h).ex
    have hkl : kvs.length = ids.length := by
      have := congrArg List.length hkeys
      simpa using this
    have hidl : ids.length ≤ 3600 := by
      have h1 : ids.length ≤ (allIds ns R).length := ndi.length_le_of_subset fun e he => g.allIds.mpr ((mem e).mp he)
      have h2 := allIds_len g.len ns
      have h3 : ns.length * 900 ≤ 4 * 900 := Nat.mul_le_mul_right _ n4
      omega
    have hidn : ∀ e ∈ ids, e.1 ∈ ns := fun e he => g.mem ((mem e).mp he)
    have hqb : q ≠ be := ne_of hq6 hkv (fun z => nomatch z)
    refine ⟨be, _, hkv, trivial, fun od => ?_⟩
    have rchF := rch6.lock hkv od
    obtain ⟨dxx', pl', so', hxF, _⟩ := rchF.ex
    have hqF : (upd H6 be (.frz od (.dT kvs))) q = some (.ins CO dx [("origin", .ref r), ("kept", .ref t), ("reach", .ref x)]) := by rw [upd_ne hqb]; exact hq6
    refine ⟨_, rfl, q, CO, dx, _, .ref x, rfl, hqF, co.cl, co.reach, rfl, x, CH, dxx', _, .ref be, rfl, hxF, ch.cl, ch.behind, rfl, be, od, rfl, .inr ⟨kvs, upd_same, fun nd hnd => ?_⟩⟩
    have nnb : nd ≠ be := (ne_of_none upd_same hnd).symm
    have hnd6 : H6 nd = none := by rw [upd_ne nnb] at hnd; exact hnd
    have hqS : q ∉ S0 := fun hm => by
      obtain ⟨kv, h⟩ := hS0 q hm
      rw [hqo] at h
      cases h
    have hnS : nd ∉ S0 := fun hm => by
      obtain ⟨kv, h⟩ := hS0 nd hm
      have := f6 _ _ h (by simp; exact ne_of h hqo (fun z => nomatch z))
      rw [hnd6] at this
      cases this
    have hbF : (upd H6 be (.frz od (.dT kvs))) be = some (.frz od (.dT kvs)) := upd_same
    have e6F : ∀ b u, H6 b = some u → b ≠ be → (upd H6 be (.frz od (.dT kvs))) b = some u := fun b u h n => by rw [upd_ne n]; exact h
    generalize upd H6 be (.frz od (.dT kvs)) = Hf at rchF hxF hqF hnd hbF e6F
    refine dc_itT walk_keysT (fun i H7 => Same Hf H7 ∧ TB (NumT ns (withM B')) H7 nd (ids.take i)) ⟨same_new hnd, TB.new⟩ (fun i H7 _ h => h.1 _ _ hbF) ?_ ?_
    · rintro i x1 H7' H7 hi ⟨e7, T7⟩ ⟨rfl, ky, vv, qa, hk1, rfl, hqa⟩
      have hil : i < ids.length := by omega
      have hid : ids[i]? = some ids[i] := List.getElem?_eq_getElem hil
      have hkb : ky = kE ids[i] := by
        have h1 : (kvs.map Prod.fst)[i]? = some ky := by rw [List.getElem?_map, hk1] <;> rfl
        rw [hkeys, List.getElem?_map, hid] at h1
        exact (Option.some.inj h1).symm
      subst hkb
      refine ⟨rfl, _, rfl, _, rfl, q, CO, dx, _, .ref x, rfl, e7 _ _ hqF, co.cl, co.reach, rfl, x, dxx', _, rfl, e7 _ _ hxF, rfl, _, rfl, s1, fun la hla => ?_⟩
      have e8 : Same H7 (upd H7 la (.lst [.ref qa])) := same_new hla
      have hla8 : (upd H7 la (.lst [.ref qa])) la = some (.lst [.ref qa]) := upd_same
      generalize upd H7 la (.lst [.ref qa]) = H8 at e8 hla8
      refine ⟨x, be, la, ns, ids, src, B', [.ref qa], [ids[i]], rfl, g.nd, n4, rchF.same (e7.trans e8), hla8, .cons ⟨qa, rfl, e8 _ _ hqa⟩ .nil, ?_, fun tt H9 htt0 htt e9 => ?_⟩
      · intro e he
        rw [List.mem_singleton] at he
        subst he
        exact ⟨List.mem_of_getElem? hid, hidn _ (List.mem_of_getElem? hid)⟩
      rw [jn_one] at htt
      have e79 := e8.trans e9
      have T9 : TB (NumT ns (withM B')) H9 nd (ids.take i) := T7.imp (fun _ h => e79 _ _ h) fun _ _ _ h => TupV.mono (stups e79) h
      have hnew : ids[i] ∉ ids.take i := fun hm => by
        obtain ⟨j, hj⟩ := List.mem_iff_getElem?.mp hm
        have hji : j < i := by
          have := (List.getElem?_eq_some_iff.mp hj).1
          rw [List.length_take] at this
          omega
        rw [List.getElem?_take_of_lt hji] at hj
        have := (List.getElem?_inj (List.getElem?_eq_some_iff.mp hj).1 ndi).mp (hj.trans hid.symm)
        omega
      obtain ⟨kb, hkb, hkk, hvv⟩ := T9.ex
      have hkbl : kb.length ≤ 3600 := by
        have := congrArg List.length hkk
        rw [List.length_map, List.length_map, List.length_take] at this
        omega
      refine ⟨kb, kE ids[i], qa, rfl, e79 _ _ hqa, hkb, szl (by omega), same_mut (e7.trans e79) hnd, ?_⟩
      have hn : valV kb (kE ids[i]) = none := (valV_none _ kb).mpr (by rw [hkk, kE_mem]; exact hnew)
      have tsm : ∀ o, TupS H9 (upd H9 nd (.dT o)) := fun o => tups_mut hkb (fun zs q => nomatch q)
      refine ⟨_, upd_same, ?_, fun e he => ?_⟩
      · rw [putK_new _ hn, List.map_append, hkk, take_succ' hid, List.map_append]
        rfl
      · rw [valV_put]
        by_cases hfe : e = ids[i]
        · subst hfe
          rw [if_pos rfl]
          exact ⟨_, rfl, tt, rfl, tsm _ _ _ htt⟩
        · rw [if_neg (fun q => hfe (kE_inj q))]
          have he' : e ∈ ids.take i := by
            rw [take_succ' hid] at he
            rcases List.mem_append.mp he with q | q
            · exact q
            · exact (hfe (List.mem_singleton.mp q)).elim
          obtain ⟨v, g1, g2⟩ := hvv e he'
          exact ⟨v, g1, TupV.mono (tsm _) g2⟩
    rintro H7 ⟨e7, T7⟩
    rw [hkl, List.take_length] at T7
    refine ⟨e7 _ _ hbF, ?_⟩
    have e68 : Same H6 (upd H7 be (.dT kvs)) := fun b u hb => by
      by_cases q : b = be
      · rw [q] at hb ⊢
        rw [upd_same, ← hkv, hb]
      · rw [upd_ne q]
        exact e7 _ _ (e6F b u hb q)
    have T8 : TB (NumT ns (withM B')) (upd H7 be (.dT kvs)) nd ids := T7.imp (fun _ h => by rw [upd_ne nnb]; exact h) fun v e _ h => TupV.mono (tups_mut (e7 _ _ hbF) (fun zs q => nomatch q)) h
    generalize upd H7 be (.dT kvs) = H8 at e68 T8
    clear T7 e7 H7 hbF e6F hqF hxF rchF hnd
    have hq8 := e68 _ _ hq6
    refine ⟨_, rfl, q, CO, dx, _, rfl, hq8, co.cl, co.needs, by simp, ?_⟩
    have hq9 : (upd H8 q (.ins CO dx (putF "needs" (.ref nd) [("origin", .ref r), ("kept", .ref t), ("reach", .ref x)]))) q = some (.ins CO dx [("origin", .ref r), ("kept", .ref t), ("reach", .ref x), ("needs", .ref nd)]) := upd_same
    have f9 : FrS [q] H (upd H8 q (.ins CO dx (putF "needs" (.ref nd) [("origin", .ref r), ("kept", .ref t), ("reach", .ref x)]))) := (f6.trans (FrS.of e68)).trans (FrS.upd (List.mem_singleton_self q))
    have ls89 : Ls H8 (upd H8 q (.ins CO dx (putF "needs" (.ref nd) [("origin", .ref r), ("kept", .ref t), ("reach", .ref x)]))) := Ls.ins hq8
    have ts9 : TupS H (upd H8 q (.ins CO dx (putF "needs" (.ref nd) [("origin", .ref r), ("kept", .ref t), ("reach", .ref x)]))) := tut ts6 (tut (stups e68) ls89.t)
    have ht9 := ls89.t _ _ (e68 _ _ ht6)
    have hz9 := L2.Paired.mapP hz6 fun _ _ z => z.mono (tut (stups e68) ls89.t)
    have T9 : TB (NumT ns (withM B')) (upd H8 q (.ins CO dx (putF "needs" (.ref nd) [("origin", .ref r), ("kept", .ref t), ("reach", .ref x)]))) nd ids := T8.imp (fun _ h => by rw [upd_ne (ne_of h hq8 (fun q => nomatch q))]; exact h) fun v e _ h => TupV.mono ls89.t h
    have rch9 : RchAt (upd H6 q (.ins CO dx (putF "needs" (.ref nd) [("origin", .ref r), ("kept", .ref t), ("reach", .ref x)]))) CH x be ns ids src B' := rch6.ins hq6 hxq
    have s69 : Same (upd H6 q (.ins CO dx (putF "needs" (.ref nd) [("origin", .ref r), ("kept", .ref t), ("reach", .ref x)]))) (upd H8 q (.ins CO dx (putF "needs" (.ref nd) [("origin", .ref r), ("kept", .ref t), ("reach", .ref x)]))) := fun b u hb => by
      by_cases z : b = q
      · rw [z, upd_same] at hb ⊢
        exact hb
      · rw [upd_ne z] at hb ⊢
        exact e68 _ _ hb
    have hnd9 : (upd H6 q (.ins CO dx (putF "needs" (.ref nd) [("origin", .ref r), ("kept", .ref t), ("reach", .ref x)]))) nd = none := by
      rw [upd_ne (ne_of_none hq6 hnd6).symm]
      exact hnd6
    generalize upd H8 q (.ins CO dx (putF "needs" (.ref nd) [("origin", .ref r), ("kept", .ref t), ("reach", .ref x)])) = H9 at hq9 f9 ts9 ht9 hz9 T9 s69 ls89
    generalize upd H6 q (.ins CO dx (putF "needs" (.ref nd) [("origin", .ref r), ("kept", .ref t), ("reach", .ref x)])) = G6 at rch9 s69 hnd9
    clear ls89 T8 hq8 e68 rch6 hq6 f6 ts6 ht6 hz6 hkv hkeys hkl
    -- no event is ahead of itself
    obtain ⟨kv9, hkv9, hk9, _⟩ := T9.ex
    have hkl9 : kv9.length = ids.length := by
      have := congrArg List.length hk9
      simpa using this
    refine ⟨nd, _, hkv9, trivial, fun od => ?_⟩
    have hqL : (upd H9 nd (.frz od (.dT kv9))) q = some (.ins CO dx [("origin", .ref r), ("kept", .ref t), ("reach", .ref x), ("needs", .ref nd)]) := by rw [upd_ne (ne_of hq9 hkv9 (fun z => nomatch z))]; exact hq9
    have sL : Same G6 (upd H9 nd (.frz od (.dT kv9))) := fun b u hb => by
      rw [upd_ne (ne_of_none hb hnd9)]
      exact s69 _ _ hb
    refine ⟨_, rfl, q, CO, dx, _, .ref nd, rfl, hqL, co.cl, co.needs, rfl, nd, od, rfl, .inr ⟨kv9, upd_same, fun D hD => ?_⟩⟩
    have ndD : nd ≠ D := ne_of_none upd_same hD
    have hD9 : H9 D = none := by rw [upd_ne ndD.symm] at hD; exact hD
    have hnL : (upd H9 nd (.frz od (.dT kv9))) nd = some (.frz od (.dT kv9)) := upd_same
    have e9L : ∀ b u, H9 b = some u → b ≠ nd → (upd H9 nd (.frz od (.dT kv9))) b = some u := fun b u h n => by rw [upd_ne n]; exact h
    generalize upd H9 nd (.frz od (.dT kv9)) = HL at hqL sL hD hnL e9L
    have rchL := (rch9.same sL).r
    obtain ⟨dxx', pl', so', hxL, _⟩ := rchL.ex
    refine lc_pure (R := fun (b : Id) v H' => v = V.bl false) walk_keysT hD ids hkl9.symm (by omega) (fun b v H H' t h => h) (fun b => true) (fun H' e => e _ _ hnL) (fun i H1 x H2 y => by rw [y.1]; exact Same.refl _) ?_ ?_
    · rintro i e x1 H7' H7 kk hb e7 ⟨rfl, ky, vv, qa, hk1, rfl, hqa⟩ htk hf
      have hkb : ky = kE e := by
        have h1 : (kv9.map Prod.fst)[i]? = some ky := by rw [List.getElem?_map, hk1] <;> rfl
        rw [hk9, List.getElem?_map, hb] at h1
        exact (Option.some.inj h1).symm
      subst hkb
      have hem := List.mem_of_getElem? hb
      refine ⟨rfl, _, rfl, q, CO, dx, _, .ref x, rfl, e7 _ _ hqL, co.cl, co.reach, rfl, x, dxx', _, rfl, e7 _ _ hxL, rfl, _, rfl, _, rfl, x, be, ns, ids, src, B', .ref qa, .ref qa, e, e, rfl, rchL.same e7, ⟨qa, rfl, hqa⟩, ⟨qa, rfl, hqa⟩, hem, hidn _ hem, htk _ _ (Same.refl _) rfl ?_⟩
      rw [decide_eq_false (not_ahead lin snd ((mem e).mp hem))]
    · intro ys H7 e7 hD7 hys
      refine ⟨e7 _ _ hnL, ?_⟩
      rw [List.filter_eq_self.mpr (fun _ _ => rfl)] at hys
      have ez : ys = (ids.map fun _ => false).map V.bl := by
        rw [List.map_map]
        exact plist (f := fun _ => V.bl false) hys
      have e910 : Same H9 (upd H7 nd (.dT kv9)) := fun b u hb => by
        by_cases z : b = nd
        · rw [z] at hb ⊢
          rw [upd_same, ← hkv9, hb]
        · rw [upd_ne z]
          exact e7 _ _ (e9L b u hb z)
      have hD10 : (upd H7 nd (.dT kv9)) D = some (.lst ((ids.map fun _ => false).map V.bl)) := by
        rw [upd_ne ndD.symm, hD7, ez]
      generalize upd H7 nd (.dT kv9) = H10 at e910 hD10
      refine ⟨D, _, rfl, sq hD10, _, rfl, ?_⟩
      rw [show (ids.map fun _ => false).any id = false by simp]
      refine iteF ?_
      refine k H10 (withM B') ⟨dx, t, x, nd, zs, ids, e910 _ _ hq9, e910 _ _ ht9, L2.Paired.mapP hz9 fun _ _ z => z.mono (stups e910), T9.imp (fun _ h => e910 _ _ h) (fun _ _ _ h => TupV.mono (stups e910) h), mem, hqS, hnS⟩ isn (f9.trans (FrS.of e910)) (tut ts9 (stups e910))
end
end Rr

set_option Elab.async false
set_option linter.all false
set_option maxRecDepth 100000
set_option maxHeartbeats 4000000
namespace Rr
open PySem PySem.Spec PyProof.Rows L2 Xr
def incB (ns : List Str) (N : Sol) (C : Cut) (e : Id) : Bool := ns.all fun b => decide (N e b ≤ C b)
def inB (ns : List Str) (R : Rec) (C : Cut) : Bool := ns.all fun a => decide (C a ≤ (R a).length)
def cutB (ns : List Str) (R : Rec) (N : Sol) (C : Cut) : Bool := inB ns R C && (ns.filter fun a => decide (0 < C a)).all fun a => incB ns N C (a, C a)
section
variable {P : Program} {w : World} {K : PySem.W.Frag} {mg : Str → Option Value} {base : Heap} {CR CO : Addr}
abbrev N_Order_includes : List Str := ["self", "cut", "event", "needed", "number"]
theorem sc_Order_includes : FnScope N_Order_includes ["self", "cut", "event"] (defScope s_Order_includes) := ⟨rfl, rfl, rfl, by decide +kernel, rfl, by decide +kernel, by decide +kernel⟩
def sp_Order_includes (CO : Addr) : Sp := fun vs H Q _ => ∃ (S : List Addr) (q r tc : Addr) (ns : List Str) (R : Rec) (N : Sol) (ws : List (Id × Id)) (C : Cut) (v : V) (e : Id), vs = [.ref q, .ref tc, v] ∧ ns.length ≤ 4 ∧ OrdAt S H CO q r ns R N ws ∧ H tc = some (.tup (numsC ns C)) ∧ IdV H v e ∧ IsEv R e ∧ ∀ H', Same H H' → Q (.bl (incB ns N C e)) H'
theorem ok_Order_includes (T : Txt K mg) (co : COrd K CO) {f : Addr} {fd : FuncData} (F : FunD K "includes" "Order.includes" (defArgs s_Order_includes) (defBody s_Order_includes) (defScope s_Order_includes) [] [] f fd) : FnOk P w K mg base CX0 1 f fd ["self", "cut", "event"] (sp_Order_includes CO) := by
  refine ok0 F sc_Order_includes (fun vs H Q E h => ?_) (fun cdv A outer s H vs Q E hr h => ?_)
  · obtain ⟨S, q, r, tc, ns, R, N, ws, C, v, e, rfl, _⟩ := h
    rfl
  · obtain ⟨S, q, r, tc, ns, R, N, ws, C, v, e, rfl, n4, ord, hc, ⟨te, rfl, hte⟩, hev, k⟩ := h
    have hu := hu_of hr
    obtain ⟨dx, kt, rc, nd, zs, ids, hqo, hkt, hzs, hnd, mem, _⟩ := ord.ex
    obtain ⟨vn, ⟨tn, rfl, htn⟩, gn⟩ := hnd.get ((mem e).mpr hev)
    refine ⟨_, (pss_one (ps_ret (pe_callB (q_all K rfl rfl) (by rfl) T.z_all (by decide +kernel) (pa_cons (pe_lc (own := [("needed", 3), ("number", 4)]) (by rfl) sc_Order_includes.nd (q_zip K rfl .t .t (by rfl) T.z_zip (pa_cons (pe_dget hu (q_fld K rfl (pv 0) rfl) (pv 2) (fun _ _ => rfl)) (pa_cons (pv 1) pa_nil))) (blkOk_by (N := N_Order_includes) (sc := defScope s_Order_includes) (by decide +kernel)) (fun _ _ _ _ _ => (q_tup (n := 2) K rfl rfl (pgs_cons (pg_name (i := 3) sc_Order_includes.nd rfl (Or.inl rfl)) (pgs_cons (pg_name (i := 4) sc_Order_includes.nd rfl (Or.inl rfl)) pgs_nil)))) (fun _ _ _ _ _ => pts_nil) (fun _ _ _ _ _ => (pe_cmpR op_le (pv 3) (pv 4) (nomark _)))) pa_nil)))), ?_⟩
    refine ⟨_, rfl, q, CO, dx, _, .ref nd, rfl, hqo, co.cl, co.needs, rfl, _, rfl, nd, _, rfl, gn _ hte, _, rfl, tn, tc, _, _, rfl, sqt htn, sqt hc, fun D hD => lc_pure (walk_zipA2 (k1 := .t) (k2 := .t) (a := tn) (b := tc) (xs := numsC ns (N e)) (ys := numsC ns C) rfl) hD ns (by rw [nums_len, nums_len]; simp) (by rw [nums_len, nums_len]; simp; omega) (fun b v _ => v = .bl (decide (N e b ≤ C b))) (fun _ _ _ _ _ z => z) (fun _ => true) (fun H' e => ⟨sqt (e _ _ htn), sqt (e _ _ hc)⟩) (fun _ _ _ _ y => ypair_same y) ?_ ?_⟩
    · rintro j b x H6 H5 kk hb e1 ⟨T', x1, y1, rfl, hT, rfl, hx1, hy1⟩ htk hf
      cases (nums_get (C := N e) hb).symm.trans hx1
      cases (nums_get (C := C) hb).symm.trans hy1
      refine ⟨T', _, rfl, sqt upd_same, rfl, _, _, rfl, _, _, rfl, rfl, ?_⟩
      refine ⟨rfl, _, rfl, _, rfl, _, _, rfl, rfl, htk _ _ (Same.refl _) rfl ?_⟩
      show V.bl _ = V.bl _
      congr 1
      exact decide_eq_decide.mpr (by omega)
    · intro ys H5 e5 hD5 hys
      rw [List.filter_eq_self.mpr (fun _ _ => rfl)] at hys
      have ez := plist hys
      subst ez
      refine ⟨D, _, rfl, sq (by rw [hD5, bl_map]), ?_⟩
      rw [all_map]
      exact k H5 e5
abbrev N_Order_is_cut : List Str := ["self", "cut", "names", "name", "number"]
theorem sc_Order_is_cut : FnScope N_Order_is_cut ["self", "cut"] (defScope s_Order_is_cut) := ⟨rfl, rfl, rfl, by decide +kernel, rfl, by decide +kernel, by decide +kernel⟩
def sp_Order_is_cut (CR CO : Addr) : Sp := fun vs H Q _ => ∃ (S S' : List Addr) (q r tc : Addr) (ns : List Str) (R : Rec) (N : Sol) (ws : List (Id × Id)) (C : Cut), vs = [.ref q, .ref tc] ∧ Good ns R ∧ RecAt S H CR r ns R ∧ OrdAt S' H CO q r ns R N ws ∧ H tc = some (.tup (numsC ns C)) ∧ ∀ H', Same H H' → Q (.bl (cutB ns R N C)) H'
theorem ok_Order_is_cut (T : Txt K mg) (co : COrd K CO) (G_Record_names : Gm P w K mg base 1 CR "names" ["self"] (sp_Record_names CR)) (G_Record_length : Gm P w K mg base 4 CR "length" ["self", "name"] (sp_Record_length CR)) (G_is_integer : Gf P w K mg base 1 "is_integer" ["thing"] sp_is_integer)
    (G_Order_includes : Gm P w K mg base 1 CO "includes" ["self", "cut", "event"] (sp_Order_includes CO)) {f : Addr} {fd : FuncData} (F : FunD K "is_cut" "Order.is_cut" (defArgs s_Order_is_cut) (defBody s_Order_is_cut) (defScope s_Order_is_cut) [] [] f fd) : FnOk P w K mg base CX0 5 f fd ["self", "cut"] (sp_Order_is_cut CR CO) := by
  refine ok0 F sc_Order_is_cut (fun vs H Q E h => ?_) (fun cdv A outer s H vs Q E hr h => ?_)
  · obtain ⟨S, S', q, r, tc, ns, R, N, ws, C, rfl, _⟩ := h
    rfl
  · obtain ⟨S, S', q, r, tc, ns, R, N, ws, C, rfl, g, rec, ord, hc, k⟩ := h
    have hu := hu_of hr
    obtain ⟨dx, kt, rc, nd, zs, ids, hqo, hkt, hzs, hnd, mem, _⟩ := ord.ex
    obtain ⟨dxr, _, _, _, _, _, _, _, hro, _⟩ := rec.ex
    have n4 := g.n4
    refine ⟨_, (pss_cons (ps_set (i := 2) sc_Order_is_cut.nd rfl (Or.inl rfl) (pe_meth0 (q_fld K rfl (pv 0) rfl) G_Record_names.cl G_Record_names.m G_Record_names.F (G_Record_names.room hr) G_Record_names.b .nil pass0))
      (pss_cons (ps_if (PW.pt (pw_or (pt_not (pt_val (pe_callB (q_isi K rfl) (by rfl) T.z_isinstance (by decide +kernel) (pa_cons (pv 1) (pa_cons (pe_bltn (v := .ty "tuple") (u := .type "tuple") (by rfl) T.z_tuple (by decide +kernel) rfl) pa_nil))))) (pw_or1 (pt_cmpR op_ne (pe_callB (q_len K rfl) (by rfl) T.z_len (by decide +kernel) (pa_cons (pv 1) pa_nil)) (pe_callB (q_len K rfl) (by rfl) T.z_len (by decide +kernel) (pa_cons (pv 2) pa_nil)) (nomark _)))))
        (pss_one (ps_ret pe_bl))
        pss_nil)
      (pss_cons (ps_for PassesOwn.never rfl (q_zip K rfl .t .t (by rfl) T.z_zip (pa_cons (pv 2) (pa_cons (pv 1) pa_nil))) (q_tup (n := 2) K rfl rfl (pgs_cons (pg_name (i := 3) sc_Order_is_cut.nd rfl (Or.inl rfl)) (pgs_cons (pg_name (i := 4) sc_Order_is_cut.nd rfl (Or.inl rfl)) pgs_nil)))
        (pss_one (ps_if (PW.pt (pw_or (pt_not (pt_val (pe_call G_is_integer.F (G_is_integer.room hr) (by rfl) G_is_integer.mg G_is_integer.kp G_is_integer.b .nil pass0 (pa_cons (pv 4) pa_nil)))) (pw_or1 (pt_not (pt_chain op_le op_le pe_int (pv 4) (pe_meth (q_fld K rfl (pv 0) rfl) G_Record_length.cl G_Record_length.m G_Record_length.F (G_Record_length.room hr) G_Record_length.b .nil pass0 (pa_cons (pv 3) pa_nil)))))))
          (pss_one (ps_ret pe_bl))
          pss_nil)))
      (pss_one (ps_ret (pe_callB (q_all K rfl rfl) (by rfl) T.z_all (by decide +kernel) (pa_cons (pe_lc (own := [("name", 3), ("number", 4)]) (by rfl) sc_Order_is_cut.nd (q_zip K rfl .t .t (by rfl) T.z_zip (pa_cons (pv 2) (pa_cons (pv 1) pa_nil))) (blkOk_by (N := N_Order_is_cut) (sc := defScope s_Order_is_cut) (by decide +kernel)) (fun _ _ _ _ _ => (q_tup (n := 2) K rfl rfl (pgs_cons (pg_name (i := 3) sc_Order_is_cut.nd rfl (Or.inl rfl)) (pgs_cons (pg_name (i := 4) sc_Order_is_cut.nd rfl (Or.inl rfl)) pgs_nil)))) (fun _ _ _ _ _ => (pts_one (pt_cmpR op_gt (pv 4) pe_int (nomark _)))) (fun _ _ _ _ _ => (pe_meth (pv 0) G_Order_includes.cl G_Order_includes.m G_Order_includes.F (G_Order_includes.room hr) G_Order_includes.b .nil pass0 (pa_cons (pv 1) (pa_cons (pe_tup (pa_cons (pv 3) (pa_cons (pv 4) pa_nil))) pa_nil))))) pa_nil))))))), ?_⟩
    refine ⟨_, rfl, q, CO, dx, _, .ref r, rfl, hqo, co.cl, co.origin, rfl, r, dxr, _, rfl, hro, rfl, S, r, ns, R, rfl, g, rec, fun tn H1 htn0 htn e1 => ?_⟩
    have hc1 := e1 _ _ hc
    refine isi rfl (.base (.tup hc1)) (b := true) (by decide +kernel) ⟨true, rfl, iteF ?_⟩
    refine ⟨_, rfl, .ref tc, ns.length, rfl, .inr ⟨_, sqt hc1, (nums_len ns C).symm⟩, _, rfl, .ref tn, ns.length, rfl, .inr ⟨_, sqt htn, by simp⟩, rfl, _, rfl, ?_⟩
    rw [decide_eq_true rfl]
    refine iteF ?_
    have nl : (ns.map V.str).length = ns.length := by simp
    refine ⟨_, rfl, _, rfl, tn, tc, _, _, rfl, sqt htn, sqt hc1, for_it (walk_zipA2 (K := K) (k1 := .t) (k2 := .t) (a := tn) (b := tc) (xs := ns.map V.str) (ys := numsC ns C) rfl) (fun i σ' H2 => ∃ (v3 v4 : Option V), σ' = [some (.ref q), some (.ref tc), some (.ref tn), v3, v4] ∧ Same H1 H2 ∧ ∀ j a, j < i → ns[j]? = some a → C a ≤ (R a).length)
      ⟨none, none, rfl, Same.refl _, fun j a h => by omega⟩ (fun i σ' H2 _ h => ?_) ?_ ?_⟩
    · obtain ⟨_, _, _, e, _⟩ := h
      exact ⟨sqt (e _ _ htn), sqt (e _ _ hc1)⟩
    · rintro i x σ' H2 H3' hi ⟨v3, v4, rfl, e2, hle⟩ ⟨T', x1, y1, rfl, hT, rfl, hx1, hy1⟩
      have hin : i < ns.length := by rw [nl, nums_len] at hi; omega
      have hna : ns[i]? = some ns[i] := List.getElem?_eq_getElem hin
      cases (strs_get hna).symm.trans hx1
      cases (nums_get (C := C) hna).symm.trans hy1
      have e3 : Same H2 (upd H2 T' (.tup [.str ns[i], .int (C ns[i] : Nat)])) := same_new hT
      have hT3 : (upd H2 T' (.tup [.str ns[i], .int (C ns[i] : Nat)])) T' = some (.tup [.str ns[i], .int (C ns[i] : Nat)]) := upd_same
      generalize upd H2 T' (.tup [.str ns[i], .int (C ns[i] : Nat)]) = H3 at e3 hT3
      have e03 := (e1.trans e2).trans e3
      have ham := List.mem_of_getElem? hna
      refine ⟨T', _, rfl, sqt hT3, rfl, _, _, rfl, _, _, rfl, rfl, ?_⟩
      refine ⟨_, rfl, _, rfl, true, rfl, iteF ?_⟩
      refine ⟨_, rfl, _, _, rfl, rfl, _, rfl, ?_⟩
      rw [decide_eq_true (show (0 : Int) ≤ ((C ns[i] : Nat) : Int) by omega)]
      refine iteT ⟨_, rfl, q, CO, dx, _, .ref r, rfl, e03 _ _ hqo, co.cl, co.origin, rfl, r, dxr, _, rfl, e03 _ _ hro, rfl, _, rfl, S, r, ns, R, ns[i], rfl, g, rec.same e03, ham, fun H4 e4 => ?_⟩
      refine ⟨_, _, rfl, rfl, _, rfl, ?_⟩
      by_cases hCl : C ns[i] ≤ (R ns[i]).length
      · rw [decide_eq_true (show ((C ns[i] : Nat) : Int) ≤ (((R ns[i]).length : Nat) : Int) by omega)]
        refine iteF ⟨_, _, rfl, (e2.trans e3).trans e4, fun j a hj ha => ?_⟩
        by_cases hji : j = i
        · subst hji
          rw [hna] at ha
          cases ha
          exact hCl
        · exact hle j a (by omega) ha
      · rw [decide_eq_false (show ¬ ((C ns[i] : Nat) : Int) ≤ (((R ns[i]).length : Nat) : Int) by omega)]
        refine iteT ?_
        have h0 : cutB ns R N C = false := by
          unfold cutB inB
          rw [show (ns.all fun a => decide (C a ≤ (R a).length)) = false from Bool.eq_false_iff.mpr fun h => hCl (of_decide_eq_true (List.all_eq_true.mp h _ ham)), Bool.false_and]
        rw [← h0]
        exact k H4 (e03.trans e4)
    · rintro σ' H2 ⟨v3, v4, rfl, e2, hle⟩
      have hinb : inB ns R C = true := by
        unfold inB
        refine List.all_eq_true.mpr fun a ha => ?_
        obtain ⟨j, hj⟩ := List.mem_iff_getElem?.mp ha
        have hjl := (List.getElem?_eq_some_iff.mp hj).1
        exact decide_eq_true (hle j a (by rw [nl, nums_len]; omega) hj)
      have e02 := e1.trans e2
      have htn2 := e2 _ _ htn
      have hc2 := e2 _ _ hc1
      refine ⟨_, rfl, _, rfl, tn, tc, _, _, rfl, sqt htn2, sqt hc2, fun D hD => lc_pure (walk_zipA2 (k1 := .t) (k2 := .t) (a := tn) (b := tc) (xs := ns.map V.str) (ys := numsC ns C) rfl) hD ns (by rw [nl, nums_len]; simp) (by rw [nl, nums_len]; simp; omega) (fun b v _ => v = .bl (incB ns N C (b, C b))) (fun _ _ _ _ _ z => z) (fun b => decide (0 < C b)) (fun H' e => ⟨sqt (e _ _ htn2), sqt (e _ _ hc2)⟩) (fun _ _ _ _ y => ypair_same y) ?_ ?_⟩
      · rintro j b x H6 H5 kk hb e5 ⟨T', x1, y1, rfl, hT, rfl, hx1, hy1⟩ htk hf
        cases (strs_get hb).symm.trans hx1
        cases (nums_get (C := C) hb).symm.trans hy1
        have e6 : Same H6 (upd H6 T' (.tup [.str b, .int (C b : Nat)])) := same_new hT
        have hT6 : (upd H6 T' (.tup [.str b, .int (C b : Nat)])) T' = some (.tup [.str b, .int (C b : Nat)]) := upd_same
        generalize upd H6 T' (.tup [.str b, .int (C b : Nat)]) = H7 at e6 hT6 htk hf
        refine ⟨T', _, rfl, sqt hT6, rfl, _, _, rfl, _, _, rfl, rfl, ?_⟩
        refine ⟨rfl, _, rfl, _, _, rfl, rfl, _, rfl, ?_⟩
        by_cases q2 : 0 < C b
        · rw [show decide (((C b : Nat) : Int) > 0) = true from decide_eq_true (by omega)]
          have e07 := (e02.trans e5).trans e6
          refine iteT ⟨_, rfl, q, dx, _, rfl, e07 _ _ hqo, rfl, _, rfl, _, rfl, _, rfl, s2, fun t1 h1 => ?_⟩
          have e8 : Same H7 (upd H7 t1 (.tup [.str b, .int (C b : Nat)])) := same_new h1
          refine ⟨S', q, r, tc, ns, R, N, ws, C, .ref t1, (b, C b), rfl, n4, ord.same (e07.trans e8), (e07.trans e8) _ _ hc, ⟨t1, rfl, upd_same⟩, ⟨q2, ?_⟩, fun H9 e9 => htk _ _ (e8.trans e9) (decide_eq_true q2) rfl⟩
          obtain ⟨i, hi⟩ := List.mem_iff_getElem?.mp (List.mem_of_getElem? hb)
          exact hle i b (by rw [nl, nums_len]; have := (List.getElem?_eq_some_iff.mp hi).1; omega) hi
        · rw [show decide (((C b : Nat) : Int) > 0) = false from decide_eq_false (by omega)]
          exact iteF (hf _ (Same.refl _) (decide_eq_false q2))
      · intro ys H5 e5 hD5 hys
        have ez := plist hys
        subst ez
        refine ⟨D, _, rfl, sq (by rw [hD5, bl_map]), ?_⟩
        rw [all_map]
        have h0 : cutB ns R N C = (ns.filter fun b => decide (0 < C b)).all fun b => incB ns N C (b, C b) := by
          unfold cutB
          rw [hinb, Bool.true_and]
        rw [← h0]
        exact k H5 (e02.trans e5)
abbrev N_Order_waits : List Str := ["self"]
theorem sc_Order_waits : FnScope N_Order_waits ["self"] (defScope s_Order_waits) := ⟨rfl, rfl, rfl, by decide +kernel, rfl, by decide +kernel, by decide +kernel⟩
def sp_Order_waits (CO : Addr) : Sp := fun vs H Q _ => ∃ (S : List Addr) (q r : Addr) (ns : List Str) (R : Rec) (N : Sol) (ws : List (Id × Id)), vs = [.ref q] ∧ OrdAt S H CO q r ns R N ws ∧ ∀ t zs, H t = some (.tup zs) → Paired (IdP H) zs ws → Q (.ref t) H
theorem ok_Order_waits (T : Txt K mg) (co : COrd K CO) {f : Addr} {fd : FuncData} (F : FunD K "waits" "Order.waits" (defArgs s_Order_waits) (defBody s_Order_waits) (defScope s_Order_waits) [] [] f fd) : FnOk P w K mg base CX0 1 f fd ["self"] (sp_Order_waits CO) := by
  refine ok0 F sc_Order_waits (fun vs H Q E h => ?_) (fun cdv A outer s H vs Q E hr h => ?_)
  · obtain ⟨S, q, r, ns, R, N, ws, rfl, _⟩ := h
    rfl
  · obtain ⟨S, q, r, ns, R, N, ws, rfl, ord, k⟩ := h
    obtain ⟨dx, kt, rc, nd, zs, ids, hqo, hkt, hzs, hnd, mem, _⟩ := ord.ex
    refine ⟨_, (pss_one (ps_ret (q_fld K rfl (pv 0) rfl))), ?_⟩
    exact ⟨_, rfl, q, CO, dx, _, .ref kt, rfl, hqo, co.cl, co.kept, rfl, k kt zs hkt hzs⟩
end
end Rr

set_option Elab.async false
set_option linter.all false
set_option maxRecDepth 100000
set_option maxHeartbeats 4000000
namespace Rr
open PySem PySem.Spec PyProof.Rows L2 Xr
structure CRpl (K : PySem.W.Frag) (C : Addr) : Prop where
  cl : Cls K C
  source : NoAttr K C "source"
  order : NoAttr K C "order"
  counts : NoAttr K C "counts"
/-- a replay at p with its counts at cl -/
structure RplAt (S : List Addr) (H : Hp) (CP CO p r q cl : Addr) (ns : List Str) (R : Rec) (N : Sol) (ws : List (Id × Id)) (C : Cut) : Prop where
  ex : ∃ dx : Addr, H p = some (.ins CP dx [("source", .ref r), ("order", .ref q), ("counts", .ref cl)]) ∧ H cl = some (.lst (numsC ns C)) ∧ OrdAt S H CO q r ns R N ws
theorem RplAt.same {S : List Addr} {H H' : Hp} {CP CO p r q cl : Addr} {ns : List Str} {R : Rec} {N : Sol} {ws : List (Id × Id)} {C : Cut} (z : RplAt S H CP CO p r q cl ns R N ws C) (e : Same H H') : RplAt S H' CP CO p r q cl ns R N ws C := by
  obtain ⟨dx, h1, h2, h3⟩ := z.ex
  exact ⟨dx, e _ _ h1, e _ _ h2, h3.same e⟩
theorem OrdAt.ins {S : List Addr} {H : Hp} {CO q r : Addr} {ns : List Str} {R : Rec} {N : Sol} {ws : List (Id × Id)} (z : OrdAt S H CO q r ns R N ws) {o C1 C2 d1 d2 : Addr} {f1 f2 : List (Str × V)} (ho : H o = some (.ins C1 d1 f1)) (ne : q ≠ o) : OrdAt S (upd H o (.ins C2 d2 f2)) CO q r ns R N ws := by
  obtain ⟨dx, kt, rc, nd, zs, ids, h1, h2, h3, h4, h5, n⟩ := z.ex
  have ls := Ls.ins (C2 := C2) (d2 := d2) (f2 := f2) ho
  exact ⟨dx, kt, rc, nd, zs, ids, by rw [upd_ne ne]; exact h1, ls.t _ _ h2, L2.Paired.mapP h3 fun _ _ q => q.mono ls.t, h4.imp (fun _ h => by rw [upd_ne (ne_of h ho (fun q => nomatch q))]; exact h) (fun _ _ _ h => TupV.mono ls.t h), h5, n⟩
theorem OrdAt.lst {S : List Addr} {H : Hp} {CO q r : Addr} {ns : List Str} {R : Rec} {N : Sol} {ws : List (Id × Id)} (z : OrdAt S H CO q r ns R N ws) {l : Addr} {xs ys : List V} (hl : H l = some (.lst xs)) : OrdAt S (upd H l (.lst ys)) CO q r ns R N ws := by
  obtain ⟨dx, kt, rc, nd, zs, ids, h1, h2, h3, h4, h5, n⟩ := z.ex
  have ts : TupS H (upd H l (.lst ys)) := tups_mut hl (fun zs q => nomatch q)
  exact ⟨dx, kt, rc, nd, zs, ids, by rw [upd_ne (ne_of h1 hl (fun q => nomatch q))]; exact h1, ts _ _ h2, L2.Paired.mapP h3 fun _ _ q => q.mono ts, h4.imp (fun _ h => by rw [upd_ne (ne_of h hl (fun q => nomatch q))]; exact h) (fun _ _ _ h => TupV.mono ts h), h5, n⟩
theorem OrdAt.uniq {S : List Addr} {H : Hp} {CO q r : Addr} {ns : List Str} {R : Rec} {N M : Sol} {ws ar : List (Id × Id)} (z : OrdAt S H CO q r ns R N ws) (n : IsN R ar N) (m : IsN R ar M) : OrdAt S H CO q r ns R M ws := by
  obtain ⟨dx, kt, rc, nd, zs, ids, h1, h2, h3, h4, h5, nn⟩ := z.ex
  refine ⟨dx, kt, rc, nd, zs, ids, h1, h2, h3, h4.imp (fun _ h => h) (fun v e he h => ?_), h5, nn⟩
  have : (ns.map fun a => V.int (M e a : Nat)) = ns.map fun a => V.int (N e a : Nat) := List.map_congr_left fun a _ => by rw [IsN.uniq (fun _ => Iff.rfl) m n ((h5 e).mp he) a]
  unfold NumT
  rw [this]
  exact h
theorem OrdAt.more {S : List Addr} {H : Hp} {CO q r : Addr} {ns : List Str} {R : Rec} {N : Sol} {ws : List (Id × Id)} (z : OrdAt S H CO q r ns R N ws) {d : Addr} (h : H d = none) : OrdAt (d :: S) H CO q r ns R N ws := by
  obtain ⟨dx, kt, rc, nd, zs, ids, h1, h2, h3, h4, h5, n1, n2⟩ := z.ex
  obtain ⟨kv, h4', _⟩ := id h4.ex
  refine ⟨dx, kt, rc, nd, zs, ids, h1, h2, h3, h4, h5, fun hm => ?_, fun hm => ?_⟩
  · rcases List.mem_cons.mp hm with e | e
    · exact ne_of_none h1 h e
    · exact n1 e
  · rcases List.mem_cons.mp hm with e | e
    · exact ne_of_none h4' h e
    · exact n2 e
theorem RplAt.more {S : List Addr} {H : Hp} {CP CO p r q cl : Addr} {ns : List Str} {R : Rec} {N : Sol} {ws : List (Id × Id)} {C : Cut} (z : RplAt S H CP CO p r q cl ns R N ws C) {d : Addr} (h : H d = none) : RplAt (d :: S) H CP CO p r q cl ns R N ws C := let ⟨dx, a, b, c⟩ := z.ex; ⟨dx, a, b, c.more h⟩
theorem RplAt.lst {S : List Addr} {H : Hp} {CP CO p r q cl : Addr} {ns : List Str} {R : Rec} {N : Sol} {ws : List (Id × Id)} {C : Cut} (z : RplAt S H CP CO p r q cl ns R N ws C) {l : Addr} {xs ys : List V} (hl : H l = some (.lst xs)) (ne : cl ≠ l) : RplAt S (upd H l (.lst ys)) CP CO p r q cl ns R N ws C := by
  obtain ⟨dx, h1, h2, h3⟩ := z.ex
  exact ⟨dx, by rw [upd_ne (ne_of h1 hl (fun q => nomatch q))]; exact h1, by rw [upd_ne ne]; exact h2, h3.lst hl⟩
theorem RplAt.dT {S : List Addr} {H : Hp} {CP CO p r q cl : Addr} {ns : List Str} {R : Rec} {N : Sol} {ws : List (Id × Id)} {C : Cut} (z : RplAt S H CP CO p r q cl ns R N ws C) {d : Addr} {kv kv' : List (List Key × V)} (hd : H d = some (.dT kv)) (hS : d ∈ S) : RplAt S (upd H d (.dT kv')) CP CO p r q cl ns R N ws C := by
  obtain ⟨dx, h1, h2, h3⟩ := z.ex
  exact ⟨dx, by rw [upd_ne (ne_of h1 hd (fun q => nomatch q))]; exact h1, by rw [upd_ne (ne_of h2 hd (fun q => nomatch q))]; exact h2, h3.fx ⟨FrS.upd hS, tups_mut hd (fun zs q => nomatch q)⟩⟩
theorem RecAt.more {S : List Addr} {H : Hp} {C r : Addr} {ns : List Str} {R : Rec} (z : RecAt S H C r ns R) {l : Addr} (h : H l = none) : RecAt (l :: S) H C r ns R := by
  obtain ⟨dx, L, tb, lk, sq, kvs, xs, seq, h1, h2, h3, h4, h5, h6, h7, h8, h9, n1, n2, n3, n4⟩ := z.ex
  have key : ∀ {b : Addr} {u : HO}, H b = some u → b ∉ S → b ∉ l :: S := fun hb hn hm => by
    rcases List.mem_cons.mp hm with e | e
    · exact ne_of_none hb h e
    · exact hn e
  obtain ⟨kt, h3', _⟩ := id h3.ex
  exact ⟨dx, L, tb, lk, sq, kvs, xs, seq, h1, h2, h3, h4, h5, h6, h7, h8, h9, key h1 n1, key h3' n2, key h4 n3, key h6 n4⟩
section
variable {P : Program} {w : World} {K : PySem.W.Frag} {mg : Str → Option Value} {base : Heap} {CR CO CP : Addr}
abbrev N_Replay_init : List Str := ["self", "record", "waits", "name"]
theorem sc_Replay_init : FnScope N_Replay_init ["self", "record", "waits"] (defScope s_Replay_init) := ⟨rfl, rfl, rfl, by decide +kernel, rfl, by decide +kernel, by decide +kernel⟩
def sp_Replay_init (CR CO CP : Addr) : Sp := fun vs H Q _ => ∃ (S S0 : List Addr) (p dx r l : Addr) (ns : List Str) (R : Rec) (b : Bool) (wx : List V) (ws : List (Id × Id)) (ord : List Id), vs = [.ref p, .ref r, .ref l] ∧ H p = some (.ins CP dx []) ∧ (∀ s ∈ S0, ∃ kv : List (List Key × V), H s = some (.dT kv)) ∧ p ≠ r ∧ Good ns R ∧ RecAt S H CR r ns R ∧ (H l = some (.tup wx) ∨ (b = true ∧ H l = some (.lst wx))) ∧ Paired (WaitT H) wx ws ∧ ws.length ≤ 1000 ∧
  (∀ p ∈ ws, IsEv R p.1 ∧ IsEv R p.2 ∧ p.1.1 ≠ p.2.1) ∧ Lin R (Stp R (msgsOf ns R ++ ws)) ord ∧
  ∀ H' q cl N, RplAt S0 H' CP CO p r q cl ns R N ws (fun _ => 0) → IsN R (msgsOf ns R ++ ws) N → H cl = none → FrS [p] H H' → TupS H H' → Q .non H'
theorem ok_Replay_init (T : Txt K mg) (cp : CRpl K CP) (G_Record_names : Gm P w K mg base 1 CR "names" ["self"] (sp_Record_names CR)) (G_Order : Gk P w K mg base 8 "Order" CO ["self", "record", "waits"] (sp_Order_init K CR CO))
    {f : Addr} {fd : FuncData} {dvs : List V} (F : FunD K "__init__" "Replay.__init__" (defArgs s_Replay_init) (defBody s_Replay_init) (defScope s_Replay_init) dvs [] f fd) : FnOk P w K mg base CX0 10 f fd ["self", "record", "waits"] (sp_Replay_init CR CO CP) := by
  refine ok0 F sc_Replay_init (fun vs H Q E h => ?_) (fun cdv A outer s H vs Q E hr h => ?_)
  · obtain ⟨S, S0, p, dx, r, l, ns, R, b, wx, ws, ord, rfl, _⟩ := h
    rfl
  · obtain ⟨S, S0, p, dx, r, l, ns, R, b, wx, ws, ord, rfl, hp, hS0, npr, g, rec, hl, hwx, hwl, hws, lin, k⟩ := h
    have hu := hu_of hr
    refine ⟨_, (pss_cons (q_sfld K rfl (pv 0) (pv 1) rfl)
      (pss_cons (q_sfld K rfl (pv 0) (pe_make G_Order.M G_Order.F (G_Order.room hr) (by rfl) G_Order.mg G_Order.b .nil pass0 (pa_cons (pv 1) (pa_cons (pv 2) pa_nil))) rfl)
      (pss_one (q_sfld K rfl (pv 0) (pe_lc (own := [("name", 3)]) (by rfl) sc_Replay_init.nd (q_ptup K rfl (pe_meth0 (pv 1) G_Record_names.cl G_Record_names.m G_Record_names.F (G_Record_names.room hr) G_Record_names.b .nil pass0)) (blkOk_by (N := N_Replay_init) (sc := defScope s_Replay_init) (by decide +kernel)) (fun _ _ _ _ _ => (pg_name (i := 3) sc_Replay_init.nd rfl (Or.inl rfl))) (fun _ _ _ _ _ => pts_nil) (fun _ _ _ _ _ => pe_int)) rfl)))), ?_⟩
    have n4 := g.n4
    refine ⟨_, rfl, _, rfl, p, CP, dx, [], rfl, hp, cp.cl, cp.source, by simp, ?_⟩
    have hp1 : (upd H p (.ins CP dx (putF "source" (.ref r) []))) p = some (.ins CP dx [("source", .ref r)]) := upd_same
    have rec1 : RecAt S (upd H p (.ins CP dx (putF "source" (.ref r) []))) CR r ns R := rec.ins hp npr
    have f1 : FrS [p] H (upd H p (.ins CP dx (putF "source" (.ref r) []))) := FrS.upd (List.mem_singleton_self p)
    have ls1 : Ls H (upd H p (.ins CP dx (putF "source" (.ref r) []))) := Ls.ins hp
    generalize upd H p (.ins CP dx (putF "source" (.ref r) [])) = H1 at hp1 rec1 f1 ls1
    have hl1 : H1 l = some (.tup wx) ∨ (b = true ∧ H1 l = some (.lst wx)) := hl.imp (ls1.t _ _) (fun h => ⟨h.1, ls1.l _ _ h.2⟩)
    refine ⟨_, rfl, _, rfl, fun x dxx hx hdx hne => ?_⟩
    have hx' : (upd H1 dxx (.own x)) x = none := by rw [upd_ne hne.symm]; exact hx
    have e12 : Same H1 (upd (upd H1 dxx (.own x)) x (.ins CO dxx [])) := (same_new hdx).trans (same_new hx')
    have hxr : x ≠ r := by
      obtain ⟨_, _, _, _, _, _, _, _, h, _⟩ := rec1.ex
      exact (ne_of_none h hx).symm
    have hS1 : ∀ s ∈ S0, ∃ kv : List (List Key × V), H1 s = some (.dT kv) := fun s hs => let ⟨kv, h⟩ := hS0 s hs; ⟨kv, f1 _ _ h (by simp; exact ne_of h hp (fun z => nomatch z))⟩
    refine ⟨S, S0, x, dxx, r, l, ns, R, b, wx, ws, ord, rfl, upd_same, fun s hs => let ⟨kv, h⟩ := hS1 s hs; ⟨kv, e12 _ _ h⟩, hxr, g, rec1.same e12, hl1.imp (e12 _ _) (fun h => ⟨h.1, e12 _ _ h.2⟩), L2.Paired.mapP hwx fun _ _ z => (z.ls ls1).ls (Ls.of e12), hwl, hws, lin, fun H3 N od isn fx tx => ⟨rfl, ?_⟩⟩
    have e13 : Same H1 H3 := fun b u hb => fx b u (e12 b u hb) (by simp; exact ne_of_none hb hx)
    clear fx tx e12 hx' hdx hne
    have hp3 := e13 _ _ hp1
    have hxp : x ≠ p := (ne_of_none hp1 hx).symm
    refine ⟨_, rfl, p, CP, dx, _, rfl, hp3, cp.cl, cp.order, by simp, ?_⟩
    have hp4 : (upd H3 p (.ins CP dx (putF "order" (.ref x) [("source", .ref r)]))) p = some (.ins CP dx [("source", .ref r), ("order", .ref x)]) := upd_same
    have rec4 : RecAt S (upd H3 p (.ins CP dx (putF "order" (.ref x) [("source", .ref r)]))) CR r ns R := (rec1.same e13).ins hp3 npr
    have f4 : FrS [p] H (upd H3 p (.ins CP dx (putF "order" (.ref x) [("source", .ref r)]))) := (f1.trans (FrS.of e13)).trans (FrS.upd (List.mem_singleton_self p))
    have ts4 : TupS H (upd H3 p (.ins CP dx (putF "order" (.ref x) [("source", .ref r)]))) := tut ls1.t (tut (stups e13) (Ls.ins hp3).t)
    have od4 : OrdAt S0 (upd H3 p (.ins CP dx (putF "order" (.ref x) [("source", .ref r)]))) CO x r ns R N ws := od.ins hp3 hxp
    generalize upd H3 p (.ins CP dx (putF "order" (.ref x) [("source", .ref r)])) = H4 at hp4 rec4 f4 ts4 od4
    clear hp3 e13 od hx
    obtain ⟨dxr, _, _, _, _, _, _, _, hro, _⟩ := rec4.ex
    refine ⟨_, rfl, r, dxr, _, rfl, hro, rfl, S, r, ns, R, rfl, g, rec4, fun tn H5 htn0 htn e5 => ?_⟩
    refine ⟨tn, rfl, ⟨_, sqt htn⟩, fun D hD => lc_pure (walk_tup (K := K) (a := tn) (xs := ns.map V.str)) hD ns (by simp) (by simp; omega) (fun b v _ => v = .int 0) (fun _ _ _ _ _ z => z) (fun _ => true) (fun H' e => sqt (e _ _ htn)) (fun _ _ _ _ y => yat_same y) ?_ ?_⟩
    · rintro j b x1 H6 H7 kk hb e6 ⟨rfl, hx1⟩ htk hf
      exact ⟨rfl, htk _ _ (Same.refl _) rfl rfl⟩
    · intro ys H6 e6 hD6 hys
      rw [List.filter_eq_self.mpr (fun _ _ => rfl)] at hys
      have ez := plist (f := fun _ => V.int 0) hys
      have e46 := e5.trans e6
      have hp6 := e46 _ _ hp4
      refine ⟨_, rfl, p, CP, dx, _, rfl, hp6, cp.cl, cp.counts, by simp, ?_⟩
      have hpD : D ≠ p := ne_of hD6 hp6 (fun z => nomatch z)
      have hDH : H D = none := by
        have hD4 := same_back e5 hD
        cases hh : H D with
        | none => rfl
        | some u => rw [f4 _ _ hh (by simpa using hpD)] at hD4; cases hD4
      refine k _ x D N ⟨dx, upd_same, ?_, (od4.same e46).ins hp6 (fun z => hxp z)⟩ isn hDH ((f4.trans (FrS.of e46)).trans (FrS.upd (List.mem_singleton_self p))) (tut ts4 (tut (stups e46) (Ls.ins hp6).t))
      rw [upd_ne hpD, hD6, ez]
      rfl
abbrev N_Replay_reached : List Str := ["self"]
theorem sc_Replay_reached : FnScope N_Replay_reached ["self"] (defScope s_Replay_reached) := ⟨rfl, rfl, rfl, by decide +kernel, rfl, by decide +kernel, by decide +kernel⟩
def sp_Replay_reached (CO CP : Addr) : Sp := fun vs H Q _ => ∃ (S0 : List Addr) (p r q cl : Addr) (ns : List Str) (R : Rec) (N : Sol) (ws : List (Id × Id)) (C : Cut), vs = [.ref p] ∧ RplAt S0 H CP CO p r q cl ns R N ws C ∧ ∀ t H', H t = none → H' t = some (.tup (numsC ns C)) → Same H H' → Q (.ref t) H'
theorem ok_Replay_reached (T : Txt K mg) (cp : CRpl K CP) {f : Addr} {fd : FuncData} (F : FunD K "reached" "Replay.reached" (defArgs s_Replay_reached) (defBody s_Replay_reached) (defScope s_Replay_reached) [] [] f fd) : FnOk P w K mg base CX0 1 f fd ["self"] (sp_Replay_reached CO CP) := by
  refine ok0 F sc_Replay_reached (fun vs H Q E h => ?_) (fun cdv A outer s H vs Q E hr h => ?_)
  · obtain ⟨S0, p, r, q, cl, ns, R, N, ws, C, rfl, _⟩ := h
    rfl
  · obtain ⟨S0, p, r, q, cl, ns, R, N, ws, C, rfl, rp, k⟩ := h
    obtain ⟨dx, hp, hcl, od⟩ := rp.ex
    refine ⟨_, (pss_one (ps_ret (pe_callTy (q_tuple K rfl) (by rfl) T.z_tuple (by decide +kernel) (pa_cons (q_fld K rfl (pv 0) rfl) pa_nil)))), ?_⟩
    exact ⟨_, rfl, p, CP, dx, _, .ref cl, rfl, hp, cp.cl, cp.counts, rfl, cl, _, rfl, .inl ⟨sq hcl, fun t ht => k t _ ht upd_same (same_new ht)⟩⟩
abbrev N_Replay_is_ready : List Str := ["self", "at", "place", "count"]
theorem sc_Replay_is_ready : FnScope N_Replay_is_ready ["self", "at"] (defScope s_Replay_is_ready) := ⟨rfl, rfl, rfl, by decide +kernel, rfl, by decide +kernel, by decide +kernel⟩
def sp_Replay_is_ready (CR CO CP : Addr) : Sp := fun vs H Q _ => ∃ (S S0 : List Addr) (p r q cl : Addr) (ns : List Str) (R : Rec) (N : Sol) (ws : List (Id × Id)) (C : Cut) (i : Nat) (a : Str), vs = [.ref p, .int (i : Nat)] ∧ Good ns R ∧ RecAt S H CR r ns R ∧ RplAt S0 H CP CO p r q cl ns R N ws C ∧ ns[i]? = some a ∧ ∀ H', Same H H' → Q (.bl (cutB ns R N (bump C a))) H'
theorem ok_Replay_is_ready (T : Txt K mg) (cp : CRpl K CP) (G_Order_is_cut : Gm P w K mg base 5 CO "is_cut" ["self", "cut"] (sp_Order_is_cut CR CO)) {f : Addr} {fd : FuncData} (F : FunD K "is_ready" "Replay.is_ready" (defArgs s_Replay_is_ready) (defBody s_Replay_is_ready) (defScope s_Replay_is_ready) [] [] f fd) : FnOk P w K mg base CX0 6 f fd ["self", "at"] (sp_Replay_is_ready CR CO CP) := by
  refine ok0 F sc_Replay_is_ready (fun vs H Q E h => ?_) (fun cdv A outer s H vs Q E hr h => ?_)
  · obtain ⟨S, S0, p, r, q, cl, ns, R, N, ws, C, i, a, rfl, _⟩ := h
    rfl
  · obtain ⟨S, S0, p, r, q, cl, ns, R, N, ws, C, i, a, rfl, g, rec, rp, hia, k⟩ := h
    obtain ⟨dx, hp, hcl, od⟩ := rp.ex
    obtain ⟨dxo, _, _, _, _, _, hqo, _⟩ := od.ex
    have n4 := g.n4
    refine ⟨_, (pss_one (ps_ret (pe_meth (q_fld K rfl (pv 0) rfl) G_Order_is_cut.cl G_Order_is_cut.m G_Order_is_cut.F (G_Order_is_cut.room hr) G_Order_is_cut.b .nil pass0 (pa_cons (pe_callTy (q_tuple K rfl) (by rfl) T.z_tuple (by decide +kernel) (pa_cons (pe_lc (own := [("place", 2), ("count", 3)]) (by rfl) sc_Replay_is_ready.nd (q_enumA K rfl .l (by rfl) T.z_enumerate (pa_cons (q_fld K rfl (pv 0) rfl) pa_nil)) (blkOk_by (N := N_Replay_is_ready) (sc := defScope s_Replay_is_ready) (by decide +kernel)) (fun _ _ _ _ _ => (q_tup (n := 2) K rfl rfl (pgs_cons (pg_name (i := 2) sc_Replay_is_ready.nd rfl (Or.inl rfl)) (pgs_cons (pg_name (i := 3) sc_Replay_is_ready.nd rfl (Or.inl rfl)) pgs_nil)))) (fun _ _ _ _ _ => pts_nil) (fun _ _ _ _ _ => (pe_op op_add (pv 3) (pe_callTy call_int1 (by rfl) T.z_int (by decide +kernel) (pa_cons (pe_cmpR op_eq (pv 2) (pv 1) (nomark _)) pa_nil))))) pa_nil)) pa_nil)))), ?_⟩
    refine ⟨_, rfl, p, CP, dx, _, .ref q, rfl, hp, cp.cl, cp.order, rfl, q, dxo, _, rfl, hqo, rfl, ?_⟩
    refine ⟨_, rfl, p, CP, dx, _, .ref cl, rfl, hp, cp.cl, cp.counts, rfl, cl, _, rfl, sq hcl, fun D hD => lc_pure (walk_enumA (K := K) (k := .l) (a := cl) (k0 := 0) (xs := numsC ns C)) hD ns (by rw [nums_len]) (by rw [nums_len]; omega) (fun b v _ => v = .int (bump C a b : Nat)) (fun _ _ _ _ _ z => z) (fun _ => true) (fun H' e => sq (e _ _ hcl)) (fun _ _ _ _ y => ypair_same y) ?_ ?_⟩
    · rintro j b x H6 H5 kk hb e5 ⟨T', x1, y1, rfl, hT, rfl, hx1, hy1⟩ htk hf
      cases hx1
      cases (nums_get (C := C) hb).symm.trans hy1
      refine ⟨T', _, rfl, sqt upd_same, rfl, _, _, rfl, _, _, rfl, rfl, ?_⟩
      refine ⟨rfl, _, rfl, _, rfl, _, rfl, rfl, .inr ⟨_, rfl, _, _, rfl, rfl, htk _ _ (Same.refl _) rfl ?_⟩⟩
      have hi : i < ns.length := (List.getElem?_eq_some_iff.mp hia).1
      by_cases hji : j = i
      · subst hji
        rw [hb] at hia
        cases hia
        rw [bump_self, decide_eq_true (show V.int (0 + (j : Nat)) = V.int (j : Nat) by simp)]
        simp
      · have hba : b ≠ a := fun z => hji ((List.getElem?_inj (List.getElem?_eq_some_iff.mp hb).1 g.nd).mp (hb.trans (z ▸ hia.symm)))
        rw [bump_ne C hba, decide_eq_false (show ¬ V.int (0 + (j : Nat)) = V.int (i : Nat) by intro z; have := V.int.inj z; omega)]
        simp
    · intro ys H5 e5 hD5 hys
      rw [List.filter_eq_self.mpr (fun _ _ => rfl)] at hys
      have ez : ys = numsC ns (bump C a) := plist hys
      subst ez
      refine ⟨D, _, rfl, .inl ⟨sq hD5, fun t ht => ?_⟩⟩
      have e6 : Same H (upd H5 t (.tup (numsC ns (bump C a)))) := e5.trans (same_new ht)
      exact ⟨S, S0, q, r, t, ns, R, N, ws, bump C a, rfl, g, rec.same e6, od.same e6, upd_same, fun H' e' => k H' (e6.trans e')⟩
abbrev N_Replay_ready : List Str := ["self", "at", "name"]
theorem sc_Replay_ready : FnScope N_Replay_ready ["self"] (defScope s_Replay_ready) := ⟨rfl, rfl, rfl, by decide +kernel, rfl, by decide +kernel, by decide +kernel⟩
def rdyC (ns : List Str) (R : Rec) (N : Sol) (C : Cut) : List Str := ns.filter fun a => cutB ns R N (bump C a)
def sp_Replay_ready (CR CO CP : Addr) : Sp := fun vs H Q _ => ∃ (S S0 : List Addr) (p r q cl : Addr) (ns : List Str) (R : Rec) (N : Sol) (ws : List (Id × Id)) (C : Cut), vs = [.ref p] ∧ Good ns R ∧ RecAt S H CR r ns R ∧ RplAt S0 H CP CO p r q cl ns R N ws C ∧ ∀ l H', H l = none → H' l = some (.lst ((rdyC ns R N C).map V.str)) → Same H H' → Q (.ref l) H'
theorem ok_Replay_ready (T : Txt K mg) (cp : CRpl K CP) (G_Record_names : Gm P w K mg base 1 CR "names" ["self"] (sp_Record_names CR)) (G_Replay_is_ready : Gm P w K mg base 6 CP "is_ready" ["self", "at"] (sp_Replay_is_ready CR CO CP)) {f : Addr} {fd : FuncData} (F : FunD K "ready" "Replay.ready" (defArgs s_Replay_ready) (defBody s_Replay_ready) (defScope s_Replay_ready) [] [] f fd) : FnOk P w K mg base CX0 7 f fd ["self"] (sp_Replay_ready CR CO CP) := by
  refine ok0 F sc_Replay_ready (fun vs H Q E h => ?_) (fun cdv A outer s H vs Q E hr h => ?_)
  · obtain ⟨S, S0, p, r, q, cl, ns, R, N, ws, C, rfl, _⟩ := h
    rfl
  · obtain ⟨S, S0, p, r, q, cl, ns, R, N, ws, C, rfl, g, rec, rp, k⟩ := h
    obtain ⟨dx, hp, hcl, od⟩ := rp.ex
    obtain ⟨dxr, _, _, _, _, _, _, _, hro, _⟩ := rec.ex
    have n4 := g.n4
    refine ⟨_, (pss_one (ps_ret (pe_lc (own := [("at", 1), ("name", 2)]) (by rfl) sc_Replay_ready.nd (q_enumA K rfl .t (by rfl) T.z_enumerate (pa_cons (pe_meth0 (q_fld K rfl (pv 0) rfl) G_Record_names.cl G_Record_names.m G_Record_names.F (G_Record_names.room hr) G_Record_names.b .nil pass0) pa_nil)) (blkOk_by (N := N_Replay_ready) (sc := defScope s_Replay_ready) (by decide +kernel)) (fun _ _ _ _ _ => (q_tup (n := 2) K rfl rfl (pgs_cons (pg_name (i := 1) sc_Replay_ready.nd rfl (Or.inl rfl)) (pgs_cons (pg_name (i := 2) sc_Replay_ready.nd rfl (Or.inl rfl)) pgs_nil)))) (fun _ _ _ _ _ => (pts_one (pt_val (pe_meth (pv 0) G_Replay_is_ready.cl G_Replay_is_ready.m G_Replay_is_ready.F (G_Replay_is_ready.room hr) G_Replay_is_ready.b .nil pass0 (pa_cons (pv 1) pa_nil))))) (fun _ _ _ _ _ => (pv 2))))), ?_⟩
    refine ⟨_, rfl, p, CP, dx, _, .ref r, rfl, hp, cp.cl, cp.source, rfl, r, dxr, _, rfl, hro, rfl, S, r, ns, R, rfl, g, rec, fun tn H1 htn0 htn e1 => ?_⟩
    refine ⟨tn, _, rfl, sqt htn, fun D hD => lc_pure (walk_enumA (K := K) (k := .t) (a := tn) (k0 := 0) (xs := ns.map V.str)) hD ns (by simp) (by simp; omega) (fun b v _ => v = .str b) (fun _ _ _ _ _ z => z) (fun a => cutB ns R N (bump C a)) (fun H' e => sqt (e _ _ htn)) (fun _ _ _ _ y => ypair_same y) ?_ ?_⟩
    · rintro j b x H6 H5 kk hb e5 ⟨T', x1, y1, rfl, hT, rfl, hx1, hy1⟩ htk hf
      cases hx1
      cases (strs_get hb).symm.trans hy1
      have e6 : Same H6 (upd H6 T' (.tup [.int (0 + (j : Nat)), .str b])) := same_new hT
      have hT6 : (upd H6 T' (.tup [.int (0 + (j : Nat)), .str b])) T' = some (.tup [.int (0 + (j : Nat)), .str b]) := upd_same
      generalize upd H6 T' (.tup [.int (0 + (j : Nat)), .str b]) = H7 at e6 hT6 htk hf
      refine ⟨T', _, rfl, sqt hT6, rfl, _, _, rfl, _, _, rfl, rfl, ?_⟩
      have e07 := (e1.trans e5).trans e6
      refine ⟨rfl, _, rfl, p, dx, _, rfl, e07 _ _ hp, rfl, _, rfl, S, S0, p, r, q, cl, ns, R, N, ws, C, j, b, by simp, g, rec.same e07, rp.same e07, hb, fun H8 e8 => ⟨_, rfl, ?_⟩⟩
      cases hcb : cutB ns R N (bump C b) with
      | true => exact iteT ⟨_, rfl, htk _ _ e8 hcb rfl⟩
      | false => exact iteF (hf _ e8 hcb)
    · intro ys H5 e5 hD5 hys
      have ez := plist hys
      subst ez
      exact k D H5 (same_back e1 hD) hD5 (e1.trans e5)
end
end Rr

set_option Elab.async false
set_option linter.all false
set_option maxRecDepth 100000
set_option maxHeartbeats 4000000
namespace Rr
open PySem PySem.Spec PyProof.Rows L2 Xr
/-! a tuple whose object is known: its methods -/
def rTupF (K : PySem.W.Frag) : List V → Hp → VK → Prop := fun xs H Q => ∃ p ys, xs = [.ref p] ∧ SqL K H p ys ∧ ∀ t o, H t = none → o.cls = .type "tuple" → o.dict = none → Q (.ref t) (upd H t (.frz o (.tup ys)))
theorem call_tuple_frz {X : Cx} : CallR X (.type "tuple") (rTupF X.K) := by
  intro pins s σ H xs us Q I r h
  obtain ⟨p, ys, rfl, hq, q⟩ := h
  obtain ⟨u, rfl, rx⟩ := vals1 r
  cases rx
  obtain ⟨its, r', pl, hz⟩ := I.list hq
  have hlen := r'.length
  refine call_tuple_list pl.isList (fun h' kp => ?_) (by simp only [List.size_toArray] <;> omega)
  have I1 : Inv X pins σ H { s with heap := h' } := I.kept (t' := s.toks) kp
  have ho : (h'.push { cls := .type "tuple", data := .seq its.toArray }).get? h'.objs.size = some { cls := .type "tuple", data := .seq its.toArray } := Heap.get?_push_size h' rfl
  have I2 : Inv X pins σ (upd H h'.objs.size (.frz { cls := .type "tuple", data := .seq its.toArray } (.tup ys))) { s with heap := h'.push { cls := .type "tuple", data := .seq its.toArray } } :=
    I1.laid (t' := s.toks) (fun b o e => Heap.get?_push_of_some _ e) (Nat.le_refl _) (show ObjOk X.prog X.w _ _ _ (.frz _ (.tup ys)) from ⟨ho, hz, its, r', IsTup.new _ _⟩)
  exact ⟨.ref h'.objs.size, _, I2, rfl, q _ _ (I1.hok.fresh (Nat.le_refl _)) rfl rfl⟩
theorem q_tupleF {X : Cx} (K : PySem.W.Frag) (hK : X.K = K) : CallR X (.type "tuple") (rTupF K) := hK ▸ call_tuple_frz
def tBMF (r : V → List V → Hp → VK → Prop) (to : TE) (t : TA) : TE := fun σ H Q => to σ H fun x H1 => (∃ p o xs, x = .ref p ∧ H1 p = some (.frz o (.tup xs)) ∧ o.cls = .type "tuple" ∧ o.dict = none) ∧ t σ H1 fun xs H2 => r x xs H2 Q
theorem pe_bmF {X : Cx} {o e : Expr} {es : List Expr} {to : TE} {t : TA} {name : Str} {apos cpos : Pos} {id : String} {r : V → List V → Hp → VK → Prop} (pa : PlainAttrs "tuple") (slot : Slot "tuple" name id) (hty : typeOf (.builtin id) = pure (.type "method_descriptor")) (hm : MtR X id r) (ho : PE X o to) (ha : PA X (e :: es) t)
    (hbase : attributeBase o name X.env (eval o X.env) = eval o X.env := by rfl)
    (hfew : ((backTo cpos (starEach (e :: es) X.env)).all (fun x => !x.1) && (backToKw cpos (keywordEach [] X.env)).all (fun x => x.1.isSome)
      && decide ((e :: es).length + ([] : List Keyword).length + (if ([] : List Keyword).isEmpty then 0 else 1) < 30)) = true := by rfl)
    (hline : (apos.endLine == cpos.line) = true := by rfl) (hs : starEach (e :: es) X.env = (false, eval e X.env) :: starEach es X.env := by rfl) (hplain : (backTo cpos (starEach es X.env)).any (·.1) = false := by rfl) :
    PE X (.Call (.Attribute o name apos) (e :: es) [] cpos) (tBMF r to t) := by
  refine ⟨fun pins s σ H Q I h => ?_⟩
  refine wpAny_Call_method_late hbase hfew hline rfl (thn (ho.run pins s σ H _ I h) fun v s1 ⟨x, H1, I1, r1, ⟨p, ob, xs, ex, hp, hc, hd⟩, q1⟩ => ?_)
  subst ex
  cases r1
  have hg : s1.heap.get? p = some ob := (I1.hok p _ hp).1
  refine ⟨"tuple", id, pa, slot, hty, ⟨ob, hg, hc⟩, fun a e => by cases e; exact ⟨ob, hg, hd⟩, ?_⟩
  have hA := ha.run cpos pins s1 σ H1 _ I1 q1
  rw [hs] at hA ⊢
  refine Calls.callWith_builtin (by show (false || (backTo cpos (starEach es X.env)).any (·.1)) = false; rw [hplain] <;> rfl) (Calls.evalArgs_plain ?_)
  exact thn hA fun us s2 ⟨vs, H2, I2, r2, q2⟩ => hm pins s2 σ H2 (.ref p) vs (.ref p) us Q I2 rfl r2 q2
theorem sqtF {K : PySem.W.Frag} {H : Hp} {a : Addr} {xs : List V} {o : Obj} (h : H a = some (.frz o (.tup xs))) : SqT K H a xs := .inl (.inr ⟨o, h⟩)
theorem cutB_le {ns : List Str} {R : Rec} {N : Sol} {C : Cut} (h : cutB ns R N C = true) {a : Str} (ha : a ∈ ns) : C a ≤ (R a).length := by
  unfold cutB inB at h
  exact of_decide_eq_true (List.all_eq_true.mp (Bool.and_eq_true_iff.mp h).1 a ha)
section
variable {P : Program} {w : World} {K : PySem.W.Frag} {mg : Str → Option Value} {base : Heap} {CR CO CP : Addr}
/-- names, the object known -/
def sp_Record_namesF (CR : Addr) : Sp := fun vs H Q _ => ∃ (S : List Addr) (r : Addr) (ns : List Str) (R : Rec), vs = [.ref r] ∧ Good ns R ∧ RecAt S H CR r ns R ∧ ∀ t o H', H t = none → H' t = some (.frz o (.tup (ns.map V.str))) → o.cls = .type "tuple" → o.dict = none → Same H H' → Q (.ref t) H'
theorem ok_Record_namesF (T : Txt K mg) (cr : CRec K CR) {f : Addr} {fd : FuncData} (F : FunD K "names" "Record.names" (defArgs s_Record_names) (defBody s_Record_names) (defScope s_Record_names) [] [] f fd) : FnOk P w K mg base CX0 1 f fd ["self"] (sp_Record_namesF CR) := by
  refine ok0 F sc_Record_names (fun vs H Q E h => ?_) (fun cdv A outer s H vs Q E hr h => ?_)
  · obtain ⟨S, r, ns, R, rfl, _⟩ := h
    rfl
  · obtain ⟨S, r, ns, R, rfl, g, rec, k⟩ := h
    obtain ⟨dx, L, tb, lk, sq, kvs, qs, seq, hro, ⟨xs, hL, hxs⟩, _⟩ := rec.ex
    refine ⟨_, (pss_one (ps_ret (pe_callTy (q_tupleF K rfl) (by rfl) T.z_tuple (by decide +kernel) (pa_cons (pe_lc (own := [("name", 1), ("events", 2)]) (by rfl) sc_Record_names.nd (q_ptup K rfl (q_fld K rfl (pv 0) rfl)) (blkOk_by (N := N_Record_names) (sc := defScope s_Record_names) (by decide +kernel)) (fun _ _ _ _ _ => (q_tup (n := 2) K rfl rfl (pgs_cons (pg_name (i := 1) sc_Record_names.nd rfl (Or.inl rfl)) (pgs_cons (pg_name (i := 2) sc_Record_names.nd rfl (Or.inl rfl)) pgs_nil)))) (fun _ _ _ _ _ => pts_nil) (fun _ _ _ _ _ => (pv 1))) pa_nil)))), ?_⟩
    have nlen : xs.length = ns.length := by rw [plen hxs, rows_len]
    have n4 := g.n4
    refine ⟨_, rfl, r, CR, dx, _, .ref L, rfl, hro, cr.cl, cr.rows, rfl, L, rfl, ⟨_, sqt hL⟩, fun D hD => lc_pure (walk_tup (K := K) (a := L) (xs := xs)) hD ns nlen.symm (by omega) (fun b v _ => v = .str b) (fun _ _ _ _ _ z => z) (fun _ => true) (fun H' e => sqt (e _ _ hL)) (fun _ _ _ _ y => yat_same y) ?_ ?_⟩
    · rintro i b x H1 H2 kk hb e ⟨rfl, hx⟩ ht hf
      obtain ⟨a, t, y, z, es, hna, rfl, ht', rfl, hz, hes⟩ := row_at hxs hx
      have : a = b := by
        rw [hna] at hb
        exact Option.some.inj hb
      subst this
      exact ⟨t, _, rfl, sqt (e _ _ ht'), rfl, _, _, rfl, _, _, rfl, rfl, rfl, _, rfl, ht _ _ (Same.refl _) rfl rfl⟩
    · intro ys H1 e1 hD1 hys
      rw [List.filter_eq_self.mpr (fun _ _ => rfl)] at hys
      have ey := plist hys
      subst ey
      exact ⟨D, _, rfl, Rr.sq hD1, fun t o ht h1 h2 => k t o _ (same_back e1 ht) upd_same h1 h2 (e1.trans (same_new ht))⟩
abbrev N_Replay_step : List Str := ["self", "name", "names", "at"]
theorem sc_Replay_step : FnScope N_Replay_step ["self", "name"] (defScope s_Replay_step) := ⟨rfl, rfl, rfl, by decide +kernel, rfl, by decide +kernel, by decide +kernel⟩
def sp_Replay_step (CR CO CP : Addr) : Sp := fun vs H Q _ => ∃ (S S0 : List Addr) (p r q cl : Addr) (ns : List Str) (R : Rec) (N : Sol) (ws : List (Id × Id)) (C : Cut) (a : Str), vs = [.ref p, .str a] ∧ Good ns R ∧ cl ∈ S ∧ RecAt S H CR r ns R ∧ RplAt S0 H CP CO p r q cl ns R N ws C ∧ a ∈ ns ∧ cutB ns R N (bump C a) = true ∧
  ∀ v H' ev, (R a)[C a]? = some ev → EvV H' v ev → RplAt S0 H' CP CO p r q cl ns R N ws (bump C a) → FrS [cl] H H' → TupS H H' → Q v H'
theorem ok_Replay_step (T : Txt K mg) (cp : CRpl K CP) (G_Record_names : Gm P w K mg base 1 CR "names" ["self"] (sp_Record_namesF CR)) (G_Replay_is_ready : Gm P w K mg base 6 CP "is_ready" ["self", "at"] (sp_Replay_is_ready CR CO CP)) (G_Record_events : Gm P w K mg base 3 CR "events" ["self", "name"] (sp_Record_events CR)) {f : Addr} {fd : FuncData} (F : FunD K "step" "Replay.step" (defArgs s_Replay_step) (defBody s_Replay_step) (defScope s_Replay_step) [] [] f fd) : FnOk P w K mg base CX0 7 f fd ["self", "name"] (sp_Replay_step CR CO CP) := by
  refine ok0 F sc_Replay_step (fun vs H Q E h => ?_) (fun cdv A outer s H vs Q E hr h => ?_)
  · obtain ⟨S, S0, p, r, q, cl, ns, R, N, ws, C, a, rfl, _⟩ := h
    rfl
  · obtain ⟨S, S0, p, r, q, cl, ns, R, N, ws, C, a, rfl, g, hclS, rec, rp, ha, hcut, k⟩ := h
    have hu := hu_of hr
    obtain ⟨dx, hp, hcl, od⟩ := rp.ex
    obtain ⟨dxr, _, _, _, _, _, _, _, hro, _⟩ := rec.ex
    have n4 := g.n4
    have hle := cutB_le hcut ha
    rw [bump_self] at hle
    have hev : (R a)[C a]? = some (R a)[C a] := List.getElem?_eq_getElem (by omega)
    obtain ⟨i, hi⟩ := List.mem_iff_getElem?.mp ha
    refine ⟨_, (pss_cons (ps_set (i := 2) sc_Replay_step.nd rfl (Or.inl rfl) (pe_meth0 (q_fld K rfl (pv 0) rfl) G_Record_names.cl G_Record_names.m G_Record_names.F (G_Record_names.room hr) G_Record_names.b .nil pass0))
      (pss_cons (ps_if (pt_cmpR (q_notIn K rfl) (pv 1) (pv 2) (by rfl))
        (pss_one ps_never)
        pss_nil)
      (pss_cons (ps_set (i := 3) sc_Replay_step.nd rfl (Or.inl rfl) (pe_bmF PySem.F.plainAttrs_tuple PySem.F.slot_tuple_index PySem.F.type_tuple_index (q_tupIx K rfl) (pv 2) (pa_cons (pv 1) pa_nil)))
      (pss_cons (ps_if (pt_not (pt_val (pe_meth (pv 0) G_Replay_is_ready.cl G_Replay_is_ready.m G_Replay_is_ready.F (G_Replay_is_ready.room hr) G_Replay_is_ready.b .nil pass0 (pa_cons (pv 3) pa_nil))))
        (pss_one ps_never)
        pss_nil)
      (pss_cons (ps_augS (q_fld K rfl (pv 0) rfl) (pv 3) (q_get K rfl) pe_int ip_add set_list)
      (pss_one (ps_ret (pe_ix (q_ixt K rfl) (pe_meth (q_fld K rfl (pv 0) rfl) G_Record_events.cl G_Record_events.m G_Record_events.F (G_Record_events.room hr) G_Record_events.b .nil pass0 (pa_cons (pv 1) pa_nil)) (pe_op op_sub (pe_ix (q_ixl K rfl) (q_fld K rfl (pv 0) rfl) (pv 3) (fun _ _ => rfl)) pe_int) (fun _ _ => rfl))))))))), ?_⟩
    refine ⟨_, rfl, p, CP, dx, _, .ref r, rfl, hp, cp.cl, cp.source, rfl, r, dxr, _, rfl, hro, rfl, S, r, ns, R, rfl, g, rec, fun tn on H1 htn0 htn htc htd e1 => ?_⟩
    refine ⟨_, rfl, _, rfl, tn, _, rfl, .inr (sqtF htn), rfl, flatStrs ns, ?_⟩
    rw [if_pos rfl, inV_strs, decide_eq_true ha]
    refine ⟨_, rfl, iteF ?_⟩
    refine ⟨_, rfl, ⟨tn, on, _, rfl, htn, htc, htd⟩, _, rfl, tn, ns, a, i, rfl, rfl, sqtF htn, hi, fun m hm z => ?_, ?_⟩
    · have := (List.getElem?_inj (List.getElem?_eq_some_iff.mp z).1 g.nd).mp (z.trans hi.symm)
      omega
    refine ⟨_, rfl, p, dx, _, rfl, e1 _ _ hp, rfl, _, rfl, S, S0, p, r, q, cl, ns, R, N, ws, C, i, a, rfl, g, rec.same e1, rp.same e1, hi, fun H2 e2 => ⟨_, rfl, ?_⟩⟩
    rw [hcut]
    refine iteF ?_
    have e02 := e1.trans e2
    have hil : i < ns.length := (List.getElem?_eq_some_iff.mp hi).1
    have hcl2 := e02 _ _ hcl
    refine ⟨_, rfl, p, CP, dx, _, .ref cl, rfl, e02 _ _ hp, cp.cl, cp.counts, rfl, _, rfl, cl, _, i, .int (C a : Nat), rfl, rfl, sq hcl2, atI_nat (nums_get hi), _, _, rfl, rfl, cl, _, i, i, rfl, rfl, hcl2, ixN_at (by rw [nums_len]; exact hil), ?_⟩
    rw [set_bump g.nd hi]
    have ts3 : TupS H2 (upd H2 cl (.lst (numsC ns (bump C a)))) := tups_mut hcl2 (fun zs z => nomatch z)
    have fx3 : Fx S H (upd H2 cl (.lst (numsC ns (bump C a)))) := (Fx.of e02).trans ⟨FrS.upd hclS, ts3⟩
    have f3 : FrS [cl] H (upd H2 cl (.lst (numsC ns (bump C a)))) := (FrS.of e02).trans (FrS.upd (List.mem_singleton_self cl))
    have hp3 : (upd H2 cl (.lst (numsC ns (bump C a)))) p = some (.ins CP dx [("source", .ref r), ("order", .ref q), ("counts", .ref cl)]) := by
      rw [upd_ne (ne_of (e02 _ _ hp) hcl2 (fun z => nomatch z))]
      exact e02 _ _ hp
    have hro3 : (upd H2 cl (.lst (numsC ns (bump C a)))) r = _ := (upd_ne (ne_of (e02 _ _ hro) hcl2 (fun z => nomatch z))).trans (e02 _ _ hro)
    have od3 : OrdAt S0 (upd H2 cl (.lst (numsC ns (bump C a)))) CO q r ns R N ws := (od.same e02).lst hcl2
    have hcl3 : (upd H2 cl (.lst (numsC ns (bump C a)))) cl = some (.lst (numsC ns (bump C a))) := upd_same
    have rec3 := rec.fx fx3
    generalize upd H2 cl (.lst (numsC ns (bump C a))) = H3 at fx3 f3 hp3 hro3 od3 hcl3 rec3
    refine ⟨_, rfl, p, CP, dx, _, .ref r, rfl, hp3, cp.cl, cp.source, rfl, r, dxr, _, rfl, hro3, rfl, _, rfl, S, r, ns, R, a, rfl, g, rec3, ha, fun v H4 hv e4 => ?_⟩
    obtain ⟨es, ⟨z, rfl, hz⟩, hes⟩ := hv
    obtain ⟨x, hx, hxe⟩ := pget' hes hev
    have hn : ((bump C a a : Nat) : Int) - 1 = ((C a : Nat) : Int) := by rw [bump_self]; omega
    refine ⟨_, rfl, p, CP, dx, _, .ref cl, rfl, e4 _ _ hp3, cp.cl, cp.counts, rfl, _, rfl, cl, _, i, .int (bump C a a : Nat), rfl, rfl, sq (e4 _ _ hcl3), atI_nat (nums_get hi), _, _, rfl, rfl, ?_⟩
    exact ⟨z, _, ((bump C a a : Nat) : Int) - 1, x, rfl, rfl, sqt hz, by rw [hn]; exact atI_nat hx, k x H4 _ hev hxe ⟨dx, e4 _ _ hp3, e4 _ _ hcl3, od3.same e4⟩ (f3.trans (FrS.of e4)) (tut fx3.t (stups e4))⟩
abbrev N_Replay_copy : List Str := ["self", "other"]
theorem sc_Replay_copy : FnScope N_Replay_copy ["self"] (defScope s_Replay_copy) := ⟨rfl, rfl, rfl, by decide +kernel, rfl, by decide +kernel, by decide +kernel⟩
def sp_Replay_copy (CR CO CP : Addr) : Sp := fun vs H Q _ => ∃ (S S0 S1 : List Addr) (p r q cl : Addr) (ns : List Str) (R : Rec) (N : Sol) (ws : List (Id × Id)) (C : Cut) (ord : List Id), vs = [.ref p] ∧ (∀ s ∈ S1, ∃ kv : List (List Key × V), H s = some (.dT kv)) ∧ Good ns R ∧ RecAt S H CR r ns R ∧ RplAt S0 H CP CO p r q cl ns R N ws C ∧ IsN R (msgsOf ns R ++ ws) N ∧ ws.length ≤ 1000 ∧
  (∀ p ∈ ws, IsEv R p.1 ∧ IsEv R p.2 ∧ p.1.1 ≠ p.2.1) ∧ Lin R (Stp R (msgsOf ns R ++ ws)) ord ∧ ∀ x q' cl' H', H x = none → H cl' = none → RplAt S1 H' CP CO x r q' cl' ns R N ws C → Same H H' → Q (.ref x) H'
theorem ok_Replay_copy (T : Txt K mg) (cp : CRpl K CP) (G_Order_waits : Gm P w K mg base 1 CO "waits" ["self"] (sp_Order_waits CO)) (G_Replay : Gk P w K mg base 10 "Replay" CP ["self", "record", "waits"] (sp_Replay_init CR CO CP)) {f : Addr} {fd : FuncData} (F : FunD K "copy" "Replay.copy" (defArgs s_Replay_copy) (defBody s_Replay_copy) (defScope s_Replay_copy) [] [] f fd) : FnOk P w K mg base CX0 12 f fd ["self"] (sp_Replay_copy CR CO CP) := by
  refine ok0 F sc_Replay_copy (fun vs H Q E h => ?_) (fun cdv A outer s H vs Q E hr h => ?_)
  · obtain ⟨S, S0, S1, p, r, q, cl, ns, R, N, ws, C, ord, rfl, _⟩ := h
    rfl
  · obtain ⟨S, S0, S1, p, r, q, cl, ns, R, N, ws, C, ord, rfl, hS1, g, rec, rp, isn, hwl, hws, lin, k⟩ := h
    have hu := hu_of hr
    obtain ⟨dx, hp, hcl, od⟩ := rp.ex
    obtain ⟨dxo, _, _, _, _, _, hqo, _⟩ := od.ex
    obtain ⟨dxr, _, _, _, _, _, _, _, hro, _⟩ := rec.ex
    refine ⟨_, (pss_cons (ps_set (i := 1) sc_Replay_copy.nd rfl (Or.inl rfl) (pe_make G_Replay.M G_Replay.F (G_Replay.room hr) (by rfl) G_Replay.mg G_Replay.b .nil pass0 (pa_cons (q_fld K rfl (pv 0) rfl) (pa_cons (pe_meth0 (q_fld K rfl (pv 0) rfl) G_Order_waits.cl G_Order_waits.m G_Order_waits.F (G_Order_waits.room hr) G_Order_waits.b .nil pass0) pa_nil))))
      (pss_cons (q_sfld K rfl (pv 1) (pe_callTy (q_list K rfl) (by rfl) T.z_list (by decide +kernel) (pa_cons (q_fld K rfl (pv 0) rfl) pa_nil)) rfl)
      (pss_one (ps_ret (pv 1))))), ?_⟩
    refine ⟨_, rfl, p, CP, dx, _, .ref r, rfl, hp, cp.cl, cp.source, rfl, _, rfl, p, CP, dx, _, .ref q, rfl, hp, cp.cl, cp.order, rfl, q, dxo, _, rfl, hqo, rfl, S0, q, r, ns, R, N, ws, rfl, od, fun t zs ht hz => ?_⟩
    intro x dxx hx hdx hne
    have hx' : (upd H dxx (.own x)) x = none := by rw [upd_ne hne.symm]; exact hx
    have e12 : Same H (upd (upd H dxx (.own x)) x (.ins CP dxx [])) := (same_new hdx).trans (same_new hx')
    refine ⟨S, S1, x, dxx, r, t, ns, R, false, zs, ws, ord, rfl, upd_same, fun s hs => let ⟨kv, h⟩ := hS1 s hs; ⟨kv, e12 _ _ h⟩, (ne_of_none hro hx).symm, g, rec.same e12, .inl (e12 _ _ ht), L2.Paired.mapP hz fun _ _ z => (z.tr (k := true)).ls (Ls.of e12), hwl, hws, lin, fun H3 q' cl' N' rp' isn' hcl0 fx tx => ⟨rfl, ?_⟩⟩
    have e3 : Same H H3 := fun b u hb => fx b u (e12 b u hb) (by simp; exact ne_of_none hb hx)
    obtain ⟨dx', hx3, hcl3, od'⟩ := rp'.ex
    refine ⟨_, rfl, p, CP, dx, _, .ref cl, rfl, e3 _ _ hp, cp.cl, cp.counts, rfl, cl, _, rfl, .inl (sq (e3 _ _ hcl)), fun l hl => ?_⟩
    have e4 : Same H3 (upd H3 l (.lst (numsC ns C))) := same_new hl
    have hl4 : (upd H3 l (.lst (numsC ns C))) l = some (.lst (numsC ns C)) := upd_same
    generalize upd H3 l (.lst (numsC ns C)) = H4 at e4 hl4
    have hx4 := e4 _ _ hx3
    refine ⟨_, rfl, x, CP, dx', _, rfl, hx4, cp.cl, cp.counts, by simp, ?_⟩
    have hqx : q' ≠ x := by
      intro z
      obtain ⟨_, _, _, _, _, _, hq', _⟩ := od'.ex
      rw [z, hx3] at hq'
      simp at hq'
    refine ⟨_, rfl, k x q' l _ hx (same_back e3 hl) ⟨dx', upd_same, ?_, ((od'.same e4).uniq isn' isn).ins hx4 hqx⟩ (same_mut (e3.trans e4) hx)⟩
    rw [upd_ne (ne_of hl4 hx4 (fun z => nomatch z))]
    exact hl4
end
end Rr

set_option Elab.async false
set_option linter.all false
set_option maxRecDepth 100000
set_option maxHeartbeats 4000000
namespace Rr
open PySem PySem.Spec PyProof.Rows L2 Xr
/-! ### own exceptions -/
/-- what the head tells of an own exception class with one field -/
structure ExC (K : PySem.W.Frag) (mg : Str → Option Value) (x : Str) (C : Addr) (fld : Str) : Prop where
  oex : OexC K C
  xf : XfC K C
  mg : mg x = some (.ref C)
  no : PySem.W.findIn K (.ref C) fld = some none
/-- such an exception's dict -/
def Xd (H : Hp) (d : Option Addr) (fld : Str) (v : V) : Prop := ∃ dd, d = some dd ∧ H dd = some (.xd [(fld, v)])
theorem Xd.same {H H' : Hp} {d : Option Addr} {fld : Str} {v : V} (e : Same H H') (h : Xd H d fld v) : Xd H' d fld v := let ⟨dd, a, b⟩ := h; ⟨dd, a, e _ _ b⟩
def sp_ExI (C : Addr) (fld : Str) : Sp := fun vs H Q _ => ∃ (a : Addr) (v : V) (t : Tr), vs = [.ref a, v] ∧ H a = some (exo a C none) ∧ TrV true H 3 v t ∧
  ∀ v' H1 dx, Same H H1 → TrV false H1 3 v' t → H1 dx = none → dx ≠ a → Q .non (upd (upd H1 dx (exd dx [(fld, v')])) a (exo a C (some dx)))
structure Gx (P : Program) (w : World) (K : PySem.W.Frag) (mg : Str → Option Value) (base : Heap) (k : Nat) (x : Str) (C : Addr) (fld : Str) where
  f : Addr
  fd : FuncData
  F : FnOk P w K mg base CX0 k f fd ["self", fld] (sp_ExI C fld)
  xc : ExC K mg x C fld
  ini : PySem.W.findIn K (.ref C) "__init__" = some (some (.ref f))
  ty : PySem.W.typeIn K (.ref f) = some (.type "function")
  b : Binds K fd ["self", fld] []
theorem Gx.room {P : Program} {w : World} {K : PySem.W.Frag} {mg : Str → Option Value} {base : Heap} {k n : Nat} {x : Str} {C : Addr} {fld : Str} {A : Around} (_ : Gx P w K mg base k x C fld) (hr : Room n A) (h : k + 1 ≤ n := by first | decide | exact Nat.le_refl _) : Room (k + 1) A := hr.mono h
/-- the reading of raise X(e) -/
theorem exc_made {C : Addr} {fld : Str} {v : V} {t : Tr} {H : Hp} {Q : XK} (hv : TrV true H 3 v t) (k : ∀ d v' H', Same H H' → Xd H' d fld v' → TrV false H' 3 v' t → Q (.ref C) d H') :
    ∀ a, H a = none → sp_ExI C fld [.ref a, v] (upd H a (exo a C none)) (fun u H2 => u = .non ∧ ∃ (d : Addr) (fs : List (Str × V)), H2 a = some (exo a C (some d)) ∧ H2 d = some (exd d fs) ∧ H d = none ∧ Q (.ref C) (some d) (upd (del H2 a) d (.xd fs))) (fun _ _ _ => False) := by
  intro a ha
  have e0 : Same H (upd H a (exo a C none)) := same_new ha
  refine ⟨a, v, t, rfl, upd_same, hv.ls (Ls.of e0), fun v' H1 dx e1 hv' hdx hne => ⟨rfl, dx, _, upd_same, by rw [upd_ne hne]; exact upd_same, ?_, ?_⟩⟩
  · cases hh : H dx with
    | none => rfl
    | some u => rw [e1 _ _ (e0 _ _ hh)] at hdx; cases hdx
  · have na : ∀ {b : Addr} {u : HO}, H b = some u → b ≠ a := fun hb z => by rw [z, ha] at hb; cases hb
    have eq : ∀ b, b ≠ a → b ≠ dx → (upd (del (upd (upd H1 dx (exd dx [(fld, v')])) a (exo a C (some dx))) a) dx (.xd [(fld, v')])) b = H1 b := fun b h1 h2 => by rw [upd_ne h2, del_ne h1, upd_ne h1, upd_ne h2]
    refine k _ v' _ (fun b u hb => ?_) ⟨dx, rfl, upd_same⟩ (hv'.tups fun b xs hb => ?_)
    · have h1 := e1 _ _ (e0 _ _ hb)
      rw [eq b (na hb) (fun z => by rw [z, hdx] at h1; cases h1)]
      exact h1
    · have hba : b ≠ a := fun z => by
        have := e1 a _ (upd_same (H := H) (a := a) (o := exo a C none))
        rw [z, this] at hb
        exact absurd (Option.some.inj hb) exo_tup
      rw [eq b hba (fun z => by rw [z, hdx] at hb; cases hb)]
      exact hb
section
variable {P : Program} {w : World} {K : PySem.W.Frag} {mg : Str → Option Value} {base : Heap}
abbrev N_UnknownProcess_init : List Str := ["self", "name"]
theorem sc_UnknownProcess_init : ScS N_UnknownProcess_init ["self", "name"] (defArgs s_UnknownProcess_init) (defScope s_UnknownProcess_init) := ⟨rfl, rfl, rfl, by decide +kernel, rfl, by decide +kernel, by decide +kernel, by decide +kernel, rfl, rfl, ⟨_, _, rfl, rfl⟩⟩
theorem ok_UnknownProcess_init {C : Addr} (hs : mg "super" = none) (c : ExC K mg "UnknownProcess" C "name") (G_frozen : Gf P w K mg base 4 "frozen" ["thing"] (sp_frozen 4)) {f : Addr} {fd : FuncData} (F : FunS P K "UnknownProcess.__init__" (defArgs s_UnknownProcess_init) (defBody s_UnknownProcess_init) (defScope s_UnknownProcess_init) C f fd) :
    FnOk P w K mg base CX0 5 f fd ["self", "name"] (sp_ExI C "name") := by
  refine FunS.ok F c.oex sc_UnknownProcess_init hs (fun vs H Q E h => ?_) (pl := fun _ => _) (fun _ => rfl) (fun _ => rfl) (fun _ => rfl) (fun cda cc A outer s H vs Q E hr h => ?_)
  · obtain ⟨a, v, t, rfl, _⟩ := h
    rfl
  · obtain ⟨a, v, t, rfl, ha, hv, k⟩ := h
    refine ⟨_, _, pa_cons (pv 1) pa_nil, pss_one (ps_ost (pv 0) (pe_call G_frozen.F (G_frozen.room hr) (by rfl) G_frozen.mg G_frozen.kp G_frozen.b .nil pass0 (pa_cons (pv 1) pa_nil))), a, rfl, ha, ?_⟩
    refine ⟨_, rfl, by simp, ha, _, rfl, v, t, rfl, hv, fun v' H1 e1 hv' => ⟨_, rfl, a, C, rfl, c.oex, c.no, .inl ⟨e1 _ _ ha, fun dx hdx hne => k v' H1 dx e1 hv' hdx hne⟩⟩⟩
abbrev N_NotReady_init : List Str := ["self", "name"]
theorem sc_NotReady_init : ScS N_NotReady_init ["self", "name"] (defArgs s_NotReady_init) (defScope s_NotReady_init) := ⟨rfl, rfl, rfl, by decide +kernel, rfl, by decide +kernel, by decide +kernel, by decide +kernel, rfl, rfl, ⟨_, _, rfl, rfl⟩⟩
theorem ok_NotReady_init {C : Addr} (hs : mg "super" = none) (c : ExC K mg "NotReady" C "name") (G_frozen : Gf P w K mg base 4 "frozen" ["thing"] (sp_frozen 4)) {f : Addr} {fd : FuncData} (F : FunS P K "NotReady.__init__" (defArgs s_NotReady_init) (defBody s_NotReady_init) (defScope s_NotReady_init) C f fd) :
    FnOk P w K mg base CX0 5 f fd ["self", "name"] (sp_ExI C "name") := by
  refine FunS.ok F c.oex sc_NotReady_init hs (fun vs H Q E h => ?_) (pl := fun _ => _) (fun _ => rfl) (fun _ => rfl) (fun _ => rfl) (fun cda cc A outer s H vs Q E hr h => ?_)
  · obtain ⟨a, v, t, rfl, _⟩ := h
    rfl
  · obtain ⟨a, v, t, rfl, ha, hv, k⟩ := h
    refine ⟨_, _, pa_cons (pv 1) pa_nil, pss_one (ps_ost (pv 0) (pe_call G_frozen.F (G_frozen.room hr) (by rfl) G_frozen.mg G_frozen.kp G_frozen.b .nil pass0 (pa_cons (pv 1) pa_nil))), a, rfl, ha, ?_⟩
    refine ⟨_, rfl, by simp, ha, _, rfl, v, t, rfl, hv, fun v' H1 e1 hv' => ⟨_, rfl, a, C, rfl, c.oex, c.no, .inl ⟨e1 _ _ ha, fun dx hdx hne => k v' H1 dx e1 hv' hdx hne⟩⟩⟩
end
end Rr

set_option Elab.async false
set_option linter.all false
set_option maxRecDepth 100000
set_option maxHeartbeats 4000000
namespace Rr
open PySem PySem.Spec PyProof.Rows L2 Xr
structure GmX (P : Program) (w : World) (K : PySem.W.Frag) (mg : Str → Option Value) (base : Heap) (k : Nat) (C : Addr) (m : Str) (ps : List Str) (sp : Sp) where
  f : Addr
  fd : FuncData
  cl : Cls K C
  F : FnOk P w K mg base (L2.CX P w) k f fd ps sp
  m : Meth K C m f
  b : Binds K fd ps []
theorem GmX.room {P : Program} {w : World} {K : PySem.W.Frag} {mg : Str → Option Value} {base : Heap} {k n : Nat} {C : Addr} {m : Str} {ps : List Str} {sp : Sp} {A : Around} (_ : GmX P w K mg base k C m ps sp) (hr : Room n A) (h : k ≤ n := by first | decide | exact Nat.le_refl _) : Room k A := hr.mono h
section
variable {P : Program} {w : World} {K : PySem.W.Frag} {mg : Str → Option Value} {base : Heap} {CR CO CP CU CN : Addr}
def sp_Replay_stepX (CR CO CP CU CN : Addr) : Sp := fun vs H Q E => ∃ (S S0 : List Addr) (p r q cl : Addr) (ns : List Str) (R : Rec) (N : Sol) (ws : List (Id × Id)) (C : Cut) (a : Str), vs = [.ref p, .str a] ∧ Good ns R ∧ cl ∈ S ∧ RecAt S H CR r ns R ∧ RplAt S0 H CP CO p r q cl ns R N ws C ∧
  (a ∉ ns → ∀ d H', Same H H' → Xd H' d "name" (.str a) → E (.ref CU) d H') ∧ (a ∈ ns → cutB ns R N (bump C a) = false → ∀ d H', Same H H' → Xd H' d "name" (.str a) → E (.ref CN) d H') ∧
  (a ∈ ns → cutB ns R N (bump C a) = true → ∀ v H' ev, (R a)[C a]? = some ev → EvV H' v ev → RplAt S0 H' CP CO p r q cl ns R N ws (bump C a) → FrS [cl] H H' → TupS H H' → Q v H')
theorem ok_Replay_stepX (T : Txt K mg) (cp : CRpl K CP) (G_U : Gx P w K mg base 5 "UnknownProcess" CU "name") (G_N : Gx P w K mg base 5 "NotReady" CN "name") (G_Record_names : Gm P w K mg base 1 CR "names" ["self"] (sp_Record_namesF CR)) (G_Replay_is_ready : Gm P w K mg base 6 CP "is_ready" ["self", "at"] (sp_Replay_is_ready CR CO CP)) (G_Record_events : Gm P w K mg base 3 CR "events" ["self", "name"] (sp_Record_events CR)) {f : Addr} {fd : FuncData} (F : FunD K "step" "Replay.step" (defArgs s_Replay_step) (defBody s_Replay_step) (defScope s_Replay_step) [] [] f fd) :
    FnOk P w K mg base (L2.CX P w) 7 f fd ["self", "name"] (sp_Replay_stepX CR CO CP CU CN) := by
  refine F.ok sc_Replay_step (fun vs H Q E h => ?_) (fun cdv A outer s H vs Q E hr h => ?_)
  · obtain ⟨S, S0, p, r, q, cl, ns, R, N, ws, C, a, rfl, _⟩ := h
    rfl
  · obtain ⟨S, S0, p, r, q, cl, ns, R, N, ws, C, a, rfl, g, hclS, rec, rp, hu1, hn1, k⟩ := h
    have hu := hu_of hr
    obtain ⟨dx, hp, hcl, od⟩ := rp.ex
    obtain ⟨dxr, _, _, _, _, _, _, _, hro, _⟩ := rec.ex
    have n4 := g.n4
    refine ⟨_, (pss_cons (ps_set (i := 2) sc_Replay_step.nd rfl (Or.inl rfl) (pe_meth0 (q_fld K rfl (pv 0) rfl) G_Record_names.cl G_Record_names.m G_Record_names.F (G_Record_names.room hr) G_Record_names.b .nil pass0))
      (pss_cons (ps_if (pt_cmpR (q_notIn K rfl) (pv 1) (pv 2) (by rfl))
        (pss_one (ps_raise rfl (takes_of rfl rfl rfl rfl) (pmk_oex G_U.xc.oex G_U.ini G_U.ty G_U.F (G_U.room hr) G_U.b .nil pass0 (by rfl) G_U.xc.mg (pa_cons (pv 1) pa_nil))))
        pss_nil)
      (pss_cons (ps_set (i := 3) sc_Replay_step.nd rfl (Or.inl rfl) (pe_bmF PySem.F.plainAttrs_tuple PySem.F.slot_tuple_index PySem.F.type_tuple_index (q_tupIx K rfl) (pv 2) (pa_cons (pv 1) pa_nil)))
      (pss_cons (ps_if (pt_not (pt_val (pe_meth (pv 0) G_Replay_is_ready.cl G_Replay_is_ready.m G_Replay_is_ready.F (G_Replay_is_ready.room hr) G_Replay_is_ready.b .nil pass0 (pa_cons (pv 3) pa_nil))))
        (pss_one (ps_raise rfl (takes_of rfl rfl rfl rfl) (pmk_oex G_N.xc.oex G_N.ini G_N.ty G_N.F (G_N.room hr) G_N.b .nil pass0 (by rfl) G_N.xc.mg (pa_cons (pv 1) pa_nil))))
        pss_nil)
      (pss_cons (ps_augS (q_fld K rfl (pv 0) rfl) (pv 3) (q_get K rfl) pe_int ip_add set_list)
      (pss_one (ps_ret (pe_ix (q_ixt K rfl) (pe_meth (q_fld K rfl (pv 0) rfl) G_Record_events.cl G_Record_events.m G_Record_events.F (G_Record_events.room hr) G_Record_events.b .nil pass0 (pa_cons (pv 1) pa_nil)) (pe_op op_sub (pe_ix (q_ixl K rfl) (q_fld K rfl (pv 0) rfl) (pv 3) (fun _ _ => rfl)) pe_int) (fun _ _ => rfl))))))))), ?_⟩
    refine ⟨_, rfl, p, CP, dx, _, .ref r, rfl, hp, cp.cl, cp.source, rfl, r, dxr, _, rfl, hro, rfl, S, r, ns, R, rfl, g, rec, fun tn on H1 htn0 htn htc htd e1 => ?_⟩
    refine ⟨_, rfl, _, rfl, tn, _, rfl, .inr (sqtF htn), rfl, flatStrs ns, ?_⟩
    rw [if_pos rfl, inV_strs]
    by_cases ha : a ∈ ns
    case neg =>
      rw [decide_eq_false ha]
      refine ⟨_, rfl, iteT ⟨_, rfl, by simp, exc_made (.leaf (.str a)) fun d v' H' e x tr => hu1 ha d H' (e1.trans e) ?_⟩⟩
      obtain ⟨rfl, _⟩ := (show v' = .str a ∧ _ from tr)
      exact x
    obtain ⟨i, hi⟩ := List.mem_iff_getElem?.mp ha
    rw [decide_eq_true ha]
    refine ⟨_, rfl, iteF ?_⟩
    refine ⟨_, rfl, ⟨tn, on, _, rfl, htn, htc, htd⟩, _, rfl, tn, ns, a, i, rfl, rfl, sqtF htn, hi, fun m hm z => ?_, ?_⟩
    · have := (List.getElem?_inj (List.getElem?_eq_some_iff.mp z).1 g.nd).mp (z.trans hi.symm)
      omega
    refine ⟨_, rfl, p, dx, _, rfl, e1 _ _ hp, rfl, _, rfl, S, S0, p, r, q, cl, ns, R, N, ws, C, i, a, rfl, g, rec.same e1, rp.same e1, hi, fun H2 e2 => ⟨_, rfl, ?_⟩⟩
    cases hcut : cutB ns R N (bump C a) with
    | false =>
      refine iteT ⟨_, rfl, by simp, exc_made (.leaf (.str a)) fun d v' H' e x tr => hn1 ha hcut d H' ((e1.trans e2).trans e) ?_⟩
      obtain ⟨rfl, _⟩ := (show v' = .str a ∧ _ from tr)
      exact x
    | true =>
    have hle := cutB_le hcut ha
    rw [bump_self] at hle
    have hev : (R a)[C a]? = some (R a)[C a] := List.getElem?_eq_getElem (by omega)
    have k := k ha hcut
    refine iteF ?_
    have e02 := e1.trans e2
    have hil : i < ns.length := (List.getElem?_eq_some_iff.mp hi).1
    have hcl2 := e02 _ _ hcl
    refine ⟨_, rfl, p, CP, dx, _, .ref cl, rfl, e02 _ _ hp, cp.cl, cp.counts, rfl, _, rfl, cl, _, i, .int (C a : Nat), rfl, rfl, sq hcl2, atI_nat (nums_get hi), _, _, rfl, rfl, cl, _, i, i, rfl, rfl, hcl2, ixN_at (by rw [nums_len]; exact hil), ?_⟩
    rw [set_bump g.nd hi]
    have ts3 : TupS H2 (upd H2 cl (.lst (numsC ns (bump C a)))) := tups_mut hcl2 (fun zs z => nomatch z)
    have fx3 : Fx S H (upd H2 cl (.lst (numsC ns (bump C a)))) := (Fx.of e02).trans ⟨FrS.upd hclS, ts3⟩
    have f3 : FrS [cl] H (upd H2 cl (.lst (numsC ns (bump C a)))) := (FrS.of e02).trans (FrS.upd (List.mem_singleton_self cl))
    have hp3 : (upd H2 cl (.lst (numsC ns (bump C a)))) p = some (.ins CP dx [("source", .ref r), ("order", .ref q), ("counts", .ref cl)]) := by
      rw [upd_ne (ne_of (e02 _ _ hp) hcl2 (fun z => nomatch z))]
      exact e02 _ _ hp
    have hro3 : (upd H2 cl (.lst (numsC ns (bump C a)))) r = _ := (upd_ne (ne_of (e02 _ _ hro) hcl2 (fun z => nomatch z))).trans (e02 _ _ hro)
    have od3 : OrdAt S0 (upd H2 cl (.lst (numsC ns (bump C a)))) CO q r ns R N ws := (od.same e02).lst hcl2
    have hcl3 : (upd H2 cl (.lst (numsC ns (bump C a)))) cl = some (.lst (numsC ns (bump C a))) := upd_same
    have rec3 := rec.fx fx3
    generalize upd H2 cl (.lst (numsC ns (bump C a))) = H3 at fx3 f3 hp3 hro3 od3 hcl3 rec3
    refine ⟨_, rfl, p, CP, dx, _, .ref r, rfl, hp3, cp.cl, cp.source, rfl, r, dxr, _, rfl, hro3, rfl, _, rfl, S, r, ns, R, a, rfl, g, rec3, ha, fun v H4 hv e4 => ?_⟩
    obtain ⟨es, ⟨z, rfl, hz⟩, hes⟩ := hv
    obtain ⟨x, hx, hxe⟩ := pget' hes hev
    have hn : ((bump C a a : Nat) : Int) - 1 = ((C a : Nat) : Int) := by rw [bump_self]; omega
    refine ⟨_, rfl, p, CP, dx, _, .ref cl, rfl, e4 _ _ hp3, cp.cl, cp.counts, rfl, _, rfl, cl, _, i, .int (bump C a a : Nat), rfl, rfl, sq (e4 _ _ hcl3), atI_nat (nums_get hi), _, _, rfl, rfl, ?_⟩
    exact ⟨z, _, ((bump C a a : Nat) : Int) - 1, x, rfl, rfl, sqt hz, by rw [hn]; exact atI_nat hx, k x H4 _ hev hxe ⟨dx, e4 _ _ hp3, e4 _ _ hcl3, od3.same e4⟩ (f3.trans (FrS.of e4)) (tut fx3.t (stups e4))⟩
end
end Rr

set_option Elab.async false
set_option linter.all false
set_option maxRecDepth 100000
set_option maxHeartbeats 2000000
/-! the cuts that a search finds -/
namespace Rr
open PySem PySem.Spec PyProof.Rows L2 Xr
def vec (ns : List Str) (C : Cut) : List Int := ns.map fun a => ((C a : Nat) : Int)
theorem vec_eq {ns : List Str} {C D : Cut} : vec ns C = vec ns D ↔ ∀ a ∈ ns, C a = D a := by
  unfold vec
  constructor
  · intro h a ha
    have := List.map_inj_left.mp h a ha
    omega
  · exact fun h => List.map_congr_left fun a ha => by rw [h a ha]
theorem vec_bump {ns : List Str} {C D : Cut} (h : vec ns C = vec ns D) (a : Str) : vec ns (bump C a) = vec ns (bump D a) := by
  rw [vec_eq] at h ⊢
  intro b hb
  unfold bump
  rw [h b hb]
theorem rdy_vec {ns : List Str} {R : Rec} {N : Sol} {C D : Cut} (h : vec ns C = vec ns D) {a : Str} (ha : a ∈ ns) : rdyB ns R N C a = rdyB ns R N D a := by
  have e1 := vec_eq.mp h a ha
  have e2 := vec_eq.mp (vec_bump h a)
  unfold rdyB
  rw [e1]
  congr 1
  rw [Bool.eq_iff_iff, List.all_eq_true, List.all_eq_true]
  constructor
  · intro z b hb
    rw [← e2 b hb]
    exact z b hb
  · intro z b hb
    rw [e2 b hb]
    exact z b hb
theorem rdy_uniq {ns : List Str} {R : Rec} {ar : List (Id × Id)} {N M : Sol} (n : IsN R ar N) (m : IsN R ar M) (C : Cut) (a : Str) : rdyB ns R N C a = rdyB ns R M C a := by
  unfold rdyB
  by_cases h : C a + 1 ≤ (R a).length
  · have e : (fun b => decide (N (a, C a + 1) b ≤ bump C a b)) = fun b => decide (M (a, C a + 1) b ≤ bump C a b) := by
      funext b
      rw [IsN.uniq (fun _ => Iff.rfl) n m (show IsEv R (a, C a + 1) from ⟨by simp, h⟩) b]
    rw [e]
  · rw [decide_eq_false h, Bool.false_and, Bool.false_and]
/-- closed cuts are cuts -/
theorem cutB_clo {ns : List Str} {R : Rec} {N : Sol} {C : Cut} (c : Clo R N C) : cutB ns R N C = true := by
  unfold cutB inB
  rw [Bool.and_eq_true]
  refine ⟨List.all_eq_true.mpr fun a _ => decide_eq_true (c.le a), List.all_eq_true.mpr fun a ha => ?_⟩
  have h0 : 0 < C a := of_decide_eq_true (List.mem_filter.mp ha).2
  exact List.all_eq_true.mpr fun b _ => decide_eq_true (c.dn (a, C a) ⟨h0, c.le a⟩ (Nat.le_refl _) b)
theorem cut_rdy {ns : List Str} {R : Rec} {ar : List (Id × Id)} {N : Sol} {C : Cut} (g : Good ns R) (n : IsN R ar N) (c : Clo R N C) {a : Str} (ha : a ∈ ns) : cutB ns R N (bump C a) = rdyB ns R N C a := by
  cases h : rdyB ns R N C a with
  | true => exact cutB_clo (clo_bump g n c h)
  | false =>
    apply Bool.eq_false_iff.mpr
    intro hc
    have h1 := cutB_le hc ha
    rw [bump_self] at h1
    have h2 : rdyB ns R N C a = true := by
      refine rdyB_iff.mpr ⟨⟨by simp, h1⟩, fun b hb => ?_⟩
      unfold cutB at hc
      have h3 := (Bool.and_eq_true_iff.mp hc).2
      have h4 := List.all_eq_true.mp h3 a (List.mem_filter.mpr ⟨ha, decide_eq_true (by rw [bump_self]; omega)⟩)
      have h5 := of_decide_eq_true (List.all_eq_true.mp h4 b hb)
      rw [bump_self] at h5
      exact h5
    rw [h] at h2
    cases h2
/-! ### reachable cuts -/
inductive Rc (ns : List Str) (R : Rec) (N : Sol) : Cut → Prop
  | zero : Rc ns R N fun _ => 0
  | step {C : Cut} {a : Str} : Rc ns R N C → a ∈ ns → rdyB ns R N C a = true → Rc ns R N (bump C a)
theorem Rc.clo {ns : List Str} {R : Rec} {ar : List (Id × Id)} {N : Sol} {C : Cut} (g : Good ns R) (n : IsN R ar N) (r : Rc ns R N C) : Clo R N C := by
  induction r with
  | zero => exact clo_zero R N
  | step _ _ h ih => exact clo_bump g n ih h
theorem Rc.uniq {ns : List Str} {R : Rec} {ar : List (Id × Id)} {N M : Sol} (n : IsN R ar N) (m : IsN R ar M) {C : Cut} (r : Rc ns R N C) : Rc ns R M C := by
  induction r with
  | zero => exact .zero
  | step _ ha h ih => exact .step ih ha (by rw [← rdy_uniq n m]; exact h)
/-! ### a search -/
structure Bfs (ns : List Str) (R : Rec) (N : Sol) (fnd : List Cut) (p : Nat) (ds : List Str) : Prop where
  hd : (fun _ => 0) ∈ fnd
  rc : ∀ C ∈ fnd, Rc ns R N C
  nd : (fnd.map (vec ns)).Nodup
  ex : ∀ j C, j < p → fnd[j]? = some C → ∀ a ∈ ns, rdyB ns R N C a = true → vec ns (bump C a) ∈ fnd.map (vec ns)
  cur : ∀ C, fnd[p]? = some C → ∀ a ∈ ds, rdyB ns R N C a = true → vec ns (bump C a) ∈ fnd.map (vec ns)
section
variable {ns : List Str} {R : Rec} {N : Sol} {fnd : List Cut} {p : Nat} {ds : List Str}
theorem Bfs.init : Bfs ns R N [fun _ => 0] 0 [] := ⟨by simp, fun C h => by rw [List.mem_singleton] at h; rw [h]; exact .zero, by simp, fun j _ h => by omega, fun C _ a h => by simp at h⟩
theorem Bfs.skip (z : Bfs ns R N fnd p ds) {C : Cut} {a : Str} (hC : fnd[p]? = some C) (h : rdyB ns R N C a = true → vec ns (bump C a) ∈ fnd.map (vec ns)) : Bfs ns R N fnd p (ds ++ [a]) := by
  refine ⟨z.hd, z.rc, z.nd, z.ex, fun D hD b hb hr => ?_⟩
  rcases List.mem_append.mp hb with q | q
  · exact z.cur D hD b q hr
  · rw [List.mem_singleton] at q
    subst q
    rw [hC] at hD
    cases hD
    exact h hr
theorem Bfs.add (z : Bfs ns R N fnd p ds) {C : Cut} {a : Str} (hC : fnd[p]? = some C) (ha : a ∈ ns) (h : rdyB ns R N C a = true) (hn : vec ns (bump C a) ∉ fnd.map (vec ns)) : Bfs ns R N (fnd ++ [bump C a]) p (ds ++ [a]) := by
  have hp : p < fnd.length := (List.getElem?_eq_some_iff.mp hC).1
  have get : ∀ {j : Nat} {D : Cut}, j ≤ p → (fnd ++ [bump C a])[j]? = some D → fnd[j]? = some D := fun hj hD => by
    rw [List.getElem?_append_left (by omega)] at hD
    exact hD
  have up : ∀ {v : List Int}, v ∈ fnd.map (vec ns) → v ∈ (fnd ++ [bump C a]).map (vec ns) := fun hv => by
    rw [List.map_append]
    exact List.mem_append_left _ hv
  refine ⟨List.mem_append_left _ z.hd, fun D hD => ?_, ?_, fun j D hj hD b hb hr => up (z.ex j D hj (get (by omega) hD) b hb hr), fun D hD b hb hr => ?_⟩
  · rcases List.mem_append.mp hD with q | q
    · exact z.rc D q
    · rw [List.mem_singleton] at q
      rw [q]
      exact .step (z.rc C (List.mem_of_getElem? hC)) ha h
  · rw [List.map_append]
    refine List.nodup_append.mpr ⟨z.nd, by simp, ?_⟩
    rintro v hv w hw rfl
    rw [List.map_singleton, List.mem_singleton] at hw
    rw [hw] at hv
    exact hn hv
  · have hD' := get (Nat.le_refl _) hD
    rcases List.mem_append.mp hb with q | q
    · exact up (z.cur D hD' b q hr)
    · rw [List.mem_singleton] at q
      subst q
      rw [hC] at hD'
      cases hD'
      rw [List.map_append]
      exact List.mem_append_right _ (by simp)
theorem Bfs.next (z : Bfs ns R N fnd p ds) {C0 : Cut} (hC0 : fnd[p]? = some C0) (hd : ∀ a ∈ ns, rdyB ns R N C0 a = true → a ∈ ds) : Bfs ns R N fnd (p + 1) [] := by
  refine ⟨z.hd, z.rc, z.nd, fun j C hj hC a ha hr => ?_, fun _ _ _ h => by simp at h⟩
  by_cases q : j < p
  · exact z.ex j C q hC a ha hr
  · have : j = p := by omega
    subst this
    rw [hC0] at hC
    cases hC
    exact z.cur C0 hC0 a (hd a ha hr) hr
theorem Bfs.all (z : Bfs ns R N fnd fnd.length []) {C : Cut} (r : Rc ns R N C) : vec ns C ∈ fnd.map (vec ns) := by
  induction r with
  | zero => exact List.mem_map.mpr ⟨_, z.hd, rfl⟩
  | @step C a r ha h ih =>
    obtain ⟨D, hD, e⟩ := List.mem_map.mp ih
    obtain ⟨j, hj⟩ := List.mem_iff_getElem?.mp hD
    rw [← vec_bump e a]
    exact z.ex j D (List.getElem?_eq_some_iff.mp hj).1 hj a ha (by rw [rdy_vec e ha]; exact h)
theorem Bfs.perm {fnd' : List Cut} (z : Bfs ns R N fnd fnd.length []) (z' : Bfs ns R N fnd' fnd'.length []) : (fnd.map (vec ns)).Perm (fnd'.map (vec ns)) := by
  refine (List.perm_ext_iff_of_nodup z.nd z'.nd).mpr fun v => ?_
  constructor
  · intro h
    obtain ⟨C, hC, e⟩ := List.mem_map.mp h
    rw [← e]
    exact z'.all (z.rc C hC)
  · intro h
    obtain ⟨C, hC, e⟩ := List.mem_map.mp h
    rw [← e]
    exact z.all (z'.rc C hC)
def vecs (B : Nat) : Nat → List (List Int)
  | 0 => [[]]
  | n + 1 => (vecs B n).flatMap fun v => (List.range (B + 1)).map fun x => ((x : Nat) : Int) :: v
theorem vecs_len (B : Nat) : ∀ n, (vecs B n).length = (B + 1) ^ n
  | 0 => rfl
  | n + 1 => by
    unfold vecs
    rw [List.length_flatMap]
    simp only [List.length_map, List.length_range, List.map_const', List.sum_replicate_nat, vecs_len B n, Nat.pow_succ]
theorem mem_vecs (B : Nat) : ∀ {ns : List Str} {C : Cut}, (∀ a, C a ≤ B) → vec ns C ∈ vecs B ns.length
  | [], C, h => by simp [vec, vecs]
  | a :: r, C, h => by
    unfold vecs
    refine List.mem_flatMap.mpr ⟨vec r C, mem_vecs B h, List.mem_map.mpr ⟨C a, List.mem_range.mpr (by have := h a; omega), rfl⟩⟩
theorem Bfs.len {ar : List (Id × Id)} (g : Good ns R) (n : IsN R ar N) (h : ∀ a, (R a).length ≤ 15) (z : Bfs ns R N fnd p ds) : fnd.length ≤ 65536 := by
  have h1 : (fnd.map (vec ns)).length ≤ (vecs 15 ns.length).length := z.nd.length_le_of_subset fun v hv => by
    obtain ⟨C, hC, e⟩ := List.mem_map.mp hv
    rw [← e]
    exact mem_vecs 15 fun a => Nat.le_trans (((z.rc C hC).clo g n).le a) (h a)
  rw [List.length_map, vecs_len] at h1
  have h2 : (15 + 1) ^ ns.length ≤ 16 ^ 4 := Nat.pow_le_pow_right (by decide) g.n4
  omega
end
/-! ### sorted lists of rows -/
def rowD (r : List Int) : PyData := .tuple (r.map .int)
theorem le_rowD (r s : List Int) : PySem.W.dataLe false (fun d : PyData => d) (rowD r) (rowD s) = decide (r ≤ s) := by
  show (!PySem.W.dataLt (.tuple (s.map .int)) (.tuple (r.map .int))) = _
  rw [PySem.W.dataLt_tuple]
  show (!PySem.W.rowLt (s.map .int) (r.map .int)) = _
  rw [PySem.W.dataLt_ints]
  by_cases h : s < r
  · have h' : ¬ r ≤ s := fun q => List.not_lt.mpr q h
    simp [h, h']
  · have h' : r ≤ s := List.not_lt.mp h
    simp [h, h']
theorem sort_rows {bs : List (V × PyData)} {rs : List (List Int)} (h : bs.map (·.2) = rs.map rowD) : (bs.mergeSort (PySem.W.dataLe false fun b => b.2)).map (·.2) = (rs.mergeSort fun r s => decide (r ≤ s)).map rowD := by
  have e : (bs.mergeSort (PySem.W.dataLe false fun b => b.2)).map (·.2) = (bs.map (·.2)).mergeSort (PySem.W.dataLe false fun d => d) := List.map_mergeSort (r := PySem.W.dataLe false fun b : V × PyData => b.2) (f := fun b => b.2) (fun _ _ _ _ => rfl)
  rw [e, h]
  exact (List.map_mergeSort (fun r _ s _ => (le_rowD r s).symm)).symm
theorem sort_perm {rs ss : List (List Int)} (h : rs.Perm ss) : (rs.mergeSort fun r s => decide (r ≤ s)) = ss.mergeSort fun r s => decide (r ≤ s) := by
  have tr : ∀ a b c : List Int, decide (a ≤ b) = true → decide (b ≤ c) = true → decide (a ≤ c) = true := fun a b c h1 h2 => decide_eq_true (List.le_trans (of_decide_eq_true h1) (of_decide_eq_true h2))
  have tt : ∀ a b : List Int, (decide (a ≤ b) || decide (b ≤ a)) = true := fun a b => by
    rw [Bool.or_eq_true, decide_eq_true_eq, decide_eq_true_eq]
    exact List.le_total a b
  have h1 := List.pairwise_mergeSort tr tt rs
  have h2 := List.pairwise_mergeSort tr tt ss
  exact List.Perm.eq_of_pairwise (fun a b _ _ x y => List.le_antisymm (of_decide_eq_true x) (of_decide_eq_true y)) h1 h2 ((List.mergeSort_perm rs _).trans (h.trans (List.mergeSort_perm ss _).symm))
theorem lay_rows : ∀ rs : List (List Int), PyData.canLayAll0 (rs.map rowD) = true
  | [] => by simp [PyData.canLayAll0]
  | r :: t => by simp [PyData.canLayAll0, PyData.canLay0, rowD, layInts, lay_rows t]
theorem dep_rows : ∀ rs : List (List Int), PyData.depthAll (rs.map rowD) ≤ 1
  | [] => by simp [PyData.depthAll]
  | r :: t => by
    have := dep_rows t
    simp [PyData.depthAll, PyData.depth, rowD, depInts]
    omega
theorem shaped_rows (rs : List (List Int)) : SeqAt.shaped (.list (rs.map rowD)) = true := by
  unfold SeqAt.shaped
  have h1 : PyData.canLay0 (.list (rs.map rowD)) = true := by simp [PyData.canLay0, lay_rows]
  have h2 : PyData.depth (.list (rs.map rowD)) ≤ 64 := by
    have := dep_rows rs
    simp [PyData.depth]
    omega
  rw [h1, decide_eq_true h2] <;> rfl
theorem alike_ints : ∀ xs ys : List Int, PySem.W.alikeAll (xs.map .int) (ys.map .int) = true
  | [], _ => by simp [PySem.W.alikeAll]
  | _ :: _, [] => by simp [PySem.W.alikeAll]
  | x :: xs, y :: ys => by simp [PySem.W.alikeAll, PySem.W.alike, alike_ints xs ys]
end Rr

set_option Elab.async false
set_option linter.all false
set_option maxRecDepth 100000
set_option maxHeartbeats 4000000
namespace Rr
open PySem PySem.Spec PyProof.Rows L2 Xr
theorem strOk_pool : ∀ a ∈ pool, PyData.strOk a = true := by decide +kernel
theorem RecAt.less {S : List Addr} {H : Hp} {C r : Addr} {ns : List Str} {R : Rec} (z : RecAt S H C r ns R) : RecAt [] H C r ns R := by
  obtain ⟨dx, L, tb, lk, sq, kvs, xs, seq, h1, h2, h3, h4, h5, h6, h7, h8, h9, n⟩ := z.ex
  exact ⟨dx, L, tb, lk, sq, kvs, xs, seq, h1, h2, h3, h4, h5, h6, h7, h8, h9, by simp, by simp, by simp, by simp⟩
abbrev CutV (ns : List Str) (H : Hp) (v : V) (C : Cut) : Prop := TupV H v (numsC ns C)
theorem vec_vs (ns : List Str) (C : Cut) : (vec ns C).map V.int = numsC ns C := by
  unfold vec numsC
  rw [List.map_map]
  rfl
theorem cut_dp {K : PySem.W.Frag} {ns : List Str} {H : Hp} {v : V} {C : Cut} (h : CutV ns H v C) : Dp K H v (rowD (vec ns C)) := by
  obtain ⟨t, rfl, h⟩ := h
  exact .tup (sqt h) (by rw [← vec_vs]; exact dpInts _)
theorem shaped_row (r : List Int) : SeqAt.shaped (rowD r) = true := by
  unfold SeqAt.shaped rowD
  have h1 : PyData.canLay0 (.tuple (r.map PyData.int)) = true := by simp [PyData.canLay0, layInts]
  have h2 : PyData.depth (.tuple (r.map PyData.int)) ≤ 64 := by simp [PyData.depth, depInts]
  rw [h1, decide_eq_true h2] <;> rfl
section
variable {P : Program} {w : World} {K : PySem.W.Frag} {mg : Str → Option Value} {base : Heap} {CR CO CP CU CN : Addr}
abbrev N_w_after : List Str := ["_law_rows_here", "_law_cut", "_law_name", "_law_k"]
theorem sc_w_after : FnScope N_w_after ["_law_rows_here", "_law_cut", "_law_name"] (defScope s_w_after) := ⟨rfl, rfl, rfl, by decide +kernel, rfl, by decide +kernel, by decide +kernel⟩
def sp_after : Sp := fun vs H Q _ => ∃ (L c : Addr) (ns : List Str) (R : Rec) (C : Cut) (a : Str), vs = [.ref L, .ref c, .str a] ∧ Good ns R ∧ LRows H L (rowsOf ns R) ∧ H c = some (.tup (numsC ns C)) ∧
  ∀ t H', H t = none → H' t = some (.tup (numsC ns (bump C a))) → Same H H' → Q (.ref t) H'
theorem ok_after (T : Txt K mg) {f : Addr} {fd : FuncData} (F : FunD K "_law_after" "_law_after" (defArgs s_w_after) (defBody s_w_after) (defScope s_w_after) [] [] f fd) : FnOk P w K mg base CX0 1 f fd ["_law_rows_here", "_law_cut", "_law_name"] sp_after := by
  refine ok0 F sc_w_after (fun vs H Q E h => ?_) (fun cdv A outer s H vs Q E hr h => ?_)
  · obtain ⟨L, c, ns, R, C, a, rfl, _⟩ := h
    rfl
  · obtain ⟨L, c, ns, R, C, a, rfl, g, ⟨xs, hL, hxs⟩, hc, k⟩ := h
    refine ⟨_, (pss_one (ps_ret (pe_callTy (q_tuple K rfl) (by rfl) T.z_tuple (by decide +kernel) (pa_cons (pe_lc (own := [("_law_k", 3)]) (by rfl) sc_w_after.nd (pi_range1 (by rfl) T.z_range (pa_cons (pe_callB (q_len K rfl) (by rfl) T.z_len (by decide +kernel) (pa_cons (pv 0) pa_nil)) pa_nil)) (blkOk_by (N := N_w_after) (sc := defScope s_w_after) (by decide +kernel)) (fun _ _ _ _ _ => (pg_name (i := 3) sc_w_after.nd rfl (Or.inl rfl))) (fun _ _ _ _ _ => pts_nil) (fun _ _ _ _ _ => (pe_op op_add (pe_ix (q_ixt K rfl) (pv 1) (pv 3) (fun _ _ => rfl)) (pe_callTy call_int1 (by rfl) T.z_int (by decide +kernel) (pa_cons (pe_cmpR op_eq (pe_ix (q_ixt K rfl) (pe_ix (q_ixl K rfl) (pv 0) (pv 3) (fun _ _ => rfl)) pe_int (fun _ _ => rfl)) (pv 2) (nomark _)) pa_nil))))) pa_nil)))), ?_⟩
    have nlen : xs.length = ns.length := by rw [plen hxs, rows_len]
    have n4 := g.n4
    refine ⟨_, rfl, _, _, rfl, .inl ⟨_, sq hL, rfl⟩, ?_⟩
    refine ⟨_, rfl, by omega, by omega, fun D hD => ?_⟩
    refine lc_pure walk_range hD ns (by simp; omega) (by simp; omega) (fun b v _ => v = .int (bump C a b : Nat)) (fun _ _ _ _ _ z => z) (fun _ => true) (fun H' e => trivial) (fun _ _ _ _ y => by rw [y.1]; exact Same.refl _) ?_ ?_
    · rintro i b x H3' H3 kk hb e ⟨rfl, rfl⟩ htk hf
      obtain ⟨hin, hbe⟩ := List.getElem?_eq_some_iff.mp hb
      have hix : i < xs.length := by omega
      obtain ⟨a2, t, y, z, es, hna, hxt, ht, rfl, hz, hes⟩ := row_at hxs (List.getElem?_eq_getElem hix)
      have hxi : xs[i]? = some (.ref t) := by rw [List.getElem?_eq_getElem hix, hxt]
      cases hna.symm.trans hb
      refine ⟨rfl, _, rfl, _, rfl, c, _, i, .int (C b : Nat), rfl, by simp, sqt (e _ _ hc), atI_nat (nums_get hb), _, rfl, _, rfl, L, _, i, .ref t, rfl, by simp, sq (e _ _ hL), atI_nat hxi, t, _, 0, .str b, rfl, rfl, sqt (e _ _ ht), atI_nat (j := 0) rfl, ?_⟩
      refine ⟨_, rfl, rfl, .inr ⟨_, rfl, _, _, rfl, rfl, htk _ _ (Same.refl _) rfl ?_⟩⟩
      by_cases hba : b = a
      · subst hba
        rw [bump_self, decide_eq_true rfl]
        rfl
      · rw [bump_ne C hba, decide_eq_false (show ¬ V.str b = V.str a from fun z => hba (V.str.inj z))]
        simp
    · intro ys H5 e5 hD5 hys
      rw [List.filter_eq_self.mpr (fun _ _ => rfl)] at hys
      have ez : ys = numsC ns (bump C a) := plist hys
      subst ez
      exact ⟨D, _, rfl, .inl ⟨sq hD5, fun t ht => k t _ (same_back e5 ht) upd_same (e5.trans (same_new ht))⟩⟩
abbrev N_w_some_waits : List Str := ["_law_stream", "_law_rows_here", "_law_many"]
theorem sc_w_some_waits : FnScope N_w_some_waits ["_law_stream", "_law_rows_here"] (defScope s_w_some_waits) := ⟨rfl, rfl, rfl, by decide +kernel, rfl, by decide +kernel, by decide +kernel⟩
def sp_some_waits : Sp := fun vs H Q _ => ∃ (p q L : Addr) (B : Nat) (ns : List Str) (R : Rec) (ord : List Id), vs = [.ref p, .ref L] ∧ StrAt H p q B ∧ B + 20000 ≤ 1000000 ∧ L ≠ p ∧ L ≠ q ∧ Good ns R ∧ LRows H L (rowsOf ns R) ∧ Lin R (Stp R (msgsOf ns R)) ord ∧
  ∀ (l : Addr) H' fnd ws, H l = none → LPairs H' l ws → Lin R (Stp R (msgsOf ns R)) fnd → WaitsOk R fnd ws → ws.length ≤ 60 → StrAt H' p q (B + 4200) → Fr2 p q H H' → Q (.ref l) H'
theorem ok_some_waits (T : Txt K mg) (G_w_draw : Gf P w K mg base 1 "_law_draw" ["_law_stream", "_law_many"] sp_draw) (G_w_waits : Gf P w K mg base 3 "_law_waits" ["_law_stream", "_law_rows_here", "_law_many"] sp_waits)
    {f : Addr} {fd : FuncData} (F : FunD K "_law_some_waits" "_law_some_waits" (defArgs s_w_some_waits) (defBody s_w_some_waits) (defScope s_w_some_waits) [] [] f fd) : FnOk P w K mg base CX0 4 f fd ["_law_stream", "_law_rows_here"] sp_some_waits := by
  refine ok0 F sc_w_some_waits (fun vs H Q E h => ?_) (fun cdv A outer s H vs Q E hr h => ?_)
  · obtain ⟨p, q, L, B, ns, R, ord, rfl, _⟩ := h
    rfl
  · obtain ⟨p, q, L, B, ns, R, ord, rfl, S, hB, nLp, nLq, g, ⟨xs, hL, hxs⟩, lin, k⟩ := h
    refine ⟨_, (pss_cons (ps_set (i := 2) sc_w_some_waits.nd rfl (Or.inl rfl) (pe_call G_w_draw.F (G_w_draw.room hr) (by rfl) G_w_draw.mg G_w_draw.kp G_w_draw.b .nil pass0 (pa_cons (pv 0) (pa_cons pe_int pa_nil))))
      (Evl.pss_cut (ps_if (pt_cmpR op_eq (pe_call G_w_draw.F (G_w_draw.room hr) (by rfl) G_w_draw.mg G_w_draw.kp G_w_draw.b .nil pass0 (pa_cons (pv 0) (pa_cons pe_int pa_nil))) pe_int (nomark _))
        (pss_one (ps_set (i := 2) sc_w_some_waits.nd rfl (Or.inl rfl) pe_int))
        pss_nil)
      (pss_one (ps_ret (pe_slice (q_sll K rfl) (pe_call G_w_waits.F (G_w_waits.room hr) (by rfl) G_w_waits.mg G_w_waits.kp G_w_waits.b .nil pass0 (pa_cons (pv 0) (pa_cons (pv 1) (pa_cons (pv 2) pa_nil)))) po_none (po_some pe_int)))))), ?_⟩
    refine ⟨_, rfl, p, q, 5, B, rfl, S, by omega, by decide, by decide, fun m H1 m0 m1 S1 f1 => ?_⟩
    obtain ⟨m, rfl⟩ := Int.eq_ofNat_of_zero_le m0
    refine ⟨fun σ' H' => ∃ m' : Nat, m' ≤ 90 ∧ σ' = [some (.ref p), some (.ref L), some (.int (m' : Nat))] ∧ StrAt H' p q (B + 2) ∧ Fr2 p q H H', ?_, ?_⟩
    · refine ⟨_, rfl, p, q, 16, B + 1, rfl, S1, by omega, by decide, by decide, fun z H2 _ _ S2 f2 => ?_⟩
      refine ⟨rfl, _, rfl, ?_⟩
      refine ite2 (fun hz => ?_) (fun hz => ?_)
      · exact ⟨90, by omega, rfl, S2, f1.trans f2⟩
      · exact ⟨m, by omega, rfl, S2, f1.trans f2⟩
    · rintro σ' H2 ⟨m', hm', rfl, S2, f2⟩
      refine ⟨_, rfl, _, rfl, _, rfl, p, q, L, B + 2, m', ns, R, ord, rfl, S2, by omega, by omega, nLp, nLq, g, ?_, lin, fun l H3 fnd ws hl hlp lf wok hlen S3 f3 => ?_⟩
      · exact ⟨xs, f2 _ _ hL nLp nLq, L2.Paired.mapP hxs fun _ _ z => z.mono (f2.tups S)⟩
      · obtain ⟨zs, hz, hzs⟩ := hlp
        dsimp only [tNoPart]
        refine ⟨60, rfl, l, zs, rfl, sq hz, fun lp hlp2 => ?_⟩
        rw [show (60 : Int) = ((60 : Nat) : Int) from rfl, cut_take]
        have f23 := f2.trans f3
        have hlpH : H lp = none := by
          cases hh : H lp with
          | none => rfl
          | some o =>
            have nl := S3.nep (H' := H3) hlp2
            rw [f23 _ _ hh nl.1 nl.2] at hlp2
            cases hlp2
        exact k lp _ fnd (ws.take 60) hlpH ⟨_, upd_same, L2.Paired.mapP (ptake 60 hzs) fun _ _ z => z.mono (stups (same_new hlp2))⟩ lf ⟨fun p hp => wok.bef p (List.mem_of_mem_take hp), fun p hp => wok.ne p (List.mem_of_mem_take hp)⟩ (by rw [List.length_take]; omega) ((S3.frame (same_new hlp2)).mono (by omega)) (f23.trans (Fr2.new hlp2))
abbrev N_w_stands : List Str := ["_law_current", "_law_cut", "_law_ready", "_law_found"]
theorem sc_w_stands : FnScope N_w_stands ["_law_current", "_law_cut", "_law_ready"] (defScope s_w_stands) := ⟨rfl, rfl, rfl, by decide +kernel, rfl, by decide +kernel, by decide +kernel⟩
def sp_stands (CR CO CP : Addr) : Sp := fun vs H Q _ => ∃ (S S0 : List Addr) (p r q cl t l : Addr) (ns : List Str) (R : Rec) (N : Sol) (ws : List (Id × Id)) (C : Cut), vs = [.ref p, .ref t, .ref l] ∧ Good ns R ∧ RecAt S H CR r ns R ∧ RplAt S0 H CP CO p r q cl ns R N ws C ∧ (∀ a ∈ ns, PyData.strOk a = true) ∧
  H t = some (.tup (numsC ns C)) ∧ H l = some (.lst ((rdyC ns R N C).map V.str)) ∧ ∀ H', Same H H' → Q (.bl true) H'
theorem ok_stands (T : Txt K mg) (G_Replay_reached : Gm P w K mg base 1 CP "reached" ["self"] (sp_Replay_reached CO CP)) (G_Replay_ready : Gm P w K mg base 7 CP "ready" ["self"] (sp_Replay_ready CR CO CP))
    {f : Addr} {fd : FuncData} (F : FunD K "_law_stands" "_law_stands" (defArgs s_w_stands) (defBody s_w_stands) (defScope s_w_stands) [] [] f fd) : FnOk P w K mg base CX0 8 f fd ["_law_current", "_law_cut", "_law_ready"] (sp_stands CR CO CP) := by
  refine ok0 F sc_w_stands (fun vs H Q E h => ?_) (fun cdv A outer s H vs Q E hr h => ?_)
  · obtain ⟨S, S0, p, r, q, cl, t, l, ns, R, N, ws, C, rfl, _⟩ := h
    rfl
  · obtain ⟨S, S0, p, r, q, cl, t, l, ns, R, N, ws, C, rfl, g, rec, rp, hstr, ht, hl, k⟩ := h
    refine ⟨_, (pss_cons (ps_set (i := 3) sc_w_stands.nd rfl (Or.inl rfl) (pe_meth0 (pv 0) G_Replay_ready.cl G_Replay_ready.m G_Replay_ready.F (G_Replay_ready.room hr) G_Replay_ready.b .nil pass0))
      (pss_cons (ps_if (PW.pt (pw_or (pt_cmpR (q_neD K rfl hr.units) (pe_meth0 (pv 0) G_Replay_reached.cl G_Replay_reached.m G_Replay_reached.F (G_Replay_reached.room hr) G_Replay_reached.b .nil pass0) (pv 1) (nomark _)) (pw_or (pt_not (pt_val (pe_callB (q_isi K rfl) (by rfl) T.z_isinstance (by decide +kernel) (pa_cons (pv 3) (pa_cons (pe_bltn (v := .ty "list") (u := .type "list") (by rfl) T.z_list (by decide +kernel) rfl) pa_nil))))) (pw_or1 (pt_cmpR (q_neD K rfl hr.units) (pv 3) (pv 2) (nomark _))))))
        (pss_one (ps_ret pe_bl))
        pss_nil)
      (pss_cons (ps_expr (q_bm K rfl PySem.F.plainAttrs_list PySem.F.slot_list_append PySem.F.type_list_append mt_append (pv 3) (pa_cons pe_str pa_nil)))
      (pss_one (ps_ret (pe_cmpR (q_eqD K rfl hr.units) (pe_meth0 (pv 0) G_Replay_ready.cl G_Replay_ready.m G_Replay_ready.F (G_Replay_ready.room hr) G_Replay_ready.b .nil pass0) (pv 2) (nomark _))))))), ?_⟩
    obtain ⟨dx, hp, hcl, od⟩ := id rp.ex
    refine ⟨_, rfl, p, dx, _, rfl, hp, rfl, S, S0, p, r, q, cl, ns, R, N, ws, C, rfl, g, rec, rp, fun rl H1 hrl0 hrl e1 => ?_⟩
    obtain ⟨dxr, _, _, _, _, _, _, _, hro, _⟩ := id rec.ex
    have hrs : ∀ n ∈ rdyC ns R N C, PyData.strOk n = true := fun n hn => hstr n (List.mem_filter.mp hn).1
    refine ⟨_, rfl, p, dx, _, rfl, e1 _ _ hp, rfl, S0, p, r, q, cl, ns, R, N, ws, C, rfl, rp.same e1, fun t2 H2 ht20 ht2 e2 => ?_⟩
    have e02 := e1.trans e2
    refine ⟨_, rfl, rowD (vec ns C), rowD (vec ns C), cut_dp ⟨t2, rfl, ht2⟩, cut_dp ⟨t, rfl, e02 _ _ ht⟩, shaped_row _, shaped_row _, _, rfl, ?_⟩
    rw [show PyData.eqv (rowD (vec ns C)) (rowD (vec ns C)) = true by unfold rowD; rw [eqvt_ints]; exact decide_eq_true rfl]
    have hrl2 := e2 _ _ hrl
    refine iteF ⟨_, rfl, .ref rl, .ty "list", .type "list", .type "list", true, rfl, .ty "list", .base (.lst hrl2), kit_ty (by decide +kernel), true, rfl, iteF ?_⟩
    refine ⟨_, rfl, _, rfl, .list ((rdyC ns R N C).map .str), .list ((rdyC ns R N C).map .str), .lst (sq hrl2) (dpStrs _), .lst (sq (e02 _ _ hl)) (dpStrs _), shapedStrs hrs, shapedStrs hrs, _, rfl, ?_⟩
    rw [PySem.SeqAt.eqv_refl _ (PySem.SeqAt.canLay_of_shaped (shapedStrs hrs))]
    have hlen : ((rdyC ns R N C).map V.str).length ≤ 4 := by
      rw [List.length_map]
      exact Nat.le_trans (List.length_filter_le _ _) g.n4
    refine iteF ⟨_, rfl, tyl hrl2, rl, _, _, rfl, rfl, hrl2, szl (by omega), ?_⟩
    have e03 : Same H (upd H2 rl (.lst ((rdyC ns R N C).map V.str ++ [V.str "more"]))) := same_mut e02 hrl0
    refine ⟨_, rfl, p, dx, _, rfl, e03 _ _ hp, rfl, S, S0, p, r, q, cl, ns, R, N, ws, C, rfl, g, rec.same e03, rp.same e03, fun rl2 H4 _ hrl4 e4 => ?_⟩
    refine ⟨_, rfl, .list ((rdyC ns R N C).map .str), .list ((rdyC ns R N C).map .str), .lst (sq hrl4) (dpStrs _), .lst (sq ((e03.trans e4) _ _ hl)) (dpStrs _), shapedStrs hrs, shapedStrs hrs, ?_⟩
    rw [PySem.SeqAt.eqv_refl _ (PySem.SeqAt.canLay_of_shaped (shapedStrs hrs))]
    exact k H4 (e03.trans e4)
abbrev N_w_stepped : List Str := ["_law_current", "_law_name", "_law_found", "e"]
theorem sc_w_stepped : FnScope N_w_stepped ["_law_current", "_law_name"] (defScope s_w_stepped) := ⟨rfl, rfl, rfl, by decide +kernel, rfl, by decide +kernel, by decide +kernel⟩
def sp_stepped (CR CO CP : Addr) : Sp := fun vs H Q _ => ∃ (S S0 : List Addr) (p r q cl : Addr) (ns : List Str) (R : Rec) (N : Sol) (ws : List (Id × Id)) (C : Cut) (a : Str), vs = [.ref p, .str a] ∧ Good ns R ∧ cl ∈ S ∧ RecAt S H CR r ns R ∧ RplAt S0 H CP CO p r q cl ns R N ws C ∧
  (a ∉ ns → ∀ t H', H t = none → H' t = some (.tup [.str "unknown", .str a]) → Same H H' → Q (.ref t) H') ∧ (a ∈ ns → cutB ns R N (bump C a) = false → ∀ t H', H t = none → H' t = some (.tup [.str "not", .str a]) → Same H H' → Q (.ref t) H') ∧
  (a ∈ ns → cutB ns R N (bump C a) = true → ∀ t v H' ev, H t = none → H' t = some (.tup [.str "event", v]) → (R a)[C a]? = some ev → EvV H' v ev → RplAt S0 H' CP CO p r q cl ns R N ws (bump C a) → FrS [cl] H H' → TupS H H' → Q (.ref t) H')
theorem ok_stepped (T : Txt K mg) (xUU : PySem.W.exmOne K (.ref CU) (.ref CU) = some true) (xNU : PySem.W.exmOne K (.ref CN) (.ref CU) = some false) (xNN : PySem.W.exmOne K (.ref CN) (.ref CN) = some true) (G_UnknownProcess : Gx P w K mg base 5 "UnknownProcess" CU "name") (G_NotReady : Gx P w K mg base 5 "NotReady" CN "name")
    (G_Replay_stepX : GmX P w K mg base 7 CP "step" ["self", "name"] (sp_Replay_stepX CR CO CP CU CN)) {f : Addr} {fd : FuncData} (F : FunD K "_law_stepped" "_law_stepped" (defArgs s_w_stepped) (defBody s_w_stepped) (defScope s_w_stepped) [] [] f fd) : FnOk P w K mg base CX0 8 f fd ["_law_current", "_law_name"] (sp_stepped CR CO CP) := by
  refine ok0 F sc_w_stepped (fun vs H Q E h => ?_) (fun cdv A outer s H vs Q E hr h => ?_)
  · obtain ⟨S, S0, p, r, q, cl, ns, R, N, ws, C, a, rfl, _⟩ := h
    rfl
  · obtain ⟨S, S0, p, r, q, cl, ns, R, N, ws, C, a, rfl, g, hclS, rec, rp, k1, k2, k3⟩ := h
    refine ⟨_, (pss_cons (ps_set (i := 2) sc_w_stepped.nd rfl (Or.inl rfl) pe_non)
      (pss_cons (ps_try_asM sc_w_stepped.nd rfl rfl takes0 (fun W pn xe tk _ =>
          (pss_one (ps_set (i := 2) sc_w_stepped.nd rfl (Or.inl rfl) (pe_tup (pa_cons pe_str (pa_cons (pe_methW (pv 0) G_Replay_stepX.cl G_Replay_stepX.m G_Replay_stepX.F (G_Replay_stepX.room hr) G_Replay_stepX.b (fun σ => passAt tk σ) (pa_cons (pv 1) pa_nil)) pa_nil))))))
        (HdsAs.cons (i := 3) rfl rfl ⟨rfl, by decide, .inl G_UnknownProcess.xc.mg⟩ (fun a oe cls d pn hz hf =>
          (pss_one (ps_set (i := 2) sc_w_stepped.nd rfl (Or.inl rfl) (pe_tup (pa_cons pe_str (pa_cons (pe_xf G_UnknownProcess.xc.xf G_UnknownProcess.xc.no hz hf (pv 3)) pa_nil))))))
        (HdsAs.cons (i := 3) rfl rfl ⟨rfl, by decide, .inl G_NotReady.xc.mg⟩ (fun a oe cls d pn hz hf =>
          (pss_one (ps_set (i := 2) sc_w_stepped.nd rfl (Or.inl rfl) (pe_tup (pa_cons pe_str (pa_cons (pe_xf G_NotReady.xc.xf G_NotReady.xc.no hz hf (pv 3)) pa_nil))))))
        HdsAs.nil)))
      (pss_one (ps_ret (pv 2))))), ?_⟩
    obtain ⟨dx, hp, hcl, od⟩ := id rp.ex
    refine ⟨_, rfl, ?_⟩
    refine ⟨p, dx, _, rfl, hp, rfl, _, rfl, S, S0, p, r, q, cl, ns, R, N, ws, C, a, rfl, g, hclS, rec, rp, fun ha d H1 e1 x => ?_, fun ha hc d H1 e1 x => ?_, fun ha hc v H1 ev hev hv rp1 f1 t1 => ?_⟩
    · refine ⟨true, xUU, fun _ ax hax => ?_, fun z => nomatch z⟩
      obtain ⟨dd, rfl, hdd⟩ := x
      exact ⟨_, rfl, rfl, rfl, dd, _, _, rfl, hdd, rfl, s2, fun t ht => ⟨_, rfl, k1 ha t _ (same_back e1 ht) upd_same (e1.trans (same_new ht))⟩⟩
    · refine ⟨false, xNU, (fun z => nomatch z), fun _ => ⟨true, xNN, fun _ ax hax => ?_, fun z => nomatch z⟩⟩
      obtain ⟨dd, rfl, hdd⟩ := x
      exact ⟨_, rfl, rfl, rfl, dd, _, _, rfl, hdd, rfl, s2, fun t ht => ⟨_, rfl, k2 ha hc t _ (same_back e1 ht) upd_same (e1.trans (same_new ht))⟩⟩
    · refine ⟨s2, fun t ht => ⟨_, rfl, k3 ha hc t v _ ev ?_ upd_same hev (hv.mono (stups (same_new ht))) (rp1.same (same_new ht)) (f1.trans (FrS.of (same_new ht))) (tut t1 (stups (same_new ht)))⟩⟩
      obtain ⟨_, _, hcl1, _⟩ := rp1.ex
      cases hh : H t with
      | none => rfl
      | some o =>
        have : t ≠ cl := fun z => by rw [z, hcl1] at ht; cases ht
        rw [f1 _ _ hh (by simpa using this)] at ht
        cases ht
end
end Rr

set_option Elab.async false
set_option linter.all false
set_option maxRecDepth 100000
set_option maxHeartbeats 4000000
namespace Rr
open PySem PySem.Spec PyProof.Rows L2 Xr
/-! ### what a step answers, as data -/
theorem strOk_name {x : Str} (h : nameB x = true) : PyData.strOk x = true := by
  unfold nameB at h
  obtain ⟨_, h⟩ := Bool.and_eq_true_iff.mp h
  obtain ⟨_, h⟩ := Bool.and_eq_true_iff.mp h
  obtain ⟨_, h⟩ := Bool.and_eq_true_iff.mp h
  have key : ∀ c ∈ alphaS.cps.toList, decide (c < 0x110000) = true := by decide +kernel
  unfold PyData.strOk
  rw [← Array.all_toList]
  refine List.all_eq_true.mpr fun c hc => ?_
  exact key c (of_decide_eq_true (List.all_eq_true.mp h c hc))
def vD : V → PyData
  | .str x => .str x
  | .int i => .int i
  | _ => .none
def flatV : V → Prop
  | .str x => PyData.strOk x = true
  | .int _ => True
  | _ => False
theorem dp_flat {K : PySem.W.Frag} {H : Hp} : ∀ {vs : List V}, (∀ v ∈ vs, flatV v) → DpAll K H vs (vs.map vD)
  | [], _ => .nil
  | v :: r, h => .cons (by
      have := h v (List.mem_cons_self ..)
      cases v with
      | str x => exact .str x
      | int i => exact .int i
      | _ => exact this.elim) (dp_flat fun w hw => h w (List.mem_cons_of_mem _ hw))
theorem lay_flat : ∀ {vs : List V}, (∀ v ∈ vs, flatV v) → PyData.canLayAll0 (vs.map vD) = true
  | [], _ => by simp [PyData.canLayAll0, PyData.depthAll]
  | v :: r, h => by
    rw [List.map_cons]
    have h1 := h v (List.mem_cons_self ..)
    have h2 := lay_flat fun w hw => h w (List.mem_cons_of_mem _ hw)
    cases v with
    | str x => simp [vD, PyData.canLayAll0, PyData.canLay0, h2, show PyData.strOk x = true from h1]
    | int i => simp [vD, PyData.canLayAll0, PyData.canLay0, h2]
    | _ => exact h1.elim
theorem dep_flat : ∀ {vs : List V}, (∀ v ∈ vs, flatV v) → PyData.depthAll (vs.map vD) = 0
  | [], _ => by simp [PyData.canLayAll0, PyData.depthAll]
  | v :: r, h => by
    rw [List.map_cons]
    have h1 := h v (List.mem_cons_self ..)
    have h2 := dep_flat fun w hw => h w (List.mem_cons_of_mem _ hw)
    cases v with
    | str x => simp [vD, PyData.depthAll, PyData.depth, h2]
    | int i => simp [vD, PyData.depthAll, PyData.depth, h2]
    | _ => exact h1.elim
theorem ev_flat {ns : List Str} {a : Str} {ev : Ev} (hns : ∀ b ∈ ns, PyData.strOk b = true) (h : EvOk ns a ev) : ∀ v ∈ ev.vs, flatV v := by
  cases h with
  | set h1 h2 =>
    intro v hv
    simp only [Ev.vs, List.mem_cons, List.not_mem_nil, or_false] at hv
    rcases hv with rfl | rfl | rfl
    · exact (by decide +kernel : PyData.strOk "set" = true)
    · exact strOk_name h1
    · exact True.intro
  | inp h1 h2 =>
    intro v hv
    simp only [Ev.vs, List.mem_cons, List.not_mem_nil, or_false] at hv
    rcases hv with rfl | rfl | rfl
    · exact (by decide +kernel : PyData.strOk "input" = true)
    · exact strOk_name h1
    · exact True.intro
  | snd h1 h2 h3 =>
    intro v hv
    simp only [Ev.vs, List.mem_cons, List.not_mem_nil, or_false] at hv
    rcases hv with rfl | rfl | rfl
    · exact (by decide +kernel : PyData.strOk "send" = true)
    · exact hns _ h1
    · exact True.intro
  | @rcv t q x v' h1 h2 h3 h4 =>
    intro v hv
    simp only [Ev.vs, List.mem_cons, List.not_mem_nil, or_false] at hv
    rcases hv with rfl | rfl | rfl | rfl
    · cases t
      · exact (by decide +kernel : PyData.strOk "receive" = true)
      · exact (by decide +kernel : PyData.strOk "take" = true)
    · exact hns _ h1
    · exact strOk_name h3
    · exact True.intro
  | chk =>
    intro v hv
    simp only [Ev.vs, List.mem_cons, List.not_mem_nil, or_false] at hv
    subst hv
    exact (by decide +kernel : PyData.strOk "checkpoint" = true)
def evD (ev : Ev) : PyData := .tuple (ev.vs.map vD)
/-- the answer to a step of a: k 0 unknown, 1 not ready, 2 the event -/
def ansD (R : Rec) (C : Cut) (a : Str) : Nat → PyData
  | 0 => .tuple [.str "unknown", .str a]
  | 1 => .tuple [.str "not", .str a]
  | _ => .tuple [.str "event", evD (((R a)[C a]?).getD .chk)]
def kindB (ns : List Str) (R : Rec) (N : Sol) (C : Cut) (a : Str) : Nat := if a ∈ ns then (if cutB ns R N (bump C a) = true then 2 else 1) else 0
def nextC (ns : List Str) (R : Rec) (N : Sol) (C : Cut) (a : Str) : Cut := if kindB ns R N C a = 2 then bump C a else C
theorem shaped_pair {s a : Str} (h1 : PyData.strOk s = true) (h2 : PyData.strOk a = true) : SeqAt.shaped (.tuple [.str s, .str a]) = true := by
  unfold SeqAt.shaped
  have h3 : PyData.canLay0 (.tuple [.str s, .str a]) = true := by simp [PyData.canLay0, PyData.canLayAll0, h1, h2]
  have h4 : PyData.depth (.tuple [.str s, .str a]) ≤ 64 := by simp [PyData.depth, PyData.depthAll]
  rw [h3, decide_eq_true h4] <;> rfl
theorem shaped_ev {s : Str} {ev : Ev} (h1 : PyData.strOk s = true) (h2 : ∀ v ∈ ev.vs, flatV v) : SeqAt.shaped (.tuple [.str s, evD ev]) = true := by
  unfold SeqAt.shaped evD
  have h3 : PyData.canLay0 (.tuple [.str s, .tuple (ev.vs.map vD)]) = true := by simp [PyData.canLay0, PyData.canLayAll0, h1, lay_flat h2]
  have h4 : PyData.depth (.tuple [.str s, .tuple (ev.vs.map vD)]) ≤ 64 := by simp [PyData.depth, PyData.depthAll, dep_flat h2]
  rw [h3, decide_eq_true h4] <;> rfl
theorem dp_ev {K : PySem.W.Frag} {H : Hp} {v : V} {ev : Ev} (h : EvV H v ev) (h2 : ∀ v ∈ ev.vs, flatV v) : Dp K H v (evD ev) := by
  obtain ⟨t, rfl, h⟩ := h
  exact .tup (sqt h) (dp_flat h2)
theorem shaped_ans {ns : List Str} {R : Rec} {C : Cut} {a : Str} (g : Good ns R) (hns : ∀ b ∈ ns, PyData.strOk b = true) (ha : PyData.strOk a = true) (k : Nat) (hk : a ∈ ns ∨ k < 2) : SeqAt.shaped (ansD R C a k) = true := by
  match k with
  | 0 => exact shaped_pair (by decide +kernel) ha
  | 1 => exact shaped_pair (by decide +kernel) ha
  | k + 2 =>
    rcases hk with hk | hk
    · refine shaped_ev (by decide +kernel) ?_
      cases h : (R a)[C a]? with
      | none => exact ev_flat (ns := ns) (a := a) hns .chk
      | some ev => exact ev_flat hns (g.ev a hk ev (List.mem_of_getElem? h))
    · omega
section
variable {P : Program} {w : World} {K : PySem.W.Frag} {mg : Str → Option Value} {base : Heap} {CR CO CP : Addr}
def sp_stepped2 (K : PySem.W.Frag) (CR CO CP : Addr) : Sp := fun vs H Q _ => ∃ (S S0 : List Addr) (p r q cl : Addr) (ns : List Str) (R : Rec) (N : Sol) (ws : List (Id × Id)) (C : Cut) (a : Str), vs = [.ref p, .str a] ∧ Good ns R ∧ (∀ b ∈ ns, PyData.strOk b = true) ∧ cl ∈ S ∧ RecAt S H CR r ns R ∧ RplAt S0 H CP CO p r q cl ns R N ws C ∧
  ∀ t H', H t = none → Dp K H' (.ref t) (ansD R C a (kindB ns R N C a)) → RplAt S0 H' CP CO p r q cl ns R N ws (nextC ns R N C a) → FrS [cl] H H' → TupS H H' → Q (.ref t) H'
theorem ok_stepped2 {f : Addr} {fd : FuncData} (F : FnOk P w K mg base CX0 8 f fd ["_law_current", "_law_name"] (sp_stepped CR CO CP)) : FnOk P w K mg base CX0 8 f fd ["_law_current", "_law_name"] (sp_stepped2 K CR CO CP) := by
  refine F.imp fun vs H Q E h => ?_
  obtain ⟨S, S0, p, r, q, cl, ns, R, N, ws, C, a, rfl, g, hns, hcl, rec, rp, k⟩ := h
  refine ⟨S, S0, p, r, q, cl, ns, R, N, ws, C, a, rfl, g, hcl, rec, rp, fun ha t H' ht h e => ?_, fun ha hc t H' ht h e => ?_, fun ha hc t v H' ev ht h hev hv rp' fx tx => ?_⟩
  · have hk : kindB ns R N C a = 0 := by unfold kindB; rw [if_neg ha]
    refine k t H' ht ?_ ?_ (FrS.of e) (stups e)
    · rw [hk]
      exact .tup (sqt h) (.cons (.str _) (.cons (.str _) .nil))
    · unfold nextC
      rw [hk]
      exact rp.same e
  · have hk : kindB ns R N C a = 1 := by unfold kindB; rw [if_pos ha, hc] <;> rfl
    refine k t H' ht ?_ ?_ (FrS.of e) (stups e)
    · rw [hk]
      exact .tup (sqt h) (.cons (.str _) (.cons (.str _) .nil))
    · unfold nextC
      rw [hk]
      exact rp.same e
  · have hk : kindB ns R N C a = 2 := by unfold kindB; rw [if_pos ha, hc] <;> rfl
    refine k t H' ht ?_ ?_ fx tx
    · rw [hk]
      unfold ansD
      rw [hev]
      exact .tup (sqt h) (.cons (.str _) (.cons (dp_ev hv (ev_flat hns (g.ev a ha ev (List.mem_of_getElem? hev)))) .nil))
    · unfold nextC
      rw [hk, if_pos rfl]
      exact rp'
/-- another replay steps -/
theorem RplAt.frl {S : List Addr} {H H' : Hp} {p r q cl l : Addr} {ns : List Str} {R : Rec} {N : Sol} {ws : List (Id × Id)} {C : Cut} {xs : List V} (z : RplAt S H CP CO p r q cl ns R N ws C) (hl : H l = some (.lst xs)) (ne : cl ≠ l) (f : FrS [l] H H') (t : TupS H H') : RplAt S H' CP CO p r q cl ns R N ws C := by
  obtain ⟨dx, h1, h2, od⟩ := z.ex
  obtain ⟨dxo, kt, rc, nd, zs, ids, g1, g2, g3, g4, g5, n1, n2⟩ := od.ex
  have key : ∀ {b : Addr} {u : HO}, H b = some u → u ≠ .lst xs → H' b = some u := fun hb hne => f _ _ hb (by
    simp only [List.mem_singleton]
    intro z
    rw [z, hl] at hb
    exact hne (Option.some.inj hb).symm)
  exact ⟨dx, key h1 (fun z => nomatch z), f _ _ h2 (by simpa using ne), dxo, kt, rc, nd, zs, ids, key g1 (fun z => nomatch z), t _ _ g2, L2.Paired.mapP g3 fun _ _ q => q.mono t, g4.imp (fun _ h => key h (fun z => nomatch z)) (fun _ _ _ h => TupV.mono t h), g5, n1, n2⟩
end
end Rr

set_option Elab.async false
set_option linter.all false
set_option maxRecDepth 100000
set_option maxHeartbeats 8000000
namespace Rr
open PySem PySem.Spec PyProof.Rows L2 Xr
theorem nameB_pool : ∀ a ∈ pool, nameB a = true := by decide +kernel
/-- a wait as it is handed: a list of two lists, new behind G -/
def HdW (G : Hp) (D : Addr) (H : Hp) (v : V) (p : Id × Id) : Prop := ∃ t x y : Addr, v = .ref t ∧ t ≠ D ∧ x ≠ D ∧ y ≠ D ∧ G t = none ∧ H t = some (.lst [.ref x, .ref y]) ∧ H x = some (.lst (idVs p.1)) ∧ H y = some (.lst (idVs p.2))
theorem HdW.mono {G H H' : Hp} {D : Addr} {v : V} {p : Id × Id} (h : HdW G D H v p) (e : ∀ b u, H b = some u → b ≠ D → H' b = some u) : HdW G D H' v p := by
  obtain ⟨t, x, y, h1, n1, n2, n3, gt, h2, h3, h4⟩ := h
  exact ⟨t, x, y, h1, n1, n2, n3, gt, e _ _ h2 n1, e _ _ h3 n2, e _ _ h4 n3⟩
theorem HdW.wait {G H : Hp} {D : Addr} {v : V} {p : Id × Id} (h : HdW G D H v p) : WaitT H v p := by
  obtain ⟨t, x, y, rfl, _, _, _, _, h2, h3, h4⟩ := h
  refine .node (.inr ⟨rfl, h2⟩) (by simp) (.cons ?_ (.cons ?_ .nil))
  · exact .node (.inr ⟨rfl, h3⟩) (by simp [idVs]) (.cons (.leaf (.str _)) (.cons (.leaf (.int _)) .nil))
  · exact .node (.inr ⟨rfl, h4⟩) (by simp [idVs]) (.cons (.leaf (.str _)) (.cons (.leaf (.int _)) .nil))
/-! ### the rows as a dict -/
theorem merge_nd : ∀ (more acc : List (Key × V)), ((acc ++ more).map Prod.fst).Nodup → mergeK acc more = acc ++ more
  | [], acc, _ => by simp [mergeK]
  | kv :: r, acc, h => by
    have hn : valV acc kv.1 = none := (valV_none _ _).mpr fun hm => by
      rw [List.map_append, List.map_cons] at h
      exact (List.nodup_append.mp h).2.2 _ hm _ (List.mem_cons_self ..) rfl
    show mergeK (putK acc kv.1 kv.2) r = _
    rw [putK_new _ hn, merge_nd r (acc ++ [(kv.1, kv.2)]) (by simpa using h)]
    simp
theorem val_at : ∀ {kvs : List (Key × V)} {i : Nat} {k : Key} {v : V}, (kvs.map Prod.fst).Nodup → kvs[i]? = some (k, v) → valV kvs k = some v
  | [], _, _, _, _, h => by simp at h
  | q :: r, 0, k, v, _, h => by
    simp at h
    subst h
    rw [valV_pos rfl]
  | q :: r, i + 1, k, v, nd, h => by
    have h' : r[i]? = some (k, v) := by simpa using h
    have : q.1 ≠ k := fun z => (List.nodup_cons.mp nd).1 (List.mem_map.mpr ⟨_, List.mem_of_getElem? h', z.symm⟩)
    rw [valV_neg this, val_at (List.nodup_cons.mp nd).2 h']
theorem rows_kvs {K : PySem.W.Frag} {H : Hp} {R : Rec} : ∀ {ns : List Str} {xs : List V}, Paired (RowV H) xs (rowsOf ns R) → ∃ (ps : List Addr) (kvs : List (Key × V)), xs = ps.map V.ref ∧ Paired (fun p kv => SqT K H p [kV kv.1, kv.2]) ps kvs ∧ kvs.map Prod.fst = ns.map Sum.inr ∧ ∀ (i : Nat) (a : Str), ns[i]? = some a → ∃ v : V, kvs[i]? = some ((Sum.inr a : Key), v) ∧ EvsV H v (R a)
  | [], _, h => by
    cases h
    exact ⟨[], [], rfl, .nil, rfl, fun i a h => by cases i <;> cases h⟩
  | a :: r, _, h => by
    cases h with
    | cons hx ht =>
      obtain ⟨ps, kvs, h1, h2, h3, h4⟩ := rows_kvs ht
      obtain ⟨y, ⟨t, rfl, htt⟩, hes⟩ := hx
      refine ⟨t :: ps, (.inr a, y) :: kvs, by rw [h1]; rfl, .cons (sqt htt) h2, by rw [List.map_cons, h3]; rfl, fun i b hb => ?_⟩
      cases i with
      | zero =>
        simp at hb
        subst hb
        exact ⟨y, rfl, hes⟩
      | succ i => exact h4 i b (by simpa using hb)
/-- the answer in the heap -/
def AnsV (H : Hp) (v : V) (R : Rec) (C : Cut) (a : Str) : Nat → Prop
  | 0 => TupV H v [.str "unknown", .str a]
  | 1 => TupV H v [.str "not", .str a]
  | _ => ∃ y ev, TupV H v [.str "event", y] ∧ (R a)[C a]? = some ev ∧ EvV H y ev
theorem AnsV.mono {H H' : Hp} {v : V} {R : Rec} {C : Cut} {a : Str} (t : TupS H H') : ∀ {k : Nat}, AnsV H v R C a k → AnsV H' v R C a k
  | 0, h => TupV.mono t h
  | 1, h => TupV.mono t h
  | _ + 2, h => let ⟨y, ev, h1, h2, h3⟩ := h; ⟨y, ev, h1.mono t, h2, h3.mono t⟩
theorem AnsV.dp {K : PySem.W.Frag} {H : Hp} {v : V} {ns : List Str} {R : Rec} {C : Cut} {a : Str} (g : Good ns R) (hns : ∀ b ∈ ns, PyData.strOk b = true) : ∀ {k : Nat}, (2 ≤ k → a ∈ ns) → AnsV H v R C a k → Dp K H v (ansD R C a k)
  | 0, _, h => by
    obtain ⟨t, rfl, h⟩ := h
    exact .tup (sqt h) (.cons (.str _) (.cons (.str _) .nil))
  | 1, _, h => by
    obtain ⟨t, rfl, h⟩ := h
    exact .tup (sqt h) (.cons (.str _) (.cons (.str _) .nil))
  | k + 2, hk, h => by
    obtain ⟨y, ev, ⟨t, rfl, h1⟩, h2, h3⟩ := h
    have ha := hk (by omega)
    unfold ansD
    rw [h2]
    exact .tup (sqt h1) (.cons (.str _) (.cons (dp_ev h3 (ev_flat hns (g.ev a ha ev (List.mem_of_getElem? h2)))) .nil))
theorem StrAt.frs {H H' : Hp} {p q : Addr} {B : Nat} {T : List Addr} (s : StrAt H p q B) (f : FrS T H H') (hp : p ∉ T) (hq : q ∉ T) : StrAt H' p q B := by
  obtain ⟨ns, a, b, c, h1, h2, h3⟩ := s.ex
  exact ⟨ns, a, b, c, f _ _ h1 hp, f _ _ h2 hq, h3⟩
theorem kind_le (ns : List Str) (R : Rec) (N : Sol) (C : Cut) (a : Str) : kindB ns R N C a = 0 ∧ a ∉ ns ∨ kindB ns R N C a = 1 ∧ a ∈ ns ∧ cutB ns R N (bump C a) = false ∨ kindB ns R N C a = 2 ∧ a ∈ ns ∧ cutB ns R N (bump C a) = true := by
  unfold kindB
  by_cases ha : a ∈ ns
  · rw [if_pos ha]
    cases hc : cutB ns R N (bump C a) with
    | true => exact .inr (.inr ⟨if_pos rfl, ha, rfl⟩)
    | false => exact .inr (.inl ⟨if_neg Bool.false_ne_true, ha, rfl⟩)
  · rw [if_neg ha]
    exact .inl ⟨rfl, ha⟩
def adr : V → Addr
  | .ref t => t
  | _ => 0
/-- lists that are no part of a replay change -/
theorem RplAt.frs {S T : List Addr} {H H' : Hp} {CP CO p r q cl : Addr} {ns : List Str} {R : Rec} {N : Sol} {ws : List (Id × Id)} {C : Cut} (z : RplAt S H CP CO p r q cl ns R N ws C) (hT : ∀ l ∈ T, ∃ xs : List V, H l = some (.lst xs)) (ne : cl ∉ T) (f : FrS T H H') (t : TupS H H') : RplAt S H' CP CO p r q cl ns R N ws C := by
  obtain ⟨dx, h1, h2, od⟩ := z.ex
  obtain ⟨dxo, kt, rc, nd, zs, ids, g1, g2, g3, g4, g5, n1, n2⟩ := od.ex
  have key : ∀ {b : Addr} {u : HO}, H b = some u → (∀ xs, u ≠ .lst xs) → H' b = some u := fun hb hne => f _ _ hb fun hm => by
    obtain ⟨xs, hx⟩ := hT _ hm
    rw [hx] at hb
    exact hne xs (Option.some.inj hb).symm
  exact ⟨dx, key h1 (fun _ z => nomatch z), f _ _ h2 ne, dxo, kt, rc, nd, zs, ids, key g1 (fun _ z => nomatch z), t _ _ g2, L2.Paired.mapP g3 fun _ _ q => q.mono t, g4.imp (fun _ h => key h (fun _ z => nomatch z)) (fun _ _ _ h => TupV.mono t h), g5, n1, n2⟩
theorem RplAt.uniq {S : List Addr} {H : Hp} {CP CO p r q cl : Addr} {ns : List Str} {R : Rec} {N M : Sol} {ws : List (Id × Id)} {C : Cut} (z : RplAt S H CP CO p r q cl ns R N ws C) (n : IsN R (msgsOf ns R ++ ws) N) (m : IsN R (msgsOf ns R ++ ws) M) : RplAt S H CP CO p r q cl ns R M ws C := let ⟨dx, a, b, c⟩ := z.ex; ⟨dx, a, b, c.uniq n m⟩
/-- the state of the walk behind some turns -/
structure StpAt (G0 : Hp) (CR CO CP p q rx : Addr) (ns : List Str) (R : Rec) (N : Sol) (ws : List (Id × Id)) (C : Cut) (px ct : Addr) (B : Nat) (HH : Hp) : Prop where
  st : StrAt HH p q B
  fr : Fr2 p q G0 HH
  rp : ∃ (S : List Addr) (q0 cl : Addr), RplAt [] HH CP CO px rx q0 cl ns R N ws C ∧ cl ∈ S ∧ p ∈ S ∧ q ∈ S ∧ RecAt S HH CR rx ns R ∧ G0 cl = none
  ct : HH ct = some (.tup (numsC ns C))
  rc : Rc ns R N C
def LawJ (scr p L wl d hd : Addr) (G0 : Hp) (CR CO CP q rx : Addr) (ns : List Str) (R : Rec) (N : Sol) (ws : List (Id × Id)) (B0 i : Nat) (σ' : L2.St) (HH : Hp) : Prop := ∃ (v6 v7 v9 v11 v12 v13 v14 v15 v16 v17 : Option V) (px ct : Addr) (C : Cut),
  σ' = [some (.ref scr), some (.ref p), some (.ref L), some (.ref wl), some (.ref d), some (.ref hd), v6, v7, some (.ref px), v9, some (.ref ct), v11, v12, v13, v14, v15, v16, v17] ∧ StpAt G0 CR CO CP p q rx ns R N ws C px ct (B0 + 2 * i) HH
section
variable {P : Program} {w : World} {K : PySem.W.Frag} {mg : Str → Option Value} {base : Heap} {CR CO CP : Addr}
abbrev N_law : List Str := ["_law_script", "_law_stream", "_law_rows_here", "_law_waits_here", "_law_needs_here", "_law_handed", "_law_one", "_law_other", "_law_current", "_law_wait", "_law_cut", "_law_turn", "_law_ready", "_law_name", "_law_events", "_law_some", "_law_aside", "_law_due"]
theorem sc_law : FnScope N_law ["_law_script"] (defScope s_law) := ⟨rfl, rfl, rfl, by decide +kernel, rfl, by decide +kernel, by decide +kernel⟩
def sp_law (K : PySem.W.Frag) : Sp := fun vs H Q _ => ∃ (a : Addr) (zs : List Int), vs = [.ref a] ∧ SqL K H a (zs.map V.int) ∧ zs.length ≤ 63 ∧ ∀ H', Q (.bl true) H'
theorem ok_law (T : Txt K mg) (z_dict : mg "dict" = none) (cr : CRec K CR) (cp : CRpl K CP) (cmp : CmpC K CP) (G_w_draw : Gf P w K mg base 1 "_law_draw" ["_law_stream", "_law_many"] sp_draw) (G_w_names : Gf P w K mg base 2 "_law_names" ["_law_stream"] sp_names) (G_w_rows : Gf P w K mg base 4 "_law_rows" ["_law_stream", "_law_names_here", "_law_many"] sp_rows)
    (G_w_some_waits : Gf P w K mg base 4 "_law_some_waits" ["_law_stream", "_law_rows_here"] sp_some_waits) (G_w_messages : Gf P w K mg base 1 "_law_messages" ["_law_rows_here"] sp_messages) (G_w_needs : Gf P w K mg base 1 "_law_needs" ["_law_rows_here", "_law_arrows"] sp_needs) (G_w_open : Gf P w K mg base 1 "_law_open" ["_law_rows_here", "_law_needs_here", "_law_cut"] sp_open)
    (G_w_after : Gf P w K mg base 1 "_law_after" ["_law_rows_here", "_law_cut", "_law_name"] sp_after) (G_w_stands : Gf P w K mg base 8 "_law_stands" ["_law_current", "_law_cut", "_law_ready"] (sp_stands CR CO CP)) (G_w_stepped : Gf P w K mg base 8 "_law_stepped" ["_law_current", "_law_name"] (sp_stepped2 K CR CO CP))
    (G_Record : Gk P w K mg base 6 "Record" CR ["self", "rows"] (sp_Record_init K)) (G_Replay : Gk P w K mg base 10 "Replay" CP ["self", "record", "waits"] (sp_Replay_init CR CO CP))
    (G_Replay_reached : Gm P w K mg base 1 CP "reached" ["self"] (sp_Replay_reached CO CP)) (G_Replay_ready : Gm P w K mg base 7 CP "ready" ["self"] (sp_Replay_ready CR CO CP)) (G_Replay_copy : Gm P w K mg base 12 CP "copy" ["self"] (sp_Replay_copy CR CO CP)) (G_Replay_step : Gm P w K mg base 7 CP "step" ["self", "name"] (sp_Replay_step CR CO CP))
    {f : Addr} {fd : FuncData} (F : FunD K "law" "law" (defArgs s_law) (defBody s_law) (defScope s_law) [] [] f fd) : FnOk P w K mg base CX0 13 f fd ["_law_script"] (sp_law K) := by
  refine ok0 F sc_law (fun vs H Q E h => ?_) (fun cdv A outer s H vs Q E hr h => ?_)
  · obtain ⟨a, zs, rfl, _⟩ := h
    rfl
  · obtain ⟨scr, zs, rfl, hS, hzs, k⟩ := h
    have hu := hu_of hr
    refine ⟨_, (pss_cons (ps_set (i := 1) sc_law.nd rfl (Or.inl rfl) (pe_lst (pa_cons (pe_callTy (q_list K rfl) (by rfl) T.z_list (by decide +kernel) (pa_cons (pv 0) pa_nil)) (pa_cons pe_int (pa_cons pe_int (pa_cons pe_int pa_nil))))))
      (pss_cons (ps_set (i := 2) sc_law.nd rfl (Or.inl rfl) (pe_call G_w_rows.F (G_w_rows.room hr) (by rfl) G_w_rows.mg G_w_rows.kp G_w_rows.b .nil pass0 (pa_cons (pv 1) (pa_cons (pe_call G_w_names.F (G_w_names.room hr) (by rfl) G_w_names.mg G_w_names.kp G_w_names.b .nil pass0 (pa_cons (pv 1) pa_nil)) (pa_cons (pe_call G_w_draw.F (G_w_draw.room hr) (by rfl) G_w_draw.mg G_w_draw.kp G_w_draw.b .nil pass0 (pa_cons (pv 1) (pa_cons pe_int pa_nil))) pa_nil)))))
      (pss_cons (ps_set (i := 3) sc_law.nd rfl (Or.inl rfl) (pe_call G_w_some_waits.F (G_w_some_waits.room hr) (by rfl) G_w_some_waits.mg G_w_some_waits.kp G_w_some_waits.b .nil pass0 (pa_cons (pv 1) (pa_cons (pv 2) pa_nil))))
      (pss_cons (ps_set (i := 4) sc_law.nd rfl (Or.inl rfl) (pe_call G_w_needs.F (G_w_needs.room hr) (by rfl) G_w_needs.mg G_w_needs.kp G_w_needs.b .nil pass0 (pa_cons (pv 2) (pa_cons (pe_op op_cat (pe_call G_w_messages.F (G_w_messages.room hr) (by rfl) G_w_messages.mg G_w_messages.kp G_w_messages.b .nil pass0 (pa_cons (pv 2) pa_nil)) (pv 3)) pa_nil))))
      (pss_cons (ps_setLc (i := 5) (own := [("_law_one", 6), ("_law_other", 7)]) (by rfl) sc_law.nd rfl rfl (sw_true rfl rfl rfl (by decide +kernel)) (q_plist K rfl (pv 3)) (blkOk_by (N := N_law) (sc := defScope s_law) (by decide +kernel)) (fun _ _ _ _ _ => (q_tup (n := 2) K rfl rfl (pgs_cons (pg_name (i := 6) sc_law.nd rfl (Or.inl rfl)) (pgs_cons (pg_name (i := 7) sc_law.nd rfl (Or.inl rfl)) pgs_nil)))) (fun _ _ _ _ _ => pts_nil) (fun _ _ _ _ _ => (pe_lst (pa_cons (pe_callTy (q_list K rfl) (by rfl) T.z_list (by decide +kernel) (pa_cons (pv 6) pa_nil)) (pa_cons (pe_callTy (q_list K rfl) (by rfl) T.z_list (by decide +kernel) (pa_cons (pv 7) pa_nil)) pa_nil)))))
      (pss_cons (ps_set (i := 8) sc_law.nd rfl (Or.inl rfl) (pe_make G_Replay.M G_Replay.F (G_Replay.room hr) (by rfl) G_Replay.mg G_Replay.b .nil pass0 (pa_cons (pe_make G_Record.M G_Record.F (G_Record.room hr) (by rfl) G_Record.mg G_Record.b .nil pass0 (pa_cons (pv 2) pa_nil)) (pa_cons (pv 5) pa_nil))))
      (pss_cons (ps_for PassesOwn.never rfl (q_plist K rfl (pv 5)) (pg_name (i := 9) sc_law.nd rfl (Or.inl rfl))
        (pss_one (ps_expr (q_bm0 K rfl PySem.F.plainAttrs_list PySem.F.slot_list_clear PySem.F.type_list_clear mt_clear (pv 9)))))
      (pss_cons (ps_expr (q_bm0 K rfl PySem.F.plainAttrs_list PySem.F.slot_list_clear PySem.F.type_list_clear mt_clear (pv 5)))
      (pss_cons (ps_set (i := 10) sc_law.nd rfl (Or.inl rfl) (pe_op (q_repT K rfl) (pe_tup (pa_cons pe_int pa_nil)) (pe_callB (q_len K rfl) (by rfl) T.z_len (by decide +kernel) (pa_cons (pv 2) pa_nil))))
      (pss_cons (ps_for PassesOwn.never rfl (pi_range1 (by rfl) T.z_range (pa_cons pe_int pa_nil)) (pg_name (i := 11) sc_law.nd rfl (Or.inl rfl))
        (pss_cons (ps_set (i := 12) sc_law.nd rfl (Or.inl rfl) (pe_call G_w_open.F (G_w_open.room hr) (by rfl) G_w_open.mg G_w_open.kp G_w_open.b .nil pass0 (pa_cons (pv 2) (pa_cons (pv 4) (pa_cons (pv 10) pa_nil)))))
        (pss_cons (ps_if (pt_not (pt_val (pe_call G_w_stands.F (G_w_stands.room hr) (by rfl) G_w_stands.mg G_w_stands.kp G_w_stands.b .nil pass0 (pa_cons (pv 8) (pa_cons (pv 10) (pa_cons (pv 12) pa_nil))))))
          (pss_one (ps_ret pe_bl))
          pss_nil)
        (pss_cons (ps_if (pt_cmpR (q_eqD K rfl hr.units) (pv 12) (pe_lst pa_nil) (nomark _))
          (pss_one (ps_ret (pe_cmpR (q_eqD K rfl hr.units) (pv 10) (pe_callTy (q_tuple K rfl) (by rfl) T.z_tuple (by decide +kernel) (pa_cons (pe_lc (own := [("_law_name", 13), ("_law_events", 14)]) (by rfl) sc_law.nd (q_plist K rfl (pv 2)) (blkOk_by (N := N_law) (sc := defScope s_law) (by decide +kernel)) (fun _ _ _ _ _ => (q_tup (n := 2) K rfl rfl (pgs_cons (pg_name (i := 13) sc_law.nd rfl (Or.inl rfl)) (pgs_cons (pg_name (i := 14) sc_law.nd rfl (Or.inl rfl)) pgs_nil)))) (fun _ _ _ _ _ => pts_nil) (fun _ _ _ _ _ => (pe_callB (q_len K rfl) (by rfl) T.z_len (by decide +kernel) (pa_cons (pv 14) pa_nil)))) pa_nil)) (nomark _))))
          pss_nil)
        (pss_cons (ps_set (i := 15) sc_law.nd rfl (Or.inl rfl) (pe_op op_cat (pe_op op_cat (pe_lc (own := [("_law_name", 13), ("_law_events", 14)]) (by rfl) sc_law.nd (q_plist K rfl (pv 2)) (blkOk_by (N := N_law) (sc := defScope s_law) (by decide +kernel)) (fun _ _ _ _ _ => (q_tup (n := 2) K rfl rfl (pgs_cons (pg_name (i := 13) sc_law.nd rfl (Or.inl rfl)) (pgs_cons (pg_name (i := 14) sc_law.nd rfl (Or.inl rfl)) pgs_nil)))) (fun _ _ _ _ _ => pts_nil) (fun _ _ _ _ _ => (pv 13))) (pe_op op_rep (pv 12) pe_int)) (pe_lst (pa_cons pe_str pa_nil))))
        (pss_cons (ps_set (i := 13) sc_law.nd rfl (Or.inl rfl) (pe_ix (q_ixl K rfl) (pv 15) (pe_call G_w_draw.F (G_w_draw.room hr) (by rfl) G_w_draw.mg G_w_draw.kp G_w_draw.b .nil pass0 (pa_cons (pv 1) (pa_cons (pe_callB (q_len K rfl) (by rfl) T.z_len (by decide +kernel) (pa_cons (pv 15) pa_nil)) pa_nil))) (fun _ _ => rfl)))
        (pss_cons (ps_set (i := 16) sc_law.nd rfl (Or.inl rfl) (pe_meth0 (pv 8) G_Replay_copy.cl G_Replay_copy.m G_Replay_copy.F (G_Replay_copy.room hr) G_Replay_copy.b .nil pass0))
        (pss_cons (ps_if (PW.pt (pw_or (pt_cmpR (q_eqI K rfl hr.units) (pv 16) (pv 8) (nomark _)) (pw_or (pt_not (pt_cmpR (q_neI K rfl hr.units) (pv 16) (pv 8) (nomark _))) (pw_or1 (pt_not (pt_cmpR (q_eqI K rfl hr.units) (pv 8) (pv 8) (nomark _)))))))
          (pss_one (ps_ret pe_bl))
          pss_nil)
        (pss_cons (ps_set (i := 17) sc_law.nd rfl (Or.inl rfl) (pe_tup (pa_cons pe_str (pa_cons (pv 13) pa_nil))))
        (Evl.pss_cut (ps_if (pt_cmpR op_eq (pv 13) pe_str (nomark _))
          (pss_one (ps_set (i := 17) sc_law.nd rfl (Or.inl rfl) (pe_tup (pa_cons pe_str (pa_cons (pv 13) pa_nil)))))
          pss_nil)
        (Evl.pss_cut (ps_if (pt_cmpR (q_in K rfl) (pv 13) (pv 12) (by rfl))
          (pss_cons (ps_set (i := 17) sc_law.nd rfl (Or.inl rfl) (pe_tup (pa_cons pe_str (pa_cons (pe_ix (q_ixt K rfl) (pe_dget hu (pe_callTy (call_dictP rfl) (by rfl) z_dict (by decide +kernel) (pa_cons (pv 2) pa_nil)) (pv 13) (fun _ _ => rfl)) (pe_ix (q_ixt K rfl) (pv 10) (q_bm K rfl PySem.F.plainAttrs_list PySem.F.slot_list_index PySem.F.type_list_index (q_index K rfl) (pe_lc (own := [("_law_one", 6), ("_law_events", 14)]) (by rfl) sc_law.nd (q_plist K rfl (pv 2)) (blkOk_by (N := N_law) (sc := defScope s_law) (by decide +kernel)) (fun _ _ _ _ _ => (q_tup (n := 2) K rfl rfl (pgs_cons (pg_name (i := 6) sc_law.nd rfl (Or.inl rfl)) (pgs_cons (pg_name (i := 14) sc_law.nd rfl (Or.inl rfl)) pgs_nil)))) (fun _ _ _ _ _ => pts_nil) (fun _ _ _ _ _ => (pv 6))) (pa_cons (pv 13) pa_nil)) (fun _ _ => rfl)) (fun _ _ => rfl)) pa_nil))))
          (pss_one (ps_set (i := 10) sc_law.nd rfl (Or.inl rfl) (pe_call G_w_after.F (G_w_after.room hr) (by rfl) G_w_after.mg G_w_after.kp G_w_after.b .nil pass0 (pa_cons (pv 2) (pa_cons (pv 10) (pa_cons (pv 13) pa_nil)))))))
          pss_nil)
        (pss_cons (ps_if (pt_cmpR (q_neD K rfl hr.units) (pe_call G_w_stepped.F (G_w_stepped.room hr) (by rfl) G_w_stepped.mg G_w_stepped.kp G_w_stepped.b .nil pass0 (pa_cons (pv 8) (pa_cons (pv 13) pa_nil))) (pv 17) (nomark _))
          (pss_one (ps_ret pe_bl))
          pss_nil)
        (Evl.pss_cut (ps_if (PW.pt (pw_and (pt_cmpR (q_in K rfl) (pv 13) (pv 12) (by rfl)) (pw_and1 (pt_cmpR (q_eqD K rfl hr.units) (pe_meth0 (pv 16) G_Replay_reached.cl G_Replay_reached.m G_Replay_reached.F (G_Replay_reached.room hr) G_Replay_reached.b .nil pass0) (pv 10) (nomark _)))))
          (pss_one (ps_ret pe_bl))
          pss_nil)
        (pss_one (ps_if (pt_cmpR op_eq (pe_call G_w_draw.F (G_w_draw.room hr) (by rfl) G_w_draw.mg G_w_draw.kp G_w_draw.b .nil pass0 (pa_cons (pv 1) (pa_cons pe_int pa_nil))) pe_int (nomark _))
          (pss_cons (ps_if (pt_cmpR (q_neD K rfl hr.units) (pe_call G_w_stepped.F (G_w_stepped.room hr) (by rfl) G_w_stepped.mg G_w_stepped.kp G_w_stepped.b .nil pass0 (pa_cons (pv 16) (pa_cons (pv 13) pa_nil))) (pv 17) (nomark _))
            (pss_one (ps_ret pe_bl))
            pss_nil)
          (pss_cons (ps_par (i := 8) (j := 16) (by rfl) sc_law.nd rfl rfl (by decide) rfl rfl (pa_cons (pv 16) (pa_cons (pv 8) pa_nil)) (by rfl))
          (pss_one (ps_if (pt_cmpR (q_neD K rfl hr.units) (pe_meth0 (pv 16) G_Replay_ready.cl G_Replay_ready.m G_Replay_ready.F (G_Replay_ready.room hr) G_Replay_ready.b .nil pass0) (pe_lst pa_nil) (nomark _))
            (pss_one (ps_expr (pe_meth (pv 16) G_Replay_step.cl G_Replay_step.m G_Replay_step.F (G_Replay_step.room hr) G_Replay_step.b .nil pass0 (pa_cons (pe_ix (q_ixl K rfl) (pe_meth0 (pv 16) G_Replay_ready.cl G_Replay_ready.m G_Replay_ready.F (G_Replay_ready.room hr) G_Replay_ready.b .nil pass0) pe_int (fun _ _ => rfl)) pa_nil))))
            pss_nil))))
          pss_nil)))))))))))))))
      (pss_one (ps_ret pe_bl)))))))))))), ?_⟩
    refine ⟨_, rfl, scr, _, rfl, .inl hS, fun q hq => ⟨s4, fun p hp => ?_⟩⟩
    have nqp : q ≠ p := ne_of_none upd_same hp
    have S1 : StrAt (upd (upd H q (.lst (zs.map V.int))) p (.lst [.ref q, .int 0, .int 0, .int 0])) p q 0 := ⟨zs, 0, 0, 0, upd_same, by rw [upd_ne nqp]; exact upd_same, by omega, by omega, by omega, by omega, by omega, hzs⟩
    generalize upd (upd H q (.lst (zs.map V.int))) p (.lst [.ref q, .int 0, .int 0, .int 0]) = H1 at S1
    -- rows
    refine ⟨_, rfl, _, rfl, p, q, 0, rfl, S1, by omega, fun nl ns H2 hnl hnl2 nd hpool n2 n4 S2 f2 => ?_⟩
    refine ⟨_, rfl, p, q, 11, 5, rfl, S2, by omega, by decide, by decide, fun m0 H3 m0a m0b S3 f3 => ?_⟩
    obtain ⟨m, rfl⟩ := Int.eq_ofNat_of_zero_le m0a
    have pnl := S1.nep (H' := H1) hnl
    refine ⟨p, q, nl, 6, m, ns, rfl, S3, by omega, by omega, f3 _ _ hnl2 pnl.1 pnl.2, pnl.1, pnl.2, fun z hz => strOk_pool z (hpool z hz), n2, n4, nd, fun L H4 R Qu ord hL0 hrows run hlen S4 f4 => ?_⟩
    have g : Good ns R := run.good nd n2 n4 (fun a ha => nameB_pool a (hpool a ha)) (by omega)
    have h15 : ∀ a, (R a).length ≤ 15 := fun a => Nat.le_trans (run.len a) (by omega)
    have hstr : ∀ n ∈ ns, PyData.strOk n = true := fun z hz => strOk_pool z (hpool z hz)
    have hnob : ("nobody" : Str) ∉ ns := fun hm => absurd (hpool _ hm) (by decide +kernel)
    have lin := run.lin
    have pL := S3.nep (H' := H3) hL0
    obtain ⟨xs, hL4, hxs4⟩ := hrows
    -- waits
    refine ⟨_, rfl, _, rfl, p, q, L, 6 + 11 * m, ns, R, ord, rfl, S4, by omega, pL.1, pL.2, g, ⟨xs, hL4, hxs4⟩, lin, fun wl H6 fnd0 ws hwl0 hws6 linf wok wlen S6 f6 => ?_⟩
    obtain ⟨wx, hwl6, hwx6⟩ := hws6
    have hL6 := f6 _ _ hL4 pL.1 pL.2
    have hxs6 := L2.Paired.mapP hxs4 fun _ _ z => z.mono (f6.tups S4)
    have hwA := wok.arr linf
    have linW := linf.waits wok.bef
    have hws : ∀ p ∈ ws, IsEv R p.1 ∧ IsEv R p.2 ∧ p.1.1 ≠ p.2.1 := fun p hp => ⟨(hwA p hp).1, (hwA p hp).2, wok.ne p hp⟩
    have pwl := S4.nep (H' := H4) hwl0
    clear hxs4 hL4 hwl0 S4 f4 S3 f3 S2 f2 S1 f6 hL0 hnl hnl2 run hlen
    have nlen : xs.length = ns.length := by rw [plen hxs6, rows_len]
    have hMA : Arr R (msgsOf ns R ++ ws) := fun p hp => by
      rcases List.mem_append.mp hp with h | h
      · exact msgs_arr ns R p h
      · exact hwA p h
    have hmL : (msgsOf ns R).length ≤ 3600 := Nat.le_trans (msgsOf_len g.len ns) (Nat.mul_le_mul_right 900 g.n4)
    -- needs
    refine ⟨_, rfl, _, rfl, L, ns, R, rfl, g, ⟨xs, hL6, hxs6⟩, fun mA H7 hmA0 hmP e7 => ?_⟩
    obtain ⟨mx, hmA7, hmx⟩ := hmP
    have hwl7 := e7 _ _ hwl6
    have hwx7 := L2.Paired.mapP hwx6 fun _ _ z => z.mono (stups e7)
    have hml : mx.length ≤ 3600 := by rw [plen hmx]; exact hmL
    have hwll : wx.length ≤ 60 := by rw [plen hwx6]; exact wlen
    refine ⟨_, rfl, mA, wl, mx, wx, rfl, rfl, hmA7, hwl7, sz (by omega), fun ar har => ?_⟩
    have e8 : Same H7 (upd H7 ar (.lst (mx ++ wx))) := same_new har
    have har8 : (upd H7 ar (.lst (mx ++ wx))) ar = some (.lst (mx ++ wx)) := upd_same
    generalize upd H7 ar (.lst (mx ++ wx)) = H8 at e8 har8
    have e68 := e7.trans e8
    have hprs : LPairs H8 ar (msgsOf ns R ++ ws) := ⟨_, har8, pappend (L2.Paired.mapP hmx fun _ _ z => z.mono (stups e8)) (L2.Paired.mapP hwx7 fun _ _ z => z.mono (stups e8))⟩
    refine ⟨L, ar, ns, R, msgsOf ns R ++ ws, rfl, g, ⟨xs, e68 _ _ hL6, L2.Paired.mapP hxs6 fun _ _ z => z.mono (stups e68)⟩, hprs, hMA, by rw [List.length_append]; omega, fun d G0 N hd8 isn TN e9 => ?_⟩
    have e6G := e68.trans e9
    have hLG := e6G _ _ hL6
    have hxsG := L2.Paired.mapP hxs6 fun _ _ z => z.mono (stups e6G)
    have hwlG := e6G _ _ hwl6
    have hwxG := L2.Paired.mapP hwx6 fun _ _ z => z.mono (stups e6G)
    have TNG : TB (NumQ p q ns N) G0 d (allIds ns R) := TN.imp (fun _ h => h) fun v e _ h => by
      obtain ⟨l, rfl, hl0, hl⟩ := h
      have := (S6.frame e68).nep (H' := H8) hl0
      exact ⟨l, rfl, this.1, this.2, hl⟩
    have SG := S6.frame e6G
    clear e9 hd8 TN hprs e68 har8 e8 har hwx7 hwl7 hmA7 hmx hml hmA0 e7 S6 hxs6 hL6 hwx6 hwl6
    -- handed
    refine ⟨_, rfl, wl, rfl, ⟨_, sq hwlG⟩, fun D hD => lc_it (walk_list (K := K) (a := wl) (xs := wx)) (fun i H1 => Same G0 H1 ∧ ∃ ys, H1 D = some (.lst ys) ∧ Paired (HdW G0 D H1) ys (ws.take i) ∧ ys.length ≤ i) ⟨same_new hD, [], upd_same, by simpa using Paired.nil, Nat.le_refl _⟩ (fun i H1 _ h => sq (h.1 _ _ hwlG)) ?_ ?_⟩
    · rintro i x H1' H1 hi ⟨e1, ys, hys, hp, hyl⟩ ⟨rfl, hx⟩
      obtain ⟨pp, hpp, x1, x2, ⟨t, rfl, ht⟩, ⟨t1, rfl, ht1⟩, ⟨t2, rfl, ht2⟩⟩ := pget hwxG hx
      have htt := e1 _ _ ht
      refine ⟨t, _, rfl, sqt htt, rfl, _, _, rfl, _, _, rfl, rfl, ?_⟩
      refine ⟨rfl, _, rfl, t1, _, rfl, .inr (sqt (e1 _ _ ht1)), fun l1 hl1 => ?_⟩
      have ea : Same H1 (upd H1 l1 (.lst (idVs pp.1))) := same_new hl1
      have hl1a : (upd H1 l1 (.lst (idVs pp.1))) l1 = some (.lst (idVs pp.1)) := upd_same
      generalize upd H1 l1 (.lst (idVs pp.1)) = H2 at ea hl1a
      refine ⟨_, rfl, t2, _, rfl, .inr (sqt (ea _ _ (e1 _ _ ht2))), fun l2 hl2 => ?_⟩
      have eb : Same H2 (upd H2 l2 (.lst (idVs pp.2))) := same_new hl2
      have hl2b : (upd H2 l2 (.lst (idVs pp.2))) l2 = some (.lst (idVs pp.2)) := upd_same
      generalize upd H2 l2 (.lst (idVs pp.2)) = H3 at eb hl2b
      refine ⟨s2, fun lt hlt => ?_⟩
      have ec : Same H3 (upd H3 lt (.lst [.ref l1, .ref l2])) := same_new hlt
      have hltc : (upd H3 lt (.lst [.ref l1, .ref l2])) lt = some (.lst [.ref l1, .ref l2]) := upd_same
      generalize upd H3 lt (.lst [.ref l1, .ref l2]) = H4 at ec hltc
      have e14 := (ea.trans eb).trans ec
      have n1 : l1 ≠ D := (ne_of_none hys hl1).symm
      have n2 : l2 ≠ D := (ne_of_none (ea _ _ hys) hl2).symm
      have n3 : lt ≠ D := (ne_of_none ((ea.trans eb) _ _ hys) hlt).symm
      refine ⟨ys, e14 _ _ hys, szl (by omega), same_mut (e1.trans e14) hD, ys ++ [.ref lt], upd_same, ?_, by simp; omega⟩
      rw [take_succ' hpp]
      refine pappend (L2.Paired.mapP hp fun _ _ z => z.mono fun b u hb hn => by rw [upd_ne hn]; exact e14 _ _ hb) (.cons ⟨lt, l1, l2, rfl, n3, n1, n2, same_back ((e1.trans ea).trans eb) hlt, by rw [upd_ne n3]; exact hltc, by rw [upd_ne n1]; exact ec _ _ (eb _ _ hl1a), by rw [upd_ne n2]; exact ec _ _ hl2b⟩ .nil)
    · rintro H10 ⟨e10, ys, hys, hp, hyl⟩
      have hwlen : wx.length = ws.length := plen hwxG
      rw [hwlen, List.take_length] at hp
      have hDG : G0 D = none := hD
      -- Record(rows)
      refine ⟨_, rfl, fun rx rdx hrx hrdx hrne => ?_⟩
      have hrx' : (upd H10 rdx (.own rx)) rx = none := by rw [upd_ne hrne.symm]; exact hrx
      have e11 : Same H10 (upd (upd H10 rdx (.own rx)) rx (.ins CR rdx [])) := (same_new hrdx).trans (same_new hrx')
      refine ⟨p :: q :: D :: ys.map adr, CR, rx, rdx, L, ns, R, ord, rfl, cr, upd_same, ?_, g, ⟨xs, (e10.trans e11) _ _ hLG, L2.Paired.mapP hxsG fun _ _ z => z.mono (stups (e10.trans e11))⟩, lin, fun H12 rec12 fr12 => ⟨rfl, ?_⟩⟩
      · intro s hs
        rcases List.mem_cons.mp hs with rfl | hs
        · obtain ⟨_, _, _, _, h1, h2, _⟩ := SG.ex
          exact ⟨_, e11 _ _ (e10 _ _ h1)⟩
        rcases List.mem_cons.mp hs with rfl | hs
        · obtain ⟨_, _, _, _, h1, h2, _⟩ := SG.ex
          exact ⟨_, e11 _ _ (e10 _ _ h2)⟩
        rcases List.mem_cons.mp hs with rfl | hs
        · exact ⟨_, e11 _ _ hys⟩
        · obtain ⟨v, hv, rfl⟩ := List.mem_map.mp hs
          obtain ⟨j, hj⟩ := List.mem_iff_getElem?.mp hv
          obtain ⟨_, _, t, _, _, rfl, _, _, _, _, ht, _⟩ := pget hp hj
          exact ⟨_, e11 _ _ ht⟩
      have e12 : Same H10 H12 := fun b u hb => fr12 b u (e11 b u hb) (ne_of_none hb hrx)
      clear fr12 e11 hrx' hrdx hrne hrx
      -- Replay(.., handed)
      refine ⟨_, rfl, fun px pdx hpx hpdx hpne => ?_⟩
      have hpx' : (upd H12 pdx (.own px)) px = none := by rw [upd_ne hpne.symm]; exact hpx
      have e13 : Same H12 (upd (upd H12 pdx (.own px)) px (.ins CP pdx [])) := (same_new hpdx).trans (same_new hpx')
      have hpr : px ≠ rx := by
        obtain ⟨_, _, _, _, _, _, _, _, h, _⟩ := rec12.ex
        exact (ne_of_none h hpx).symm
      have hD12 := e12 _ _ hys
      refine ⟨_, [], px, pdx, rx, D, ns, R, true, ys, ws, fnd0, rfl, upd_same, (fun s hs => by cases hs), hpr, g, rec12.same e13, .inr ⟨rfl, e13 _ _ hD12⟩, ?_, by omega, hws, linW, fun H14 q0 cl0 N' rp0 isn' hcl0 fp tp => ⟨rfl, ?_⟩⟩
      · exact L2.Paired.mapP hp fun _ _ z => (z.mono fun b u hb _ => e13 _ _ (e12 _ _ hb)).wait
      have e14 : Same H12 H14 := fun b u hb => fp b u (e13 b u hb) (by simp; exact ne_of_none hb hpx)
      have hcl12 : H12 cl0 = none := same_back e13 hcl0
      have rec14 : RecAt (cl0 :: p :: q :: (D :: ys.map adr)) H14 CR rx ns R := (rec12.more hcl12).same e14
      have rp14 := rp0.uniq isn' isn
      have hclG : G0 cl0 = none := same_back (e10.trans e12) hcl12
      have hp14 : Paired (HdW G0 D H14) ys ws := L2.Paired.mapP hp fun _ _ z => z.mono fun b u hb _ => e14 _ _ (e12 _ _ hb)
      have hD14 := e14 _ _ hD12
      have eG14 : Same G0 H14 := (e10.trans e12).trans e14
      have nclD : cl0 ≠ D := fun z => by rw [z, hD12] at hcl12; cases hcl12
      have nclT : cl0 ∉ ys.map adr := fun hm => by
        obtain ⟨v, hv, e⟩ := List.mem_map.mp hm
        obtain ⟨j, hj⟩ := List.mem_iff_getElem?.mp hv
        obtain ⟨_, _, t, _, _, rfl, _, _, _, _, ht, _⟩ := pget hp hj
        have := e12 _ _ ht
        rw [show t = cl0 from e, hcl12] at this
        cases this
      have hT14 : ∀ l ∈ ys.map adr, (∃ zs : List V, H14 l = some (.lst zs)) ∧ G0 l = none ∧ l ≠ D := fun l hl => by
        obtain ⟨v, hv, rfl⟩ := List.mem_map.mp hl
        obtain ⟨j, hj⟩ := List.mem_iff_getElem?.mp hv
        obtain ⟨_, _, t, _, _, rfl, n1, _, _, g0, ht, _⟩ := pget hp14 hj
        exact ⟨⟨_, ht⟩, g0, n1⟩
      clear rp0 isn' hcl0 fp tp hD12 hpr e13 hpx' hpdx hpne hpx rec12 hcl12 hp hys e14 e12 e10
      -- the handed lists are emptied
      refine ⟨_, rfl, D, rfl, ⟨_, sq hD14⟩, for_it (walk_list (K := K) (a := D) (xs := ys)) (fun i σ' H15 => ∃ v9, σ' = [some (.ref scr), some (.ref p), some (.ref L), some (.ref wl), some (.ref d), some (.ref D), none, none, some (.ref px), v9, none, none, none, none, none, none, none, none] ∧ FrS (ys.map adr) H14 H15 ∧ TupS H14 H15 ∧ ∀ l ∈ ys.map adr, ∃ zs : List V, H15 l = some (.lst zs))
        ⟨none, rfl, fun b u hb _ => hb, tur _, fun l hl => (hT14 l hl).1⟩ (fun i σ' H15 _ h => ?_) ?_ ?_⟩
      · obtain ⟨_, _, h, _⟩ := h
        exact sq (h _ _ hD14 fun hm => (hT14 D hm).2.2 rfl)
      · rintro i x σ' H15' H15 hi ⟨v9, rfl, f15, t15, l15⟩ ⟨rfl, hx⟩
        obtain ⟨_, _, t, _, _, rfl, _⟩ := pget hp14 hx
        have htm : t ∈ ys.map adr := List.mem_map.mpr ⟨_, List.mem_of_getElem? hx, rfl⟩
        obtain ⟨zs, hzs⟩ := l15 t htm
        refine ⟨_, rfl, tyl hzs, t, zs, rfl, rfl, hzs, ?_⟩
        refine ⟨_, rfl, f15.trans (FrS.upd htm), tut t15 (tups_mut hzs (fun zs z => nomatch z)), fun l hl => ?_⟩
        by_cases hlt : l = t
        · subst hlt
          exact ⟨_, upd_same⟩
        · rw [upd_ne hlt]
          exact l15 l hl
      · rintro σ' H15 ⟨v9, rfl, f15, t15, l15⟩
        have hD15 := f15 _ _ hD14 fun hm => (hT14 D hm).2.2 rfl
        refine ⟨_, rfl, tyl hD15, D, _, rfl, rfl, hD15, ?_⟩
        have f16 : FrS (D :: ys.map adr) H14 (upd H15 D (.lst [])) := fun b u hb hn => by
          rw [upd_ne (fun z => hn (by rw [z]; exact List.mem_cons_self ..))]
          exact f15 _ _ hb fun hm => hn (List.mem_cons_of_mem _ hm)
        have t16 : TupS H14 (upd H15 D (.lst [])) := tut t15 (tups_mut hD15 (fun zs z => nomatch z))
        generalize upd H15 D (.lst []) = H16 at f16 t16
        have e16 : Same G0 H16 := fun b u hb => f16 b u (eG14 b u hb) fun hm => by
          rcases List.mem_cons.mp hm with h | h
          · rw [h, hDG] at hb
            cases hb
          · rw [(hT14 b h).2.1] at hb
            cases hb
        have rec16 : RecAt (cl0 :: p :: q :: (D :: ys.map adr)) H16 CR rx ns R := rec14.fx ⟨fun b u hb hn => f16 b u hb fun hm => hn (List.mem_cons_of_mem _ (List.mem_cons_of_mem _ (List.mem_cons_of_mem _ hm))), t16⟩
        have rp16 : RplAt [] H16 CP CO px rx q0 cl0 ns R N ws (fun _ => 0) := rp14.frs (T := D :: ys.map adr) (fun l hl => by
          rcases List.mem_cons.mp hl with rfl | hl
          · exact ⟨_, hD14⟩
          · exact (hT14 l hl).1) (fun hm => by
          rcases List.mem_cons.mp hm with h | h
          · exact nclD h
          · exact nclT h) f16 t16
        clear f16 t16 hD15 l15 t15 f15 hT14 nclT nclD eG14 hD14 hp14 rp14 rec14 hDG hyl
        -- the cut
        refine ⟨s1, fun z hz => ?_⟩
        have e17 : Same H16 (upd H16 z (.tup [.int 0])) := same_new hz
        have hz17 : (upd H16 z (.tup [.int 0])) z = some (.tup [.int 0]) := upd_same
        generalize upd H16 z (.tup [.int 0]) = H17 at e17 hz17
        refine ⟨_, rfl, _, _, rfl, .inl ⟨_, sq ((e16.trans e17) _ _ hLG), rfl⟩, z, _, _, rfl, rfl, sqt hz17, by simp, by omega, by omega, by simp, fun ct hct => ?_⟩
        have hrep : (List.replicate ((xs.length : Nat) : Int).toNat [V.int 0]).flatten = numsC ns (fun _ => 0) := by
          rw [show ((xs.length : Nat) : Int).toNat = ns.length by omega, List.flatten_replicate_singleton, nums_zero]
        rw [hrep]
        have e18 : Same H16 (upd H17 ct (.tup (numsC ns (fun _ => 0)))) := e17.trans (same_new hct)
        have hct18 : (upd H17 ct (.tup (numsC ns (fun _ => 0)))) ct = some (.tup (numsC ns (fun _ => 0))) := upd_same
        generalize upd H17 ct (.tup (numsC ns (fun _ => 0))) = H18 at e18 hct18
        have eG18 := e16.trans e18
        have stp0 : StpAt G0 CR CO CP p q rx ns R N ws (fun _ => 0) px ct 4400 H18 := ⟨(SG.frame eG18).mono (by omega), Fr2.of eG18, ⟨_, q0, cl0, rp16.same e18, List.mem_cons_self .., by simp, by simp, rec16.same e18, hclG⟩, hct18, .zero⟩
        clear eG18 hct18 e18 hrep hct hz17 e17 hz rp16 rec16 e16
        refine ⟨60, rfl, by decide, by decide, ?_⟩
        refine for_range (lo := 0) (n := (60 : Int).toNat) (fun i σ' HH => LawJ scr p L wl d D G0 CR CO CP q rx ns R N ws 4400 i σ' HH) ⟨none, none, v9, none, none, none, none, none, none, none, px, ct, _, rfl, stp0⟩ ?_ ?_
        · rintro i σ' HH hi ⟨v6, v7, v9, v11, v12, v13, v14, v15, v16, v17, px, ct, C, rfl, stp⟩
          have hi60 : i < 60 := hi
          obtain ⟨S, q0, cl, rp, hclS, hpS, hqS, rec, hclG⟩ := stp.rp
          have hct := stp.ct
          have hrc := stp.rc
          have fr := stp.fr
          have Sm := stp.st
          have clo := stp.rc.clo g isn
          obtain ⟨_, _, _, _, sp1, sp2, _⟩ := id SG.ex
          have hLH := fr _ _ hLG pL.1 pL.2
          have tsH := fr.tups SG
          have hxsH := L2.Paired.mapP hxsG fun _ _ z => z.mono tsH
          have TNH : TB (NumL ns N) HH d (allIds ns R) := TNG.imp (fun _ h => fr _ _ h (ne_of h sp1 (fun z => nomatch z)) (ne_of h sp2 (fun z => nomatch z))) fun v e _ h => by
            obtain ⟨l, rfl, n1, n2, hl⟩ := h
            exact ⟨l, rfl, fr _ _ hl n1 n2⟩
          have hrdyC : rdyC ns R N C = ns.filter (rdyB ns R N C) := List.filter_congr fun a ha => cut_rdy g isn clo ha
          refine ⟨_, rfl, _, rfl, _, rfl, L, d, ct, ns, R, N, C, rfl, g, ⟨xs, hLH, hxsH⟩, TNH, .inr hct, fun rl H1 hrl0 hrl e1 => ?_⟩
          rw [← hrdyC] at hrl
          have ncr : rl ≠ cl := by
            obtain ⟨_, _, h, _⟩ := rp.ex
            exact (ne_of_none h hrl0).symm
          refine ⟨_, rfl, _, rfl, _, rfl, S, [], px, rx, q0, cl, ct, rl, ns, R, N, ws, C, rfl, g, rec.same e1, rp.same e1, hstr, e1 _ _ hct, hrl, fun H2 e2 => ⟨_, rfl, iteF ?_⟩⟩
          have e02 := e1.trans e2
          have hrl2 := e2 _ _ hrl
          refine ⟨_, rfl, s0, fun el hel => ?_⟩
          have e3 : Same H2 (upd H2 el (.lst [])) := same_new hel
          have hel3 : (upd H2 el (.lst [])) el = some (.lst []) := upd_same
          generalize upd H2 el (.lst []) = H3 at e3 hel3
          have hrs : ∀ n ∈ rdyC ns R N C, PyData.strOk n = true := fun n hn => hstr n (List.mem_filter.mp hn).1
          refine ⟨.list ((rdyC ns R N C).map .str), .list [], .lst (sq (e3 _ _ hrl2)) (dpStrs _), .lst (sq hel3) .nil, shapedStrs hrs, by decide, _, rfl, ?_⟩
          rw [eqv_nilS]
          have e03 := e02.trans e3
          have hrl3 := e3 _ _ hrl2
          clear hel3 hel e3 hrl2 e02 e2 hrl e1
          cases hem : (rdyC ns R N C).isEmpty with
          | true =>
            refine iteT ?_
            have hfull : vec ns C = vec ns fun a => (R a).length := by
              refine vec_eq.mpr fun a ha => ?_
              apply Classical.byContradiction
              intro hne
              have hlt : C a < (R a).length := by have := clo.le a; omega
              obtain ⟨a1, ha1, hr1⟩ := live g hMA linW isn clo hlt
              have hm : a1 ∈ rdyC ns R N C := List.mem_filter.mpr ⟨ha1, by rw [cut_rdy g isn clo ha1]; exact hr1⟩
              rw [List.isEmpty_iff.mp hem] at hm
              cases hm
            have e3G := e03
            refine ⟨_, rfl, _, rfl, L, rfl, ⟨_, sq (e03 _ _ hLH)⟩, fun D2 hD2 => lc_pure (walk_list (K := K) (a := L) (xs := xs)) hD2 ns nlen.symm (by omega) (fun a v _ => v = .int ((R a).length : Nat)) (fun _ _ _ _ _ z => z) (fun _ => true) (fun H' e => sq (e _ _ (e03 _ _ hLH))) (fun _ _ _ _ y => yat_same y) ?_ ?_⟩
            · rintro i b x H1 H2 kk hb e ⟨rfl, hx⟩ ht hf
              obtain ⟨a, t, y, z, es, hna, rfl, ht', rfl, hz, hes⟩ := row_at hxsH hx
              have : a = b := by
                rw [hna] at hb
                exact Option.some.inj hb
              subst this
              exact ⟨t, _, rfl, sqt (e _ _ (e03 _ _ ht')), rfl, _, _, rfl, _, _, rfl, rfl, rfl, _, rfl, _, (R a).length, rfl, .inr ⟨_, sqt (e _ _ (e03 _ _ hz)), (plen hes).symm⟩, ht _ _ (Same.refl _) rfl rfl⟩
            · intro zs H7 e7 hD7 hys
              rw [List.filter_eq_self.mpr (fun _ _ => rfl)] at hys
              have ey : zs = numsC ns (fun a => (R a).length) := plist hys
              subst ey
              refine ⟨D2, _, rfl, .inl ⟨sq hD7, fun tl htl => ?_⟩⟩
              have e8 : Same HH (upd H7 tl (.tup (numsC ns (fun a => (R a).length)))) := (e03.trans e7).trans (same_new htl)
              refine ⟨rowD (vec ns C), rowD (vec ns fun a => (R a).length), cut_dp ⟨ct, rfl, e8 _ _ hct⟩, cut_dp ⟨tl, rfl, upd_same⟩, shaped_row _, shaped_row _, ?_⟩
              rw [hfull, show PyData.eqv (rowD (vec ns fun a => (R a).length)) (rowD (vec ns fun a => (R a).length)) = true by unfold rowD; rw [eqvt_ints]; exact decide_eq_true rfl]
              exact k _
          | false =>
            refine iteF ?_
            have hrl3l : (rdyC ns R N C).length ≤ 4 := Nat.le_trans (List.length_filter_le _ _) g.n4
            -- names
            refine ⟨_, rfl, L, rfl, ⟨_, sq (e03 _ _ hLH)⟩, fun D2 hD2 => lc_pure (walk_list (K := K) (a := L) (xs := xs)) hD2 ns nlen.symm (by omega) (fun b v _ => v = .str b) (fun _ _ _ _ _ z => z) (fun _ => true) (fun H' e => sq (e _ _ (e03 _ _ hLH))) (fun _ _ _ _ y => yat_same y) ?_ ?_⟩
            · rintro i b x H1 H2 kk hb e ⟨rfl, hx⟩ ht hf
              obtain ⟨a, t, y, z, es, hna, rfl, ht', rfl, hz, hes⟩ := row_at hxsH hx
              have : a = b := by
                rw [hna] at hb
                exact Option.some.inj hb
              subst this
              exact ⟨t, _, rfl, sqt (e _ _ (e03 _ _ ht')), rfl, _, _, rfl, _, _, rfl, rfl, rfl, _, rfl, ht _ _ (Same.refl _) rfl rfl⟩
            intro zs H4 e4 hD4 hys
            rw [List.filter_eq_self.mpr (fun _ _ => rfl)] at hys
            have ey := plist hys
            subst ey
            clear hys
            have hrl4 := e4 _ _ hrl3
            refine ⟨_, rfl, rl, 3, _, rfl, rfl, hrl4, by decide, by decide, sz (by rw [List.length_map, show (3 : Int).toNat = 3 from rfl]; omega), fun r3 hr3 => ?_⟩
            have e5 : Same H4 (upd H4 r3 (.lst (List.replicate (3 : Int).toNat ((rdyC ns R N C).map V.str)).flatten)) := same_new hr3
            have hr35 : (upd H4 r3 (.lst (List.replicate (3 : Int).toNat ((rdyC ns R N C).map V.str)).flatten)) r3 = some (.lst (((List.replicate 3 (rdyC ns R N C)).flatten).map V.str)) := by
              rw [upd_same, List.map_flatten, List.map_replicate]
              rfl
            generalize upd H4 r3 (.lst (List.replicate (3 : Int).toNat ((rdyC ns R N C).map V.str)).flatten) = H5 at e5 hr35
            have hr3l : ((List.replicate 3 (rdyC ns R N C)).flatten).length ≤ 12 := by simp [List.length_flatten]; omega
            refine ⟨D2, r3, _, _, rfl, rfl, e5 _ _ hD4, hr35, sz (by rw [List.length_map, List.length_map]; omega), fun c1 hc1 => ?_⟩
            have e6 : Same H5 (upd H5 c1 (.lst (ns.map V.str ++ ((List.replicate 3 (rdyC ns R N C)).flatten).map V.str))) := same_new hc1
            have hc16 : (upd H5 c1 (.lst (ns.map V.str ++ ((List.replicate 3 (rdyC ns R N C)).flatten).map V.str))) c1 = some (.lst (ns.map V.str ++ ((List.replicate 3 (rdyC ns R N C)).flatten).map V.str)) := upd_same
            generalize upd H5 c1 (.lst (ns.map V.str ++ ((List.replicate 3 (rdyC ns R N C)).flatten).map V.str)) = H6 at e6 hc16
            refine ⟨s1, fun nb hnb => ?_⟩
            have e7 : Same H6 (upd H6 nb (.lst [.str "nobody"])) := same_new hnb
            have hnb7 : (upd H6 nb (.lst [.str "nobody"])) nb = some (.lst [.str "nobody"]) := upd_same
            generalize upd H6 nb (.lst [.str "nobody"]) = H7 at e7 hnb7
            refine ⟨c1, nb, _, _, rfl, rfl, e7 _ _ hc16, hnb7, sz (by simp; omega), fun sl hsl => ?_⟩
            obtain ⟨sm, hsm⟩ : ∃ sm : List Str, sm = ns ++ (List.replicate 3 (rdyC ns R N C)).flatten ++ ([("nobody" : Str)] : List Str) := ⟨_, rfl⟩
            have hsl8 : (upd H7 sl (.lst ((ns.map V.str ++ ((List.replicate 3 (rdyC ns R N C)).flatten).map V.str) ++ [.str "nobody"]))) sl = some (.lst (sm.map V.str)) := by
              rw [upd_same, hsm, List.map_append, List.map_append]
              rfl
            have psl := (((((Sm.frame e03).frame e4).frame e5).frame e6).frame e7).nep (H' := H7) hsl
            have prl := Sm.nep (H' := HH) hrl0
            have e38 : Same H3 (upd H7 sl (.lst ((ns.map V.str ++ ((List.replicate 3 (rdyC ns R N C)).flatten).map V.str) ++ [.str "nobody"]))) := (((e4.trans e5).trans e6).trans e7).trans (same_new hsl)
            generalize upd H7 sl (.lst ((ns.map V.str ++ ((List.replicate 3 (rdyC ns R N C)).flatten).map V.str) ++ [.str "nobody"])) = H8 at e38 hsl8
            have hsm17 : 1 ≤ sm.length ∧ sm.length ≤ 17 := by rw [hsm]; simp; omega
            have hsmem : ∀ a ∈ sm, a ∈ ns ∨ a = "nobody" := fun a ha => by
              clear e38
              rw [hsm] at ha
              rcases List.mem_append.mp ha with h | h
              · rcases List.mem_append.mp h with h | h
                · exact .inl h
                · obtain ⟨l, hl, hal⟩ := List.mem_flatten.mp h
                  rw [List.eq_of_mem_replicate hl] at hal
                  exact .inl (List.mem_filter.mp hal).1
              · exact .inr (List.mem_singleton.mp h)
            have e08 := e03.trans e38
            have hrl8 := e38 _ _ hrl3
            have S8 := Sm.frame e08
            -- a name
            refine ⟨_, rfl, _, rfl, _, rfl, _, _, rfl, .inl ⟨_, sq hsl8, rfl⟩, p, q, _, 4400 + 2 * i, rfl, S8, by omega, by rw [List.length_map]; omega, by rw [List.length_map]; omega, fun r H9 r0 r1 S9 f9 => ?_⟩
            rw [List.length_map] at r1
            obtain ⟨a, ha9, hat⟩ := atI_of (xs := sm) r0 r1
            have haA : atI (sm.map V.str) r = some (.str a) := by
              obtain ⟨v, h1, h2⟩ := atI_of (xs := sm.map V.str) r0 (by rw [List.length_map]; exact r1)
              rw [List.getElem?_map, hat] at h2
              rw [h1, ← h2]
              rfl
            have ham := hsmem a (List.mem_of_getElem? hat)
            have hsl9 := f9 _ _ hsl8 psl.1 psl.2
            have hrl9 := f9 _ _ hrl8 prl.1 prl.2
            have ts9 := tut (stups e08) (f9.tups S8)
            have hct9 := ts9 _ _ hct
            have fr9 : Fr2 p q G0 H9 := (fr.trans (Fr2.of e08)).trans f9
            have hcl8 := (rp.same e08).ex
            have rp9 : RplAt [] H9 CP CO px rx q0 cl ns R N ws C := (rp.same e08).frs (T := [p, q]) (fun l hl => by
              obtain ⟨_, _, _, _, h1, h2, _⟩ := S8.ex
              rcases List.mem_cons.mp hl with rfl | hl
              · exact ⟨_, h1⟩
              · rw [List.mem_singleton.mp hl]
                exact ⟨_, h2⟩) (fun hm => by
              rcases List.mem_cons.mp hm with h | h
              · rw [h, sp1] at hclG
                cases hclG
              · rw [List.mem_singleton.mp h, sp2] at hclG
                cases hclG) (fun b u hb hn => f9 b u hb (fun z => hn (by simp [z])) (fun z => hn (by simp [z]))) (f9.tups S8)
            have rec9 : RecAt S H9 CR rx ns R := (rec.same e08).fx ⟨fun b u hb hn => f9 b u hb (fun z => hn (z ▸ hpS)) (fun z => hn (z ▸ hqS)), f9.tups S8⟩
            refine ⟨sl, _, r, .str a, rfl, rfl, sq hsl9, haA, ?_⟩
            clear hcl8 haA hat ha9 hsl9 hsmem f9 hsl8 r0 r1 hrl8 e08 S8 psl hsm17 rp rec hct fr Sm hLH tsH hxsH TNH stp
            -- a copy
            obtain ⟨dxp, hpx9, hcl9, _⟩ := id rp9.ex
            refine ⟨_, rfl, px, dxp, _, rfl, hpx9, rfl, S, [], [], px, rx, q0, cl, ns, R, N, ws, C, fnd0, rfl, (fun s hs => by cases hs), g, rec9, rp9, isn, by omega, hws, linW, fun x q1 cl1 H10 hx0 hcl10 rpx e10 => ?_⟩
            obtain ⟨dx1, hx10, _, _⟩ := id rpx.ex
            have hpx10 := e10 _ _ hpx9
            have hne : x ≠ px := fun z => by rw [z, hpx9] at hx0; cases hx0
            refine ⟨_, rfl, _, rfl, x, px, CP, dx1, _, dxp, _, rfl, rfl, cmp, hx10, hpx10, _, rfl, ?_⟩
            rw [decide_eq_false hne]
            refine iteF ⟨_, rfl, _, rfl, x, px, CP, dx1, _, dxp, _, rfl, rfl, cmp, hx10, hpx10, _, rfl, ?_⟩
            rw [decide_eq_false hne]
            refine iteF ⟨_, rfl, _, rfl, px, px, CP, dxp, _, dxp, _, rfl, rfl, cmp, hpx10, hpx10, _, rfl, ?_⟩
            rw [decide_eq_true (rfl : px = px)]
            refine iteF ?_
            -- what is due
            refine ⟨_, rfl, s2, fun dt hdt => ?_⟩
            have e11 : Same H10 (upd H10 dt (.tup [.str "not", .str a])) := same_new hdt
            have hdt11 : (upd H10 dt (.tup [.str "not", .str a])) dt = some (.tup [.str "not", .str a]) := upd_same
            generalize upd H10 dt (.tup [.str "not", .str a]) = H11 at e11 hdt11
            have e9 := e10.trans e11
            have haok : PyData.strOk a = true := by
              rcases ham with h | h
              · exact hstr a h
              · rw [h]
                exact (by decide +kernel : PyData.strOk "nobody" = true)
            refine ⟨fun σ' H' => ∃ d1, σ' = [some (.ref scr), some (.ref p), some (.ref L), some (.ref wl), some (.ref d), some (.ref D), v6, v7, some (.ref px), v9, some (.ref ct), some (.int (0 + (i : Nat))), some (.ref rl), some (.str a), v14, some (.ref sl), some (.ref x), some (.ref d1)] ∧ Same H11 H' ∧ H' d1 = some (.tup [.str (if a = "nobody" then "unknown" else "not"), .str a]), ?_, ?_⟩
            · refine ⟨_, rfl, rfl, _, rfl, ?_⟩
              by_cases h : a = "nobody"
              · rw [decide_eq_true (show V.str a = V.str "nobody" by rw [h])]
                exact iteT ⟨_, rfl, s2, fun d1 hd1 => ⟨d1, rfl, same_new hd1, by rw [if_pos h]; exact upd_same⟩⟩
              · rw [decide_eq_false (show ¬ V.str a = V.str "nobody" from fun z => h (V.str.inj z))]
                exact iteF ⟨dt, rfl, Same.refl _, by rw [if_neg h]; exact hdt11⟩
            rintro σ' H12 ⟨d1, rfl, e12, hd12⟩
            clear hdt11 hdt
            refine ⟨fun σ' H' => ∃ d1 ct1, σ' = [some (.ref scr), some (.ref p), some (.ref L), some (.ref wl), some (.ref d), some (.ref D), v6, v7, some (.ref px), v9, some (.ref ct1), some (.int (0 + (i : Nat))), some (.ref rl), some (.str a), v14, some (.ref sl), some (.ref x), some (.ref d1)] ∧ Same H11 H' ∧ AnsV H' (.ref d1) R C a (kindB ns R N C a) ∧ H' ct1 = some (.tup (numsC ns (nextC ns R N C a))), ?_, ?_⟩
            · have hrl12 := (e9.trans e12) _ _ hrl9
              refine ⟨_, rfl, _, rfl, rl, _, rfl, .inl (sq hrl12), rfl, flatStrs _, ?_⟩
              rw [if_neg Bool.false_ne_true, inV_strs]
              refine ⟨_, rfl, ?_⟩
              by_cases hr : a ∈ rdyC ns R N C
              · rw [decide_eq_true hr]
                have ha : a ∈ ns := (List.mem_filter.mp hr).1
                have hcut : cutB ns R N (bump C a) = true := (List.mem_filter.mp hr).2
                obtain ⟨ix, hix⟩ := List.mem_iff_getElem?.mp ha
                have hk : kindB ns R N C a = 2 := by unfold kindB; rw [if_pos ha, if_pos hcut]
                have hnx : nextC ns R N C a = bump C a := by unfold nextC; rw [if_pos hk]
                have hL12 := (e9.trans e12) _ _ (fr9 _ _ hLG pL.1 pL.2)
                have hct12 := (e9.trans e12) _ _ hct9
                have hxs12 := L2.Paired.mapP hxsG fun _ _ z => z.mono (tut (fr9.tups SG) (stups (e9.trans e12)))
                obtain ⟨ps, kvs, hps, hpk, hkeys, hkv⟩ := rows_kvs (K := K) hxs12
                have hnd : (kvs.map Prod.fst).Nodup := by
                  rw [hkeys]
                  exact List.Pairwise.map Sum.inr (fun a b hab h => hab (Sum.inr.inj h)) g.nd
                obtain ⟨v, hkvi, hev⟩ := hkv ix a hix
                have hL12' := hL12
                rw [hps] at hL12'
                refine iteT ⟨_, rfl, L, ps, kvs, rfl, sq hL12', hpk, fun dd hdd => ?_⟩
                rw [merge_nd kvs [] (by rw [List.nil_append]; exact hnd), List.nil_append]
                have e13 : Same H12 (upd H12 dd (.dK kvs)) := same_new hdd
                have hdd13 : (upd H12 dd (.dK kvs)) dd = some (.dK kvs) := upd_same
                generalize upd H12 dd (.dK kvs) = H13 at e13 hdd13
                refine ⟨_, rfl, dd, v, rfl, ?_, ?_⟩
                · have := DGet.k (k := (Sum.inr a : Key)) hdd13
                  rw [val_at hnd hkvi] at this
                  exact this
                obtain ⟨zs, ⟨z, rfl, hz⟩, hzs⟩ := hev
                refine ⟨_, rfl, _, rfl, L, rfl, ⟨_, sq (e13 _ _ hL12)⟩, fun D3 hD3 => lc_pure (walk_list (K := K) (a := L) (xs := xs)) hD3 ns nlen.symm (by omega) (fun b v _ => v = .str b) (fun _ _ _ _ _ z => z) (fun _ => true) (fun H' e => sq (e _ _ (e13 _ _ hL12))) (fun _ _ _ _ y => yat_same y) ?_ ?_⟩
                · rintro j b x1 H1 H2 kk hb e ⟨rfl, hx⟩ ht hf
                  obtain ⟨a1, t, y, z1, es, hna, rfl, ht', rfl, hz1, hes⟩ := row_at hxs12 hx
                  have : a1 = b := by
                    rw [hna] at hb
                    exact Option.some.inj hb
                  subst this
                  exact ⟨t, _, rfl, sqt (e _ _ (e13 _ _ ht')), rfl, _, _, rfl, _, _, rfl, rfl, rfl, _, rfl, ht _ _ (Same.refl _) rfl rfl⟩
                intro us H14 e14 hD14 hus
                rw [List.filter_eq_self.mpr (fun _ _ => rfl)] at hus
                have ey := plist hus
                subst ey
                have e124 := e13.trans e14
                have hle := cutB_le hcut ha
                rw [bump_self] at hle
                have hev : (R a)[C a]? = some (R a)[C a] := List.getElem?_eq_getElem (by omega)
                generalize (R a)[C a] = ev at hev
                obtain ⟨y, hy, hyev⟩ := pget' hzs hev
                refine ⟨tyl hD14, _, rfl, D3, _, .str a, ix, .str a, rfl, rfl, sq hD14, rfl, flatStrs ns, strs_get hix, eqV_self a, ix_no g.nd hix, ?_⟩
                refine ⟨ct, _, (ix : Nat), .int (C a : Nat), rfl, rfl, sqt (e124 _ _ hct12), atI_nat (nums_get hix), ?_⟩
                refine ⟨z, _, (C a : Nat), y, rfl, rfl, sqt (e124 _ _ hz), atI_nat hy, s2, fun d2 hd2 => ?_⟩
                have e15 : Same H12 (upd H14 d2 (.tup [.str "event", y])) := e124.trans (same_new hd2)
                have hd25 : (upd H14 d2 (.tup [.str "event", y])) d2 = some (.tup [.str "event", y]) := upd_same
                generalize upd H14 d2 (.tup [.str "event", y]) = H15 at e15 hd25
                refine ⟨_, rfl, _, rfl, _, rfl, L, ct, ns, R, C, a, rfl, g, ⟨xs, e15 _ _ hL12, L2.Paired.mapP hxs12 fun _ _ z => z.mono (stups e15)⟩, e15 _ _ hct12, fun ct1 H16 _ hct1 e16 => ⟨d2, ct1, rfl, (e12.trans e15).trans e16, ?_, ?_⟩⟩
                · rw [hk]
                  exact ⟨y, ev, ⟨d2, rfl, e16 _ _ hd25⟩, hev, hyev.mono (stups (e15.trans e16))⟩
                · rw [hnx]
                  exact hct1
              · rw [decide_eq_false hr]
                refine iteF ⟨d1, ct, rfl, e12, ?_, ?_⟩
                · rcases kind_le ns R N C a with ⟨hk, hn⟩ | ⟨hk, hn, hc⟩ | ⟨hk, hn, hc⟩
                  · rw [hk]
                    refine ⟨d1, rfl, ?_⟩
                    rw [hd12, if_pos (ham.resolve_left hn)]
                  · rw [hk]
                    refine ⟨d1, rfl, ?_⟩
                    rw [hd12, if_neg (show ¬ a = "nobody" from fun z => hnob (by rw [← z]; exact hn))]
                  · exact (hr (List.mem_filter.mpr ⟨hn, hc⟩)).elim
                · have hk : kindB ns R N C a ≠ 2 := fun hk => by
                    rcases kind_le ns R N C a with ⟨hk', _⟩ | ⟨hk', _⟩ | ⟨_, hn, hc⟩
                    · omega
                    · omega
                    · exact hr (List.mem_filter.mpr ⟨hn, hc⟩)
                  unfold nextC
                  rw [if_neg hk]
                  exact (e9.trans e12) _ _ hct9
            rintro σ' H13 ⟨d1, ct1, rfl, e13, hans, hct1⟩
            have e913 := e9.trans e13
            have kle : 2 ≤ kindB ns R N C a → a ∈ ns := fun h2 => by
              rcases kind_le ns R N C a with ⟨hk, _⟩ | ⟨hk, _⟩ | ⟨_, hn, _⟩
              · omega
              · omega
              · exact hn
            have hsh : SeqAt.shaped (ansD R C a (kindB ns R N C a)) = true := shaped_ans g hstr haok _ (by
              rcases kind_le ns R N C a with ⟨hk, _⟩ | ⟨hk, hn, _⟩ | ⟨_, hn, _⟩
              · exact .inr (by omega)
              · exact .inl hn
              · exact .inl hn)
            have hrcN : Rc ns R N (nextC ns R N C a) := by
              unfold nextC
              rcases kind_le ns R N C a with ⟨hk, _⟩ | ⟨hk, _⟩ | ⟨hk, hn, hc⟩
              · rw [if_neg (by omega)]
                exact hrc
              · rw [if_neg (by omega)]
                exact hrc
              · rw [if_pos hk]
                exact .step hrc hn (by rw [← cut_rdy g isn clo hn]; exact hc)
            have rp13 := rp9.same e913
            have rec13 := rec9.same e913
            have rpx13 := rpx.same (e11.trans e13)
            have recx13 : RecAt (cl1 :: S) H13 CR rx ns R := (rec9.more hcl10).same e913
            have ncl : cl ≠ cl1 := fun z => by rw [z] at hcl9; rw [hcl9] at hcl10; cases hcl10
            have hG1 : G0 cl1 = none := by
              cases hh : G0 cl1 with
              | none => rfl
              | some o =>
                have := S9.nep (H' := H9) hcl10
                rw [fr9 _ _ hh this.1 this.2] at hcl10
                cases hcl10
            have npc : p ≠ cl := fun z => by rw [← z, sp1] at hclG; cases hclG
            have nqc : q ≠ cl := fun z => by rw [← z, sp2] at hclG; cases hclG
            have npc1 : p ≠ cl1 := fun z => by rw [← z, sp1] at hG1; cases hG1
            have nqc1 : q ≠ cl1 := fun z => by rw [← z, sp2] at hG1; cases hG1
            have S13 := S9.frame e913
            have fr13 := fr9.trans (Fr2.of e913)
            have hrl13 := e913 _ _ hrl9
            -- the step
            refine ⟨_, rfl, _, rfl, S, [], px, rx, q0, cl, ns, R, N, ws, C, a, rfl, g, hstr, hclS, rec13, rp13, fun t H14 ht hdp rp14 f14 t14 => ?_⟩
            refine ⟨_, rfl, _, _, hdp, (hans.mono t14).dp g hstr kle, hsh, hsh, _, rfl, ?_⟩
            rw [PySem.SeqAt.eqv_refl _ (PySem.SeqAt.canLay_of_shaped hsh)]
            refine iteF ?_
            have hcl13 : H13 cl = some (.lst (numsC ns C)) := e913 _ _ hcl9
            have rpx14 : RplAt [] H14 CP CO x rx q1 cl1 ns R N ws C := rpx13.frs (T := [cl]) (fun l hl => by rw [List.mem_singleton.mp hl]; exact ⟨_, hcl13⟩) (by simpa using ncl.symm) f14 t14
            have rec14 : RecAt S H14 CR rx ns R := rec13.fx ⟨fun b u hb hn => f14 b u hb (fun hm => hn (by rw [List.mem_singleton.mp hm]; exact hclS)), t14⟩
            have recx14 : RecAt (cl1 :: S) H14 CR rx ns R := recx13.fx ⟨fun b u hb hn => f14 b u hb (fun hm => hn (by rw [List.mem_singleton.mp hm]; exact List.mem_cons_of_mem _ hclS)), t14⟩
            have hrl14 := f14 _ _ hrl13 (by simpa using ncr)
            have S14 := S13.frs f14 (by simpa using npc) (by simpa using nqc)
            have fr14 : Fr2 p q G0 H14 := fun b u hb h1 h2 => f14 _ _ (fr13 b u hb h1 h2) (by
              simp only [List.mem_singleton]
              intro z
              rw [z, hclG] at hb
              cases hb)
            have hct14 := t14 _ _ hct1
            have hans14 := hans.mono t14
            clear f14 t14 rec13 recx13 rpx13 rp13 S13 fr13 hrl13 hcl13 hct1 hans hdp ht e913 e9 e11 hpx10 hx10 e10 rpx hx0
            obtain ⟨dx4, hx14, _, _⟩ := id rpx14.ex
            refine ⟨fun σ' H' => σ' = [some (.ref scr), some (.ref p), some (.ref L), some (.ref wl), some (.ref d), some (.ref D), v6, v7, some (.ref px), v9, some (.ref ct1), some (.int (0 + (i : Nat))), some (.ref rl), some (.str a), v14, some (.ref sl), some (.ref x), some (.ref d1)] ∧ Same H14 H', ?_, ?_⟩
            · refine ⟨_, rfl, _, rfl, rl, _, rfl, .inl (sq hrl14), rfl, flatStrs _, ?_⟩
              rw [if_neg Bool.false_ne_true, inV_strs]
              refine ⟨_, rfl, ?_⟩
              by_cases hr : a ∈ rdyC ns R N C
              · rw [decide_eq_true hr]
                have ha : a ∈ ns := (List.mem_filter.mp hr).1
                have hcut : cutB ns R N (bump C a) = true := (List.mem_filter.mp hr).2
                have hk : kindB ns R N C a = 2 := by unfold kindB; rw [if_pos ha, if_pos hcut]
                have hnx : nextC ns R N C a = bump C a := by unfold nextC; rw [if_pos hk]
                refine iteT ⟨_, rfl, x, dx4, _, rfl, hx14, rfl, [], x, rx, q1, cl1, ns, R, N, ws, C, rfl, rpx14, fun t2 H15 _ ht2 e15 => ⟨_, rfl, rowD (vec ns C), rowD (vec ns (nextC ns R N C a)), cut_dp ⟨t2, rfl, ht2⟩, cut_dp ⟨ct1, rfl, e15 _ _ hct14⟩, shaped_row _, shaped_row _, _, rfl, ?_⟩⟩
                have hvne : vec ns C ≠ vec ns (nextC ns R N C a) := fun z => by
                  have := vec_eq.mp z a ha
                  rw [hnx, bump_self] at this
                  omega
                rw [show PyData.eqv (rowD (vec ns C)) (rowD (vec ns (nextC ns R N C a))) = false by unfold rowD; rw [eqvt_ints]; exact decide_eq_false hvne]
                exact iteF ⟨rfl, e15⟩
              · rw [decide_eq_false hr]
                exact iteF (iteF ⟨rfl, Same.refl _⟩)
            rintro σ' H15 ⟨rfl, e15⟩
            have S15 := S14.frame e15
            refine ⟨_, rfl, p, q, 4, 4400 + 2 * i + 1, rfl, S15, by omega, by decide, by decide, fun z H16 _ _ S16 f16 => ⟨rfl, _, rfl, ?_⟩⟩
            have t16 := f16.tups S15
            have fr16 : Fr2 p q G0 H16 := (fr14.trans (Fr2.of e15)).trans f16
            have tr2 : ∀ {p' q' c' : Addr} {C' : Cut}, p ≠ c' → q ≠ c' → RplAt [] H14 CP CO p' rx q' c' ns R N ws C' → RplAt [] H16 CP CO p' rx q' c' ns R N ws C' := fun h1 h2 z => (z.same e15).frs (T := [p, q]) (fun l hl => by
              obtain ⟨_, _, _, _, h1, h2, _⟩ := S15.ex
              rcases List.mem_cons.mp hl with rfl | hl
              · exact ⟨_, h1⟩
              · rw [List.mem_singleton.mp hl]
                exact ⟨_, h2⟩) (by simp; exact ⟨h1.symm, h2.symm⟩) (fun b u hb hn => f16 b u hb (fun z => hn (by simp [z])) (fun z => hn (by simp [z]))) t16
            have rp16 := tr2 npc nqc rp14
            have rpx16 := tr2 npc1 nqc1 rpx14
            have rec16 : RecAt S H16 CR rx ns R := (rec14.same e15).fx ⟨fun b u hb hn => f16 b u hb (fun z => hn (z ▸ hpS)) (fun z => hn (z ▸ hqS)), t16⟩
            have recx16 : RecAt (cl1 :: S) H16 CR rx ns R := (recx14.same e15).fx ⟨fun b u hb hn => f16 b u hb (fun z => hn (z ▸ List.mem_cons_of_mem _ hpS)) (fun z => hn (z ▸ List.mem_cons_of_mem _ hqS)), t16⟩
            have hct16 := t16 _ _ (e15 _ _ hct14)
            have hans16 := (hans14.mono (stups e15)).mono t16
            clear tr2 f16 t16 S15 e15 hx14 hans14 hct14 fr14 S14 hrl14 recx14 rec14 rpx14 rp14
            refine ite2 (fun hz => ?_) (fun hz => ?_)
            · -- the copy steps, too; they change places
              refine ⟨_, rfl, _, rfl, cl1 :: S, [], x, rx, q1, cl1, ns, R, N, ws, C, a, rfl, g, hstr, List.mem_cons_self .., recx16, rpx16, fun t H17 ht hdp rpx17 f17 t17 => ?_⟩
              refine ⟨_, rfl, _, _, hdp, (hans16.mono t17).dp g hstr kle, hsh, hsh, _, rfl, ?_⟩
              rw [PySem.SeqAt.eqv_refl _ (PySem.SeqAt.canLay_of_shaped hsh)]
              refine iteF ?_
              obtain ⟨_, _, hcx16, _⟩ := id rpx16.ex
              have rp17 : RplAt [] H17 CP CO px rx q0 cl ns R N ws (nextC ns R N C a) := rp16.frs (T := [cl1]) (fun l hl => by rw [List.mem_singleton.mp hl]; exact ⟨_, hcx16⟩) (by simpa using ncl) f17 t17
              have recx17 : RecAt (cl1 :: S) H17 CR rx ns R := recx16.fx ⟨fun b u hb hn => f17 b u hb (fun hm => hn (by rw [List.mem_singleton.mp hm]; exact List.mem_cons_self ..)), t17⟩
              have S17 := S16.frs f17 (by simpa using npc1) (by simpa using nqc1)
              have fr17 : Fr2 p q G0 H17 := fun b u hb h1 h2 => f17 _ _ (fr16 b u hb h1 h2) (by
                simp only [List.mem_singleton]
                intro z
                rw [z, hG1] at hb
                cases hb)
              have hct17 := t17 _ _ hct16
              clear f17 t17 rec16 recx16 rpx16 rp16 S16 fr16 hct16 hans16 hdp ht
              obtain ⟨dx7, hpx17, hcl17, _⟩ := id rp17.ex
              refine ⟨_, rfl, _, rfl, .ref x, .ref px, rfl, ?_⟩
              refine ⟨_, rfl, px, dx7, _, rfl, hpx17, rfl, cl1 :: S, [], px, rx, q0, cl, ns, R, N, ws, nextC ns R N C a, rfl, g, recx17, rp17, fun rl2 H18 hrl20 hrl2 e18 => ?_⟩
              refine ⟨s0, fun el2 hel2 => ?_⟩
              have e19 : Same H18 (upd H18 el2 (.lst [])) := same_new hel2
              have hel29 : (upd H18 el2 (.lst [])) el2 = some (.lst []) := upd_same
              generalize upd H18 el2 (.lst []) = H19 at e19 hel29
              have hrs2 : ∀ n ∈ rdyC ns R N (nextC ns R N C a), PyData.strOk n = true := fun n hn => hstr n (List.mem_filter.mp hn).1
              refine ⟨.list ((rdyC ns R N (nextC ns R N C a)).map .str), .list [], .lst (sq (e19 _ _ hrl2)) (dpStrs _), .lst (sq hel29) .nil, shapedStrs hrs2, by decide, _, rfl, ?_⟩
              rw [eqv_nilS]
              have e719 := e18.trans e19
              have fin : ∀ H' : Hp, FrS [cl] H17 H' → TupS H17 H' → StpAt G0 CR CO CP p q rx ns R N ws (nextC ns R N C a) x ct1 (4400 + 2 * (i + 1)) H' := fun H' f t => by
                refine ⟨(S17.frs f (by simpa using npc) (by simpa using nqc)).mono (by omega), fun b u hb h1 h2 => f _ _ (fr17 b u hb h1 h2) (by
                  simp only [List.mem_singleton]
                  intro z
                  rw [z, hclG] at hb
                  cases hb), ⟨cl1 :: S, q1, cl1, ?_, List.mem_cons_self .., List.mem_cons_of_mem _ hpS, List.mem_cons_of_mem _ hqS, ?_, hG1⟩, t _ _ hct17, hrcN⟩
                · exact rpx17.frs (T := [cl]) (fun l hl => by rw [List.mem_singleton.mp hl]; exact ⟨_, hcl17⟩) (by simpa using ncl.symm) f t
                · exact recx17.fx ⟨fun b u hb hn => f b u hb (fun hm => hn (by rw [List.mem_singleton.mp hm]; exact List.mem_cons_of_mem _ hclS)), t⟩
              cases hem2 : (rdyC ns R N (nextC ns R N C a)).isEmpty with
              | true => exact iteF ⟨v6, v7, v9, _, _, _, v14, _, _, _, x, ct1, _, rfl, fin H19 (FrS.of e719) (stups e719)⟩
              | false =>
                refine iteT ?_
                refine ⟨_, rfl, px, dx7, _, rfl, e719 _ _ hpx17, rfl, _, rfl, px, dx7, _, rfl, e719 _ _ hpx17, rfl, cl1 :: S, [], px, rx, q0, cl, ns, R, N, ws, nextC ns R N C a, rfl, g, recx17.same e719, rp17.same e719, fun rl3 H20 hrl30 hrl3 e20 => ?_⟩
                have e720 := e719.trans e20
                cases hrc2 : rdyC ns R N (nextC ns R N C a) with
                | nil =>
                  rw [hrc2] at hem2
                  cases hem2
                | cons b rr =>
                  have hbm : b ∈ rdyC ns R N (nextC ns R N C a) := by rw [hrc2]; exact List.mem_cons_self ..
                  rw [hrc2] at hrl3
                  exact ⟨rl3, _, 0, .str b, rfl, rfl, sq hrl3, atI_nat (j := 0) rfl, cl1 :: S, [], px, rx, q0, cl, ns, R, N, ws, nextC ns R N C a, b, rfl, g, List.mem_cons_of_mem _ hclS, recx17.same e720, rp17.same e720, (List.mem_filter.mp hbm).1, (List.mem_filter.mp hbm).2, fun v H21 ev hev hv rp21 f21 t21 => ⟨v6, v7, v9, _, _, _, v14, _, _, _, x, ct1, _, rfl, fin H21 ((FrS.of e720).trans f21) (tut (stups e720) t21)⟩⟩
            · exact ⟨v6, v7, v9, _, _, _, v14, _, _, _, px, ct1, _, rfl, ⟨S16.mono (by omega), fr16, ⟨S, q0, cl, rp16, hclS, hpS, hqS, rec16, hclG⟩, hct16, hrcN⟩⟩
        · rintro σ' HH ⟨v6, v7, v9, v11, v12, v13, v14, v15, v16, v17, px, ct, C, rfl, stp⟩
          exact k HH
end
end Rr

set_option Elab.async false
set_option linter.all false
set_option maxRecDepth 100000
set_option maxHeartbeats 0
namespace Hd
open PySem PySem.Spec PyProof.Rows L2 Rr Xr
theorem facts {P : Program} {w : World} {K : PySem.W.Frag} {h : Heap} {mg : Str → Option Value} {f : Addr} (X : K.In h) (G : h.Ns mainGlobals mg) (hfa : mg ("law" : Str) = some (.ref f)) (c0 : HeS.SaysS P fa fn fz ts ex w K) :
    ∃ fd : FuncData, (∀ (s : Shared) (v : Value), BindsTo s fd ⟨[v], []⟩ [("_law_script", v)]) ∧ ∀ base : Heap, K.In base → base.Ns mainGlobals mg → FnOk P w K mg base CX0 13 f fd ["_law_script"] (sp_law K) := by
  have c := c0.t.d
  obtain ⟨fd_frozen, F_frozen⟩ := c.def_ 0 (d := d_frozen) rfl
  obtain ⟨fd_is_integer, F_is_integer⟩ := c.def_ 1 (d := d_is_integer) rfl
  obtain ⟨fd_is_small, F_is_small⟩ := c.def_ 2 (d := d_is_small) rfl
  obtain ⟨fd_is_name, F_is_name⟩ := c.def_ 3 (d := d_is_name) rfl
  obtain ⟨fd_arrows_of, F_arrows_of⟩ := c.def_ 4 (d := d_arrows_of) rfl
  obtain ⟨fd_Reach_init, F_Reach_init⟩ := c.def_ 5 (d := d_Reach_init) rfl
  obtain ⟨fd_Reach_close, F_Reach_close⟩ := c.def_ 6 (d := d_Reach_close) rfl
  obtain ⟨fd_Reach_joined, F_Reach_joined⟩ := c.def_ 7 (d := d_Reach_joined) rfl
  obtain ⟨fd_Reach_with_itself, F_Reach_with_itself⟩ := c.def_ 8 (d := d_Reach_with_itself) rfl
  obtain ⟨fd_Reach_ahead, F_Reach_ahead⟩ := c.def_ 9 (d := d_Reach_ahead) rfl
  obtain ⟨fd_Reach_least_cut, F_Reach_least_cut⟩ := c.def_ 10 (d := d_Reach_least_cut) rfl
  obtain ⟨fd_check_rows, F_check_rows⟩ := c.def_ 11 (d := d_check_rows) rfl
  obtain ⟨fd_fits, F_fits⟩ := c.def_ 12 (d := d_fits) rfl
  obtain ⟨fd_is_form, F_is_form⟩ := c.def_ 13 (d := d_is_form) rfl
  obtain ⟨fd_check_events, F_check_events⟩ := c.def_ 14 (d := d_check_events) rfl
  obtain ⟨fd_sends_of, F_sends_of⟩ := c.def_ 15 (d := d_sends_of) rfl
  obtain ⟨fd_linked, F_linked⟩ := c.def_ 16 (d := d_linked) rfl
  obtain ⟨fd_executable, F_executable⟩ := c.def_ 17 (d := d_executable) rfl
  obtain ⟨fd_Record_init, F_Record_init⟩ := c.def_ 18 (d := d_Record_init) rfl
  obtain ⟨fd_Record_names, F_Record_names⟩ := c.def_ 19 (d := d_Record_names) rfl
  obtain ⟨fd_Record_check_name, F_Record_check_name⟩ := c.def_ 20 (d := d_Record_check_name) rfl
  obtain ⟨fd_Record_events, F_Record_events⟩ := c.def_ 21 (d := d_Record_events) rfl
  obtain ⟨fd_Record_length, F_Record_length⟩ := c.def_ 22 (d := d_Record_length) rfl
  obtain ⟨fd_Record_has_event, F_Record_has_event⟩ := c.def_ 23 (d := d_Record_has_event) rfl
  obtain ⟨fd_Record_partner, F_Record_partner⟩ := c.def_ 24 (d := d_Record_partner) rfl
  obtain ⟨fd_event_of, F_event_of⟩ := c.def_ 25 (d := d_event_of) rfl
  obtain ⟨fd_checked_waits, F_checked_waits⟩ := c.def_ 26 (d := d_checked_waits) rfl
  obtain ⟨fd_Order_init, F_Order_init⟩ := c.def_ 27 (d := d_Order_init) rfl
  obtain ⟨fd_Order_includes, F_Order_includes⟩ := c.def_ 28 (d := d_Order_includes) rfl
  obtain ⟨fd_Order_is_cut, F_Order_is_cut⟩ := c.def_ 29 (d := d_Order_is_cut) rfl
  obtain ⟨fd_Order_waits, F_Order_waits⟩ := c.def_ 30 (d := d_Order_waits) rfl
  obtain ⟨fd_Replay_init, F_Replay_init⟩ := c.def_ 31 (d := d_Replay_init) rfl
  obtain ⟨fd_Replay_reached, F_Replay_reached⟩ := c.def_ 32 (d := d_Replay_reached) rfl
  obtain ⟨fd_Replay_is_ready, F_Replay_is_ready⟩ := c.def_ 33 (d := d_Replay_is_ready) rfl
  obtain ⟨fd_Replay_ready, F_Replay_ready⟩ := c.def_ 34 (d := d_Replay_ready) rfl
  obtain ⟨fd_Replay_step, F_Replay_step⟩ := c.def_ 35 (d := d_Replay_step) rfl
  obtain ⟨fd_Replay_copy, F_Replay_copy⟩ := c.def_ 36 (d := d_Replay_copy) rfl
  obtain ⟨fd_w_draw, F_w_draw⟩ := c.def_ 37 (d := d_w_draw) rfl
  obtain ⟨fd_w_value, F_w_value⟩ := c.def_ 38 (d := d_w_value) rfl
  obtain ⟨fd_w_event, F_w_event⟩ := c.def_ 39 (d := d_w_event) rfl
  obtain ⟨fd_w_rows, F_w_rows⟩ := c.def_ 40 (d := d_w_rows) rfl
  obtain ⟨fd_w_messages, F_w_messages⟩ := c.def_ 41 (d := d_w_messages) rfl
  obtain ⟨fd_w_needs, F_w_needs⟩ := c.def_ 42 (d := d_w_needs) rfl
  obtain ⟨fd_w_names, F_w_names⟩ := c.def_ 43 (d := d_w_names) rfl
  obtain ⟨fd_w_replayed, F_w_replayed⟩ := c.def_ 44 (d := d_w_replayed) rfl
  obtain ⟨fd_w_waits, F_w_waits⟩ := c.def_ 45 (d := d_w_waits) rfl
  obtain ⟨fd_w_open, F_w_open⟩ := c.def_ 46 (d := d_w_open) rfl
  obtain ⟨fd_w_after, F_w_after⟩ := c.def_ 47 (d := d_w_after) rfl
  obtain ⟨fd_w_stepped, F_w_stepped⟩ := c.def_ 48 (d := d_w_stepped) rfl
  obtain ⟨fd_w_stands, F_w_stands⟩ := c.def_ 49 (d := d_w_stands) rfl
  obtain ⟨fd_w_some_waits, F_w_some_waits⟩ := c.def_ 50 (d := d_w_some_waits) rfl
  obtain ⟨fd_law, F_law⟩ := c.def_ 51 (d := d_law) rfl
  have e := hfa.symm.trans (He.glo_ok X G (c.fact 44 (f := .glo "law") rfl))
  cases e
  have z_dict : mg "dict" = none := He.free_ok X G (c.fact 45 (f := .free "dict") rfl)
  have hs : mg "super" = none := He.free_ok X G (c.fact 46 (f := .free "super") rfl)
  have T : Txt K mg := ⟨He.free_ok X G (c.fact 47 (f := .free "isinstance") rfl), He.free_ok X G (c.fact 48 (f := .free "int") rfl), He.free_ok X G (c.fact 49 (f := .free "bool") rfl), He.free_ok X G (c.fact 50 (f := .free "str") rfl), He.free_ok X G (c.fact 51 (f := .free "tuple") rfl), He.free_ok X G (c.fact 52 (f := .free "list") rfl), He.free_ok X G (c.fact 53 (f := .free "len") rfl), He.free_ok X G (c.fact 54 (f := .free "all") rfl), He.free_ok X G (c.fact 55 (f := .free "any") rfl), He.free_ok X G (c.fact 56 (f := .free "abs") rfl), He.free_ok X G (c.fact 57 (f := .free "max") rfl), He.free_ok X G (c.fact 58 (f := .free "range") rfl), He.free_ok X G (c.fact 59 (f := .free "enumerate") rfl), He.free_ok X G (c.fact 60 (f := .free "zip") rfl), He.free_ok X G (c.fact 61 (f := .free "sorted") rfl), He.str_ok X G (c.fact 105 (f := .str "LETTERS" "abcdefghijklmnopqrstuvwxyz") rfl), He.int_ok X G (c.fact 103 (f := .int "LONGEST_NAME" 8) rfl), He.int_ok X G (c.fact 104 (f := .int "MOST_PROCESSES" 40) rfl)⟩
  obtain ⟨x1, x23⟩ := He.ba c0.more
  obtain ⟨x2, x3⟩ := He.ba x23
  obtain ⟨x3, x4⟩ := He.ba x3
  obtain ⟨xU, x4⟩ := He.ba x4
  obtain ⟨xN, xC⟩ := He.ba x4
  have cmp := HeS.cmpB_ok xC
  obtain ⟨u1, u2, u3, u4, u5⟩ := HeS.oexB_ok xU
  obtain ⟨n1, n2, n3, n4, n5⟩ := HeS.oexB_ok xN
  obtain ⟨fd_UnknownProcess_init, Z_UnknownProcess⟩ := c0.z z_UnknownProcess (by simp [fz])
  obtain ⟨fd_NotReady_init, Z_NotReady⟩ := c0.z z_NotReady (by simp [fz])
  obtain ⟨es, n, kd⟩ := c0.t.tab 0 (t := (fun K => He.ga K "FORMS", ["set", "send", "receive", "take", "input", "checkpoint"])) rfl
  have T2 : Txt2 w K mg := ⟨⟨_, He.glo_ok X G (c.fact 0 (f := .glo "RESERVED") rfl), tupA_ok x1⟩, ⟨_, He.glo_ok X G (c.fact 15 (f := .glo "RECEIVING") rfl), tupA_ok x2⟩, ⟨_, es, n, He.glo_ok X G (c.fact 17 (f := .glo "FORMS") rfl), kd, fun x ks hx => entB_ok (List.all_eq_true.mp x3 (x, ks) hx)⟩⟩
  have ch : CRch K (He.ga K "Reach") := ⟨He.cls_ok (c.fact 62 (f := .cls "Reach") rfl), He.noat_ok (c.fact 70 (f := .noat "Reach" "places") rfl), He.noat_ok (c.fact 71 (f := .noat "Reach" "sources") rfl), He.noat_ok (c.fact 69 (f := .noat "Reach" "behind") rfl)⟩
  have cr : CRec K (He.ga K "Record") := ⟨He.cls_ok (c.fact 72 (f := .cls "Record") rfl), He.noat_ok (c.fact 81 (f := .noat "Record" "rows") rfl), He.noat_ok (c.fact 83 (f := .noat "Record" "table") rfl), He.noat_ok (c.fact 80 (f := .noat "Record" "links") rfl), He.noat_ok (c.fact 82 (f := .noat "Record" "sequence") rfl)⟩
  have co : COrd K (He.ga K "Order") := ⟨He.cls_ok (c.fact 84 (f := .cls "Order") rfl), He.noat_ok (c.fact 91 (f := .noat "Order" "origin") rfl), He.noat_ok (c.fact 89 (f := .noat "Order" "kept") rfl), He.noat_ok (c.fact 92 (f := .noat "Order" "reach") rfl), He.noat_ok (c.fact 90 (f := .noat "Order" "needs") rfl)⟩
  have cp : CRpl K (He.ga K "Replay") := ⟨He.cls_ok (c.fact 93 (f := .cls "Replay") rfl), He.noat_ok (c.fact 102 (f := .noat "Replay" "source") rfl), He.noat_ok (c.fact 101 (f := .noat "Replay" "order") rfl), He.noat_ok (c.fact 100 (f := .noat "Replay" "counts") rfl)⟩
  have xUU := He.exm_ok (c.fact 106 (f := .exm "UnknownProcess" "UnknownProcess" true) rfl)
  have xNU := He.exm_ok (c.fact 107 (f := .exm "NotReady" "UnknownProcess" false) rfl)
  have xNN := He.exm_ok (c.fact 108 (f := .exm "NotReady" "NotReady" true) rfl)
  have xc_UnknownProcess : ExC K mg "UnknownProcess" (He.ga K "UnknownProcess") "name" := ⟨u1, u2, He.glo_ok X G (c.fact 6 (f := .glo "UnknownProcess") rfl), u3⟩
  have xc_NotReady : ExC K mg "NotReady" (He.ga K "NotReady") "name" := ⟨n1, n2, He.glo_ok X G (c.fact 7 (f := .glo "NotReady") rfl), n3⟩
  have b_frozen : Binds K fd_frozen ["thing"] [] := FunD.bindsN F_frozen (fun _ _ _ _ _ _ us hl => match us, hl with | [_], _ => rfl)
  have b_is_integer : Binds K fd_is_integer ["thing"] [] := FunD.bindsN F_is_integer (fun _ _ _ _ _ _ us hl => match us, hl with | [_], _ => rfl)
  have b_is_small : Binds K fd_is_small ["thing"] [] := FunD.bindsN F_is_small (fun _ _ _ _ _ _ us hl => match us, hl with | [_], _ => rfl)
  have b_is_name : Binds K fd_is_name ["thing"] [] := FunD.bindsN F_is_name (fun _ _ _ _ _ _ us hl => match us, hl with | [_], _ => rfl)
  have b_arrows_of : Binds K fd_arrows_of ["record"] [] := FunD.bindsN F_arrows_of (fun _ _ _ _ _ _ us hl => match us, hl with | [_], _ => rfl)
  have b_Reach_init : Binds K fd_Reach_init ["self", "record", "pairs"] [] := FunD.bindsN F_Reach_init (fun _ _ _ _ _ _ us hl => match us, hl with | [_, _, _], _ => rfl)
  have b_Reach_close : Binds K fd_Reach_close ["self"] [] := FunD.bindsN F_Reach_close (fun _ _ _ _ _ _ us hl => match us, hl with | [_], _ => rfl)
  have b_Reach_joined : Binds K fd_Reach_joined ["self", "event"] [] := FunD.bindsN F_Reach_joined (fun _ _ _ _ _ _ us hl => match us, hl with | [_, _], _ => rfl)
  have b_Reach_with_itself : Binds K fd_Reach_with_itself ["self", "event"] [] := FunD.bindsN F_Reach_with_itself (fun _ _ _ _ _ _ us hl => match us, hl with | [_, _], _ => rfl)
  have b_Reach_ahead : Binds K fd_Reach_ahead ["self", "one", "other"] [] := FunD.bindsN F_Reach_ahead (fun _ _ _ _ _ _ us hl => match us, hl with | [_, _, _], _ => rfl)
  have b_Reach_least_cut : Binds K fd_Reach_least_cut ["self", "events"] [] := FunD.bindsN F_Reach_least_cut (fun _ _ _ _ _ _ us hl => match us, hl with | [_, _], _ => rfl)
  have b_check_rows : Binds K fd_check_rows ["rows"] [] := FunD.bindsN F_check_rows (fun _ _ _ _ _ _ us hl => match us, hl with | [_], _ => rfl)
  have b_fits : Binds K fd_fits ["kind", "part", "name", "names"] [] := FunD.bindsN F_fits (fun _ _ _ _ _ _ us hl => match us, hl with | [_, _, _, _], _ => rfl)
  have b_is_form : Binds K fd_is_form ["event", "name", "names"] [] := FunD.bindsN F_is_form (fun _ _ _ _ _ _ us hl => match us, hl with | [_, _, _], _ => rfl)
  have b_check_events : Binds K fd_check_events ["rows"] [] := FunD.bindsN F_check_events (fun _ _ _ _ _ _ us hl => match us, hl with | [_], _ => rfl)
  have b_sends_of : Binds K fd_sends_of ["rows"] [] := FunD.bindsN F_sends_of (fun _ _ _ _ _ _ us hl => match us, hl with | [_], _ => rfl)
  have b_linked : Binds K fd_linked ["rows"] [] := FunD.bindsN F_linked (fun _ _ _ _ _ _ us hl => match us, hl with | [_], _ => rfl)
  have b_executable : Binds K fd_executable ["rows", "links"] [] := FunD.bindsN F_executable (fun _ _ _ _ _ _ us hl => match us, hl with | [_, _], _ => rfl)
  have b_Record_init : Binds K fd_Record_init ["self", "rows"] [] := FunD.bindsN F_Record_init (fun _ _ _ _ _ _ us hl => match us, hl with | [_, _], _ => rfl)
  have b_Record_names : Binds K fd_Record_names ["self"] [] := FunD.bindsN F_Record_names (fun _ _ _ _ _ _ us hl => match us, hl with | [_], _ => rfl)
  have b_Record_check_name : Binds K fd_Record_check_name ["self", "name"] [] := FunD.bindsN F_Record_check_name (fun _ _ _ _ _ _ us hl => match us, hl with | [_, _], _ => rfl)
  have b_Record_events : Binds K fd_Record_events ["self", "name"] [] := FunD.bindsN F_Record_events (fun _ _ _ _ _ _ us hl => match us, hl with | [_, _], _ => rfl)
  have b_Record_length : Binds K fd_Record_length ["self", "name"] [] := FunD.bindsN F_Record_length (fun _ _ _ _ _ _ us hl => match us, hl with | [_, _], _ => rfl)
  have b_Record_has_event : Binds K fd_Record_has_event ["self", "thing"] [] := FunD.bindsN F_Record_has_event (fun _ _ _ _ _ _ us hl => match us, hl with | [_, _], _ => rfl)
  have b_Record_partner : Binds K fd_Record_partner ["self", "event"] [] := FunD.bindsN F_Record_partner (fun _ _ _ _ _ _ us hl => match us, hl with | [_, _], _ => rfl)
  have b_event_of : Binds K fd_event_of ["record", "thing"] [] := FunD.bindsN F_event_of (fun _ _ _ _ _ _ us hl => match us, hl with | [_, _], _ => rfl)
  have b_checked_waits : Binds K fd_checked_waits ["record", "waits"] [] := FunD.bindsN F_checked_waits (fun _ _ _ _ _ _ us hl => match us, hl with | [_, _], _ => rfl)
  have b_Order_init : Binds K fd_Order_init ["self", "record", "waits"] [] := by
    obtain ⟨ds, r, b⟩ := FunD.binds1 (ps := ["self", "record", "waits"]) F_Order_init 3 1 (by simp [He.DefD.dvs, d_Order_init]) rfl (fun _ _ _ _ _ _ _ us its h1 h2 => match us, h1, its, h2 with | [_, _, _], _, [_], _ => ⟨_, rfl, rfl⟩)
    cases r
    exact b
  have b_Order_includes : Binds K fd_Order_includes ["self", "cut", "event"] [] := FunD.bindsN F_Order_includes (fun _ _ _ _ _ _ us hl => match us, hl with | [_, _, _], _ => rfl)
  have b_Order_is_cut : Binds K fd_Order_is_cut ["self", "cut"] [] := FunD.bindsN F_Order_is_cut (fun _ _ _ _ _ _ us hl => match us, hl with | [_, _], _ => rfl)
  have b_Order_waits : Binds K fd_Order_waits ["self"] [] := FunD.bindsN F_Order_waits (fun _ _ _ _ _ _ us hl => match us, hl with | [_], _ => rfl)
  have b_Replay_init : Binds K fd_Replay_init ["self", "record", "waits"] [] := by
    obtain ⟨ds, r, b⟩ := FunD.binds1 (ps := ["self", "record", "waits"]) F_Replay_init 3 1 (by simp [He.DefD.dvs, d_Replay_init]) rfl (fun _ _ _ _ _ _ _ us its h1 h2 => match us, h1, its, h2 with | [_, _, _], _, [_], _ => ⟨_, rfl, rfl⟩)
    cases r
    exact b
  have b_Replay_reached : Binds K fd_Replay_reached ["self"] [] := FunD.bindsN F_Replay_reached (fun _ _ _ _ _ _ us hl => match us, hl with | [_], _ => rfl)
  have b_Replay_is_ready : Binds K fd_Replay_is_ready ["self", "at"] [] := FunD.bindsN F_Replay_is_ready (fun _ _ _ _ _ _ us hl => match us, hl with | [_, _], _ => rfl)
  have b_Replay_ready : Binds K fd_Replay_ready ["self"] [] := FunD.bindsN F_Replay_ready (fun _ _ _ _ _ _ us hl => match us, hl with | [_], _ => rfl)
  have b_Replay_step : Binds K fd_Replay_step ["self", "name"] [] := FunD.bindsN F_Replay_step (fun _ _ _ _ _ _ us hl => match us, hl with | [_, _], _ => rfl)
  have b_Replay_copy : Binds K fd_Replay_copy ["self"] [] := FunD.bindsN F_Replay_copy (fun _ _ _ _ _ _ us hl => match us, hl with | [_], _ => rfl)
  have b_w_draw : Binds K fd_w_draw ["_law_stream", "_law_many"] [] := FunD.bindsN F_w_draw (fun _ _ _ _ _ _ us hl => match us, hl with | [_, _], _ => rfl)
  have b_w_value : Binds K fd_w_value ["_law_stream"] [] := FunD.bindsN F_w_value (fun _ _ _ _ _ _ us hl => match us, hl with | [_], _ => rfl)
  have b_w_event : Binds K fd_w_event ["_law_stream", "_law_names_here", "_law_at", "_law_queues"] [] := FunD.bindsN F_w_event (fun _ _ _ _ _ _ us hl => match us, hl with | [_, _, _, _], _ => rfl)
  have b_w_rows : Binds K fd_w_rows ["_law_stream", "_law_names_here", "_law_many"] [] := FunD.bindsN F_w_rows (fun _ _ _ _ _ _ us hl => match us, hl with | [_, _, _], _ => rfl)
  have b_w_messages : Binds K fd_w_messages ["_law_rows_here"] [] := FunD.bindsN F_w_messages (fun _ _ _ _ _ _ us hl => match us, hl with | [_], _ => rfl)
  have b_w_needs : Binds K fd_w_needs ["_law_rows_here", "_law_arrows"] [] := FunD.bindsN F_w_needs (fun _ _ _ _ _ _ us hl => match us, hl with | [_, _], _ => rfl)
  have b_w_names : Binds K fd_w_names ["_law_stream"] [] := FunD.bindsN F_w_names (fun _ _ _ _ _ _ us hl => match us, hl with | [_], _ => rfl)
  have b_w_replayed : Binds K fd_w_replayed ["_law_stream", "_law_rows_here", "_law_needs_here"] [] := FunD.bindsN F_w_replayed (fun _ _ _ _ _ _ us hl => match us, hl with | [_, _, _], _ => rfl)
  have b_w_waits : Binds K fd_w_waits ["_law_stream", "_law_rows_here", "_law_many"] [] := FunD.bindsN F_w_waits (fun _ _ _ _ _ _ us hl => match us, hl with | [_, _, _], _ => rfl)
  have b_w_open : Binds K fd_w_open ["_law_rows_here", "_law_needs_here", "_law_cut"] [] := FunD.bindsN F_w_open (fun _ _ _ _ _ _ us hl => match us, hl with | [_, _, _], _ => rfl)
  have b_w_after : Binds K fd_w_after ["_law_rows_here", "_law_cut", "_law_name"] [] := FunD.bindsN F_w_after (fun _ _ _ _ _ _ us hl => match us, hl with | [_, _, _], _ => rfl)
  have b_w_stepped : Binds K fd_w_stepped ["_law_current", "_law_name"] [] := FunD.bindsN F_w_stepped (fun _ _ _ _ _ _ us hl => match us, hl with | [_, _], _ => rfl)
  have b_w_stands : Binds K fd_w_stands ["_law_current", "_law_cut", "_law_ready"] [] := FunD.bindsN F_w_stands (fun _ _ _ _ _ _ us hl => match us, hl with | [_, _, _], _ => rfl)
  have b_w_some_waits : Binds K fd_w_some_waits ["_law_stream", "_law_rows_here"] [] := FunD.bindsN F_w_some_waits (fun _ _ _ _ _ _ us hl => match us, hl with | [_, _], _ => rfl)
  refine ⟨fd_law, fun s v => FunD.bindsA (ps := ["_law_script"]) F_law (fun _ _ _ _ _ _ us hl => match us, hl with | [_], _ => rfl) s [v] rfl, fun base _ _ => ?_⟩
  have G_is_integer : Gf P w K mg base 1 "is_integer" ["thing"] sp_is_integer := ⟨_, fd_is_integer, ok_is_integer T F_is_integer, He.glo_ok X G (c.fact 2 (f := .glo "is_integer") rfl), F_is_integer.kp, b_is_integer⟩
  have G_is_small : Gf P w K mg base 2 "is_small" ["thing"] sp_is_small := ⟨_, fd_is_small, ok_is_small T G_is_integer F_is_small, He.glo_ok X G (c.fact 3 (f := .glo "is_small") rfl), F_is_small.kp, b_is_small⟩
  have G_w_draw : Gf P w K mg base 1 "_law_draw" ["_law_stream", "_law_many"] sp_draw := ⟨_, fd_w_draw, ok_draw T F_w_draw, He.glo_ok X G (c.fact 30 (f := .glo "_law_draw") rfl), F_w_draw.kp, b_w_draw⟩
  have G_w_value : Gf P w K mg base 2 "_law_value" ["_law_stream"] sp_value := ⟨_, fd_w_value, ok_value T G_w_draw F_w_value, He.glo_ok X G (c.fact 31 (f := .glo "_law_value") rfl), F_w_value.kp, b_w_value⟩
  have G_w_names : Gf P w K mg base 2 "_law_names" ["_law_stream"] sp_names := ⟨_, fd_w_names, ok_names T G_w_draw F_w_names, He.glo_ok X G (c.fact 36 (f := .glo "_law_names") rfl), F_w_names.kp, b_w_names⟩
  have G_w_event : Gf P w K mg base 3 "_law_event" ["_law_stream", "_law_names_here", "_law_at", "_law_queues"] sp_event := ⟨_, fd_w_event, ok_event T G_w_draw G_w_value F_w_event, He.glo_ok X G (c.fact 32 (f := .glo "_law_event") rfl), F_w_event.kp, b_w_event⟩
  have G_w_rows : Gf P w K mg base 4 "_law_rows" ["_law_stream", "_law_names_here", "_law_many"] sp_rows := ⟨_, fd_w_rows, ok_rows T G_w_draw G_w_event F_w_rows, He.glo_ok X G (c.fact 33 (f := .glo "_law_rows") rfl), F_w_rows.kp, b_w_rows⟩
  have G_w_messages : Gf P w K mg base 1 "_law_messages" ["_law_rows_here"] sp_messages := ⟨_, fd_w_messages, ok_messages T F_w_messages, He.glo_ok X G (c.fact 34 (f := .glo "_law_messages") rfl), F_w_messages.kp, b_w_messages⟩
  have G_w_needs : Gf P w K mg base 1 "_law_needs" ["_law_rows_here", "_law_arrows"] sp_needs := ⟨_, fd_w_needs, ok_needs T F_w_needs, He.glo_ok X G (c.fact 35 (f := .glo "_law_needs") rfl), F_w_needs.kp, b_w_needs⟩
  have G_w_open : Gf P w K mg base 1 "_law_open" ["_law_rows_here", "_law_needs_here", "_law_cut"] sp_open := ⟨_, fd_w_open, ok_open T F_w_open, He.glo_ok X G (c.fact 39 (f := .glo "_law_open") rfl), F_w_open.kp, b_w_open⟩
  have G_w_replayed : Gf P w K mg base 2 "_law_replayed" ["_law_stream", "_law_rows_here", "_law_needs_here"] sp_replayed := ⟨_, fd_w_replayed, ok_replayed T G_w_draw G_w_open F_w_replayed, He.glo_ok X G (c.fact 37 (f := .glo "_law_replayed") rfl), F_w_replayed.kp, b_w_replayed⟩
  have G_w_waits : Gf P w K mg base 3 "_law_waits" ["_law_stream", "_law_rows_here", "_law_many"] sp_waits := ⟨_, fd_w_waits, ok_waits T G_w_draw G_w_messages G_w_needs G_w_replayed F_w_waits, He.glo_ok X G (c.fact 38 (f := .glo "_law_waits") rfl), F_w_waits.kp, b_w_waits⟩
  have G_frozen : Gf P w K mg base 4 "frozen" ["thing"] (sp_frozen 4) := ⟨_, fd_frozen, ok_frozen T F_frozen (He.glo_ok X G (c.fact 1 (f := .glo "frozen") rfl)) F_frozen.kp b_frozen 4, He.glo_ok X G (c.fact 1 (f := .glo "frozen") rfl), F_frozen.kp, b_frozen⟩
  have b_UnknownProcess : Binds K fd_UnknownProcess_init ["self", "name"] [] := FunS.bindsN Z_UnknownProcess (fun _ _ _ _ _ _ _ us hl => match us, hl with | [_, _], _ => rfl)
  have G_UnknownProcess : Gx P w K mg base 5 "UnknownProcess" (He.ga K "UnknownProcess") "name" := ⟨_, fd_UnknownProcess_init, ok_UnknownProcess_init hs xc_UnknownProcess G_frozen Z_UnknownProcess, xc_UnknownProcess, u4, u5, b_UnknownProcess⟩
  have b_NotReady : Binds K fd_NotReady_init ["self", "name"] [] := FunS.bindsN Z_NotReady (fun _ _ _ _ _ _ _ us hl => match us, hl with | [_, _], _ => rfl)
  have G_NotReady : Gx P w K mg base 5 "NotReady" (He.ga K "NotReady") "name" := ⟨_, fd_NotReady_init, ok_NotReady_init hs xc_NotReady G_frozen Z_NotReady, xc_NotReady, n4, n5, b_NotReady⟩
  have G_is_name : Gf P w K mg base 1 "is_name" ["thing"] sp_is_name := ⟨_, fd_is_name, ok_is_name T T2 F_is_name, He.glo_ok X G (c.fact 4 (f := .glo "is_name") rfl), F_is_name.kp, b_is_name⟩
  have G_fits : Gf P w K mg base 3 "fits" ["kind", "part", "name", "names"] sp_fits := ⟨_, fd_fits, ok_fits T G_is_name G_is_small F_fits, He.glo_ok X G (c.fact 19 (f := .glo "fits") rfl), F_fits.kp, b_fits⟩
  have G_is_form : Gf P w K mg base 4 "is_form" ["event", "name", "names"] sp_is_form := ⟨_, fd_is_form, ok_is_form T T2 G_fits F_is_form, He.glo_ok X G (c.fact 20 (f := .glo "is_form") rfl), F_is_form.kp, b_is_form⟩
  have G_check_rows : Gf P w K mg base 2 "check_rows" ["rows"] sp_check_rows := ⟨_, fd_check_rows, ok_check_rows T G_is_name F_check_rows, He.glo_ok X G (c.fact 18 (f := .glo "check_rows") rfl), F_check_rows.kp, b_check_rows⟩
  have G_check_events : Gf P w K mg base 5 "check_events" ["rows"] sp_check_events := ⟨_, fd_check_events, ok_check_events T G_is_form F_check_events, He.glo_ok X G (c.fact 21 (f := .glo "check_events") rfl), F_check_events.kp, b_check_events⟩
  have G_sends_of : Gf P w K mg base 1 "sends_of" ["rows"] sp_sends_of := ⟨_, fd_sends_of, ok_sends_of T F_sends_of, He.glo_ok X G (c.fact 22 (f := .glo "sends_of") rfl), F_sends_of.kp, b_sends_of⟩
  have G_linked : Gf P w K mg base 2 "linked" ["rows"] sp_linked := ⟨_, fd_linked, ok_linked T T2 G_sends_of F_linked, He.glo_ok X G (c.fact 23 (f := .glo "linked") rfl), F_linked.kp, b_linked⟩
  have G_executable : Gf P w K mg base 1 "executable" ["rows", "links"] sp_executable := ⟨_, fd_executable, ok_executable T T2 F_executable, He.glo_ok X G (c.fact 24 (f := .glo "executable") rfl), F_executable.kp, b_executable⟩
  have G_Record : Gk P w K mg base 6 "Record" (He.ga K "Record") ["self", "rows"] (sp_Record_init K) := ⟨_, fd_Record_init, He.mkr_ok (c.fact 73 (f := .mkr "Record") rfl), ok_Record_init T G_frozen G_check_rows G_check_events G_linked G_executable F_Record_init, He.glo_ok X G (c.fact 25 (f := .glo "Record") rfl), b_Record_init⟩
  have G_Record_names : Gm P w K mg base 1 (He.ga K "Record") "names" ["self"] (sp_Record_names (He.ga K "Record")) := ⟨_, fd_Record_names, cr.cl, ok_Record_names T cr F_Record_names, He.meth_ok (c.fact 74 (f := .meth "Record" "names") rfl), b_Record_names⟩
  have G_Record_check_name : Gm P w K mg base 2 (He.ga K "Record") "check_name" ["self", "name"] (sp_Record_check_name (He.ga K "Record")) := ⟨_, fd_Record_check_name, cr.cl, ok_Record_check_name T G_Record_names F_Record_check_name, He.meth_ok (c.fact 75 (f := .meth "Record" "check_name") rfl), b_Record_check_name⟩
  have G_Record_events : Gm P w K mg base 3 (He.ga K "Record") "events" ["self", "name"] (sp_Record_events (He.ga K "Record")) := ⟨_, fd_Record_events, cr.cl, ok_Record_events T cr G_Record_check_name F_Record_events, He.meth_ok (c.fact 76 (f := .meth "Record" "events") rfl), b_Record_events⟩
  have G_Record_length : Gm P w K mg base 4 (He.ga K "Record") "length" ["self", "name"] (sp_Record_length (He.ga K "Record")) := ⟨_, fd_Record_length, cr.cl, ok_Record_length T G_Record_events F_Record_length, He.meth_ok (c.fact 77 (f := .meth "Record" "length") rfl), b_Record_length⟩
  have G_Record_has_event : Gm P w K mg base 2 (He.ga K "Record") "has_event" ["self", "thing"] (sp_Record_has_event (He.ga K "Record")) := ⟨_, fd_Record_has_event, cr.cl, ok_Record_has_event T cr G_is_integer F_Record_has_event, He.meth_ok (c.fact 78 (f := .meth "Record" "has_event") rfl), b_Record_has_event⟩
  have G_event_of : Gf P w K mg base 3 "event_of" ["record", "thing"] (sp_event_of (He.ga K "Record")) := ⟨_, fd_event_of, ok_event_of T G_Record_has_event F_event_of, He.glo_ok X G (c.fact 26 (f := .glo "event_of") rfl), F_event_of.kp, b_event_of⟩
  have G_Record_partner : Gm P w K mg base 4 (He.ga K "Record") "partner" ["self", "event"] (sp_Record_partner (He.ga K "Record")) := ⟨_, fd_Record_partner, cr.cl, ok_Record_partner T cr G_event_of F_Record_partner, He.meth_ok (c.fact 79 (f := .meth "Record" "partner") rfl), b_Record_partner⟩
  have G_arrows_of : Gf P w K mg base 5 "arrows_of" ["record"] (sp_arrows_of (He.ga K "Record")) := ⟨_, fd_arrows_of, ok_arrows_of T G_Record_names G_Record_events G_Record_partner F_arrows_of, He.glo_ok X G (c.fact 12 (f := .glo "arrows_of") rfl), F_arrows_of.kp, b_arrows_of⟩
  have G_Reach_with_itself : Gm P w K mg base 1 (He.ga K "Reach") "with_itself" ["self", "event"] (sp_Reach_with_itself (He.ga K "Reach")) := ⟨_, fd_Reach_with_itself, ch.cl, ok_Reach_with_itself T ch F_Reach_with_itself, He.meth_ok (c.fact 66 (f := .meth "Reach" "with_itself") rfl), b_Reach_with_itself⟩
  have G_Reach_ahead : Gm P w K mg base 1 (He.ga K "Reach") "ahead" ["self", "one", "other"] (sp_Reach_ahead (He.ga K "Reach")) := ⟨_, fd_Reach_ahead, ch.cl, ok_Reach_ahead T ch F_Reach_ahead, He.meth_ok (c.fact 67 (f := .meth "Reach" "ahead") rfl), b_Reach_ahead⟩
  have G_Reach_joined : Gm P w K mg base 2 (He.ga K "Reach") "joined" ["self", "event"] (sp_Reach_joined (He.ga K "Reach")) := ⟨_, fd_Reach_joined, ch.cl, ok_Reach_joined T ch G_Reach_with_itself F_Reach_joined, He.meth_ok (c.fact 65 (f := .meth "Reach" "joined") rfl), b_Reach_joined⟩
  have G_Reach_close : Gm P w K mg base 3 (He.ga K "Reach") "close" ["self"] (sp_Reach_close (He.ga K "Reach")) := ⟨_, fd_Reach_close, ch.cl, ok_Reach_close T ch G_Reach_joined F_Reach_close, He.meth_ok (c.fact 64 (f := .meth "Reach" "close") rfl), b_Reach_close⟩
  have G_Reach_least_cut : Gm P w K mg base 2 (He.ga K "Reach") "least_cut" ["self", "events"] (sp_Reach_least_cut (He.ga K "Reach")) := ⟨_, fd_Reach_least_cut, ch.cl, ok_Reach_least_cut T ch G_Reach_with_itself F_Reach_least_cut, He.meth_ok (c.fact 68 (f := .meth "Reach" "least_cut") rfl), b_Reach_least_cut⟩
  have G_Reach : Gk P w K mg base 6 "Reach" (He.ga K "Reach") ["self", "record", "pairs"] (sp_Reach_init K (He.ga K "Record") (He.ga K "Reach")) := ⟨_, fd_Reach_init, He.mkr_ok (c.fact 63 (f := .mkr "Reach") rfl), ok_Reach_init T cr ch G_Record_names G_arrows_of G_Reach_close F_Reach_init, He.glo_ok X G (c.fact 13 (f := .glo "Reach") rfl), b_Reach_init⟩
  have G_checked_waits : Gf P w K mg base 5 "checked_waits" ["record", "waits"] (sp_checked_waits (He.ga K "Record")) := ⟨_, fd_checked_waits, ok_checked_waits T G_Record_has_event G_frozen F_checked_waits, He.glo_ok X G (c.fact 27 (f := .glo "checked_waits") rfl), F_checked_waits.kp, b_checked_waits⟩
  have G_Order : Gk P w K mg base 8 "Order" (He.ga K "Order") ["self", "record", "waits"] (sp_Order_init K (He.ga K "Record") (He.ga K "Order")) := ⟨_, fd_Order_init, He.mkr_ok (c.fact 85 (f := .mkr "Order") rfl), ok_Order_init T cr ch co G_checked_waits G_Reach G_Reach_least_cut G_Reach_ahead F_Order_init, He.glo_ok X G (c.fact 28 (f := .glo "Order") rfl), b_Order_init⟩
  have G_Order_includes : Gm P w K mg base 1 (He.ga K "Order") "includes" ["self", "cut", "event"] (sp_Order_includes (He.ga K "Order")) := ⟨_, fd_Order_includes, co.cl, ok_Order_includes T co F_Order_includes, He.meth_ok (c.fact 86 (f := .meth "Order" "includes") rfl), b_Order_includes⟩
  have G_Order_is_cut : Gm P w K mg base 5 (He.ga K "Order") "is_cut" ["self", "cut"] (sp_Order_is_cut (He.ga K "Record") (He.ga K "Order")) := ⟨_, fd_Order_is_cut, co.cl, ok_Order_is_cut T co G_Record_names G_Record_length G_is_integer G_Order_includes F_Order_is_cut, He.meth_ok (c.fact 87 (f := .meth "Order" "is_cut") rfl), b_Order_is_cut⟩
  have G_Order_waits : Gm P w K mg base 1 (He.ga K "Order") "waits" ["self"] (sp_Order_waits (He.ga K "Order")) := ⟨_, fd_Order_waits, co.cl, ok_Order_waits T co F_Order_waits, He.meth_ok (c.fact 88 (f := .meth "Order" "waits") rfl), b_Order_waits⟩
  have G_Replay : Gk P w K mg base 10 "Replay" (He.ga K "Replay") ["self", "record", "waits"] (sp_Replay_init (He.ga K "Record") (He.ga K "Order") (He.ga K "Replay")) := ⟨_, fd_Replay_init, He.mkr_ok (c.fact 94 (f := .mkr "Replay") rfl), ok_Replay_init T cp G_Record_names G_Order F_Replay_init, He.glo_ok X G (c.fact 29 (f := .glo "Replay") rfl), b_Replay_init⟩
  have G_Replay_reached : Gm P w K mg base 1 (He.ga K "Replay") "reached" ["self"] (sp_Replay_reached (He.ga K "Order") (He.ga K "Replay")) := ⟨_, fd_Replay_reached, cp.cl, ok_Replay_reached T cp F_Replay_reached, He.meth_ok (c.fact 95 (f := .meth "Replay" "reached") rfl), b_Replay_reached⟩
  have G_Replay_is_ready : Gm P w K mg base 6 (He.ga K "Replay") "is_ready" ["self", "at"] (sp_Replay_is_ready (He.ga K "Record") (He.ga K "Order") (He.ga K "Replay")) := ⟨_, fd_Replay_is_ready, cp.cl, ok_Replay_is_ready T cp G_Order_is_cut F_Replay_is_ready, He.meth_ok (c.fact 96 (f := .meth "Replay" "is_ready") rfl), b_Replay_is_ready⟩
  have G_Replay_ready : Gm P w K mg base 7 (He.ga K "Replay") "ready" ["self"] (sp_Replay_ready (He.ga K "Record") (He.ga K "Order") (He.ga K "Replay")) := ⟨_, fd_Replay_ready, cp.cl, ok_Replay_ready T cp G_Record_names G_Replay_is_ready F_Replay_ready, He.meth_ok (c.fact 97 (f := .meth "Replay" "ready") rfl), b_Replay_ready⟩
  have G_Record_namesF : Gm P w K mg base 1 (He.ga K "Record") "names" ["self"] (sp_Record_namesF (He.ga K "Record")) := ⟨_, fd_Record_names, cr.cl, ok_Record_namesF T cr F_Record_names, He.meth_ok (c.fact 74 (f := .meth "Record" "names") rfl), b_Record_names⟩
  have G_Replay_step : Gm P w K mg base 7 (He.ga K "Replay") "step" ["self", "name"] (sp_Replay_step (He.ga K "Record") (He.ga K "Order") (He.ga K "Replay")) := ⟨_, fd_Replay_step, cp.cl, ok_Replay_step T cp G_Record_namesF G_Replay_is_ready G_Record_events F_Replay_step, He.meth_ok (c.fact 98 (f := .meth "Replay" "step") rfl), b_Replay_step⟩
  have G_Replay_copy : Gm P w K mg base 12 (He.ga K "Replay") "copy" ["self"] (sp_Replay_copy (He.ga K "Record") (He.ga K "Order") (He.ga K "Replay")) := ⟨_, fd_Replay_copy, cp.cl, ok_Replay_copy T cp G_Order_waits G_Replay F_Replay_copy, He.meth_ok (c.fact 99 (f := .meth "Replay" "copy") rfl), b_Replay_copy⟩
  have G_Replay_stepX : GmX P w K mg base 7 (He.ga K "Replay") "step" ["self", "name"] (sp_Replay_stepX (He.ga K "Record") (He.ga K "Order") (He.ga K "Replay") (He.ga K "UnknownProcess") (He.ga K "NotReady")) := ⟨_, fd_Replay_step, cp.cl, ok_Replay_stepX T cp G_UnknownProcess G_NotReady G_Record_namesF G_Replay_is_ready G_Record_events F_Replay_step, He.meth_ok (c.fact 98 (f := .meth "Replay" "step") rfl), b_Replay_step⟩
  have G_w_after : Gf P w K mg base 1 "_law_after" ["_law_rows_here", "_law_cut", "_law_name"] sp_after := ⟨_, fd_w_after, ok_after T F_w_after, He.glo_ok X G (c.fact 40 (f := .glo "_law_after") rfl), F_w_after.kp, b_w_after⟩
  have G_w_some_waits : Gf P w K mg base 4 "_law_some_waits" ["_law_stream", "_law_rows_here"] sp_some_waits := ⟨_, fd_w_some_waits, ok_some_waits T G_w_draw G_w_waits F_w_some_waits, He.glo_ok X G (c.fact 43 (f := .glo "_law_some_waits") rfl), F_w_some_waits.kp, b_w_some_waits⟩
  have G_w_stands : Gf P w K mg base 8 "_law_stands" ["_law_current", "_law_cut", "_law_ready"] (sp_stands (He.ga K "Record") (He.ga K "Order") (He.ga K "Replay")) := ⟨_, fd_w_stands, ok_stands T G_Replay_reached G_Replay_ready F_w_stands, He.glo_ok X G (c.fact 42 (f := .glo "_law_stands") rfl), F_w_stands.kp, b_w_stands⟩
  have G_w_stepped : Gf P w K mg base 8 "_law_stepped" ["_law_current", "_law_name"] (sp_stepped2 K (He.ga K "Record") (He.ga K "Order") (He.ga K "Replay")) := ⟨_, fd_w_stepped, ok_stepped2 (ok_stepped T xUU xNU xNN G_UnknownProcess G_NotReady G_Replay_stepX F_w_stepped), He.glo_ok X G (c.fact 41 (f := .glo "_law_stepped") rfl), F_w_stepped.kp, b_w_stepped⟩
  exact ok_law T z_dict cr cp cmp G_w_draw G_w_names G_w_rows G_w_some_waits G_w_messages G_w_needs G_w_open G_w_after G_w_stands G_w_stepped G_Record G_Replay G_Replay_reached G_Replay_ready G_Replay_copy G_Replay_step F_law
end Hd
open PySem PySem.W PySem.Calls PyProof.Rows
theorem PySem.Challenge.cw_rerunrein_k88_replays_by_steps_holds : PySem.Challenge.rw_rerunrein_k88_replays_by_steps.Holds := by
  w_on; o_law
  refine HandSHeadRun.head_any (r := OpenLaw.row PySem.Challenge.rw_rerunrein_k88_replays_by_steps) (q := view (OpenLaw.row PySem.Challenge.rw_rerunrein_k88_replays_by_steps).prog [55]) (H := Hd.hk) (ob := Hd.ob) (M := 20000) (loose := Hd.loose) (d := HandSHeadRun.topDef (OpenLaw.row PySem.Challenge.rw_rerunrein_k88_replays_by_steps).prog 55) (kwd := []) Hd.ob_eq
    (by kernel_rfl) (fun s => by kernel_rfl) Hd.run (by kernel_rfl) (by kernel_rfl) (by kernel_rfl) (by rfl) (by first | assumption | decide +kernel) (by decide +kernel) ⟨rfl, rfl, rfl, rfl, rfl, by decide +kernel⟩ ?hw ?hc
  case hw => w_witness2
  case hc =>
    refine L2.walk_ofE (l := PySem.Challenge.rw_rerunrein_k88_replays_by_steps) (n := 63) (k := 13) (x := "_law_script") (CX := L2.CX0) rfl (by decide) (by kernel_rfl) ⟨rfl, by decide, by decide⟩ ?F (fun _ _ _ _ z => z)
    intro w mg fa h Y G hmg0
    obtain ⟨K, KX, c⟩ := Y
    have hmg : mg ("law" : PySem.Str) = some (.ref fa) := by
      have e : (HandSHeadRun.topDef (OpenLaw.row PySem.Challenge.rw_rerunrein_k88_replays_by_steps).prog 55).name = ("law" : PySem.Str) := by kernel_rfl
      rw [← e]
      exact hmg0
    obtain ⟨fd, hb, hF⟩ := Hd.facts (P := (PySem.Challenge.rw_rerunrein_k88_replays_by_steps).prog) (w := w) KX G hmg c
    exact ⟨K, fd, Rr.sp_law K, KX, hb, fun H a ns hl _ hS => ⟨a, ns, rfl, hS, hl, fun _ => rfl⟩, hF⟩
