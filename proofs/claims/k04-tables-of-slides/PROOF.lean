import PyProof.Rows.All
import Wide.All
import OpenK.AllK
import Wide.FinOn
import KE.GoesEnum
import HandS.ForMost
import HandS.ForExc
import HandS.Wide
import HandS.WideBits
import HandS.WideMore
import HandS.TupAny
import HandS.TupMul
import HandS.TupLe
import HandS.Zip
import HandS.Walk
import HandS.Lambda
import HandS.EndTab
import HandS.IsInst
import HandS.DictComp
import HandS.DictEq
import HandS.Style
import HandS.TryMany
import HandS.Head0
import HandS.Head1
import HandS.Head2
import HandS.HeadEnd
import HandS.HeadHook1
import HandS.HeadHook2
import HandS.HeadHook4
import HandS.HeadNt
import HandS.HeadWalk
import HandS.Defaults
import PySem.Challenge.RW_slideforms_k04_whole_products_parted_by
set_option Elab.async false
set_option linter.all false
set_option maxRecDepth 100000
set_option maxHeartbeats 4000000
set_option exponentiation.threshold 20000
section
/-! Ev0: rules that the layer lacks: enumerate and zip over lists and tuples in any mix, tuple * int for every int, // by any divisor. -/
namespace Ev
open PySem PySem.Spec PyProof.Rows L2

/-! ### a list or a tuple -/
def Sqx (K : PySem.W.Frag) (b : Bool) (H : Hp) (a : Addr) (xs : List V) : Prop := if b = true then SqT K H a xs else SqL K H a xs
def IsSx (b : Bool) (h : Heap) (a : Addr) (items : Array Value) : Prop := if b = true then h.IsTuple a items else h.IsList a items
def IsIx (b : Bool) (h : Heap) (it a : Addr) (i : Nat) : Prop := if b = true then h.IsTupleIter it a i else h.IsListIter it a i
def objIx (b : Bool) (a : Addr) : Obj := if b = true then { cls := .type "tuple_iterator", data := .fields #[.ref a, .int 0 0] } else { cls := .type "list_iterator", data := .fields #[.ref a, .int 0 0] }
section
variable {X : Cx} {pins : List (Addr × Obj)} {σ : L2.St} {H : Hp} {s : Shared}
theorem sqx_is {b : Bool} {a : Addr} {xs : List V} (I : Inv X pins σ H s) (h : Sqx X.K b H a xs) : ∃ its : List Value, Vals xs its ∧ IsSx b s.heap a its.toArray ∧ xs.length ≤ sizeLine ∧ a < s.heap.objs.size := by
  cases b with
  | true =>
    obtain ⟨its, r, p, z⟩ := I.tuple (show SqT X.K H a xs from h)
    exact ⟨its, r, p, z, p.lt⟩
  | false =>
    obtain ⟨its, r, p, z⟩ := I.list (show SqL X.K H a xs from h)
    exact ⟨its, r, p.isList, z, p.lt⟩
theorem sqx_inj {b : Bool} {a : Addr} {xs ys : List V} (I : Inv X pins σ H s) (h : Sqx X.K b H a xs) (h' : Sqx X.K b H a ys) : xs = ys := by
  cases b with
  | true => exact I.tuple_inj h h'
  | false => exact I.list_inj h h'
end
theorem ix_at {b : Bool} {h h' : Heap} {it a : Addr} {i : Nat} (x : IsIx b h it a i) (e : ∀ o, h.get? it = some o → h'.get? it = some o) : IsIx b h' it a i := by
  cases b with
  | true => exact Heap.IsTupleIter.at (show h.IsTupleIter it a i from x) e
  | false => exact Heap.IsListIter.at (show h.IsListIter it a i from x) e
theorem ix_obj {b : Bool} {h : Heap} {it a : Addr} {i : Nat} (x : IsIx b h it a i) : ∃ o, h.get? it = some o ∧ ∀ v, o.data ≠ .cell v := by
  cases b with
  | true =>
    obtain ⟨o, e, _, d⟩ := (show h.IsTupleIter it a i from x)
    exact ⟨o, e, fun v z => by rw [d] at z; cases z⟩
  | false =>
    obtain ⟨o, e, _, d⟩ := (show h.IsListIter it a i from x)
    exact ⟨o, e, fun v z => by rw [d] at z; cases z⟩
theorem draws_x (b : Bool) {prog : Program} {w : World} {A : Around} (hh : A.handled = none) (it l : Addr) (hne : l ≠ it) (items : Array Value) :
    Draws prog w A it [it, l] items.size (fun i v => items[i]? = some v) (fun i h => IsIx b h it l i ∧ IsSx b h l items) := by
  cases b with
  | true => exact Draws.tuple hh it l hne items
  | false => exact Draws.list hh it l hne items
theorem begins_x (b : Bool) (a : Addr) (items : Array Value) : Begins (.ref a) (objIx b a) fun h => IsSx b h a items := by
  cases b with
  | true => exact begins_tuple a items
  | false => exact begins_list a items
theorem ix_new {b : Bool} {h : Heap} {it a : Addr} (e : h.get? it = some (objIx b a)) : IsIx b h it a 0 := by
  cases b with
  | true => exact ⟨_, e, rfl, rfl⟩
  | false => exact ⟨_, e, rfl, rfl⟩

/-! ### enumerate -/
def Iex (K : PySem.W.Frag) (b : Bool) (a : Addr) : It :=
  ⟨fun i H => ∃ (xs : List V) (x : V), Sqx K b H a xs ∧ xs[i]? = some x, fun i H v H' => ∃ T x, v = .ref T ∧ H T = none ∧ H' = upd H T (.tup [.int (i : Nat), x]) ∧ ∀ xs, Sqx K b H a xs → xs[i]? = some x, fun i H => ∃ xs : List V, Sqx K b H a xs ∧ xs.length = i⟩
theorem turn_enumx {P : Program} {w : World} {K : PySem.W.Frag} {elts : List Expr} {kk : Nat} {tpos : Pos} (b : Bool) (a e it : Addr) (hai : a ≠ it) (hae : a ≠ e) :
    Turn P w K (.Tuple elts kk tpos) (Iex K b a) [e, it] e (fun i h => (∃ old, IsEnum h e it ((i : Nat) : Int) old) ∧ IsIx b h it a i ∧ e ≠ it) where
  mem := by simp
  obj := fun i h st c hb => by
    obtain ⟨⟨old, he⟩, hi, _⟩ := st
    have e' : c = e ∨ c = it := by simpa using hb
    rcases e' with z | z
    · rw [z]; exact ⟨_, he, fun v q => nomatch q⟩
    · rw [z]; exact ix_obj hi
  keep := fun i h h' st k => let ⟨⟨old, he⟩, hi, hne⟩ := st; ⟨⟨old, k e (by simp) _ he⟩, ix_at hi fun o q => k it (by simp) o q, hne⟩
  item := by
    intro X hP hw hK hc i pins s σ H E I hf st hg
    subst hP hw hK
    obtain ⟨⟨old, he⟩, hit, hne⟩ := st
    obtain ⟨xs, x, hq, hx⟩ := hg
    obtain ⟨its, rv, p, hz, hal⟩ := sqx_is I hq
    obtain ⟨u, hu, ru⟩ := rv.get hx
    have hel : e < s.heap.objs.size := Heap.lt_size he
    have hil : it < s.heap.objs.size := by obtain ⟨_, q, _⟩ := ix_obj hit; exact Heap.lt_size q
    have hd : X.A.in1.handled = none := I.ok.hd hc
    have hlt : i < its.toArray.size := by
      have q : i < its.length := (List.getElem?_eq_some_iff.mp hu).1
      simpa using q
    have hef : e ∉ [it, a] := by simp only [List.mem_cons, List.not_mem_nil, or_false, not_or]; exact ⟨hne, fun z => hae z.symm⟩
    refine wpAny_pyNext_enum_itemD (draws_x b hd it a hai its.toArray) he ⟨hit, p⟩ hlt hne hef fun y h' tk hy ho hit' hT hsz hk => ?_
    have hy' : y = u := by
      have q : its.toArray[i]? = some u := by simpa using hu
      rw [q] at hy; exact (Option.some.inj hy).symm
    subst hy'
    refine ⟨_, rfl, wpAny_letOwnedTupleGo_enum (s := { s with heap := h', toks := tk + 1 }) ho fun h'' he' sb => ?_⟩
    have hT2 : h''.get? s.heap.objs.size = some { cls := .type "tuple", data := .seq #[.int i tk, y] } := (sb.2 _ (Nat.ne_of_gt hel)).trans hT
    have new : ObjOk X.prog X.w (upd H s.heap.objs.size (.tup [.int (i : Nat), x])) h'' s.heap.objs.size (.tup [.int (i : Nat), x]) :=
      ⟨by show 2 ≤ sizeLine; decide, [.int i tk, y], .cons ⟨_, rfl⟩ (.cons ru .nil), ⟨_, hT2, rfl, _, rfl⟩⟩
    have I1 : Inv X pins σ (upd H s.heap.objs.size (.tup [.int (i : Nat), x])) { s with heap := h'', toks := tk + 1 } :=
      I.turnedNew (ch := [e, it]) (fun b ob hb q => (sb.2 b (fun z => hb (by simp [z]))).trans (hk b ob (fun z => hb (by simp [z])) (fun z => hb (by simp [z])) q)) hf (Nat.le_refl _) new
    refine ⟨.ref s.heap.objs.size, _, I1, rfl, ⟨_, x, rfl, I.hok.fresh (Nat.le_refl _), rfl, fun ys hy => by rw [sqx_inj I hy hq]; exact hx⟩, ⟨⟨y, ?_⟩, ix_at hit'.1 fun o q => (sb.2 it (Ne.symm hne)).trans q, hne⟩, fun b hb => ?_⟩
    · have e1 : ((i + 1 : Nat) : Int) = (i : Int) + 1 := by omega
      rw [e1]; exact he'
    · have hb' : b < s.heap.objs.size := by
        have e' : b = e ∨ b = it := by simpa using hb
        rcases e' with z | z
        · rw [z]; exact hel
        · rw [z]; exact hil
      rw [upd_ne (Nat.ne_of_lt hb')]
      exact (hf b hb).1
  done := by
    intro X hP hw hK hc i pins s σ H E I hf st hg
    subst hP hw hK
    obtain ⟨⟨old, he⟩, hit, hne⟩ := st
    obtain ⟨xs, hq, hx⟩ := hg
    obtain ⟨its, rv, p, hz, hal⟩ := sqx_is I hq
    obtain ⟨f0, f1, f2, f3, f4, f5⟩ := hf it (by simp)
    have hl := rv.length
    have hd : X.A.in1.handled = none := I.ok.hd hc
    have hst : IsIx b s.heap it a its.toArray.size ∧ IsSx b s.heap a its.toArray := ⟨by
      have q : its.toArray.size = i := by simp only [List.size_toArray]; omega
      rw [q]; exact hit, p⟩
    exact wpAny_pyNext_enum_endD (draws_x b hd it a hai its.toArray) he hst fun h' eb => ⟨rfl, I.turned (t' := s.toks) (fun b o hb q => eb b o hb q) f0 f1 f3 f4 f5⟩
  self := fun A i s Q E st h => let ⟨⟨_, he⟩, _⟩ := st; wpAny_pyIter_enum he h
def iEnx (K : PySem.W.Frag) (ta : TA) : TI := fun σ H R => ta σ H fun vs H1 => ∃ b a xs, vs = [.ref a] ∧ Sqx K b H1 a xs ∧ R (Iex K b a) H1
theorem meets_enumerate_newB1 {v : Value} {o : Obj} {H : Heap → Prop} (B : Begins v o H) :
    Meets (Builtin.«enumerate.__new__» ⟨[.type "enumerate", v], []⟩) (fun _ R s => H s.heap ∧
      R (.ok (.ret (.ref (s.heap.push o).objs.size))) { s with heap := (s.heap.push o).push { cls := .type "enumerate", data := .fields #[.none, .bool false, .ref s.heap.objs.size, rawInt 0, .none, .none] } }) :=
  .of_wp fun prog w A R s h => by
    obtain ⟨hp, g, d, tk, os⟩ := s; obtain ⟨h1, h⟩ := h
    have hsub := sub_enumerate
    have q1 : ∀ {A' : Around} {E : Value → Shared → Prop} {Q : Value → Shared → Prop}, Q (.ref hp.objs.size) ⟨hp.push o, g, d, tk, os⟩ → wpAny (model prog w) A' (pyIter v) Q E ⟨hp, g, d, tk, os⟩ :=
      fun q => B.iter prog w _ _ ⟨hp, g, d, tk, os⟩ _ h1 q
    wp_walk using q1
    refine wpAny_stack_any fun st => wpAny_pure ?_
    split
    · rename_i c _ _ _ _ _
      cases (c == Value.type "enumerate")
      · wp_walk using q1
        exact ⟨_, rfl, h⟩
      · wp_walk using q1
        exact ⟨_, rfl, h⟩
    · wp_walk using q1
      exact ⟨_, rfl, h⟩
theorem call_enumx {prog : Program} {w : World} {A : Around} {E : Value → Shared → Prop} {s : Shared} (b : Bool) {a : Addr} {items : Array Value} {Q : Value → Shared → Prop} (p : IsSx b s.heap a items)
    (h : ∀ h', IsEnum h' (s.heap.objs.size + 1) s.heap.objs.size 0 .none → IsIx b h' s.heap.objs.size a 0 → h'.objs.size = s.heap.objs.size + 2 →
      (∀ b o, s.heap.get? b = some o → h'.get? b = some o) → Q (.ref (s.heap.objs.size + 1)) { s with heap := h' }) :
    wpAny (model prog w) A (call (.type "enumerate") [.ref a]) Q E s := by
  refine callType_new F.called_enumerate (by decide) (F.typeCall_enumerate_1 _) (F.newCall_enumerate_1 _) (fun obj => F.args_object_init_2 obj _) F.entry_enumerate_new
    (meets_enumerate_newB1 (begins_x b a items)) ⟨p, ?_⟩
  have hz : (s.heap.push (objIx b a)).objs.size = s.heap.objs.size + 1 := Heap.size_push ..
  show _ ∧ _
  rw [hz]
  have he : IsEnum ((s.heap.push (objIx b a)).push { cls := .type "enumerate", data := .fields #[.none, .bool false, .ref s.heap.objs.size, rawInt 0, .none, .none] }) (s.heap.objs.size + 1) s.heap.objs.size 0 .none := by
    have := Heap.get?_push_size (s.heap.push (objIx b a)) (o := { cls := .type "enumerate", data := .fields #[.none, .bool false, .ref s.heap.objs.size, rawInt 0, .none, .none] }) rfl
    rw [hz] at this; exact this
  refine ⟨⟨_, he, rfl⟩, h _ he (ix_new (Heap.get?_push_of_some _ (Heap.get?_push_size _ (begins_x b a items).free))) (by rw [Heap.size_push, hz]) fun b o x => Heap.get?_push_of_some _ (Heap.get?_push_of_some _ x)⟩
theorem pi_enumx {X : Cx} {e : Expr} {ta : TA} {p pos tpos : Pos} {elts : List Expr} {kk : Nat} (hg : Gl X "enumerate") (hm : X.mg "enumerate" = none) (ha : PA X [e] ta) (hs : starEach [e] X.env = [(false, eval e X.env)] := by rfl) :
    PI X (.Tuple elts kk tpos) (.Call (.Name "enumerate" p) [e] [] pos) (iEnx X.K ta) := by
  refine ⟨fun pins s σ H R I h => ?_⟩
  refine Call_ (ld_blt I hg hm boot_enumerate (PyProof.Rows.callWith_type1 (thn (ha.run pos pins s σ H _ I h) fun us s1 ⟨vs, H1, I1, r1, q1⟩ => ?_) hs rfl))
  obtain ⟨b, a, xs, ex, hq, q⟩ := q1
  subst ex
  cases r1 with
  | cons r rr =>
    cases rr
    cases r
    obtain ⟨its, rv, p', hz, hal⟩ := sqx_is I1 hq
    refine call_enumx b p' fun h' he hit hsz hk => wpAny_pyIter_enum he ?_
    have I2 : Inv X pins σ H1 { s1 with heap := h' } := I1.kept (t' := s1.toks) hk
    refine ⟨s1.heap.objs.size + 1, [s1.heap.objs.size + 1, s1.heap.objs.size], _, _, H1, rfl, I2, turn_enumx b a (s1.heap.objs.size + 1) s1.heap.objs.size (Nat.ne_of_lt hal) (Nat.ne_of_lt (Nat.lt_succ_of_lt hal)), ⟨⟨.none, he⟩, hit, Nat.succ_ne_self _⟩, fun b hb => ?_, q⟩
    have e' : b = s1.heap.objs.size + 1 ∨ b = s1.heap.objs.size := by simpa using hb
    have hle : s1.heap.objs.size ≤ b := by
      rcases e' with z | z
      · rw [z]; exact Nat.le_add_right _ _
      · rw [z]; exact Nat.le_refl _
    exact I1.fpOk hle (I1.hok.fresh hle)

/-! ### zip -/
theorem lt5 {n m : Nat} (h : n + 4 < m) : n < m ∧ n + 1 < m ∧ n + 2 < m ∧ n + 3 < m := by omega
def Izx (K : PySem.W.Frag) (b1 b2 : Bool) (a1 a2 : Addr) : It :=
  ⟨fun i H => ∃ (xs ys : List V) (x y : V), Sqx K b1 H a1 xs ∧ Sqx K b2 H a2 ys ∧ xs[i]? = some x ∧ ys[i]? = some y,
    fun i H v H' => ∃ T x y, v = .ref T ∧ H T = none ∧ H' = upd H T (.tup [x, y]) ∧ (∀ xs, Sqx K b1 H a1 xs → xs[i]? = some x) ∧ ∀ ys, Sqx K b2 H a2 ys → ys[i]? = some y,
    fun i H => ∃ xs ys : List V, Sqx K b1 H a1 xs ∧ Sqx K b2 H a2 ys ∧ i = min xs.length ys.length⟩
theorem turn_zipx {P : Program} {w : World} {K : PySem.W.Frag} {elts : List Expr} {kk : Nat} {tpos : Pos} (b1 b2 : Bool) {a1 a2 N : Addr} (h1 : a1 < N) (h2 : a2 < N) :
    Turn P w K (.Tuple elts kk tpos) (Izx K b1 b2 a1 a2) [N + 4, N + 2, N + 3, N, N + 1] (N + 4) (fun i h => IsZip h (N + 4) (N + 2) (N + 3) .none ∧ IsTupOf2 h (N + 2) (.ref N) (.ref (N + 1)) ∧ (∃ x y, IsTupOf2 h (N + 3) x y) ∧ IsIx b1 h N a1 i ∧ IsIx b2 h (N + 1) a2 i) where
  mem := by simp
  obj := fun i h st c hc => by
    obtain ⟨hz, hTI, ⟨x, y, hTO⟩, h1, h2⟩ := st
    have e' : c = N + 4 ∨ c = N + 2 ∨ c = N + 3 ∨ c = N ∨ c = N + 1 := by simpa using hc
    rcases e' with q | q | q | q | q
    · rw [q]; exact ⟨_, hz, fun v q => nomatch q⟩
    · rw [q]; exact ⟨_, hTI, fun v q => nomatch q⟩
    · rw [q]; exact ⟨_, hTO, fun v q => nomatch q⟩
    · rw [q]; exact ix_obj h1
    · rw [q]; exact ix_obj h2
  keep := fun i h h' st k => by
    obtain ⟨hz, hTI, ⟨x, y, hTO⟩, h1, h2⟩ := st
    exact ⟨k (N + 4) (by simp) _ hz, k (N + 2) (by simp) _ hTI, ⟨x, y, k (N + 3) (by simp) _ hTO⟩, ix_at h1 fun o q => k N (by simp) o q, ix_at h2 fun o q => k (N + 1) (by simp) o q⟩
  item := by
    intro X hP hw hK hc i pins s σ H E I hf st hg
    subst hP hw hK
    obtain ⟨hz, hTI, ⟨x0, y0, hTO⟩, i1, i2⟩ := st
    obtain ⟨xs, ys, x, y, hqx, hqy, hx, hy⟩ := hg
    obtain ⟨its, rv, p, _, _⟩ := sqx_is I hqx
    obtain ⟨its2, rv2, p2, _, _⟩ := sqx_is I hqy
    obtain ⟨u, hu, ru⟩ := rv.get hx
    obtain ⟨u2, hu2, ru2⟩ := rv2.get hy
    have hzl : N + 4 < s.heap.objs.size := Heap.lt_size hz
    have hd : X.A.in1.handled = none := I.ok.hd hc
    have S := zip_sep2 (N := N) (fp1 := [a1]) (fp2 := [a2]) (by simpa using h1) (by simpa using h2)
    have l1 : i < its.toArray.size := by
      have q : i < its.length := (List.getElem?_eq_some_iff.mp hu).1
      simpa using q
    have l2 : i < its2.toArray.size := by
      have q : i < its2.length := (List.getElem?_eq_some_iff.mp hu2).1
      simpa using q
    refine wpAny_pyNext_zipD2_item S (draws_x b1 hd N a1 (Nat.ne_of_lt h1) its.toArray) (draws_x b2 hd (N + 1) a2 (Nat.ne_of_lt (Nat.lt_succ_of_lt h2)) its2.toArray) hz hTI hTO ⟨i1, p⟩ ⟨i2, p2⟩ l1 l2 fun v1 v2 h' tk e1 e2 z' TO' i1' i2' hT hsz hk => ?_
    have ev1 : v1 = u := by
      have q : its.toArray[i]? = some u := by simpa using hu
      rw [q] at e1; exact (Option.some.inj e1).symm
    have ev2 : v2 = u2 := by
      have q : its2.toArray[i]? = some u2 := by simpa using hu2
      rw [q] at e2; exact (Option.some.inj e2).symm
    subst ev1; subst ev2
    refine ⟨_, rfl, wpAny_letOwnedTupleGo_zip (s := { s with heap := h', toks := tk }) z' fun h'' z'' sb => ?_⟩
    have hT2 : h''.get? s.heap.objs.size = some { cls := .type "tuple", data := .seq #[v1, v2] } := (sb.2 _ (Nat.ne_of_gt hzl)).trans hT
    have new : ObjOk X.prog X.w (upd H s.heap.objs.size (.tup [x, y])) h'' s.heap.objs.size (.tup [x, y]) :=
      ⟨by show 2 ≤ sizeLine; decide, [v1, v2], .cons ru (.cons ru2 .nil), ⟨_, hT2, rfl, _, rfl⟩⟩
    have I1 : Inv X pins σ (upd H s.heap.objs.size (.tup [x, y])) { s with heap := h'', toks := tk } :=
      I.turnedNew (t' := tk) (ch := [N + 4, N + 2, N + 3, N, N + 1]) (fun c o hb q => (sb.2 c (fun q' => hb (by simp [q']))).trans (hk c o (fun q' => hb (by simp [q'])) (fun q' => hb (by simp [q'])) (fun q' => hb (by simp [q'])) (fun q' => hb (by simp [q'])) q)) hf (Nat.le_refl _) new
    refine ⟨.ref s.heap.objs.size, _, I1, rfl, ⟨_, x, y, rfl, I.hok.fresh (Nat.le_refl _), rfl, fun l hl => by rw [sqx_inj I hl hqx]; exact hx, fun l hl => by rw [sqx_inj I hl hqy]; exact hy⟩, ⟨z'', ?_, ⟨v1, v2, ?_⟩, ?_, ?_⟩, fun c hcm => ?_⟩
    · exact (sb.2 _ S.TIz).trans (hk _ _ S.TIz S.TITO S.TIi1 S.TIi2 hTI)
    · exact (sb.2 _ S.TOz).trans TO'
    · exact ix_at i1'.1 fun o q => (sb.2 _ (Ne.symm S.zi1)).trans q
    · exact ix_at i2'.1 fun o q => (sb.2 _ (Ne.symm S.zi2)).trans q
    · have hlt : c < s.heap.objs.size := by
        have e' : c = N + 4 ∨ c = N + 2 ∨ c = N + 3 ∨ c = N ∨ c = N + 1 := by simpa using hcm
        obtain ⟨y0, y1, y2, y3⟩ := lt5 hzl
        rcases e' with q | q | q | q | q
        · rw [q]; exact hzl
        · rw [q]; exact y2
        · rw [q]; exact y3
        · rw [q]; exact y0
        · rw [q]; exact y1
      rw [upd_ne (Nat.ne_of_lt hlt)]
      exact (hf c hcm).1
  done := by
    intro X hP hw hK hc i pins s σ H E I hf st hg
    subst hP hw hK
    obtain ⟨hz, hTI, ⟨x0, y0, hTO⟩, i1, i2⟩ := st
    obtain ⟨xs, ys, hqx, hqy, hend⟩ := hg
    obtain ⟨its, rv, p, _, _⟩ := sqx_is I hqx
    obtain ⟨its2, rv2, p2, _, _⟩ := sqx_is I hqy
    have l1 := rv.length
    have l2 := rv2.length
    have z1 : its.toArray.size = its.length := List.size_toArray
    have z2 : its2.toArray.size = its2.length := List.size_toArray
    have hd : X.A.in1.handled = none := I.ok.hd hc
    have S := zip_sep2 (N := N) (fp1 := [a1]) (fp2 := [a2]) (by simpa using h1) (by simpa using h2)
    exact wpAny_pyNext_zipD2_end S (draws_x b1 hd N a1 (Nat.ne_of_lt h1) its.toArray) (draws_x b2 hd (N + 1) a2 (Nat.ne_of_lt (Nat.lt_succ_of_lt h2)) its2.toArray) hz hTI hTO ⟨i1, p⟩ ⟨i2, p2⟩
      (by rw [z1, ← l1, hend]; exact Nat.min_le_left _ _) (by rw [z2, ← l2, hend]; exact Nat.min_le_right _ _) (by rw [z1, z2, ← l1, ← l2]; omega) fun h' tk hk => ⟨rfl, I.turnedL (t' := tk) (ch := [N + 4, N + 2, N + 3, N, N + 1]) (fun c o hb q =>
      hk c o (fun q' => hb (by simp [q'])) (fun q' => hb (by simp [q'])) (fun q' => hb (by simp [q'])) (fun q' => hb (by simp [q'])) q) hf⟩
  self := fun A i s Q E st h => wpAny_pyIter_zip st.1 h
def iZpx (K : PySem.W.Frag) (ta : TA) : TI := fun σ H R => ta σ H fun vs H1 => ∃ b1 b2 a1 a2 xs ys, vs = [.ref a1, .ref a2] ∧ Sqx K b1 H1 a1 xs ∧ Sqx K b2 H1 a2 ys ∧ R (Izx K b1 b2 a1 a2) H1
theorem pi_zipx {X : Cx} {e e2 : Expr} {ta : TA} {p pos tpos : Pos} {elts : List Expr} {kk : Nat} (hg : Gl X "zip") (hm : X.mg "zip" = none) (ha : PA X [e, e2] ta)
    (hs : starEach [e, e2] X.env = (false, eval e X.env) :: starEach [e2] X.env := by rfl) (hpl : (backTo pos (starEach [e2] X.env)).any (·.1) = false := by rfl) :
    PI X (.Tuple elts kk tpos) (.Call (.Name "zip" p) [e, e2] [] pos) (iZpx X.K ta) := by
  refine ⟨fun pins s σ H R I h => ?_⟩
  refine Call_ (ld_blt I hg hm PyProof.Rows.boot_zip (PyProof.Rows.callWith_type1 (thn (ha.run pos pins s σ H _ I h) fun us s1 ⟨vs, H1, I1, r1, q1⟩ => ?_) hs hpl))
  obtain ⟨b1, b2, a, b, xs, ys, ex, hqx, hqy, q⟩ := q1
  subst ex
  cases r1 with
  | cons r rr =>
    cases rr with
    | cons r' rr =>
      cases rr
      cases r
      cases r'
      have fresh5 : ∀ c, c ∈ [s1.heap.objs.size + 4, s1.heap.objs.size + 2, s1.heap.objs.size + 3, s1.heap.objs.size, s1.heap.objs.size + 1] → FpOk X pins H1 c := fun c hcm => by
        have e' : c = s1.heap.objs.size + 4 ∨ c = s1.heap.objs.size + 2 ∨ c = s1.heap.objs.size + 3 ∨ c = s1.heap.objs.size ∨ c = s1.heap.objs.size + 1 := by simpa using hcm
        have hle : s1.heap.objs.size ≤ c := by
          rcases e' with z | z | z | z | z
          · rw [z]; exact Nat.le_add_right _ _
          · rw [z]; exact Nat.le_add_right _ _
          · rw [z]; exact Nat.le_add_right _ _
          · rw [z]; exact Nat.le_refl _
          · rw [z]; exact Nat.le_add_right _ _
        exact I1.fpOk hle (I1.hok.fresh hle)
      obtain ⟨its, rv, p1, _, al⟩ := sqx_is I1 hqx
      obtain ⟨its2, rv2, p2, _, bl⟩ := sqx_is I1 hqy
      refine zip_begins2 (begins_x b1 a its.toArray) (begins_x b2 b its2.toArray) p1 p2 fun h' hz hTI hTO h1 h2 hsz hk => wpAny_pyIter_zip hz ?_
      have I2 : Inv X pins σ H1 { s1 with heap := h' } := I1.kept (t' := s1.toks) hk
      exact ⟨s1.heap.objs.size + 4, [s1.heap.objs.size + 4, s1.heap.objs.size + 2, s1.heap.objs.size + 3, s1.heap.objs.size, s1.heap.objs.size + 1], _, _, H1, rfl, I2, turn_zipx b1 b2 al bl, ⟨hz, hTI, ⟨_, _, hTO⟩, ix_new h1, ix_new h2⟩, fresh5, q⟩

/-! ### tuple * int -/
theorem tuple_mulSame (l : Addr) (items : Array Value) (n : Nat) (dd : Option Addr) (sl : Array (Option Value)) (x : Int) (u : Tok) (c0 : (decide (x < -(2 ^ 63)) || decide (x ≥ 2 ^ 63)) = false) (c1 : (items.isEmpty || x == 1) = true) :
    Meets (Builtin.«tuple.__mul__» ⟨[.ref l, .int x u], []⟩) (fun _ R s => s.heap.get? l = some { cls := .type "tuple", dict := dd, data := .seq items n, slots := sl } ∧ R (.ok (.ret (Value.ref l))) s) :=
  .of_wp fun prog w A R s h => by
    obtain ⟨hp, g, d, tk, os⟩ := s
    obtain ⟨hl, h⟩ := h
    have f1 := AutoSeq1.idx_int
    wp_walk using wpAny_loadPart' hl
    repeat (first
      | (refine wpAny_ite_false (decide_eq_false (by rw [c0]; exact Bool.false_ne_true)) ?_; wp_walk using wpAny_loadPart' hl)
      | (refine wpAny_ite_true (decide_eq_true c1) ?_; wp_walk using wpAny_loadPart' hl))
    exact ⟨_, rfl, h⟩
theorem tuple_mulNone (l : Addr) (items : Array Value) (n : Nat) (dd : Option Addr) (sl : Array (Option Value)) (x : Int) (u : Tok) (c0 : (decide (x < -(2 ^ 63)) || decide (x ≥ 2 ^ 63)) = false) (c1 : (items.isEmpty || x == 1) = false) (c2 : (decide (x ≤ 0) || items.isEmpty) = true) :
    Meets (Builtin.«tuple.__mul__» ⟨[.ref l, .int x u], []⟩) (fun _ R s => s.heap.get? l = some { cls := .type "tuple", dict := dd, data := .seq items n, slots := sl } ∧
      R (.ok (.ret (Value.ref s.heap.objs.size))) { s with heap := s.heap.push { cls := Value.type "tuple", data := Data.seq #[] }, toks := s.toks }) :=
  .of_wp fun prog w A R s h => by
    obtain ⟨hp, g, d, tk, os⟩ := s
    obtain ⟨hl, h⟩ := h
    have f1 := AutoSeq1.idx_int
    wp_walk using wpAny_loadPart' hl
    repeat (first
      | (refine wpAny_ite_false (decide_eq_false (by rw [c0]; exact Bool.false_ne_true)) ?_; wp_walk using wpAny_loadPart' hl)
      | (refine wpAny_ite_false (decide_eq_false (by rw [c1]; exact Bool.false_ne_true)) ?_; wp_walk using wpAny_loadPart' hl)
      | (refine wpAny_ite_true (decide_eq_true c2) ?_; wp_walk using wpAny_loadPart' hl))
    exact ⟨_, rfl, h⟩

def rRepA (K : PySem.W.Frag) : R2 := fun x y H Q => ∃ l k xs, x = .ref l ∧ y = .int k ∧ SqT K H l xs ∧ -1000 ≤ k ∧ k ≤ 1000 ∧ xs.length ≤ 1000 ∧
  (xs = [] ∨ k = 1 → Q (.ref l) H) ∧ (xs ≠ [] → k ≠ 1 → ∀ p, H p = none → Q (.ref p) (upd H p (.tup (List.replicate k.toNat xs).flatten)))
section
variable {X : Cx}
theorem op_repA : OpR X (binaryOp .Mult) (rRepA X.K) := by
  intro pins s σ H x y v u Q I rx ry h
  obtain ⟨l, k, xs, rfl, rfl, hT, h0, h2, hz, q1, q2⟩ := h
  by_cases hbig : xs ≠ [] ∧ 2 ≤ k
  · exact op_repT pins s σ H _ _ v u Q I rx ry ⟨l, k, xs, rfl, rfl, hT, hbig.1, hbig.2, h2, hz, q2 hbig.1 (by omega)⟩
  cases rx
  obtain ⟨t, rfl⟩ := ry
  obtain ⟨its, r, ⟨⟨cls, dd, data, sl⟩, ho, hc, n, hd⟩, hs⟩ := I.tuple hT
  simp only at hc hd
  subst hc hd
  have hle : its.length = xs.length := r.length.symm
  have c0 : (decide (k < -(2 ^ 63)) || decide (k ≥ 2 ^ 63)) = false := by
    rw [decide_eq_false (by omega), decide_eq_false (by omega)] <;> rfl
  by_cases hsame : xs = [] ∨ k = 1
  · have c1 : (its.toArray.isEmpty || k == 1) = true := by
      rcases hsame with e | e
      · subst e
        cases r
        rfl
      · subst e; simp
    exact wpAny_binaryOp_repeat_ref (T := "tuple") (U := "int") (by decide) ⟨_, ho, rfl⟩ (fun s' => typeIs_int s' k t) noFill_tuple_mul F.fills_int_mul F.slot_int_rmul repeat_tuple F.slot_int_index.lookup
      (call_meets F.slot_int_rmul (typeIs_int s k t) F.entry_int_rmul (F.args_int_rmul_2 _ _) (int_rmul_tuple k t l its.toArray n dd sl)
        ⟨ho, rfl, ⟨_, ho, rfl⟩, call_meets F.slot_tuple_mul ⟨_, ho, rfl⟩ F.entry_tuple_mul (F.args_tuple_mul_2 _ _) (tuple_mulSame l its.toArray n dd sl k t c0 c1) ⟨ho, .ref l, H, I, rfl, q1 hsame⟩⟩)
  · have hx : xs ≠ [] := fun e => hsame (.inl e)
    have hk1 : k ≠ 1 := fun e => hsame (.inr e)
    have hk : k ≤ 0 := by
      have z : ¬ (2 : Int) ≤ k := fun z => hbig ⟨hx, z⟩
      omega
    have hi : its.toArray.isEmpty = false := by
      cases its with
      | nil => exact absurd (List.eq_nil_of_length_eq_zero (by simpa using hle.symm)) hx
      | cons a b => rfl
    have c1 : (its.toArray.isEmpty || k == 1) = false := by
      rw [hi, Bool.false_or]
      exact beq_eq_false_iff_ne.mpr hk1
    have c2 : (decide (k ≤ 0) || its.toArray.isEmpty) = true := by
      rw [decide_eq_true hk, Bool.true_or]
    refine wpAny_binaryOp_repeat_ref (T := "tuple") (U := "int") (by decide) ⟨_, ho, rfl⟩ (fun s' => typeIs_int s' k t) noFill_tuple_mul F.fills_int_mul F.slot_int_rmul repeat_tuple F.slot_int_index.lookup
      (call_meets F.slot_int_rmul (typeIs_int s k t) F.entry_int_rmul (F.args_int_rmul_2 _ _) (int_rmul_tuple k t l its.toArray n dd sl)
        ⟨ho, rfl, ⟨_, ho, rfl⟩, call_meets F.slot_tuple_mul ⟨_, ho, rfl⟩ F.entry_tuple_mul (F.args_tuple_mul_2 _ _) (tuple_mulNone l its.toArray n dd sl k t c0 c1 c2) ⟨ho, ?_⟩⟩)
    have z : k.toNat = 0 := by omega
    have q3 := q2 hx hk1 s.heap.objs.size (I.hok.fresh (Nat.le_refl _))
    rw [z] at q3
    refine ⟨.ref s.heap.objs.size, _, I.laid (t' := s.toks) (o := .tup []) (fun b ob q => Heap.get?_push_of_some _ q) (Nat.le_refl _) ?_, rfl, q3⟩
    exact ⟨Nat.zero_le _, [], .nil, IsTup.new _ _⟩
/-! ### great ints -/
theorem op_fdivX : OpR X (binaryOp .FloorDiv) (rI (fun i j => j ≠ 0 ∧ Builtin.divisionGoesByPylong i j = false) fun i j => .int (i.fdiv j)) := opI fun _ _ _ _ _ _ _ hc q => floordiv_int hc.1 q (.inl hc.2)
theorem iop_fdivX : OpR X (inplaceOp .FloorDiv) (rI (fun i j => j ≠ 0 ∧ Builtin.divisionGoesByPylong i j = false) fun i j => .int (i.fdiv j)) := opI fun _ _ _ _ _ _ _ hc q => ifloordiv_int hc.1 q (.inl hc.2)
theorem iop_mulX : OpR X (inplaceOp .Mult) (rI CMulX fun i j => .int (i * j)) := opI fun _ _ _ _ _ _ _ hc q => imul_int q hc.ok
end
end Ev

end

section
/-! Ev1: values as data, their lie in the abstract heap, states. -/
namespace Ev
open PySem PySem.Spec PyProof.Rows L2

abbrev W := PyData
abbrev Sl := List (Option W)
abbrev Tp := Option (List (List W))

/-- the tables of code objects that are known -/
class Tb where
  T : List (Addr × Str)
  K : PySem.W.Frag
variable [Tb]
/-- nothing is there (but perhaps a table of code) -/
def Nw (H : Hp) (a : Addr) : Prop := ∀ o, H a = some o → ∃ ps, o = .tbl ps
theorem Nw.of {H : Hp} {a : Addr} (h : H a = none) : Nw H a := fun o e => by rw [h] at e; cases e
theorem Nw.not {H : Hp} {a : Addr} {o : HO} (e : H a = some o) (n : ∀ ps, o ≠ .tbl ps) : ¬ Nw H a := fun h => by
  obtain ⟨ps, q⟩ := h o e
  exact n ps q
theorem Nw.ob {H : Hp} {a : Addr} (h : ¬ Nw H a) : ∃ o, H a = some o ∧ ∀ ps, o ≠ .tbl ps := by
  cases e : H a with
  | none => exact absurd (Nw.of e) h
  | some o => exact ⟨o, rfl, fun ps z => h fun o' e' => by rw [e] at e'; cases e'; exact ⟨ps, z⟩⟩
theorem Nw.ne {H : Hp} {a : Addr} (h : ¬ Nw H a) : H a ≠ none := fun z => h (Nw.of z)
/-- what comes of an expression -/
inductive Rs (α : Type) where
  | ok (a : α) (t : Tp)
  | exc (c : Nat) (t : Tp)
  | bad
def Rs.bind {α β : Type} (r : Rs α) (f : α → Tp → Rs β) : Rs β :=
  match r with
  | .ok a t => f a t
  | .exc c t => .exc c t
  | .bad => .bad
abbrev Ex := Sl → Tp → Rs W
abbrev Exs := Sl → Tp → Rs (List W)
abbrev Et := Sl → Tp → Rs Bool
/-- what comes of a statement -/
inductive SR where
  | next (ρ : Sl) (t : Tp)
  | ret (w : W) (t : Tp)
  | exc (c : Nat) (t : Tp)
  | bad
abbrev Sv := Sl → Tp → SR
/-- what comes of a call -/
inductive FR where
  | ok (w : W)
  | exc (c : Nat)
  | bad
abbrev Fs := List W → FR

def keyW : Key → W
  | .inl i => .int i
  | .inr x => .str x

/-- a list of the written part -/
def KL (K : PySem.W.Frag) (a : Addr) (xs : List V) : Prop :=
  ∃ (o : Obj) (its : Array Value) (n : Nat), K.lookup a = some o ∧ o.cls = .type "list" ∧ o.dict = none ∧ o.data = .seq its n ∧ its.size ≤ sizeLine ∧ Vals xs its.toList

mutual
/-- the value v is the data w; what it leads to is not hidden -/
inductive Im (K : PySem.W.Frag) (hid : Addr → Prop) (H : Hp) : W → V → Prop
  | non : Im K hid H .none .non
  | bl (b : Bool) : Im K hid H (.bool b) (.bl b)
  | int (i : Int) : Im K hid H (.int i) (.int i)
  | str (x : Str) : Im K hid H (.str x) (.str x)
  | tup {a : Addr} {vs : List V} {ws : List W} : SqT K H a vs → Ims K hid H ws vs → Im K hid H (.tuple ws) (.ref a)
  | lst {a : Addr} {vs : List V} {ws : List W} : ¬ hid a → H a = some (.lst vs) → Ims K hid H ws vs → Im K hid H (.list ws) (.ref a)
  | dK {a : Addr} {kvs : List (Key × V)} {ws : List (W × W)} : ¬ hid a → Rd H a (.dK kvs) → ImK K hid H ws kvs → Im K hid H (.dict ws) (.ref a)
  | dT {a : Addr} {kvs : List (List Key × V)} {ws : List (W × W)} : ¬ hid a → Rd H a (.dT kvs) → ImT K hid H ws kvs → Im K hid H (.dict ws) (.ref a)
inductive Ims (K : PySem.W.Frag) (hid : Addr → Prop) (H : Hp) : List W → List V → Prop
  | nil : Ims K hid H [] []
  | cons {w : W} {v : V} {ws : List W} {vs : List V} : Im K hid H w v → Ims K hid H ws vs → Ims K hid H (w :: ws) (v :: vs)
inductive ImK (K : PySem.W.Frag) (hid : Addr → Prop) (H : Hp) : List (W × W) → List (Key × V) → Prop
  | nil : ImK K hid H [] []
  | cons {k : Key} {w : W} {v : V} {ws : List (W × W)} {vs : List (Key × V)} : Im K hid H w v → ImK K hid H ws vs → ImK K hid H ((keyW k, w) :: ws) ((k, v) :: vs)
inductive ImT (K : PySem.W.Frag) (hid : Addr → Prop) (H : Hp) : List (W × W) → List (List Key × V) → Prop
  | nil : ImT K hid H [(.none, .none)] []
  | cons {k : List Key} {w : W} {v : V} {ws : List (W × W)} {vs : List (List Key × V)} : Im K hid H w v → ImT K hid H ws vs → ImT K hid H ((.tuple (k.map keyW), w) :: ws) ((k, v) :: vs)
end

/-- dicts -/
def isDat : HO → Prop
  | .dK _ => True
  | .dT _ => True
  | _ => False
/-- what a hidden set lets through is kept -/
structure Kp (hid : Addr → Prop) (H H' : Hp) : Prop where
  lst : ∀ a vs, ¬ hid a → H a = some (.lst vs) → H' a = some (.lst vs)
  dat : ∀ a u, ¬ hid a → isDat u → Rd H a u → Rd H' a u
  tup : ∀ a xs, Rd H a (.tup xs) → Rd H' a (.tup xs)
theorem Kp.refl {hid : Addr → Prop} {H : Hp} : Kp hid H H := ⟨fun _ _ _ h => h, fun _ _ _ _ h => h, fun _ _ h => h⟩
theorem Kp.trans {hid : Addr → Prop} {H H1 H2 : Hp} (a : Kp hid H H1) (b : Kp hid H1 H2) : Kp hid H H2 :=
  ⟨fun x vs h e => b.lst x vs h (a.lst x vs h e), fun x u h d r => b.dat x u h d (a.dat x u h d r), fun x xs r => b.tup x xs (a.tup x xs r)⟩
theorem Kp.sqT {K : PySem.W.Frag} {hid : Addr → Prop} {H H' : Hp} (k : Kp hid H H') {a : Addr} {vs : List V} (h : SqT K H a vs) : SqT K H' a vs := by
  rcases h with h | h
  · exact .inl (k.tup _ _ h)
  · exact .inr h
theorem Rd_ne {H : Hp} {a : Addr} {u : HO} (h : Rd H a u) (n : ∀ ps, u ≠ .tbl ps) : ¬ Nw H a := by
  rcases h with h | ⟨o, h⟩
  · exact Nw.not h n
  · exact Nw.not h fun ps z => by cases z

section
variable {K : PySem.W.Frag} {hid hid' : Addr → Prop} {H H' : Hp}
mutual
theorem Im.mono (k : Kp hid H H') (hh : ∀ a, hid' a → hid a ∨ Nw H a) : ∀ (w : W) (v : V), Im K hid H w v → Im K hid' H' w v
  | .none, v, h => by cases h; exact .non
  | .bool b, v, h => by cases h; exact .bl b
  | .int i, v, h => by cases h; exact .int i
  | .str x, v, h => by cases h; exact .str x
  | .tuple ws, v, h => by
    cases h with
    | tup h1 h2 => exact .tup (k.sqT h1) (Ims.mono k hh ws _ h2)
  | .list ws, v, h => by
    cases h with
    | lst h1 h2 h3 => exact .lst (fun z => (hh _ z).elim h1 (Nw.not h2 fun ps z => by cases z)) (k.lst _ _ h1 h2) (Ims.mono k hh ws _ h3)
  | .dict ws, v, h => by
    cases h with
    | dK h1 h2 h3 => exact .dK (fun z => (hh _ z).elim h1 (Rd_ne h2 fun ps z => by cases z)) (k.dat _ _ h1 trivial h2) (ImK.mono k hh ws _ h3)
    | dT h1 h2 h3 => exact .dT (fun z => (hh _ z).elim h1 (Rd_ne h2 fun ps z => by cases z)) (k.dat _ _ h1 trivial h2) (ImT.mono k hh ws _ h3)
theorem Ims.mono (k : Kp hid H H') (hh : ∀ a, hid' a → hid a ∨ Nw H a) : ∀ (ws : List W) (vs : List V), Ims K hid H ws vs → Ims K hid' H' ws vs
  | [], vs, h => by cases h; exact .nil
  | w :: ws, vs, h => by
    cases h with
    | cons h1 h2 => exact .cons (Im.mono k hh w _ h1) (Ims.mono k hh ws _ h2)
theorem ImK.mono (k : Kp hid H H') (hh : ∀ a, hid' a → hid a ∨ Nw H a) : ∀ (ws : List (W × W)) (vs : List (Key × V)), ImK K hid H ws vs → ImK K hid' H' ws vs
  | [], vs, h => by cases h; exact .nil
  | (q, w) :: ws, vs, h => by
    cases h with
    | cons h1 h2 => exact .cons (Im.mono k hh w _ h1) (ImK.mono k hh ws _ h2)
theorem ImT.mono (k : Kp hid H H') (hh : ∀ a, hid' a → hid a ∨ Nw H a) : ∀ (ws : List (W × W)) (vs : List (List Key × V)), ImT K hid H ws vs → ImT K hid' H' ws vs
  | [], vs, h => by cases h
  | (q, w) :: ws, vs, h => by
    cases h with
    | nil => exact .nil
    | cons h1 h2 => exact .cons (Im.mono k hh w _ h1) (ImT.mono k hh ws _ h2)
end

theorem Ims.length : ∀ {ws : List W} {vs : List V}, Ims K hid H ws vs → ws.length = vs.length
  | _, _, .nil => rfl
  | _, _, .cons _ t => by rw [List.length_cons, List.length_cons, Ims.length t]
theorem Ims.get : ∀ {ws : List W} {vs : List V} {i : Nat} {w : W}, Ims K hid H ws vs → ws[i]? = some w → ∃ v, vs[i]? = some v ∧ Im K hid H w v
  | _, _, _, _, .nil, e => by simp at e
  | _, _, 0, _, .cons r _, e => by simp at e; subst e; exact ⟨_, rfl, r⟩
  | _, _, i + 1, w, .cons _ t, e => by
    obtain ⟨v, h1, h2⟩ := Ims.get (i := i) (w := w) t (by simpa using e)
    exact ⟨v, by simpa using h1, h2⟩
theorem Ims.getV : ∀ {ws : List W} {vs : List V} {i : Nat} {v : V}, Ims K hid H ws vs → vs[i]? = some v → ∃ w, ws[i]? = some w ∧ Im K hid H w v
  | _, _, _, _, .nil, e => by simp at e
  | _, _, 0, _, .cons r _, e => by simp at e; subst e; exact ⟨_, rfl, r⟩
  | _, _, i + 1, v, .cons _ t, e => by
    obtain ⟨w, h1, h2⟩ := Ims.getV (i := i) (v := v) t (by simpa using e)
    exact ⟨w, by simpa using h1, h2⟩
theorem Ims.append : ∀ {ws ws2 : List W} {vs vs2 : List V}, Ims K hid H ws vs → Ims K hid H ws2 vs2 → Ims K hid H (ws ++ ws2) (vs ++ vs2)
  | _, _, _, _, .nil, s => s
  | _, _, _, _, .cons r t, s => .cons r (Ims.append t s)
theorem Ims.set {w : W} {v : V} (r : Im K hid H w v) : ∀ {ws : List W} {vs : List V} (i : Nat), Ims K hid H ws vs → Ims K hid H (ws.set i w) (vs.set i v)
  | _, _, _, .nil => .nil
  | _, _, 0, .cons _ t => .cons r t
  | _, _, i + 1, .cons q t => .cons q (Ims.set r i t)
theorem Ims.take : ∀ {ws : List W} {vs : List V} (n : Nat), Ims K hid H ws vs → Ims K hid H (ws.take n) (vs.take n)
  | _, _, 0, _ => .nil
  | _, _, _ + 1, .nil => .nil
  | _, _, n + 1, .cons r t => .cons r (Ims.take n t)
theorem Ims.drop : ∀ {ws : List W} {vs : List V} (n : Nat), Ims K hid H ws vs → Ims K hid H (ws.drop n) (vs.drop n)
  | _, _, 0, r => r
  | _, _, _ + 1, .nil => .nil
  | _, _, n + 1, .cons _ t => Ims.drop n t
theorem Ims.rep {ws : List W} {vs : List V} (h : Ims K hid H ws vs) : ∀ k : Nat, Ims K hid H (List.replicate k ws).flatten (List.replicate k vs).flatten
  | 0 => .nil
  | k + 1 => by rw [List.replicate_succ, List.replicate_succ, List.flatten_cons, List.flatten_cons]; exact h.append (Ims.rep h k)
end

/-- the list of lists that is written within: its own place, and those of its lists -/
def tps (tp : Option (Addr × List Addr)) (a : Addr) : Prop := ∃ x ys, tp = some (x, ys) ∧ (a = x ∨ a ∈ ys)
inductive Rws (H : Hp) : List Addr → List (List W) → Prop
  | nil : Rws H [] []
  | cons {b : Addr} {bs : List Addr} {us : List V} {r : List W} {rs : List (List W)} : H b = some (.lst us) → Ims Tb.K (fun _ => True) H r us → Rws H bs rs → Rws H (b :: bs) (r :: rs)
def TpOk (tp : Option (Addr × List Addr)) (H : Hp) : Tp → Prop
  | none => tp = none
  | some rows => ∃ a bs, tp = some (a, bs) ∧ a ∉ bs ∧ bs.Nodup ∧ H a = some (.lst (bs.map V.ref)) ∧ Rws H bs rows
theorem kpT {H H' : Hp} (kt : ∀ a xs, Rd H a (.tup xs) → Rd H' a (.tup xs)) : Kp (fun _ => True) H H' := ⟨fun _ _ n => absurd trivial n, fun _ _ n => absurd trivial n, kt⟩
theorem Rws.of {H H' : Hp} (kt : ∀ a xs, Rd H a (.tup xs) → Rd H' a (.tup xs)) : ∀ {bs : List Addr} {rs : List (List W)}, Rws H bs rs → (∀ a o, a ∈ bs → H a = some o → H' a = some o) → Rws H' bs rs
  | _, _, .nil, _ => .nil
  | _, _, .cons h1 h2 h3, k => .cons (k _ _ List.mem_cons_self h1) (Ims.mono (kpT kt) (fun _ _ => .inl trivial) _ _ h2) (Rws.of kt h3 fun a o z => k a o (List.mem_cons_of_mem _ z))
theorem Rws.lst {H : Hp} : ∀ {bs : List Addr} {rs : List (List W)}, Rws H bs rs → ∀ {a : Addr}, a ∈ bs → ∃ vs, H a = some (.lst vs)
  | _, _, .nil, _, z => by cases z
  | _, _, .cons h1 _ h3, _, z => by
    rcases List.mem_cons.mp z with e | e
    · subst e; exact ⟨_, h1⟩
    · exact Rws.lst h3 e
theorem tps_lst {tp : Option (Addr × List Addr)} {H : Hp} {t : Tp} {a : Addr} (k : TpOk tp H t) (z : tps tp a) : ∃ vs, H a = some (.lst vs) := by
  obtain ⟨x, ys, e, z⟩ := z
  cases t with
  | none => rw [show tp = none from k] at e; cases e
  | some rows =>
    obtain ⟨a', bs, e', _, _, h1, h2⟩ := k
    rw [e'] at e; cases e
    rcases z with z | z
    · subst z; exact ⟨_, h1⟩
    · exact h2.lst z

/-- the objects but those of ex (and the tables of code) stay as they are -/
structure Sm (ex : Addr → Prop) (H H' : Hp) : Prop where
  obj : ∀ a o, ¬ ex a → H a = some o → (∀ ps, o ≠ .tbl ps) → H' a = some o
  tup : ∀ a xs, Rd H a (.tup xs) → Rd H' a (.tup xs)
  dom : ∀ a, ¬ Nw H a → ¬ Nw H' a
  tab : LamX.Tabs Tb.T H → LamX.Tabs Tb.T H'
theorem Sm.refl {ex : Addr → Prop} {H : Hp} : Sm ex H H := ⟨fun _ _ _ h _ => h, fun _ _ h => h, fun _ h => h, fun h => h⟩
theorem Sm.trans {ex : Addr → Prop} {H H1 H2 : Hp} (a : Sm ex H H1) (b : Sm ex H1 H2) : Sm ex H H2 :=
  ⟨fun x o h e n => b.obj x o h (a.obj x o h e n) n, fun x xs r => b.tup x xs (a.tup x xs r), fun x h => b.dom x (a.dom x h), fun h => b.tab (a.tab h)⟩
theorem Sm.imp {ex ex' : Addr → Prop} {H H' : Hp} (a : Sm ex H H') (h : ∀ x, ex x → ex' x) : Sm ex' H H' :=
  ⟨fun x o n e t => a.obj x o (fun z => n (h x z)) e t, a.tup, a.dom, a.tab⟩
theorem Sm.kp {ex hid : Addr → Prop} {H H' : Hp} (a : Sm ex H H') (h : ∀ x, ex x → hid x) : Kp hid H H' := by
  refine ⟨fun x vs n e => a.obj x _ (fun z => n (h x z)) e fun ps z => (by cases z), fun x u n d r => ?_, a.tup⟩
  have ne : ¬ ex x := fun z => n (h x z)
  rcases r with r | ⟨o, r⟩
  · refine .inl (a.obj x _ ne r fun ps z => ?_)
    subst z; exact d
  · exact .inr ⟨o, a.obj x _ ne r fun ps z => by cases z⟩
theorem Sm.none {ex : Addr → Prop} {H H' : Hp} (a : Sm ex H H') {p : Addr} (h : Nw H' p) : Nw H p := by
  apply Classical.byContradiction
  intro n
  exact a.dom p n h
/-- one object more -/
theorem Sm.same {ex : Addr → Prop} {H H' : Hp} (h : Same H H') : Sm ex H H' := by
  refine ⟨fun a u _ e _ => h a u e, fun a xs r => ?_, fun a e => ?_, fun t => t.ext h⟩
  · rcases r with r | ⟨ob, r⟩
    · exact .inl (h _ _ r)
    · exact .inr ⟨ob, h _ _ r⟩
  · obtain ⟨o, q, n⟩ := Nw.ob e
    exact Nw.not (h a o q) n
theorem Sm.new {ex : Addr → Prop} {H : Hp} {p : Addr} {o : HO} (h : H p = Option.none) : Sm ex H (upd H p o) :=
  Sm.same fun b u e => by rw [upd_ne (ne_of_none e h)]; exact e
theorem TpOk.of {tp : Option (Addr × List Addr)} {H H' : Hp} {t : Tp} (h : TpOk tp H t) (kt : ∀ a xs, Rd H a (.tup xs) → Rd H' a (.tup xs)) (k : ∀ a o, tps tp a → H a = some o → H' a = some o) : TpOk tp H' t := by
  cases t with
  | none => exact h
  | some p =>
    obtain ⟨a, bs, e, ne, nd, h1, h2⟩ := h
    exact ⟨a, bs, e, ne, nd, k _ _ ⟨a, bs, e, .inl rfl⟩ h1, h2.of kt fun x o z => k x o ⟨a, bs, e, .inr z⟩⟩
theorem TpOk.new {tp : Option (Addr × List Addr)} {H : Hp} {t : Tp} {p : Addr} {o : HO} (h : TpOk tp H t) (hp : H p = Option.none) : TpOk tp (upd H p o) t :=
  h.of (Sm.new (ex := fun _ => False) hp).tup fun a u _ e => by rw [upd_ne (ne_of_none e hp)]; exact e

/-- which slots own their list or dict; where the tape lies -/
structure Cf where
  M : List Nat
  tape : Option Nat := none
  scr : Option Nat := none

/-- an owned object -/
def Ow (K : PySem.W.Frag) (hid : Addr → Prop) (H : Hp) (w : W) (a : Addr) : Prop :=
  (∃ ws vs, w = .list ws ∧ H a = some (.lst vs) ∧ Ims K hid H ws vs) ∨
  (∃ ws kvs, w = .dict ws ∧ Rd H a (.dK kvs) ∧ ImK K hid H ws kvs) ∨
  (∃ ws kvs, w = .dict ws ∧ Rd H a (.dT kvs) ∧ ImT K hid H ws kvs)
theorem Rd_exact {H H' : Hp} {a : Addr} {u : HO} (h : Rd H a u) (nt : ∀ ps, u ≠ .tbl ps) (e : ∀ o, H a = some o → (∀ ps, o ≠ .tbl ps) → H' a = some o) : Rd H' a u := by
  rcases h with h | ⟨o, h⟩
  · exact .inl (e _ h nt)
  · exact .inr ⟨o, e _ h fun ps z => by cases z⟩
theorem Ow.mono {K : PySem.W.Frag} {hid hid' : Addr → Prop} {H H' : Hp} {w : W} {a : Addr} (h : Ow K hid H w a) (k : Kp hid H H') (hh : ∀ a, hid' a → hid a ∨ Nw H a)
    (e : ∀ o, H a = some o → (∀ ps, o ≠ .tbl ps) → H' a = some o) : Ow K hid' H' w a := by
  rcases h with ⟨ws, vs, h1, h2, h3⟩ | ⟨ws, vs, h1, h2, h3⟩ | ⟨ws, vs, h1, h2, h3⟩
  · exact .inl ⟨ws, vs, h1, e _ h2 (fun ps z => by cases z), Ims.mono k hh _ _ h3⟩
  · exact .inr (.inl ⟨ws, vs, h1, Rd_exact h2 (fun ps z => by cases z) e, ImK.mono k hh _ _ h3⟩)
  · exact .inr (.inr ⟨ws, vs, h1, Rd_exact h2 (fun ps z => by cases z) e, ImT.mono k hh _ _ h3⟩)

/-- the script: locked, or written -/
def Sc (K : PySem.W.Frag) (hid : Addr → Prop) (H : Hp) (a : Addr) (ns : List Int) : Prop := (¬ hid a ∧ Rd H a (.lst (ns.map V.int))) ∨ KL K a (ns.map V.int)
theorem Sc.sql {K : PySem.W.Frag} {hid : Addr → Prop} {H : Hp} {a : Addr} {ns : List Int} (h : Sc K hid H a ns) : SqL K H a (ns.map V.int) := by
  rcases h with ⟨_, h⟩ | h
  · exact .inl h
  · exact .inr h
theorem Sc.mono {K : PySem.W.Frag} {hid hid' : Addr → Prop} {H H' : Hp} {a : Addr} {ns : List Int} (h : Sc K hid H a ns) (hh : ∀ a, hid' a → hid a ∨ Nw H a) (e : ∀ o, ¬ hid a → H a = some o → (∀ ps, o ≠ .tbl ps) → H' a = some o) : Sc K hid' H' a ns := by
  rcases h with ⟨n, h⟩ | h
  · refine .inl ⟨fun z => ?_, Rd_exact h (fun ps z => by cases z) fun o q nt => e o n q nt⟩
    rcases hh a z with q | q
    · exact n q
    · exact Rd_ne h (fun ps z => by cases z) q
  · exact .inr h
/-- the slots and the heap, as data -/
structure StE (K : PySem.W.Frag) (c : Cf) (hT hid : Addr → Prop) (tp : Option (Addr × List Addr)) (ρ : Sl) (σ : L2.St) (H : Hp) (t : Tp) : Prop where
  len : ρ.length = σ.length
  im : ∀ i w, ρ[i]? = some (some w) → i ∉ c.M → c.scr ≠ some i → ∃ v, σ[i]? = some (some v) ∧ Im K hid H w v
  scr : ∀ i w, ρ[i]? = some (some w) → c.scr = some i → ∃ a ns, σ[i]? = some (some (.ref a)) ∧ w = .list (ns.map PyData.int) ∧ Sc K hid H a ns
  own : ∀ i w, ρ[i]? = some (some w) → i ∈ c.M → ∃ a, σ[i]? = some (some (.ref a)) ∧ hid a ∧ ¬ hT a ∧ Ow K hid H w a
  sep : ∀ i j w w' a, ρ[i]? = some (some w) → ρ[j]? = some (some w') → i ∈ c.M → j ∈ c.M → σ[i]? = some (some (.ref a)) → σ[j]? = some (some (.ref a)) → i = j
  dom : ∀ a, hid a → ¬ Nw H a
  sub : ∀ a, hT a → hid a
  tph : ∀ a, tps tp a → hT a
  tap : TpOk tp H t
  slot : ∀ i, c.tape = some i → ∃ a b, tp = some (a, b) ∧ σ[i]? = some (some (.ref a))
  tbs : LamX.Tabs Tb.T H
theorem StE.sm {K : PySem.W.Frag} {c : Cf} {hT hid : Addr → Prop} {tp : Option (Addr × List Addr)} {ρ : Sl} {σ : L2.St} {H H' : Hp} {t t' : Tp} (s : StE K c hT hid tp ρ σ H t) (m : Sm (tps tp) H H') (ht : TpOk tp H' t') : StE K c hT hid tp ρ σ H' t' := by
  have k : Kp hid H H' := m.kp fun x hx => s.sub x (s.tph x hx)
  refine ⟨s.len, fun i w e n n2 => ?_, fun i w e n => ?_, fun i w e n => ?_, s.sep, fun a h => m.dom a (s.dom a h), s.sub, s.tph, ht, s.slot, m.tab s.tbs⟩
  · obtain ⟨v, e1, h⟩ := s.im i w e n n2
    exact ⟨v, e1, Im.mono k (fun _ z => .inl z) _ _ h⟩
  · obtain ⟨a, ns, e1, e2, h⟩ := s.scr i w e n
    exact ⟨a, ns, e1, e2, h.mono (fun _ z => .inl z) fun o n q nt => m.obj a o (fun z => n (s.sub a (s.tph a z))) q nt⟩
  · obtain ⟨a, e1, h1, h2, h3⟩ := s.own i w e n
    exact ⟨a, e1, h1, h2, h3.mono k (fun _ z => .inl z) fun o e n => m.obj a o (fun z => h2 (s.tph a z)) e n⟩

/-- how a result lies: not hidden; at its top perhaps an owned one (to be read at once); new -/
inductive Md where
  | safe | bor | fresh
def Bo (K : PySem.W.Frag) (hT hid : Addr → Prop) (H : Hp) (w : W) (v : V) : Prop :=
  Im K hid H w v ∨ ∃ a, v = .ref a ∧ ¬ hT a ∧ Ow K hid H w a
/-- new since H0 (or of ow0) -/
def Fe (K : PySem.W.Frag) (ow0 hid : Addr → Prop) (H0 H : Hp) (w : W) (v : V) : Prop :=
  ∃ a, v = .ref a ∧ (Nw H0 a ∨ ow0 a) ∧ (∀ o u, H a ≠ some (.frz o u)) ∧ Ow K (fun x => hid x ∨ x = a) H w a
def Pm (K : PySem.W.Frag) (m : Md) (hT hid ow0 : Addr → Prop) (H0 H : Hp) (w : W) (v : V) : Prop :=
  match m with
  | .safe => Im K hid H w v
  | .bor => Bo K hT hid H w v
  | .fresh => Fe K ow0 hid H0 H w v
theorem Bo.mono {K : PySem.W.Frag} {hT hid : Addr → Prop} {H H' : Hp} {w : W} {v : V} (h : Bo K hT hid H w v) (ex : Addr → Prop) (m : Sm ex H H') (he : ∀ a, ex a → hT a) (hs : ∀ a, hT a → hid a) : Bo K hT hid H' w v := by
  have k : Kp hid H H' := m.kp fun x hx => hs x (he x hx)
  rcases h with h | ⟨a, e, n, h⟩
  · exact .inl (Im.mono k (fun _ z => .inl z) _ _ h)
  · refine .inr ⟨a, e, n, ?_⟩
    exact h.mono k (fun _ z => .inl z) fun o q nt => m.obj a o (fun z => n (he a z)) q nt
/-- a new object seen from outside -/
theorem Fe.im {K : PySem.W.Frag} {ow0 hid : Addr → Prop} {H0 H : Hp} {w : W} {v : V} (h : Fe K ow0 hid H0 H w v) (ho : ∀ a, ow0 a → ¬ hid a) (hd : ∀ a, hid a → ¬ Nw H0 a) : Im K hid H w v := by
  obtain ⟨a, e, n, _, h⟩ := h
  subst e
  have nh : ¬ hid a := fun z => n.elim (hd a z) fun y => ho a y z
  have hh : ∀ x, hid x → (hid x ∨ x = a) ∨ Nw H x := fun x z => .inl (.inl z)
  rcases h with ⟨ws, vs, h1, h2, h3⟩ | ⟨ws, vs, h1, h2, h3⟩ | ⟨ws, vs, h1, h2, h3⟩
  · subst h1; exact .lst nh h2 (Ims.mono Kp.refl hh _ _ h3)
  · subst h1; exact .dK nh h2 (ImK.mono Kp.refl hh _ _ h3)
  · subst h1; exact .dT nh h2 (ImT.mono Kp.refl hh _ _ h3)

end Ev

end

section
/-! Ev2: expressions. -/
namespace Ev
open PySem PySem.Spec PyProof.Rows L2
variable [Tb]

/-! ### what is wanted of an outcome -/
def Out {α β : Type} (cl : Nat → Addr) (tp : Option (Addr × List Addr)) (E : XK) (H : Hp) (r : Rs α) (P : Hp → α → Hp → β → Prop) (Q : β → Hp → Prop) : Prop :=
  match r with
  | .ok a t' => ∀ v H', Sm (tps tp) H H' → TpOk tp H' t' → P H a H' v → Q v H'
  | .exc e t' => ∀ H', Sm (tps tp) H H' → TpOk tp H' t' → E (.ref (cl e)) none H'
  | .bad => False
/-- what holds from a later heap on holds from here on -/
def Later {α β : Type} (tp : Option (Addr × List Addr)) (P : Hp → α → Hp → β → Prop) : Prop := ∀ H H1 a H' v, Sm (tps tp) H H1 → P H1 a H' v → P H a H' v
section
variable {α β γ δ : Type} {cl : Nat → Addr} {tp : Option (Addr × List Addr)} {E : XK} {H H1 : Hp} {P : Hp → α → Hp → β → Prop} {Q : β → Hp → Prop}
theorem Out.later {r : Rs α} (hP : Later tp P) (h : Out cl tp E H r P Q) (m : Sm (tps tp) H H1) : Out cl tp E H1 r P Q := by
  cases r with
  | ok a t => exact fun v H' m' k p => h v H' (m.trans m') k (hP _ _ _ _ _ m p)
  | exc e t => exact fun H' m' k => h H' (m.trans m') k
  | bad => exact h
theorem Out.seq {r : Rs γ} {f : γ → Tp → Rs α} {P1 : Hp → γ → Hp → δ → Prop} {Q1 : δ → Hp → Prop} (hP : Later tp P) (h : Out cl tp E H (r.bind f) P Q)
    (k : ∀ a t1 v1 H1, r = .ok a t1 → Sm (tps tp) H H1 → TpOk tp H1 t1 → P1 H a H1 v1 → Out cl tp E H1 (f a t1) P Q → Q1 v1 H1) : Out cl tp E H r P1 Q1 := by
  cases r with
  | ok a t => exact fun v1 H1 m k1 p => k a t v1 H1 rfl m k1 p (Out.later hP h m)
  | exc e t => exact h
  | bad => exact h
theorem Out.imp {r : Rs α} {P' : Hp → α → Hp → δ → Prop} {Q' : δ → Hp → Prop} (h : Out cl tp E H r P Q) (k : ∀ a t' v H', r = .ok a t' → Sm (tps tp) H H' → TpOk tp H' t' → P' H a H' v → (∀ v, P H a H' v → Q v H') → Q' v H') : Out cl tp E H r P' Q' := by
  cases r with
  | ok a t => exact fun v H' m k1 p => k a t v H' rfl m k1 p fun v p => h v H' m k1 p
  | exc e t => exact h
  | bad => exact h
end
/-- the outcome is known -/
theorem Out.ok_ {α β : Type} {cl : Nat → Addr} {tp : Option (Addr × List Addr)} {E : XK} {H H' : Hp} {P : Hp → α → Hp → β → Prop} {Q : β → Hp → Prop} {a : α} {t : Tp} {v : β} (h : Out cl tp E H (.ok a t) P Q) (k : TpOk tp H t) (m : Sm (fun _ => False) H H') (p : P H a H' v) : Q v H' := by
  refine h v H' (m.imp fun _ z => z.elim) (k.of m.tup fun a o ha e => m.obj a o (fun z => z) e fun ps z => ?_) p
  subst z
  obtain ⟨vs, q⟩ := tps_lst k ha
  rw [e] at q; cases q

/-- readable: also the script -/
def Rdb (K : PySem.W.Frag) (hT hid : Addr → Prop) (H : Hp) (w : W) (v : V) : Prop :=
  Bo K hT hid H w v ∨ ∃ a ns, v = .ref a ∧ w = .list (ns.map PyData.int) ∧ Sc K hid H a ns
inductive Mo where
  | safe | bor | rd | fresh
def PWm (K : PySem.W.Frag) (m : Mo) (hT hid : Addr → Prop) : Hp → W → Hp → V → Prop := fun H w H' v =>
  match m with
  | .safe => Im K hid H' w v
  | .bor => Bo K hT hid H' w v
  | .rd => Rdb K hT hid H' w v
  | .fresh => Fe K (fun _ => False) hid H H' w v
theorem later_pw {K : PySem.W.Frag} {m : Mo} {hT hid : Addr → Prop} {tp : Option (Addr × List Addr)} : Later tp (PWm K m hT hid) := by
  intro H H1 a H' v sm p
  cases m with
  | safe => exact p
  | bor => exact p
  | rd => exact p
  | fresh =>
    obtain ⟨x, e, n, h⟩ := p
    exact ⟨x, e, .inl (n.elim (fun z => sm.none z) fun z => z.elim), h⟩
def tEx (K : PySem.W.Frag) (cl : Nat → Addr) (c : Cf) (m : Mo) (s : Ex) (E : XK) : TE := fun σ H Q =>
  ∃ hT hid tp ρ t, StE K c hT hid tp ρ σ H t ∧ Out cl tp E H (s ρ t) (PWm K m hT hid) Q
def PB : Hp → Bool → Hp → Bool → Prop := fun _ b _ v => v = b
def tTs (K : PySem.W.Frag) (cl : Nat → Addr) (c : Cf) (s : Et) (E : XK) : TT := fun σ H Q =>
  ∃ hT hid tp ρ t, StE K c hT hid tp ρ σ H t ∧ Out cl tp E H (s ρ t) PB Q
theorem later_pb {tp : Option (Addr × List Addr)} : Later tp PB := fun _ _ _ _ _ _ p => p
inductive Bos (K : PySem.W.Frag) (hT hid : Addr → Prop) (H : Hp) : List W → List V → Prop
  | nil : Bos K hT hid H [] []
  | cons {w : W} {v : V} {ws : List W} {vs : List V} : Rdb K hT hid H w v → Bos K hT hid H ws vs → Bos K hT hid H (w :: ws) (v :: vs)
/-- the items of a list of arguments: b: not hidden -/
def PWs (K : PySem.W.Frag) (b : Bool) (hT hid : Addr → Prop) : Hp → List W → Hp → List V → Prop := fun _ ws H' vs => if b = true then Ims K hid H' ws vs else Bos K hT hid H' ws vs
theorem later_pws {K : PySem.W.Frag} {b : Bool} {hT hid : Addr → Prop} {tp : Option (Addr × List Addr)} : Later tp (PWs K b hT hid) := fun _ _ _ _ _ _ p => p
def tAs (K : PySem.W.Frag) (cl : Nat → Addr) (c : Cf) (b : Bool) (s : Exs) (E : XK) : TA := fun σ H Q =>
  ∃ hT hid tp ρ t, StE K c hT hid tp ρ σ H t ∧ Out cl tp E H (s ρ t) (PWs K b hT hid) Q

abbrev EX (X : Cx) (cl : Nat → Addr) (c : Cf) (m : Mo) (e : Expr) (s : Ex) (E : XK) : Prop := PE X e (tEx X.K cl c m s E)
abbrev TX (X : Cx) (cl : Nat → Addr) (c : Cf) (e : Expr) (s : Et) (E : XK) : Prop := PT X e (tTs X.K cl c s E)
abbrev TXw (X : Cx) (cl : Nat → Addr) (c : Cf) (e : Expr) (s : Et) (E : XK) : Prop := L2.PW X e (tTs X.K cl c s E)
abbrev AX (X : Cx) (cl : Nat → Addr) (c : Cf) (b : Bool) (es : List Expr) (s : Exs) (E : XK) : Prop := PA X es (tAs X.K cl c b s E)
end Ev
namespace Ev
open PySem PySem.Spec PyProof.Rows L2
variable [Tb]
section
variable {X : Cx}
theorem PE_imp {e : Expr} {t t' : TE} (h : PE X e t) (i : ∀ σ H Q, t' σ H Q → t σ H Q) : PE X e t' := ⟨fun pins s σ H Q I q => h.run pins s σ H Q I (i σ H Q q)⟩
theorem PT_imp {e : Expr} {t t' : TT} (h : PT X e t) (i : ∀ σ H Q, t' σ H Q → t σ H Q) : PT X e t' := ⟨fun pins s σ H Q I q => h.run pins s σ H Q I (i σ H Q q)⟩
theorem PWt_imp {e : Expr} {t t' : TT} (h : L2.PW X e t) (i : ∀ σ H Q, t' σ H Q → t σ H Q) : L2.PW X e t' := ⟨fun wh pins s σ H Q I q => h.run wh pins s σ H Q I (i σ H Q q)⟩
theorem PA_imp {es : List Expr} {t t' : TA} (h : PA X es t) (i : ∀ σ H Q, t' σ H Q → t σ H Q) : PA X es t' := ⟨fun pos pins s σ H Q I q => h.run pos pins s σ H Q I (i σ H Q q)⟩
theorem PS_imp {st : Stmt} {t t' : TS} (h : PS X st t) (i : ∀ D σ H, t' D σ H → t D σ H) : PS X st t' := ⟨fun pins s σ H D I q => h.run pins s σ H D I (i D σ H q)⟩
theorem PSs_imp {st : List Stmt} {t t' : TS} (h : PSs X st t) (i : ∀ D σ H, t' D σ H → t D σ H) : PSs X st t' := ⟨fun pins s σ H D I q => h.run pins s σ H D I (i D σ H q)⟩
variable {cl : Nat → Addr} {c : Cf} {m : Mo} {e a b : Expr} {s sa sb : Ex} {E : XK} {pos : Pos}

/-! ### modes -/
theorem pw_sub {K : PySem.W.Frag} {hT hid : Addr → Prop} {H H' : Hp} {w : W} {v : V} {tp : Option (Addr × List Addr)} {ρ : Sl} {σ : L2.St} {t : Tp} (S : StE K c hT hid tp ρ σ H t) (p : PWm K .fresh hT hid H w H' v) : PWm K .safe hT hid H w H' v :=
  Fe.im p (fun a z => z.elim) S.dom
theorem ex_safe (h : EX X cl c .fresh e s E) : EX X cl c .safe e s E := PE_imp h fun σ H Q ⟨hT, hid, tp, ρ, t, S, o⟩ =>
  ⟨hT, hid, tp, ρ, t, S, o.imp fun a t' v H' _ _ _ p k => k v (pw_sub S p)⟩
theorem ex_bor (h : EX X cl c .safe e s E) : EX X cl c .bor e s E := PE_imp h fun σ H Q ⟨hT, hid, tp, ρ, t, S, o⟩ =>
  ⟨hT, hid, tp, ρ, t, S, o.imp fun a t' v H' _ _ _ p k => k v (.inl p)⟩
theorem ex_rd (h : EX X cl c .bor e s E) : EX X cl c .rd e s E := PE_imp h fun σ H Q ⟨hT, hid, tp, ρ, t, S, o⟩ =>
  ⟨hT, hid, tp, ρ, t, S, o.imp fun a t' v H' _ _ _ p k => k v (.inl p)⟩
theorem ex_srd (h : EX X cl c .safe e s E) : EX X cl c .rd e s E := ex_rd (ex_bor h)
theorem ex_fb (h : EX X cl c .fresh e s E) : EX X cl c .bor e s E := ex_bor (ex_safe h)
theorem ex_frd (h : EX X cl c .fresh e s E) : EX X cl c .rd e s E := ex_rd (ex_fb h)

/-! ### names, constants -/
def eVar (i : Nat) : Ex := fun ρ t => match ρ[i]? with
  | some (some w) => .ok w t
  | _ => .bad
theorem eVar_ok {i : Nat} {ρ : Sl} {t : Tp} {α β : Type} {tp : Option (Addr × List Addr)} {H : Hp} {P : Hp → W → Hp → β → Prop} {Q : β → Hp → Prop} (o : Out cl tp E H (eVar i ρ t) P Q) : ∃ w, ρ[i]? = some (some w) ∧ Out cl tp E H (.ok w t) P Q := by
  unfold eVar at o
  split at o
  · rename_i w e
    exact ⟨w, e, o⟩
  · exact False.elim o
theorem ev_var {i : Nat} {x : Str} (hN : X.N[i]? = some x) (hv : Vis X.env.scope x) (hm : i ∉ c.M) (hs : c.scr ≠ some i) (hd : (x == ("__debug__" : Str)) = false) (hcd : (x == ("__classdict__" : Str)) = false) :
    EX X cl c .safe (.Name x pos) (eVar i) E := PE_imp (pe_var hN hv hd hcd) fun σ H Q ⟨hT, hid, tp, ρ, t, S, o⟩ => by
  obtain ⟨w, e, o⟩ := eVar_ok (α := W) o
  obtain ⟨v, e2, h⟩ := S.im i w e hm hs
  exact ⟨v, e2, o.ok_ S.tap Sm.refl h⟩
/-- any slot, to be read at once -/
theorem ev_varB {i : Nat} {x : Str} (hN : X.N[i]? = some x) (hv : Vis X.env.scope x) (hs : c.scr ≠ some i) (hd : (x == ("__debug__" : Str)) = false) (hcd : (x == ("__classdict__" : Str)) = false) :
    EX X cl c .bor (.Name x pos) (eVar i) E := PE_imp (pe_var hN hv hd hcd) fun σ H Q ⟨hT, hid, tp, ρ, t, S, o⟩ => by
  obtain ⟨w, e, o⟩ := eVar_ok (α := W) o
  by_cases hm : i ∈ c.M
  · obtain ⟨a, e2, h1, h2, h3⟩ := S.own i w e hm
    exact ⟨_, e2, o.ok_ S.tap Sm.refl (.inr ⟨a, rfl, h2, h3⟩)⟩
  · obtain ⟨v, e2, h⟩ := S.im i w e hm hs
    exact ⟨v, e2, o.ok_ S.tap Sm.refl (.inl h)⟩
/-- the script -/
theorem ev_scr {i : Nat} {x : Str} (hN : X.N[i]? = some x) (hv : Vis X.env.scope x) (hs : c.scr = some i) (hd : (x == ("__debug__" : Str)) = false) (hcd : (x == ("__classdict__" : Str)) = false) :
    EX X cl c .rd (.Name x pos) (eVar i) E := PE_imp (pe_var hN hv hd hcd) fun σ H Q ⟨hT, hid, tp, ρ, t, S, o⟩ => by
  obtain ⟨w, e, o⟩ := eVar_ok (α := W) o
  obtain ⟨a, ns, e2, ew, h⟩ := S.scr i w e hs
  exact ⟨_, e2, o.ok_ S.tap Sm.refl (.inr ⟨a, ns, rfl, ew, h⟩)⟩
def eC (w : W) : Ex := fun _ t => .ok w t
theorem ev_int {i j pos} : EX X cl c .safe (.Constant (.int i) j pos) (eC (.int i)) E := PE_imp pe_int fun σ H Q ⟨hT, hid, tp, ρ, t, S, o⟩ => o.ok_ S.tap Sm.refl (.int i)
theorem ev_bl {b j pos} : EX X cl c .safe (.Constant (.bool b) j pos) (eC (.bool b)) E := PE_imp pe_bl fun σ H Q ⟨hT, hid, tp, ρ, t, S, o⟩ => o.ok_ S.tap Sm.refl (.bl b)
theorem ev_non {j pos} : EX X cl c .safe (.Constant .none j pos) (eC .none) E := PE_imp pe_non fun σ H Q ⟨hT, hid, tp, ρ, t, S, o⟩ => o.ok_ S.tap Sm.refl .non
theorem ev_str {x j pos} : EX X cl c .safe (.Constant (.str x) j pos) (eC (.str x)) E := PE_imp pe_str fun σ H Q ⟨hT, hid, tp, ρ, t, S, o⟩ => o.ok_ S.tap Sm.refl (.str x)
/-- a constant of the module -/
def Cst (K : PySem.W.Frag) (mg : Str → Option Value) (x : Str) (w : W) : Prop := ∃ v u, mg x = some u ∧ RelV v u ∧ ∀ hid H, Im K hid H w v
theorem ev_glob {x : Str} {w : W} (hg : Gl X x) (hc : Cst X.K X.mg x w) (hd : (x == ("__debug__" : Str)) = false) : EX X cl c .safe (.Name x pos) (eC w) E := by
  obtain ⟨v, u, hm, r, h⟩ := hc
  exact PE_imp (pe_glob hg hm r hd) fun σ H Q ⟨hT, hid, tp, ρ, t, S, o⟩ => o.ok_ S.tap Sm.refl (h hid H)

/-! ### operators -/
/-- f tells what the operation r of values does to data -/
def BinOk (K : PySem.W.Frag) (r : R2) (f : W → W → Option W) (m : Mo) : Prop := ∀ (hT hid : Addr → Prop) (H : Hp) (x y : V) (a b z : W) (Q : VK), (∀ p, hid p → ¬ Nw H p) →
  Bo K hT hid H a x → Bo K hT hid H b y → f a b = some z → (∀ v H', Sm (fun _ => False) H H' → PWm K m hT hid H z H' v → Q v H') → r x y H Q
def rOf {α : Type} (o : Option α) (t : Tp) : Rs α := match o with
  | some z => .ok z t
  | none => .bad
theorem rOf_ok {α β : Type} {o : Option α} {t : Tp} {tp : Option (Addr × List Addr)} {H : Hp} {P : Hp → α → Hp → β → Prop} {Q : β → Hp → Prop} (h : Out cl tp E H (rOf o t) P Q) : ∃ z, o = some z ∧ Out cl tp E H (.ok z t) P Q := by
  cases o with
  | none => exact False.elim h
  | some z => exact ⟨z, rfl, h⟩
def eBin (f : W → W → Option W) (sa sb : Ex) : Ex := fun ρ t => (sa ρ t).bind fun x t => (sb ρ t).bind fun y t => rOf (f x y) t
theorem bin_core {f : W → W → Option W} {r : R2} (hf : BinOk X.K r f m) : ∀ σ H Q, tEx X.K cl c m (eBin f sa sb) E σ H Q → tOp r (tEx X.K cl c .bor sa E) (tEx X.K cl c .bor sb E) σ H Q := by
  intro σ H Q ⟨hT, hid, tp, ρ, t, S, o⟩
  refine ⟨hT, hid, tp, ρ, t, S, o.seq later_pw fun x t1 v1 H1 e1 m1 k1 p1 o1 => ?_⟩
  have S1 := S.sm m1 k1
  refine ⟨hT, hid, tp, ρ, t1, S1, o1.seq later_pw fun y t2 v2 H2 e2 m2 k2 p2 o2 => ?_⟩
  obtain ⟨z, ez, o2⟩ := rOf_ok o2
  have S2 := S1.sm m2 k2
  exact hf hT hid H2 v1 v2 x y z Q S2.dom (Bo.mono p1 _ m2 S.tph S.sub) p2 ez fun v H' mm p => o2.ok_ k2 mm p
theorem ev_bin {op : Operator} {f : W → W → Option W} {r : R2} (ho : OpR X (binaryOp op) r) (hf : BinOk X.K r f m) (ha : EX X cl c .bor a sa E) (hb : EX X cl c .bor b sb E) : EX X cl c m (.BinOp a op b pos) (eBin f sa sb) E :=
  PE_imp (pe_op ho ha hb) (bin_core hf)
theorem ev_cmp {op : CmpOp} {f : W → W → Option W} {r : R2} (ho : OpR X (compareOp op) r) (hf : BinOk X.K r f m) (ha : EX X cl c .bor a sa E) (hb : EX X cl c .bor b sb E) (hm : behindInMarks op b = false) : EX X cl c m (.Compare a [op] [b] pos) (eBin f sa sb) E :=
  PE_imp (pe_cmpR ho ha hb hm) (bin_core hf)
/-- as a test -/
def wB : W → Option Bool
  | .bool b => some b
  | _ => none
def eTest (s : Ex) : Et := fun ρ t => (s ρ t).bind fun w t => rOf (wB w) t
theorem wB_some {w : W} {k : Bool} (h : wB w = some k) : w = .bool k := by
  cases w <;> simp [wB] at h
  subst h; rfl
theorem bl_of {K : PySem.W.Frag} {hT hid : Addr → Prop} {H : Hp} {k : Bool} {v : V} (h : Bo K hT hid H (.bool k) v) : v = .bl k := by
  rcases h with h | ⟨a, _, _, h⟩
  · cases h; rfl
  · rcases h with ⟨_, _, e, _⟩ | ⟨_, _, e, _⟩ | ⟨_, _, e, _⟩ <;> cases e
theorem test_core {t : TE} (h : ∀ σ H Q, tEx X.K cl c .bor s E σ H Q → t σ H Q) : ∀ σ H Q, tTs X.K cl c (eTest s) E σ H Q → tTest t σ H Q := by
  intro σ H Q ⟨hT, hid, tp, ρ, t, S, o⟩
  refine h _ _ _ ⟨hT, hid, tp, ρ, t, S, o.seq later_pb fun w t1 v1 H1 e1 m1 k1 p1 o1 => ?_⟩
  obtain ⟨k, ek, o1⟩ := rOf_ok o1
  have ew := wB_some ek
  subst ew
  exact ⟨k, bl_of p1, o1.ok_ k1 Sm.refl rfl⟩
theorem tx_cmp {op : CmpOp} {f : W → W → Option W} {r : R2} (ho : OpR X (compareOp op) r) (hf : BinOk X.K r f .bor) (ha : EX X cl c .bor a sa E) (hb : EX X cl c .bor b sb E) (hm : behindInMarks op b = false) : TX X cl c (.Compare a [op] [b] pos) (eTest (eBin f sa sb)) E :=
  PT_imp (pt_cmpR ho ha hb hm) (test_core (bin_core hf))
theorem tx_val (h : EX X cl c .bor e s E) (he : ∀ whole, isTrue e X.env whole = (do let v ← whole; standAt e.pos; holding [v] (truthy v))) : TX X cl c e (eTest s) E :=
  PT_imp (pt_val h he) (test_core fun _ _ _ h => h)
/-- a op1 b op2 d -/
def eChain (f g : W → W → Option W) (sa sb sc : Ex) : Ex := fun ρ t => (sa ρ t).bind fun x t => (sb ρ t).bind fun y t => (rOf (f x y) t).bind fun z t => match z with
  | .bool true => (sc ρ t).bind fun u t => rOf (g y u) t
  | .bool false => .ok (.bool false) t
  | _ => .bad
theorem chain_core {d : Expr} {sc : Ex} {f g : W → W → Option W} {r r' : R2} (hf : BinOk X.K r f .bor) (hg : BinOk X.K r' g .bor) :
    ∀ σ H Q, tEx X.K cl c .bor (eChain f g sa sb sc) E σ H Q → tChain r r' (tEx X.K cl c .bor sa E) (tEx X.K cl c .bor sb E) (tEx X.K cl c .bor sc E) σ H Q := by
  intro σ H Q ⟨hT, hid, tp, ρ, t, S, o⟩
  refine ⟨hT, hid, tp, ρ, t, S, o.seq later_pw fun x t1 v1 H1 e1 m1 k1 p1 o1 => ?_⟩
  have S1 := S.sm m1 k1
  refine ⟨hT, hid, tp, ρ, t1, S1, o1.seq later_pw fun y t2 v2 H2 e2 m2 k2 p2 o2 => ?_⟩
  have S2 := S1.sm m2 k2
  cases ef : f x y with
  | none => rw [ef] at o2; exact False.elim o2
  | some z =>
    rw [ef] at o2
    refine hf hT hid H2 v1 v2 x y z _ S2.dom (Bo.mono p1 _ m2 S.tph S.sub) p2 ef fun v H3 m3 p3 => ?_
    have o2 : Out cl tp E H2 (match z with | .bool true => (sc ρ t2).bind fun u t => rOf (g y u) t | .bool false => .ok (.bool false) t2 | _ => .bad) (PWm X.K .bor hT hid) Q := o2
    have m3' : Sm (tps tp) H2 H3 := m3.imp fun _ z => z.elim
    have k3 : TpOk tp H3 t2 := Out.ok_ (cl := cl) (E := E) (P := fun _ _ _ _ => True) (Q := fun (_ : Unit) H' => TpOk tp H' t2) (a := ()) (v := ()) (fun _ _ _ k _ => k) k2 m3 trivial
    have S3 := S2.sm m3' k3
    cases z with
    | bool q =>
      refine ⟨q, bl_of p3, ?_⟩
      cases q with
      | true =>
        rw [if_pos rfl]
        refine ⟨hT, hid, tp, ρ, t2, S3, (Out.later later_pw o2 m3').seq later_pw fun u t4 v4 H4 e4 m4 k4 p4 o4 => ?_⟩
        obtain ⟨z, ez, o4⟩ := rOf_ok o4
        exact hg hT hid H4 v2 v4 y u z Q (S3.sm m4 k4).dom (Bo.mono (Bo.mono p2 _ m3' S.tph S.sub) _ m4 S.tph S.sub) p4 ez fun v H' mm p => o4.ok_ k4 mm p
      | false =>
        rw [if_neg Bool.false_ne_true]
        exact (Out.later later_pw o2 m3').ok_ k3 Sm.refl (.inl (.bl false))
    | _ => exact False.elim o2
theorem ev_chain {op op' : CmpOp} {d : Expr} {sc : Ex} {f g : W → W → Option W} {r r' : R2} (ho : OpR X (compareOp op) r) (ho' : OpR X (compareOp op') r') (hf : BinOk X.K r f .bor) (hg : BinOk X.K r' g .bor)
    (ha : EX X cl c .bor a sa E) (hb : EX X cl c .bor b sb E) (hd : EX X cl c .bor d sc E) (hm : lastMarks [op, op'] [b, d] = false) : EX X cl c .bor (.Compare a [op, op'] [b, d] pos) (eChain f g sa sb sc) E :=
  PE_imp (pe_chain ho ho' ha hb hd hm) (chain_core (d := d) hf hg)
theorem tx_chain {op op' : CmpOp} {d : Expr} {sc : Ex} {f g : W → W → Option W} {r r' : R2} (ho : OpR X (compareOp op) r) (ho' : OpR X (compareOp op') r') (hf : BinOk X.K r f .bor) (hg : BinOk X.K r' g .bor)
    (ha : EX X cl c .bor a sa E) (hb : EX X cl c .bor b sb E) (hd : EX X cl c .bor d sc E) (hm : lastMarks [op, op'] [b, d] = false) : TX X cl c (.Compare a [op, op'] [b, d] pos) (eTest (eChain f g sa sb sc)) E :=
  PT_imp (pt_chain ho ho' ha hb hd hm) (test_core (chain_core (d := d) hf hg))

/-! ### one operand -/
def UnOk (K : PySem.W.Frag) (r : V → Hp → VK → Prop) (f : W → Option W) (m : Mo) : Prop := ∀ (hT hid : Addr → Prop) (H : Hp) (x : V) (a z : W) (Q : VK), (∀ p, hid p → ¬ Nw H p) →
  Rdb K hT hid H a x → f a = some z → (∀ v H', Sm (fun _ => False) H H' → PWm K m hT hid H z H' v → Q v H') → r x H Q
def eUn (f : W → Option W) (sa : Ex) : Ex := fun ρ t => (sa ρ t).bind fun x t => rOf (f x) t
theorem un_core {f : W → Option W} {r : V → Hp → VK → Prop} (hf : UnOk X.K r f m) : ∀ σ H Q, tEx X.K cl c m (eUn f sa) E σ H Q → tUn r (tEx X.K cl c .rd sa E) σ H Q := by
  intro σ H Q ⟨hT, hid, tp, ρ, t, S, o⟩
  refine ⟨hT, hid, tp, ρ, t, S, o.seq later_pw fun x t1 v1 H1 e1 m1 k1 p1 o1 => ?_⟩
  obtain ⟨z, ez, o1⟩ := rOf_ok o1
  exact hf hT hid H1 v1 x z Q (S.sm m1 k1).dom p1 ez fun v H' mm p => o1.ok_ k1 mm p
theorem ev_un {op : UnaryOp} {f : W → Option W} {r : V → Hp → VK → Prop} (ho : UnR X (unaryOp op) r) (hf : UnOk X.K r f m) (ha : EX X cl c .rd a sa E) : EX X cl c m (.UnaryOp op a pos) (eUn f sa) E :=
  PE_imp (pe_un ho ha) (un_core hf)

/-! ### and, or, not, if -/
def eNotT (s : Et) : Et := fun ρ t => (s ρ t).bind fun b t => .ok (!b) t
def eAndT (s u : Et) : Et := fun ρ t => (s ρ t).bind fun b t => if b = true then u ρ t else .ok false t
def eOrT (s u : Et) : Et := fun ρ t => (s ρ t).bind fun b t => if b = true then .ok true t else u ρ t
variable {ta tb : Et} {rest : List Expr}
theorem tx_not (h : TX X cl c a ta E) : TX X cl c (.UnaryOp .Not a pos) (eNotT ta) E := PT_imp (pt_not h) fun σ H Q ⟨hT, hid, tp, ρ, t, S, o⟩ =>
  ⟨hT, hid, tp, ρ, t, S, o.seq later_pb fun b t1 v1 H1 e1 m1 k1 p1 o1 => o1.ok_ k1 Sm.refl (by rw [show v1 = b from p1]; rfl)⟩
theorem tw_and1 (h : TX X cl c a ta E) : TXw X cl c (.BoolOp .And [a] pos) ta E := pw_and1 h
theorem tw_or1 (h : TX X cl c a ta E) : TXw X cl c (.BoolOp .Or [a] pos) ta E := pw_or1 h
theorem tw_and (h : TX X cl c a ta E) (h2 : TXw X cl c (.BoolOp .And (b :: rest) pos) tb E) : TXw X cl c (.BoolOp .And (a :: b :: rest) pos) (eAndT ta tb) E :=
  PWt_imp (pw_and h h2) fun σ H Q ⟨hT, hid, tp, ρ, t, S, o⟩ => ⟨hT, hid, tp, ρ, t, S, o.seq later_pb fun b t1 v1 H1 e1 m1 k1 p1 o1 => by
    have e : v1 = b := p1
    subst e
    cases v1 with
    | true => rw [if_pos rfl]; exact ⟨hT, hid, tp, ρ, t1, S.sm m1 k1, o1⟩
    | false => rw [if_neg Bool.false_ne_true]; exact Out.ok_ o1 k1 Sm.refl rfl⟩
theorem tw_or (h : TX X cl c a ta E) (h2 : TXw X cl c (.BoolOp .Or (b :: rest) pos) tb E) : TXw X cl c (.BoolOp .Or (a :: b :: rest) pos) (eOrT ta tb) E :=
  PWt_imp (pw_or h h2) fun σ H Q ⟨hT, hid, tp, ρ, t, S, o⟩ => ⟨hT, hid, tp, ρ, t, S, o.seq later_pb fun b t1 v1 H1 e1 m1 k1 p1 o1 => by
    have e : v1 = b := p1
    subst e
    cases v1 with
    | true => rw [if_pos rfl]; exact Out.ok_ o1 k1 Sm.refl rfl
    | false => rw [if_neg Bool.false_ne_true]; exact ⟨hT, hid, tp, ρ, t1, S.sm m1 k1, o1⟩⟩
theorem tx_of (h : TXw X cl c e ta E) : TX X cl c e ta E := h.pt
def eNot (s : Ex) : Ex := fun ρ t => (s ρ t).bind fun w t => match w with
  | .bool b => .ok (.bool (!b)) t
  | _ => .bad
def eAnd (s u : Ex) : Ex := fun ρ t => (s ρ t).bind fun w t => match w with
  | .bool true => u ρ t
  | .bool false => .ok (.bool false) t
  | _ => .bad
def eOr (s u : Ex) : Ex := fun ρ t => (s ρ t).bind fun w t => match w with
  | .bool true => .ok (.bool true) t
  | .bool false => u ρ t
  | _ => .bad
theorem ev_one {op} (h : EX X cl c m a sa E) : EX X cl c m (.BoolOp op [a] pos) sa E := pe_one h
theorem ev_not (h : EX X cl c .bor a sa E) : EX X cl c .safe (.UnaryOp .Not a pos) (eNot sa) E := PE_imp (pe_not h) fun σ H Q ⟨hT, hid, tp, ρ, t, S, o⟩ =>
  ⟨hT, hid, tp, ρ, t, S, o.seq later_pw fun w t1 v1 H1 e1 m1 k1 p1 o1 => by
    cases w with
    | bool k => exact ⟨k, bl_of p1, Out.ok_ o1 k1 Sm.refl (.bl _)⟩
    | _ => exact False.elim o1⟩
theorem ev_and (h : EX X cl c .bor a sa E) (h2 : EX X cl c .safe (.BoolOp .And (b :: rest) pos) sb E) : EX X cl c .safe (.BoolOp .And (a :: b :: rest) pos) (eAnd sa sb) E :=
  PE_imp (pe_and h h2) fun σ H Q ⟨hT, hid, tp, ρ, t, S, o⟩ => ⟨hT, hid, tp, ρ, t, S, o.seq later_pw fun w t1 v1 H1 e1 m1 k1 p1 o1 => by
    cases w with
    | bool k =>
      refine ⟨k, bl_of p1, ?_⟩
      cases k with
      | true => rw [if_pos rfl]; exact ⟨hT, hid, tp, ρ, t1, S.sm m1 k1, o1⟩
      | false => rw [if_neg Bool.false_ne_true]; exact Out.ok_ o1 k1 Sm.refl (.bl _)
    | _ => exact False.elim o1⟩
theorem ev_or (h : EX X cl c .bor a sa E) (h2 : EX X cl c .safe (.BoolOp .Or (b :: rest) pos) sb E) : EX X cl c .safe (.BoolOp .Or (a :: b :: rest) pos) (eOr sa sb) E :=
  PE_imp (pe_or h h2) fun σ H Q ⟨hT, hid, tp, ρ, t, S, o⟩ => ⟨hT, hid, tp, ρ, t, S, o.seq later_pw fun w t1 v1 H1 e1 m1 k1 p1 o1 => by
    cases w with
    | bool k =>
      refine ⟨k, bl_of p1, ?_⟩
      cases k with
      | true => rw [if_pos rfl]; exact Out.ok_ o1 k1 Sm.refl (.bl _)
      | false => rw [if_neg Bool.false_ne_true]; exact ⟨hT, hid, tp, ρ, t1, S.sm m1 k1, o1⟩
    | _ => exact False.elim o1⟩
def eIf (tc : Et) (s u : Ex) : Ex := fun ρ t => (tc ρ t).bind fun b t => if b = true then s ρ t else u ρ t
theorem ev_if {d : Expr} {tc : Et} (hc : TX X cl c d tc E) (ha : EX X cl c m a sa E) (hb : EX X cl c m b sb E) : EX X cl c m (.IfExp d a b pos) (eIf tc sa sb) E :=
  PE_imp (pe_ifExp hc ha hb) fun σ H Q ⟨hT, hid, tp, ρ, t, S, o⟩ => ⟨hT, hid, tp, ρ, t, S, o.seq later_pw fun k t1 v1 H1 e1 m1 k1 p1 o1 => by
    have e : v1 = k := p1
    subst e
    cases v1 with
    | true => rw [if_pos rfl]; exact ⟨hT, hid, tp, ρ, t1, S.sm m1 k1, o1⟩
    | false => rw [if_neg Bool.false_ne_true]; exact ⟨hT, hid, tp, ρ, t1, S.sm m1 k1, o1⟩⟩

/-! ### is None -/
def wIsN : W → Bool
  | .none => true
  | _ => false
theorem isN_of {K : PySem.W.Frag} {hT hid : Addr → Prop} {H : Hp} {w : W} {v : V} (h : Bo K hT hid H w v) : decide (v = .non) = wIsN w := by
  rcases h with h | ⟨a, e, _, h⟩
  · cases h <;> simp [wIsN]
  · subst e
    rcases h with ⟨_, _, e, _⟩ | ⟨_, _, e, _⟩ | ⟨_, _, e, _⟩ <;> subst e <;> simp [wIsN]
def eIsN (neg : Bool) (s : Ex) : Ex := fun ρ t => (s ρ t).bind fun w t => .ok (.bool (if neg then !wIsN w else wIsN w)) t
theorem isN_core : ∀ σ H Q, tEx X.K cl c .bor (eIsN false sa) E σ H Q → tIsN (tEx X.K cl c .bor sa E) σ H Q := by
  intro σ H Q ⟨hT, hid, tp, ρ, t, S, o⟩
  refine ⟨hT, hid, tp, ρ, t, S, o.seq later_pw fun x t1 v1 H1 e1 m1 k1 p1 o1 => Out.ok_ o1 k1 Sm.refl (.inl ?_)⟩
  rw [isN_of p1]; exact .bl _
theorem notN_core : ∀ σ H Q, tEx X.K cl c .bor (eIsN true sa) E σ H Q → tNotN (tEx X.K cl c .bor sa E) σ H Q := by
  intro σ H Q ⟨hT, hid, tp, ρ, t, S, o⟩
  refine ⟨hT, hid, tp, ρ, t, S, o.seq later_pw fun x t1 v1 H1 e1 m1 k1 p1 o1 => Out.ok_ o1 k1 Sm.refl (.inl ?_)⟩
  rw [isN_of p1]; exact .bl _
theorem ev_isN {j pos' pos} (ha : EX X cl c .bor a sa E) : EX X cl c .bor (.Compare a [.Is] [.Constant .none j pos'] pos) (eIsN false sa) E := PE_imp (pe_cmp (pc_isN ha)) isN_core
theorem ev_notN {j pos' pos} (ha : EX X cl c .bor a sa E) : EX X cl c .bor (.Compare a [.IsNot] [.Constant .none j pos'] pos) (eIsN true sa) E := PE_imp (pe_cmp (pc_notN ha)) notN_core
theorem tx_isN {j pos' pos} (ha : EX X cl c .bor a sa E) : TX X cl c (.Compare a [.Is] [.Constant .none j pos'] pos) (eTest (eIsN false sa)) E := PT_imp (pt_cmp (pc_isN ha)) (test_core isN_core)
theorem tx_notN {j pos' pos} (ha : EX X cl c .bor a sa E) : TX X cl c (.Compare a [.IsNot] [.Constant .none j pos'] pos) (eTest (eIsN true sa)) E := PT_imp (pt_cmp (pc_notN ha)) (test_core notN_core)

/-! ### arguments, displays -/
def eNil : Exs := fun _ t => .ok [] t
def eCons (s : Ex) (u : Exs) : Exs := fun ρ t => (s ρ t).bind fun w t => (u ρ t).bind fun ws t => .ok (w :: ws) t
variable {es : List Expr} {ss : Exs}
theorem as_nil {b : Bool} : AX X cl c b [] eNil E := PA_imp pa_nil fun σ H Q ⟨hT, hid, tp, ρ, t, S, o⟩ => Out.ok_ o S.tap Sm.refl (by cases b; exact .nil; exact .nil)
theorem as_consS (ha : EX X cl c .safe a sa E) (hr : AX X cl c true es ss E) (hs : starEach (a :: es) X.env = (false, eval a X.env) :: starEach es X.env) : AX X cl c true (a :: es) (eCons sa ss) E :=
  PA_imp (pa_cons ha hr hs) fun σ H Q ⟨hT, hid, tp, ρ, t, S, o⟩ => ⟨hT, hid, tp, ρ, t, S, o.seq later_pws fun w t1 v1 H1 e1 m1 k1 p1 o1 => by
    have S1 := S.sm m1 k1
    refine ⟨hT, hid, tp, ρ, t1, S1, o1.seq later_pws fun ws t2 vs H2 e2 m2 k2 p2 o2 => Out.ok_ o2 k2 Sm.refl ?_⟩
    exact .cons (Im.mono (m2.kp fun x z => S.sub x (S.tph x z)) (fun _ z => .inl z) _ _ p1) p2⟩
theorem rdb_mono {K : PySem.W.Frag} {hT hid : Addr → Prop} {tp : Option (Addr × List Addr)} {ρ : Sl} {σ : L2.St} {t : Tp} {H H' : Hp} {w : W} {v : V} (S : StE K c hT hid tp ρ σ H t) (h : Rdb K hT hid H w v) (m : Sm (tps tp) H H') : Rdb K hT hid H' w v := by
  rcases h with h | ⟨a, ns, e, ew, h⟩
  · exact .inl (Bo.mono h _ m S.tph S.sub)
  · exact .inr ⟨a, ns, e, ew, h.mono (fun _ z => .inl z) fun o n q nt => m.obj a o (fun z => n (S.sub a (S.tph a z))) q nt⟩
theorem as_consB (ha : EX X cl c .rd a sa E) (hr : AX X cl c false es ss E) (hs : starEach (a :: es) X.env = (false, eval a X.env) :: starEach es X.env) : AX X cl c false (a :: es) (eCons sa ss) E :=
  PA_imp (pa_cons ha hr hs) fun σ H Q ⟨hT, hid, tp, ρ, t, S, o⟩ => ⟨hT, hid, tp, ρ, t, S, o.seq later_pws fun w t1 v1 H1 e1 m1 k1 p1 o1 => by
    have S1 := S.sm m1 k1
    refine ⟨hT, hid, tp, ρ, t1, S1, o1.seq later_pws fun ws t2 vs H2 e2 m2 k2 p2 o2 => Out.ok_ o2 k2 Sm.refl ?_⟩
    exact .cons (rdb_mono S1 p1 m2) p2⟩
/-- a new object p behind H -/
theorem im_new {K : PySem.W.Frag} {hid hid' : Addr → Prop} {H : Hp} {p : Addr} {o : HO} (hp : H p = none) (hh : ∀ a, hid' a → hid a ∨ a = p) : (∀ w v, Im K hid H w v → Im K hid' (upd H p o) w v) ∧ (∀ ws vs, Ims K hid H ws vs → Ims K hid' (upd H p o) ws vs) := by
  have k : Kp hid H (upd H p o) := (Sm.new (ex := fun _ => False) hp).kp fun _ z => z.elim
  have q : ∀ a, hid' a → hid a ∨ Nw H a := fun a z => (hh a z).imp id fun e => by rw [e]; exact Nw.of hp
  exact ⟨Im.mono k q, Ims.mono k q⟩
def few1000 (ws : List W) : Bool := decide (ws.length ≤ 1000)
def eTup (s : Exs) : Ex := fun ρ t => (s ρ t).bind fun ws t => if few1000 ws = true then .ok (.tuple ws) t else .bad
theorem few_ok {α β : Type} {p : Bool} {r : Rs α} {tp : Option (Addr × List Addr)} {H : Hp} {P : Hp → α → Hp → β → Prop} {Q : β → Hp → Prop} (h : Out cl tp E H (if p = true then r else .bad) P Q) : p = true ∧ Out cl tp E H r P Q := by
  cases p with
  | true => exact ⟨rfl, h⟩
  | false => exact False.elim h
theorem line1000 {n : Nat} (h : n ≤ 1000) : n ≤ sizeLine := Nat.le_trans h (by decide)
theorem few_len {ws : List W} (h : few1000 ws = true) : ws.length ≤ 1000 := of_decide_eq_true h
theorem ev_tup {k : Nat} (h : AX X cl c true es ss E) : EX X cl c .safe (.Tuple es k pos) (eTup ss) E := PE_imp (pe_tup h) fun σ H Q ⟨hT, hid, tp, ρ, t, S, o⟩ =>
  ⟨hT, hid, tp, ρ, t, S, o.seq later_pw fun ws t1 vs H1 e1 m1 k1 p1 o1 => by
    obtain ⟨hf, o1⟩ := few_ok o1
    have p1 : Ims X.K hid H1 ws vs := p1
    refine ⟨line1000 (by rw [← p1.length]; exact few_len hf), fun p hp => Out.ok_ o1 k1 (Sm.new hp) ?_⟩
    exact .tup (.inl (.inl upd_same)) ((im_new hp fun a z => .inl z).2 _ _ p1)⟩
def eLst (s : Exs) : Ex := fun ρ t => (s ρ t).bind fun ws t => if few1000 ws = true then .ok (.list ws) t else .bad
theorem fe_lst {K : PySem.W.Frag} {hid : Addr → Prop} {H : Hp} {p : Addr} {ws : List W} {vs : List V} (hp : H p = none) (h : Ims K hid H ws vs) : Fe K (fun _ => False) hid H (upd H p (.lst vs)) (.list ws) (.ref p) :=
  ⟨p, rfl, .inl (Nw.of hp), fun o u z => (by rw [upd_same] at z; cases z), .inl ⟨ws, vs, rfl, upd_same, (im_new hp fun a z => z).2 _ _ h⟩⟩
theorem ev_lst (h : AX X cl c true es ss E) : EX X cl c .fresh (.List es pos) (eLst ss) E := PE_imp (pe_lst h) fun σ H Q ⟨hT, hid, tp, ρ, t, S, o⟩ =>
  ⟨hT, hid, tp, ρ, t, S, o.seq later_pw fun ws t1 vs H1 e1 m1 k1 p1 o1 => by
    obtain ⟨hf, o1⟩ := few_ok o1
    have p1 : Ims X.K hid H1 ws vs := p1
    exact ⟨line1000 (by rw [← p1.length]; exact few_len hf), fun p hp => Out.ok_ o1 k1 (Sm.new hp) (fe_lst hp p1)⟩⟩

/-! ### built-in functions -/
def CallOk (K : PySem.W.Frag) (r : List V → Hp → VK → Prop) (g : List W → Option W) (m : Mo) : Prop := ∀ (hT hid : Addr → Prop) (H : Hp) (vs : List V) (ws : List W) (z : W) (Q : VK), (∀ p, hid p → ¬ Nw H p) →
  Bos K hT hid H ws vs → g ws = some z → (∀ v H', Sm (fun _ => False) H H' → PWm K m hT hid H z H' v → Q v H') → r vs H Q
def eCallB (g : List W → Option W) (s : Exs) : Ex := fun ρ t => (s ρ t).bind fun ws t => rOf (g ws) t
theorem callB_core {r : List V → Hp → VK → Prop} {g : List W → Option W} (hg : CallOk X.K r g m) : ∀ σ H Q, tEx X.K cl c m (eCallB g ss) E σ H Q → tCB r (tAs X.K cl c false ss E) σ H Q := by
  intro σ H Q ⟨hT, hid, tp, ρ, t, S, o⟩
  refine ⟨hT, hid, tp, ρ, t, S, o.seq later_pw fun ws t1 vs H1 e1 m1 k1 p1 o1 => ?_⟩
  obtain ⟨z, ez, o1⟩ := rOf_ok o1
  exact hg hT hid H1 vs ws z Q (S.sm m1 k1).dom p1 ez fun v H' mm p => o1.ok_ k1 mm p
theorem ev_callB {id : String} {x : Str} {p pos : Pos} {r : List V → Hp → VK → Prop} {g : List W → Option W} (hc : CallR X (.builtin id) r) (hg : CallOk X.K r g m) (hgl : Gl X x) (hm : X.mg x = none) (hv : bootBuiltins x = some (.builtin id)) (ha : AX X cl c false (a :: es) ss E)
    (hn : x ≠ "__name__") (hdb : (x == ("__debug__" : Str)) = false) (he : starEach (a :: es) X.env = (false, eval a X.env) :: starEach es X.env) (hpl : (backTo pos (starEach es X.env)).any (·.1) = false) :
    EX X cl c m (.Call (.Name x p) (a :: es) [] pos) (eCallB g ss) E := PE_imp (pe_callB hc hgl hm hv ha hn hdb he hpl) (callB_core hg)
theorem ev_callTy {T : String} {x : Str} {p pos : Pos} {r : List V → Hp → VK → Prop} {g : List W → Option W} (hc : CallR X (.type T) r) (hg : CallOk X.K r g m) (hgl : Gl X x) (hm : X.mg x = none) (hv : bootBuiltins x = some (.type T)) (ha : AX X cl c false (a :: es) ss E)
    (hn : x ≠ "__name__") (hdb : (x == ("__debug__" : Str)) = false) (he : starEach (a :: es) X.env = (false, eval a X.env) :: starEach es X.env) (hpl : (backTo pos (starEach es X.env)).any (·.1) = false) :
    EX X cl c m (.Call (.Name x p) (a :: es) [] pos) (eCallB g ss) E := PE_imp (pe_callTy hc hgl hm hv ha hn hdb he hpl) (callB_core hg)
end
end Ev

end

section
/-! Ev3: operators and built-in functions on data. -/
namespace Ev
open PySem PySem.Spec PyProof.Rows L2
variable [Tb]
section
variable {K : PySem.W.Frag} {hT hid : Addr → Prop} {H : Hp}
theorem no_ow {w : W} {a : Addr} (h : Ow K hid H w a) : (∃ ws, w = .list ws) ∨ ∃ ws, w = .dict ws := by
  rcases h with ⟨ws, _, e, _⟩ | ⟨ws, _, e, _⟩ | ⟨ws, _, e, _⟩
  · exact .inl ⟨ws, e⟩
  · exact .inr ⟨ws, e⟩
  · exact .inr ⟨ws, e⟩
theorem bo_int {i : Int} {v : V} (h : Bo K hT hid H (.int i) v) : v = .int i := by
  rcases h with h | ⟨a, _, _, h⟩
  · cases h; rfl
  · rcases no_ow h with ⟨_, e⟩ | ⟨_, e⟩ <;> cases e
theorem bo_tup {ws : List W} {v : V} (h : Bo K hT hid H (.tuple ws) v) : ∃ a vs, v = .ref a ∧ SqT K H a vs ∧ Ims K hid H ws vs := by
  rcases h with h | ⟨a, _, _, h⟩
  · cases h with
    | tup h1 h2 => exact ⟨_, _, rfl, h1, h2⟩
  · rcases no_ow h with ⟨_, e⟩ | ⟨_, e⟩ <;> cases e
theorem bo_lst {ws : List W} {v : V} (h : Bo K hT hid H (.list ws) v) : ∃ a vs, v = .ref a ∧ H a = some (.lst vs) ∧ Ims K hid H ws vs := by
  rcases h with h | ⟨a, e, _, h⟩
  · cases h with
    | lst h1 h2 h3 => exact ⟨_, _, rfl, h2, h3⟩
  · rcases h with ⟨ws', vs, e', h2, h3⟩ | ⟨_, _, e', _⟩ | ⟨_, _, e', _⟩
    · cases e'; exact ⟨a, vs, e, h2, h3⟩
    · cases e'
    · cases e'
theorem ims_ints : ∀ {ns : List Int} {H : Hp}, Ims K hid H (ns.map PyData.int) (ns.map V.int)
  | [], _ => .nil
  | n :: ns, _ => .cons (.int n) ims_ints
/-- a readable list or tuple -/
theorem rd_lst {ws : List W} {v : V} (h : Rdb K hT hid H (.list ws) v) : ∃ a vs, v = .ref a ∧ SqL K H a vs ∧ Ims K hid H ws vs := by
  rcases h with h | ⟨a, ns, e, ew, h⟩
  · obtain ⟨a, vs, e, h1, h2⟩ := bo_lst h
    exact ⟨a, vs, e, .inl (.inl h1), h2⟩
  · cases ew
    exact ⟨a, _, e, h.sql, ims_ints⟩
theorem rd_tup {ws : List W} {v : V} (h : Rdb K hT hid H (.tuple ws) v) : ∃ a vs, v = .ref a ∧ SqT K H a vs ∧ Ims K hid H ws vs := by
  rcases h with h | ⟨a, ns, e, ew, h⟩
  · exact bo_tup h
  · cases ew
theorem rd_int {i : Int} {v : V} (h : Rdb K hT hid H (.int i) v) : v = .int i := by
  rcases h with h | ⟨a, ns, e, ew, h⟩
  · exact bo_int h
  · cases ew
theorem rd_bl {k : Bool} {v : V} (h : Rdb K hT hid H (.bool k) v) : v = .bl k := by
  rcases h with h | ⟨a, ns, e, ew, h⟩
  · exact bl_of h
  · cases ew
end

/-! ### arithmetic -/
def wAdd : W → W → Option W
  | .int i, .int j => some (.int (i + j))
  | .tuple xs, .tuple ys => if xs.length + ys.length ≤ 16777216 then some (.tuple (xs ++ ys)) else none
  | .list xs, .list ys => if xs.length + ys.length ≤ 16777216 then some (.list (xs ++ ys)) else none
  | _, _ => none
def rAddW (K : PySem.W.Frag) : R2 := fun x y H Q => rI0 (fun i j => .int (i + j)) x y H Q ∨ (fun x y H Q => rCatA K x y H Q ∨ rCat x y H Q) x y H Q
theorem op_addW {X : Cx} : OpR X (binaryOp .Add) (rAddW X.K) := op_add.or (op_catA.or op_cat)
theorem if_some {p : Prop} [Decidable p] {α : Type} {a z : α} (h : (if p then some a else none) = some z) : p ∧ a = z := by
  by_cases c : p
  · rw [if_pos c] at h; exact ⟨c, Option.some.inj h⟩
  · rw [if_neg c] at h; cases h
theorem ok_add {K : PySem.W.Frag} : BinOk K (rAddW K) wAdd .safe := by
  intro hT hid H x y a b z Q hd ha hb hz q
  cases a <;> cases b <;> simp only [wAdd] at hz <;> try cases hz
  · rw [bo_int ha, bo_int hb]
    exact .inl ⟨_, _, rfl, rfl, q _ _ Sm.refl (.int _)⟩
  · obtain ⟨c, e⟩ := if_some hz
    subst e
    obtain ⟨a1, v1, rfl, h1, i1⟩ := bo_lst ha
    obtain ⟨a2, v2, rfl, h2, i2⟩ := bo_lst hb
    refine .inr (.inr ⟨a1, a2, v1, v2, rfl, rfl, h1, h2, by rw [← i1.length, ← i2.length, sizeLine_eq]; exact c, fun p hp => q _ _ (Sm.new hp) ?_⟩)
    exact .lst (fun z => hd p z (Nw.of hp)) upd_same ((im_new hp fun a z => .inl z).2 _ _ (i1.append i2))
  · obtain ⟨c, e⟩ := if_some hz
    subst e
    obtain ⟨a1, v1, rfl, h1, i1⟩ := bo_tup ha
    obtain ⟨a2, v2, rfl, h2, i2⟩ := bo_tup hb
    refine .inr (.inl ⟨a1, a2, v1, v2, rfl, rfl, h1, h2, by rw [← i1.length, ← i2.length, sizeLine_eq]; exact c, fun e => ?_, fun _ e => ?_, fun _ _ p hp => q _ _ (Sm.new hp) ?_⟩)
    · subst e
      have e1 := i1.length
      rw [List.eq_nil_of_length_eq_zero e1, List.nil_append] at q
      exact q _ _ Sm.refl (.tup h2 i2)
    · subst e
      have e1 := i2.length
      rw [List.eq_nil_of_length_eq_zero e1, List.append_nil] at q
      exact q _ _ Sm.refl (.tup h1 i1)
    · exact .tup (.inl (.inl upd_same)) ((im_new hp fun a z => .inl z).2 _ _ (i1.append i2))
/-- list + list, new -/
def wAddL : W → W → Option W
  | .list xs, .list ys => if xs.length + ys.length ≤ 16777216 then some (.list (xs ++ ys)) else none
  | _, _ => none
theorem ok_addL {K : PySem.W.Frag} : BinOk K rCat wAddL .fresh := by
  intro hT hid H x y a b z Q hd ha hb hz q
  cases a <;> cases b <;> simp only [wAddL] at hz <;> try cases hz
  obtain ⟨c, e⟩ := if_some hz
  subst e
  obtain ⟨a1, v1, rfl, h1, i1⟩ := bo_lst ha
  obtain ⟨a2, v2, rfl, h2, i2⟩ := bo_lst hb
  exact ⟨a1, a2, v1, v2, rfl, rfl, h1, h2, by rw [← i1.length, ← i2.length, sizeLine_eq]; exact c, fun p hp => q _ _ (Sm.new hp) (fe_lst hp (i1.append i2))⟩
def wSub : W → W → Option W
  | .int i, .int j => some (.int (i - j))
  | _, _ => none
theorem ok_sub {K : PySem.W.Frag} : BinOk K (rI0 fun i j => .int (i - j)) wSub .safe := by
  intro hT hid H x y a b z Q hd ha hb hz q
  cases a <;> cases b <;> simp only [wSub] at hz <;> cases hz
  rw [bo_int ha, bo_int hb]
  exact ⟨_, _, rfl, rfl, q _ _ Sm.refl (.int _)⟩
def mulOk (i j : Int) : Bool := decide (Builtin.Int.intBits i + Builtin.Int.intBits j ≤ 134217728)
def wMul : W → W → Option W
  | .int i, .int j => if mulOk i j = true then some (.int (i * j)) else none
  | .tuple xs, .int k => if (-1000 ≤ k ∧ k ≤ 1000) ∧ xs.length ≤ 1000 then some (.tuple (List.replicate k.toNat xs).flatten) else none
  | .list xs, .int k => if (-1000000 ≤ k ∧ k ≤ 1000000) ∧ xs.length * k.toNat ≤ 16777216 then some (.list (List.replicate k.toNat xs).flatten) else none
  | _, _ => none
def rMulW (K : PySem.W.Frag) : R2 := fun x y H Q => rI CMulX (fun i j => .int (i * j)) x y H Q ∨ (fun x y H Q => rRepA K x y H Q ∨ rRep x y H Q) x y H Q
theorem op_mulW' {X : Cx} : OpR X (binaryOp .Mult) (rMulW X.K) := op_mulX.or (op_repA.or op_rep)
theorem mulOk_ok {i j : Int} (h : mulOk i j = true) : CMulX i j := by
  have q := of_decide_eq_true h
  unfold CMulX
  omega
theorem rep_eq {α : Type} {xs : List α} {k : Int} (h : xs = [] ∨ k = 1) : (List.replicate k.toNat xs).flatten = xs := by
  rcases h with e | e
  · subst e; simp
  · subst e
    show (List.replicate 1 xs).flatten = xs
    simp
theorem ok_mul {K : PySem.W.Frag} : BinOk K (rMulW K) wMul .safe := by
  intro hT hid H x y a b z Q hd ha hb hz q
  cases a <;> cases b <;> simp only [wMul] at hz <;> try cases hz
  · obtain ⟨c, e⟩ := if_some hz
    subst e
    rw [bo_int ha, bo_int hb]
    exact .inl ⟨_, _, rfl, rfl, mulOk_ok c, q _ _ Sm.refl (.int _)⟩
  · obtain ⟨c, e⟩ := if_some hz
    subst e
    obtain ⟨a1, v1, rfl, h1, i1⟩ := bo_lst ha
    rw [bo_int hb]
    refine .inr (.inr ⟨a1, _, v1, rfl, rfl, h1, by omega, by omega, by rw [← i1.length, sizeLine_eq]; exact c.2, fun p hp => q _ _ (Sm.new hp) ?_⟩)
    exact .lst (fun z => hd p z (Nw.of hp)) upd_same ((im_new hp fun a z => .inl z).2 _ _ (i1.rep _))
  · obtain ⟨c, e⟩ := if_some hz
    subst e
    obtain ⟨a1, v1, rfl, h1, i1⟩ := bo_tup ha
    rw [bo_int hb]
    refine .inr (.inl ⟨a1, _, v1, rfl, rfl, h1, c.1.1, c.1.2, by rw [← i1.length]; exact c.2, fun e => ?_, fun _ _ p hp => q _ _ (Sm.new hp) ?_⟩)
    · have e' : _ = [] ∨ _ = (1 : Int) := e.imp (fun e => List.eq_nil_of_length_eq_zero (by rw [i1.length, e]; rfl)) id
      rw [rep_eq e'] at q
      exact q _ _ Sm.refl (.tup h1 i1)
    · exact .tup (.inl (.inl upd_same)) ((im_new hp fun a z => .inl z).2 _ _ (i1.rep _))
/-- list * int, new -/
def wMulL : W → W → Option W
  | .list xs, .int k => if (-1000000 ≤ k ∧ k ≤ 1000000) ∧ xs.length * k.toNat ≤ 16777216 then some (.list (List.replicate k.toNat xs).flatten) else none
  | _, _ => none
theorem ok_mulL {K : PySem.W.Frag} : BinOk K rRep wMulL .fresh := by
  intro hT hid H x y a b z Q hd ha hb hz q
  cases a <;> cases b <;> simp only [wMulL] at hz <;> try cases hz
  obtain ⟨c, e⟩ := if_some hz
  subst e
  obtain ⟨a1, v1, rfl, h1, i1⟩ := bo_lst ha
  rw [bo_int hb]
  exact ⟨a1, _, v1, rfl, rfl, h1, by omega, by omega, by rw [← i1.length, sizeLine_eq]; exact c.2, fun p hp => q _ _ (Sm.new hp) (fe_lst hp (i1.rep _))⟩
def divOk (i j : Int) : Bool := !(j == 0) && !Builtin.divisionGoesByPylong i j
theorem divOk_ok {i j : Int} (h : divOk i j = true) : j ≠ 0 ∧ Builtin.divisionGoesByPylong i j = false := by
  unfold divOk at h
  simp only [Bool.and_eq_true, Bool.not_eq_true', beq_eq_false_iff_ne] at h
  exact h
def wFdiv : W → W → Option W
  | .int i, .int j => if divOk i j = true then some (.int (i.fdiv j)) else none
  | _, _ => none
theorem ok_fdiv {K : PySem.W.Frag} : BinOk K (rI (fun i j => j ≠ 0 ∧ Builtin.divisionGoesByPylong i j = false) fun i j => .int (i.fdiv j)) wFdiv .safe := by
  intro hT hid H x y a b z Q hd ha hb hz q
  cases a <;> cases b <;> simp only [wFdiv] at hz <;> try cases hz
  obtain ⟨c, e⟩ := if_some hz
  subst e
  rw [bo_int ha, bo_int hb]
  exact ⟨_, _, rfl, rfl, divOk_ok c, q _ _ Sm.refl (.int _)⟩
def wMod : W → W → Option W
  | .int i, .int j => if j ≠ 0 then some (.int (i.fmod j)) else none
  | _, _ => none
theorem ok_mod {K : PySem.W.Frag} : BinOk K (rI (fun _ j => j ≠ 0) fun i j => .int (i.fmod j)) wMod .safe := by
  intro hT hid H x y a b z Q hd ha hb hz q
  cases a <;> cases b <;> simp only [wMod] at hz <;> try cases hz
  obtain ⟨c, e⟩ := if_some hz
  subst e
  rw [bo_int ha, bo_int hb]
  exact ⟨_, _, rfl, rfl, c, q _ _ Sm.refl (.int _)⟩
def wNeg : W → Option W
  | .int i => some (.int (-i))
  | _ => none
theorem ok_neg {K : PySem.W.Frag} : UnOk K (rU fun i => .int (-i)) wNeg .safe := by
  intro hT hid H x a z Q hd ha hz q
  cases a <;> simp only [wNeg] at hz <;> cases hz
  rw [rd_int ha]
  exact ⟨_, rfl, q _ _ Sm.refl (.int _)⟩

/-! ### comparisons -/
def wCmp (p : Int → Int → Bool) : W → W → Option W
  | .int i, .int j => some (.bool (p i j))
  | _, _ => none
theorem ok_cmp {K : PySem.W.Frag} {p : Int → Int → Bool} : BinOk K (rI0 fun i j => .bl (p i j)) (wCmp p) .bor := by
  intro hT hid H x y a b z Q hd ha hb hz q
  cases a <;> cases b <;> simp only [wCmp] at hz <;> cases hz
  rw [bo_int ha, bo_int hb]
  exact ⟨_, _, rfl, rfl, q _ _ Sm.refl (.inl (.bl _))⟩
abbrev wLt := wCmp fun i j => decide (i < j)
abbrev wLe := wCmp fun i j => decide (i ≤ j)
abbrev wGt := wCmp fun i j => decide (j < i)
abbrev wGe := wCmp fun i j => decide (j ≤ i)
section
variable {K : PySem.W.Frag} {hid : Addr → Prop} {H : Hp}
mutual
theorem Im.dp : ∀ (w : W) (v : V), Im K hid H w v → w.canLay0 = true → Dp K H v w
  | .none, v, h, _ => by cases h; exact .non
  | .bool b, v, h, _ => by cases h; exact .bl b
  | .int i, v, h, _ => by cases h; exact .int i
  | .str x, v, h, _ => by cases h; exact .str x
  | .tuple ws, v, h, c => by
    cases h with
    | tup h1 h2 => exact .tup h1 (Ims.dp ws _ h2 (by simpa [PyData.canLay0] using c))
  | .list ws, v, h, c => by
    cases h with
    | lst h1 h2 h3 => exact .lst (.inl (.inl h2)) (Ims.dp ws _ h3 (by simpa [PyData.canLay0] using c))
  | .dict ws, v, h, c => by simp [PyData.canLay0] at c
theorem Ims.dp : ∀ (ws : List W) (vs : List V), Ims K hid H ws vs → PyData.canLayAll0 ws = true → DpAll K H vs ws
  | [], vs, h, _ => by cases h; exact .nil
  | w :: ws, vs, h, c => by
    cases h with
    | cons h1 h2 =>
      have c' : w.canLay0 = true ∧ PyData.canLayAll0 ws = true := by simpa [PyData.canLayAll0] using c
      exact .cons (Im.dp w _ h1 c'.1) (Ims.dp ws _ h2 c'.2)
end
theorem bo_dp {hT : Addr → Prop} {w : W} {v : V} (h : Bo K hT hid H w v) (c : w.canLay0 = true) : Dp K H v w := by
  rcases h with h | ⟨a, e, _, h⟩
  · exact Im.dp w v h c
  · subst e
    rcases h with ⟨ws, vs, e', h2, h3⟩ | ⟨_, _, e', _⟩ | ⟨_, _, e', _⟩
    · subst e'; exact .lst (.inl (.inl h2)) (Ims.dp ws _ h3 (by simpa [PyData.canLay0] using c))
    · subst e'; simp [PyData.canLay0] at c
    · subst e'; simp [PyData.canLay0] at c
end
def wEq (a b : W) : Option W := if (SeqAt.shaped a && SeqAt.shaped b) = true then some (.bool (PyData.eqv a b)) else none
def wNe (a b : W) : Option W := if (SeqAt.shaped a && SeqAt.shaped b) = true then some (.bool (!PyData.eqv a b)) else none
theorem ok_eq {K : PySem.W.Frag} : BinOk K (rEqD K) wEq .bor := by
  intro hT hid H x y a b z Q hd ha hb hz q
  unfold wEq at hz
  obtain ⟨c, e⟩ := if_some hz
  subst e
  rw [Bool.and_eq_true] at c
  exact ⟨a, b, bo_dp ha (SeqAt.canLay_of_shaped c.1), bo_dp hb (SeqAt.canLay_of_shaped c.2), c.1, c.2, q _ _ Sm.refl (.inl (.bl _))⟩
theorem ok_ne {K : PySem.W.Frag} : BinOk K (rNeD K) wNe .bor := by
  intro hT hid H x y a b z Q hd ha hb hz q
  unfold wNe at hz
  obtain ⟨c, e⟩ := if_some hz
  subst e
  rw [Bool.and_eq_true] at c
  exact ⟨a, b, bo_dp ha (SeqAt.canLay_of_shaped c.1), bo_dp hb (SeqAt.canLay_of_shaped c.2), c.1, c.2, q _ _ Sm.refl (.inl (.bl _))⟩
/-- is True, is False -/
def wIsB (neg : Bool) : W → W → Option W
  | .bool a, .bool b => some (.bool (if neg then !decide (a = b) else decide (a = b)))
  | _, _ => none
theorem op_is_bl {X : Cx} : OpR X (compareOp .Is) (fun x y H Q => ∃ a b, x = .bl a ∧ y = .bl b ∧ Q (.bl (decide (a = b))) H) := by
  intro pins s σ H x y v u Q I rx ry h
  obtain ⟨a, b, rfl, rfl, q⟩ := h
  cases rx
  cases ry
  exact PyProof.Rows.is_bool ⟨.bl _, H, I, by cases a <;> cases b <;> rfl, q⟩
theorem ok_isB {K : PySem.W.Frag} : BinOk K (fun x y H Q => ∃ a b, x = .bl a ∧ y = .bl b ∧ Q (.bl (decide (a = b))) H) (wIsB false) .bor := by
  intro hT hid H x y a b z Q hd ha hb hz q
  cases a <;> cases b <;> simp only [wIsB] at hz <;> cases hz
  rw [bl_of ha, bl_of hb]
  exact ⟨_, _, rfl, rfl, q _ _ Sm.refl (.inl (.bl _))⟩
theorem ok_notB {K : PySem.W.Frag} : BinOk K (fun x y H Q => ∃ a b, x = .bl a ∧ y = .bl b ∧ Q (.bl (!decide (a = b))) H) (wIsB true) .bor := by
  intro hT hid H x y a b z Q hd ha hb hz q
  cases a <;> cases b <;> simp only [wIsB] at hz <;> cases hz
  rw [bl_of ha, bl_of hb]
  exact ⟨_, _, rfl, rfl, q _ _ Sm.refl (.inl (.bl _))⟩

/-! ### items, slices -/
section
variable {X : Cx} {cl : Nat → Addr} {c : Cf} {m : Mo} {e a b : Expr} {s sa sb : Ex} {E : XK} {pos : Pos}
def IxOk (K : PySem.W.Frag) (r : R2) (f : W → W → Option W) : Prop := ∀ (hT hid : Addr → Prop) (H : Hp) (x y : V) (a b z : W) (Q : VK), Rdb K hT hid H a x → Bo K hT hid H b y → f a b = some z → (∀ v, Im K hid H z v → Q v H) → r x y H Q
theorem ix_core {f : W → W → Option W} {r : R2} (hf : IxOk X.K r f) : ∀ σ H Q, tEx X.K cl c .safe (eBin f sa sb) E σ H Q → tOp r (tEx X.K cl c .rd sa E) (tEx X.K cl c .bor sb E) σ H Q := by
  intro σ H Q ⟨hT, hid, tp, ρ, t, S, o⟩
  refine ⟨hT, hid, tp, ρ, t, S, o.seq later_pw fun x t1 v1 H1 e1 m1 k1 p1 o1 => ?_⟩
  have S1 := S.sm m1 k1
  refine ⟨hT, hid, tp, ρ, t1, S1, o1.seq later_pw fun y t2 v2 H2 e2 m2 k2 p2 o2 => ?_⟩
  obtain ⟨z, ez, o2⟩ := rOf_ok o2
  exact hf hT hid H2 v1 v2 x y z Q (rdb_mono S1 p1 m2) p2 ez fun v p => o2.ok_ k2 Sm.refl p
def wIdx : W → W → Option W
  | .tuple xs, .int i => atI xs i
  | .list xs, .int i => atI xs i
  | _, _ => none
theorem ims_at {K : PySem.W.Frag} {hid : Addr → Prop} {H : Hp} {ws : List W} {vs : List V} {i : Int} {w : W} (h : Ims K hid H ws vs) (e : atI ws i = some w) : ∃ v, atI vs i = some v ∧ Im K hid H w v := by
  unfold atI at e ⊢
  rw [h.length] at e
  cases q : ixN vs.length i with
  | none => rw [q] at e; cases e
  | some j =>
    rw [q] at e
    obtain ⟨v, e1, e2⟩ := h.get (i := j) (w := w) e
    exact ⟨v, e1, e2⟩
theorem ok_idx {K : PySem.W.Frag} : IxOk K (rIx K) wIdx := by
  intro hT hid H x y a b z Q ha hb hz q
  cases a <;> cases b <;> simp only [wIdx] at hz <;> try cases hz
  · obtain ⟨p, vs, rfl, h1, h2⟩ := rd_lst ha
    rw [bo_int hb]
    obtain ⟨v, e1, e2⟩ := ims_at h2 hz
    exact .inl ⟨p, vs, _, v, rfl, rfl, h1, e1, q v e2⟩
  · obtain ⟨p, vs, rfl, h1, h2⟩ := rd_tup ha
    rw [bo_int hb]
    obtain ⟨v, e1, e2⟩ := ims_at h2 hz
    exact .inr (.inl ⟨p, vs, _, v, rfl, rfl, h1, e1, q v e2⟩)
theorem ev_idx (ha : EX X cl c .rd a sa E) (hb : EX X cl c .bor b sb E) (hs : PlainIx b) : EX X cl c .safe (.Subscript a b pos) (eBin wIdx sa sb) E :=
  PE_imp (pe_ix ix_seq ha hb hs) (ix_core ok_idx)

abbrev Eo := Sl → Tp → Rs (Option Int)
def oNone : Eo := fun _ t => .ok none t
def wI : W → Option (Option Int)
  | .int i => some (some i)
  | _ => none
def oSome (s : Ex) : Eo := fun ρ t => (s ρ t).bind fun w t => rOf (wI w) t
def PO' : Hp → Option Int → Hp → Option Int → Prop := fun _ b _ v => v = b
theorem later_po {tp : Option (Addr × List Addr)} : Later tp PO' := fun _ _ _ _ _ _ p => p
def tOx (K : PySem.W.Frag) (cl : Nat → Addr) (c : Cf) (s : Eo) (E : XK) : TO := fun σ H Q =>
  ∃ hT hid tp ρ t, StE K c hT hid tp ρ σ H t ∧ Out cl tp E H (s ρ t) PO' Q
abbrev OX (X : Cx) (cl : Nat → Addr) (c : Cf) (e : Option Expr) (s : Eo) (E : XK) : Prop := PO X e (tOx X.K cl c s E)
theorem PO_imp {e : Option Expr} {t t' : TO} (h : PO X e t) (i : ∀ σ H Q, t' σ H Q → t σ H Q) : PO X e t' := ⟨fun pins s σ H Q I q => h.run pins s σ H Q I (i σ H Q q)⟩
theorem ox_none : OX X cl c none oNone E := PO_imp po_none fun σ H Q ⟨hT, hid, tp, ρ, t, S, o⟩ => Out.ok_ o S.tap Sm.refl rfl
theorem ox_some (h : EX X cl c .bor e s E) : OX X cl c (some e) (oSome s) E := PO_imp (po_some h) fun σ H Q ⟨hT, hid, tp, ρ, t, S, o⟩ =>
  ⟨hT, hid, tp, ρ, t, S, o.seq later_po fun w t1 v1 H1 e1 m1 k1 p1 o1 => by
    obtain ⟨z, ez, o1⟩ := rOf_ok o1
    cases w <;> simp only [wI] at ez <;> cases ez
    exact ⟨_, bo_int p1, Out.ok_ o1 k1 Sm.refl rfl⟩⟩
def cutL {α : Type} (xs : List α) (lo hi : Option Int) : List α := (xs.drop (HT.sIx xs.length 0 lo)).take (HT.sIx xs.length xs.length hi - HT.sIx xs.length 0 lo)
def wSlice (lo hi : Option Int) : W → Option W
  | .tuple xs => some (.tuple (cutL xs lo hi))
  | .list xs => some (.list (cutL xs lo hi))
  | _ => none
def eSlice (s : Ex) (lo hi : Eo) : Ex := fun ρ t => (s ρ t).bind fun w t => (lo ρ t).bind fun l t => (hi ρ t).bind fun h t => rOf (wSlice l h w) t
def rSlW (K : PySem.W.Frag) : V → Option Int → Option Int → Hp → VK → Prop := fun x lo hi H Q => rSlA K x lo hi H Q ∨ rSlL K x lo hi H Q
theorem cut_ims {K : PySem.W.Frag} {hid : Addr → Prop} {H : Hp} {ws : List W} {vs : List V} {lo hi : Option Int} (h : Ims K hid H ws vs) : Ims K hid H (cutL ws lo hi) (cutV vs lo hi) := by
  unfold cutL cutV
  rw [h.length]
  exact (h.drop _).take _
theorem cut_all {α : Type} {xs : List α} {lo hi : Option Int} (h : HT.sIx xs.length 0 lo = 0 ∧ HT.sIx xs.length xs.length hi = xs.length) : cutL xs lo hi = xs := by
  unfold cutL
  rw [h.1, h.2, List.drop_zero, Nat.sub_zero, List.take_length]
theorem ev_slice {lo hi : Option Expr} {sl sh : Eo} {p2 : Pos} (he : EX X cl c .rd e s E) (hl : OX X cl c lo sl E) (hh : OX X cl c hi sh E) : EX X cl c .safe (.Subscript e (.Slice lo hi none p2) pos) (eSlice s sl sh) E :=
  PE_imp (pe_slice (r := rSlW X.K) (sl_tupA.or sl_list) he hl hh) fun σ H Q ⟨hT, hid, tp, ρ, t, S, o⟩ => by
    refine ⟨hT, hid, tp, ρ, t, S, o.seq later_pw fun w t1 v1 H1 e1 m1 k1 p1 o1 => ?_⟩
    have S1 := S.sm m1 k1
    refine ⟨hT, hid, tp, ρ, t1, S1, o1.seq later_pw fun l t2 l' H2 e2 m2 k2 p2 o2 => ?_⟩
    have S2 := S1.sm m2 k2
    have el : l' = l := p2
    subst el
    refine ⟨hT, hid, tp, ρ, t2, S2, o2.seq later_pw fun h t3 h' H3 e3 m3 k3 p3 o3 => ?_⟩
    have S3 := S2.sm m3 k3
    have eh : h' = h := p3
    subst eh
    obtain ⟨z, ez, o3⟩ := rOf_ok o3
    have p1' := rdb_mono S2 (rdb_mono S1 p1 m2) m3
    cases w <;> simp only [wSlice] at ez <;> cases ez
    · obtain ⟨a, vs, rfl, h1, h2⟩ := rd_lst p1'
      refine .inr ⟨a, vs, rfl, h1, fun p hp => Out.ok_ o3 k3 (Sm.new hp) ?_⟩
      exact .lst (fun z => S3.dom p z (Nw.of hp)) upd_same ((im_new hp fun a z => .inl z).2 _ _ (cut_ims h2))
    · obtain ⟨a, vs, rfl, h1, h2⟩ := rd_tup p1'
      refine .inl ⟨a, vs, rfl, h1, fun hw => Out.ok_ o3 k3 Sm.refl ?_, fun _ p hp => Out.ok_ o3 k3 (Sm.new hp) ?_⟩
      · rw [← h2.length] at hw
        rw [cut_all hw]; exact .tup h1 h2
      · exact .tup (.inl (.inl upd_same)) ((im_new hp fun a z => .inl z).2 _ _ (cut_ims h2))
end

/-! ### built-in functions -/
section
variable {K : PySem.W.Frag}
theorem bos1 {hT hid : Addr → Prop} {H : Hp} {w : W} {vs : List V} (h : Bos K hT hid H [w] vs) : ∃ v, vs = [v] ∧ Rdb K hT hid H w v := by
  cases h with
  | cons h1 h2 => cases h2; exact ⟨_, rfl, h1⟩
theorem bos2 {hT hid : Addr → Prop} {H : Hp} {w w' : W} {vs : List V} (h : Bos K hT hid H [w, w'] vs) : ∃ v v', vs = [v, v'] ∧ Rdb K hT hid H w v ∧ Rdb K hT hid H w' v' := by
  cases h with
  | cons h1 h2 =>
    cases h2 with
    | cons h3 h4 => cases h4; exact ⟨_, _, rfl, h1, h3⟩
def gLen : List W → Option W
  | [.tuple xs] => some (.int xs.length)
  | [.list xs] => some (.int xs.length)
  | _ => none
theorem ok_len : CallOk K (fun xs H Q => ∃ p ys, xs = [.ref p] ∧ (SqL K H p ys ∨ SqT K H p ys) ∧ Q (.int ys.length) H) gLen .safe := by
  intro hT hid H vs ws z Q hd h hz q
  unfold gLen at hz
  split at hz
  · obtain ⟨v, rfl, r⟩ := bos1 h
    obtain ⟨a, ys, rfl, h1, h2⟩ := rd_tup r
    cases hz
    rw [h2.length] at q
    exact ⟨a, ys, rfl, .inr h1, q _ _ Sm.refl (.int _)⟩
  · obtain ⟨v, rfl, r⟩ := bos1 h
    obtain ⟨a, ys, rfl, h1, h2⟩ := rd_lst r
    cases hz
    rw [h2.length] at q
    exact ⟨a, ys, rfl, .inl h1, q _ _ Sm.refl (.int _)⟩
  · cases hz
def gAbs : List W → Option W
  | [.int i] => some (.int (if i < 0 then -i else i))
  | _ => none
theorem ok_abs : CallOk K (fun xs H Q => ∃ i, xs = [.int i] ∧ Q (.int (if i < 0 then -i else i)) H) gAbs .safe := by
  intro hT hid H vs ws z Q hd h hz q
  unfold gAbs at hz
  split at hz
  · obtain ⟨v, rfl, r⟩ := bos1 h
    cases hz
    rw [rd_int r]
    exact ⟨_, rfl, q _ _ Sm.refl (.int _)⟩
  · cases hz
def gInt : List W → Option W
  | [.int i] => some (.int i)
  | _ => none
theorem ok_int : CallOk K (fun xs H Q => (∃ i, xs = [.int i] ∧ Q (.int i) H) ∨ ∃ k, xs = [.bl k] ∧ Q (.int (if k then 1 else 0)) H) gInt .safe := by
  intro hT hid H vs ws z Q hd h hz q
  unfold gInt at hz
  split at hz
  · obtain ⟨v, rfl, r⟩ := bos1 h
    cases hz
    rw [rd_int r]
    exact .inl ⟨_, rfl, q _ _ Sm.refl (.int _)⟩
  · cases hz
def gMin2 : List W → Option W
  | [.int i, .int j] => some (.int (if j < i then j else i))
  | _ => none
theorem ok_min2 : CallOk K (fun xs H Q => ∃ i j, xs = [.int i, .int j] ∧ Q (.int (if j < i then j else i)) H) gMin2 .safe := by
  intro hT hid H vs ws z Q hd h hz q
  unfold gMin2 at hz
  split at hz
  · obtain ⟨v, v', rfl, r, r'⟩ := bos2 h
    cases hz
    rw [rd_int r, rd_int r']
    exact ⟨_, _, rfl, q _ _ Sm.refl (.int _)⟩
  · cases hz
def gMax2 : List W → Option W
  | [.int i, .int j] => some (.int (if j > i then j else i))
  | _ => none
theorem ok_max2 : CallOk K (fun xs H Q => ∃ i j, xs = [.int i, .int j] ∧ Q (.int (if j > i then j else i)) H) gMax2 .safe := by
  intro hT hid H vs ws z Q hd h hz q
  unfold gMax2 at hz
  split at hz
  · obtain ⟨v, v', rfl, r, r'⟩ := bos2 h
    cases hz
    rw [rd_int r, rd_int r']
    exact ⟨_, _, rfl, q _ _ Sm.refl (.int _)⟩
  · cases hz
def gTuple : List W → Option W
  | [.tuple xs] => some (.tuple xs)
  | [.list xs] => some (.tuple xs)
  | _ => none
theorem ok_tuple : CallOk K (fun xs H Q => ∃ p ys, xs = [.ref p] ∧ ((SqL K H p ys ∧ ∀ l, H l = none → Q (.ref l) (upd H l (.tup ys))) ∨ (SqT K H p ys ∧ Q (.ref p) H))) gTuple .safe := by
  intro hT hid H vs ws z Q hd h hz q
  unfold gTuple at hz
  split at hz
  · obtain ⟨v, rfl, r⟩ := bos1 h
    obtain ⟨a, ys, rfl, h1, h2⟩ := rd_tup r
    cases hz
    exact ⟨a, ys, rfl, .inr ⟨h1, q _ _ Sm.refl (.tup h1 h2)⟩⟩
  · obtain ⟨v, rfl, r⟩ := bos1 h
    obtain ⟨a, ys, rfl, h1, h2⟩ := rd_lst r
    cases hz
    exact ⟨a, ys, rfl, .inl ⟨h1, fun p hp => q _ _ (Sm.new hp) (.tup (.inl (.inl upd_same)) ((im_new hp fun a z => .inl z).2 _ _ h2))⟩⟩
  · cases hz
def gList : List W → Option W
  | [.tuple xs] => some (.list xs)
  | [.list xs] => some (.list xs)
  | _ => none
theorem ok_list : CallOk K (fun xs H Q => ∃ p ys, xs = [.ref p] ∧ (SqL K H p ys ∨ SqT K H p ys) ∧ ∀ l, H l = none → Q (.ref l) (upd H l (.lst ys))) gList .fresh := by
  intro hT hid H vs ws z Q hd h hz q
  unfold gList at hz
  split at hz
  · obtain ⟨v, rfl, r⟩ := bos1 h
    obtain ⟨a, ys, rfl, h1, h2⟩ := rd_tup r
    cases hz
    exact ⟨a, ys, rfl, .inr h1, fun p hp => q _ _ (Sm.new hp) (fe_lst hp h2)⟩
  · obtain ⟨v, rfl, r⟩ := bos1 h
    obtain ⟨a, ys, rfl, h1, h2⟩ := rd_lst r
    cases hz
    exact ⟨a, ys, rfl, .inl h1, fun p hp => q _ _ (Sm.new hp) (fe_lst hp h2)⟩
  · cases hz
def wBs : List W → Option (List Bool)
  | [] => some []
  | .bool b :: ws => (wBs ws).map (b :: ·)
  | _ => none
theorem wBs_ims {hid : Addr → Prop} {H : Hp} : ∀ {ws : List W} {vs : List V} {bs : List Bool}, Ims K hid H ws vs → wBs ws = some bs → vs = bs.map V.bl
  | [], _, _, h, e => by cases h; cases e; rfl
  | w :: ws, _, bs, h, e => by
    cases h with
    | cons h1 h2 =>
      cases w <;> simp only [wBs] at e <;> try cases e
      rename_i b
      cases q : wBs ws with
      | none => rw [q] at e; cases e
      | some bs' =>
        rw [q] at e
        cases e
        cases h1
        rw [wBs_ims h2 q]; rfl
def gAll : List W → Option W
  | [.list xs] => (wBs xs).map fun bs => .bool (bs.all id)
  | _ => none
def gAny : List W → Option W
  | [.list xs] => (wBs xs).map fun bs => .bool (bs.any id)
  | _ => none
theorem ok_all : CallOk K (rAll K) gAll .safe := by
  intro hT hid H vs ws z Q hd h hz q
  unfold gAll at hz
  split at hz
  · obtain ⟨v, rfl, r⟩ := bos1 h
    obtain ⟨a, ys, rfl, h1, h2⟩ := rd_lst r
    rename_i xs
    cases eb : wBs xs with
    | none => rw [eb] at hz; cases hz
    | some bs =>
      rw [eb] at hz
      cases hz
      have e := wBs_ims h2 eb
      subst e
      exact ⟨a, bs, rfl, h1, q _ _ Sm.refl (.bl _)⟩
  · cases hz
theorem ok_any : CallOk K (rAny K) gAny .safe := by
  intro hT hid H vs ws z Q hd h hz q
  unfold gAny at hz
  split at hz
  · obtain ⟨v, rfl, r⟩ := bos1 h
    obtain ⟨a, ys, rfl, h1, h2⟩ := rd_lst r
    rename_i xs
    cases eb : wBs xs with
    | none => rw [eb] at hz; cases hz
    | some bs =>
      rw [eb] at hz
      cases hz
      have e := wBs_ims h2 eb
      subst e
      exact ⟨a, bs, rfl, h1, q _ _ Sm.refl (.bl _)⟩
  · cases hz
def wIs : List W → Option (List Int)
  | [] => some []
  | .int b :: ws => (wIs ws).map (b :: ·)
  | _ => none
theorem wIs_ims {hid : Addr → Prop} {H : Hp} : ∀ {ws : List W} {vs : List V} {bs : List Int}, Ims K hid H ws vs → wIs ws = some bs → vs = bs.map V.int
  | [], _, _, h, e => by cases h; cases e; rfl
  | w :: ws, _, bs, h, e => by
    cases h with
    | cons h1 h2 =>
      cases w <;> simp only [wIs] at e <;> try cases e
      rename_i b
      cases q : wIs ws with
      | none => rw [q] at e; cases e
      | some bs' =>
        rw [q] at e
        cases e
        cases h1
        rw [wIs_ims h2 q]; rfl
def gSum : List W → Option W
  | [.list xs] => (wIs xs).map fun bs => .int bs.sum
  | _ => none
theorem ok_sum : CallOk K (rSum K) gSum .safe := by
  intro hT hid H vs ws z Q hd h hz q
  unfold gSum at hz
  split at hz
  · obtain ⟨v, rfl, r⟩ := bos1 h
    obtain ⟨a, ys, rfl, h1, h2⟩ := rd_lst r
    rename_i xs
    cases eb : wIs xs with
    | none => rw [eb] at hz; cases hz
    | some bs =>
      rw [eb] at hz
      cases hz
      have e := wIs_ims h2 eb
      subst e
      exact ⟨a, bs, rfl, h1, q _ _ Sm.refl (.int _)⟩
  · cases hz
end

/-! ### isinstance(x, T) -/
def tyN : W → String
  | .none => "NoneType"
  | .bool _ => "bool"
  | .int _ => "int"
  | .str _ => "str"
  | .list _ => "list"
  | .tuple _ => "tuple"
  | .dict _ => "dict"
def isIn : String → String → Bool
  | "bool", "int" => true
  | a, b => a == b
def noDict : W → Bool
  | .dict _ => false
  | _ => true
def eIsI (T : String) (s : Ex) : Ex := fun ρ t => (s ρ t).bind fun w t => if noDict w = true then .ok (.bool (isIn (tyN w) T)) t else .bad
theorem ty_of {K : PySem.W.Frag} {hT hid : Addr → Prop} {H : Hp} {w : W} {v : V} (h : Bo K hT hid H w v) (nd : noDict w = true) : TyX K H v (.type (tyN w)) := by
  rcases h with h | ⟨a, e, _, h⟩
  · cases h with
    | non => exact .base .non
    | bl b => exact .base (.bl b)
    | int i => exact .base (.int i)
    | str x => exact .base (.str x)
    | tup h1 h2 =>
      rcases h1 with (h1 | ⟨o, h1⟩) | ⟨o, _, _, h1, h3, _⟩
      · exact .base (.tup h1)
      · exact .fTuple h1
      · exact .kTuple h1 h3
    | lst h1 h2 h3 => exact .base (.lst h2)
    | dK h1 h2 h3 => cases nd
    | dT h1 h2 h3 => cases nd
  · subst e
    rcases h with ⟨ws, vs, e', h2, h3⟩ | ⟨_, _, e', h2, _⟩ | ⟨_, _, e', h2, _⟩
    · subst e'; exact .base (.lst h2)
    · subst e'; cases nd
    · subst e'; cases nd
def kitAll (T : String) : Prop := ∀ n ∈ ["NoneType", "bool", "int", "str", "list", "tuple"], kitB n T = some (isIn n T)
theorem tyN_mem {w : W} (nd : noDict w = true) : tyN w ∈ ["NoneType", "bool", "int", "str", "list", "tuple"] := by
  cases w <;> first | simp [tyN]; done | cases nd
theorem kit_tuple : kitAll "tuple" := by unfold kitAll; decide +kernel
theorem kit_int : kitAll "int" := by unfold kitAll; decide +kernel
theorem kit_bool : kitAll "bool" := by unfold kitAll; decide +kernel
theorem kit_str : kitAll "str" := by unfold kitAll; decide +kernel
theorem kit_list : kitAll "list" := by unfold kitAll; decide +kernel
section
variable {X : Cx} {cl : Nat → Addr} {c : Cf} {a : Expr} {sa : Ex} {E : XK}
theorem ev_isi {x y : Str} {T : String} {p q pos : Pos} (hk : kitAll T) (hg : Gl X x) (hm : X.mg x = none) (hv : bootBuiltins x = some (.builtin "isinstance")) (hg2 : Gl X y) (hm2 : X.mg y = none) (hv2 : bootBuiltins y = some (.type T)) (ha : EX X cl c .bor a sa E)
    (hn : x ≠ "__name__") (hdb : (x == ("__debug__" : Str)) = false) (hn2 : y ≠ "__name__") (hdb2 : (y == ("__debug__" : Str)) = false) (he : starEach [a, .Name y q] X.env = (false, eval a X.env) :: starEach [.Name y q] X.env) (he2 : starEach [.Name y q] X.env = [(false, eval (.Name y q) X.env)])
    (hpl : (backTo pos (starEach [.Name y q] X.env)).any (·.1) = false) :
    EX X cl c .bor (.Call (.Name x p) [a, .Name y q] [] pos) (eIsI T sa) E :=
  PE_imp (pe_callB call_isi hg hm hv (pa_cons ha (pa_cons (pe_bltn (v := .ty T) hg2 hm2 hv2 rfl hn2 hdb2) pa_nil he2) he) hn hdb he hpl) fun σ H Q ⟨hT, hid, tp, ρ, t, S, o⟩ => by
    refine ⟨hT, hid, tp, ρ, t, S, o.seq later_pw fun w t1 v1 H1 e1 m1 k1 p1 o1 => ?_⟩
    obtain ⟨nd, o1⟩ := few_ok o1
    exact ⟨v1, .ty T, _, _, _, rfl, .ty T, ty_of p1 nd, kit_ty (hk _ (tyN_mem nd)), Out.ok_ o1 k1 Sm.refl (.inl (.bl _))⟩
end
end Ev

end

section
/-! Ev4: what is walked; targets; comprehensions. -/
namespace Ev
open PySem PySem.Spec PyProof.Rows L2
variable [Tb]

/-! ### slots -/
section
variable {K : PySem.W.Frag} {c : Cf} {hT hid : Addr → Prop} {tp : Option (Addr × List Addr)} {ρ : Sl} {σ : L2.St} {H : Hp} {t : Tp}
theorem get_set {α : Type} {l : List (Option α)} {i j : Nat} {x : Option α} {w : α} (h : (l.set i x)[j]? = some (some w)) : (j = i ∧ x = some w ∧ i < l.length) ∨ (j ≠ i ∧ l[j]? = some (some w)) := by
  by_cases e : i = j
  · subst e
    by_cases hl : i < l.length
    · rw [List.getElem?_set_self hl] at h
      exact .inl ⟨rfl, Option.some.inj h, hl⟩
    · rw [List.getElem?_eq_none (by simpa using hl)] at h
      cases h
  · rw [List.getElem?_set_ne e] at h
    exact .inr ⟨fun z => e z.symm, h⟩
/-- a plain slot is stored -/
theorem StE.set {i : Nat} {w : W} {v : V} (S : StE K c hT hid tp ρ σ H t) (hm : i ∉ c.M) (hs : c.scr ≠ some i) (ht : c.tape ≠ some i) (h : Im K hid H w v) : StE K c hT hid tp (ρ.set i (some w)) (σ.set i (some v)) H t := by
  refine ⟨by rw [List.length_set, List.length_set, S.len], fun j w' e n n2 => ?_, fun j w' e n => ?_, fun j w' e n => ?_, fun j k w1 w2 a e1 e2 n1 n2 e3 e4 => ?_, S.dom, S.sub, S.tph, S.tap, fun j e => ?_, S.tbs⟩
  · rcases get_set e with ⟨e1, e2, e3⟩ | ⟨e1, e2⟩
    · subst e1; cases e2
      exact ⟨v, by rw [List.getElem?_set_self (by rw [← S.len]; exact e3)], h⟩
    · obtain ⟨u, h1, h2⟩ := S.im j w' e2 n n2
      exact ⟨u, by rw [List.getElem?_set_ne (fun z => e1 z.symm)]; exact h1, h2⟩
  · rcases get_set e with ⟨e1, e2, e3⟩ | ⟨e1, e2⟩
    · subst e1; exact absurd n hs
    · obtain ⟨a, ns, h1, h2⟩ := S.scr j w' e2 n
      exact ⟨a, ns, by rw [List.getElem?_set_ne (fun z => e1 z.symm)]; exact h1, h2⟩
  · rcases get_set e with ⟨e1, e2, e3⟩ | ⟨e1, e2⟩
    · subst e1; exact absurd n hm
    · obtain ⟨a, h1, h2⟩ := S.own j w' e2 n
      exact ⟨a, by rw [List.getElem?_set_ne (fun z => e1 z.symm)]; exact h1, h2⟩
  · have nj : i ≠ j := fun z => hm (z ▸ n1)
    have nk : i ≠ k := fun z => hm (z ▸ n2)
    rw [List.getElem?_set_ne nj] at e1 e3
    rw [List.getElem?_set_ne nk] at e2 e4
    exact S.sep j k w1 w2 a e1 e2 n1 n2 e3 e4
  · obtain ⟨a, b, h1, h2⟩ := S.slot j e
    exact ⟨a, b, h1, by rw [List.getElem?_set_ne (fun z => ht (by rw [z]; exact e))]; exact h2⟩
def wipeW (ρ : Sl) : List Nat → Sl
  | [] => ρ
  | v :: vs => (wipeW ρ vs).set v none
theorem StE.clear {i : Nat} (S : StE K c hT hid tp ρ σ H t) (ht : c.tape ≠ some i) : StE K c hT hid tp (ρ.set i none) (σ.set i none) H t := by
  have key : ∀ {j : Nat} {w : W}, (ρ.set i none)[j]? = some (some w) → j ≠ i ∧ ρ[j]? = some (some w) := fun {j w} e => by
    rcases get_set e with ⟨_, e2, _⟩ | e2
    · cases e2
    · exact e2
  refine ⟨by rw [List.length_set, List.length_set, S.len], fun j w' e n n2 => ?_, fun j w' e n => ?_, fun j w' e n => ?_, fun j k w1 w2 a e1 e2 n1 n2 e3 e4 => ?_, S.dom, S.sub, S.tph, S.tap, fun j e => ?_, S.tbs⟩
  · obtain ⟨e1, e2⟩ := key e
    obtain ⟨u, h1, h2⟩ := S.im j w' e2 n n2
    exact ⟨u, by rw [List.getElem?_set_ne (fun z => e1 z.symm)]; exact h1, h2⟩
  · obtain ⟨e1, e2⟩ := key e
    obtain ⟨a, ns, h1, h2⟩ := S.scr j w' e2 n
    exact ⟨a, ns, by rw [List.getElem?_set_ne (fun z => e1 z.symm)]; exact h1, h2⟩
  · obtain ⟨e1, e2⟩ := key e
    obtain ⟨a, h1, h2⟩ := S.own j w' e2 n
    exact ⟨a, by rw [List.getElem?_set_ne (fun z => e1 z.symm)]; exact h1, h2⟩
  · obtain ⟨nj, e1⟩ := key e1
    obtain ⟨nk, e2⟩ := key e2
    rw [List.getElem?_set_ne (fun z => nj z.symm)] at e3
    rw [List.getElem?_set_ne (fun z => nk z.symm)] at e4
    exact S.sep j k w1 w2 a e1 e2 n1 n2 e3 e4
  · obtain ⟨a, b, h1, h2⟩ := S.slot j e
    exact ⟨a, b, h1, by rw [List.getElem?_set_ne (fun z => ht (by rw [z]; exact e))]; exact h2⟩
theorem StE.wipe (S : StE K c hT hid tp ρ σ H t) : ∀ vs : List Nat, (∀ i ∈ vs, c.tape ≠ some i) → StE K c hT hid tp (wipeW ρ vs) (L2.wipe σ vs) H t
  | [], _ => S
  | v :: vs, h => StE.clear (StE.wipe S vs fun i hi => h i (List.mem_cons_of_mem _ hi)) (h v List.mem_cons_self)
/-- more is hidden: what is new -/
theorem StE.hide (S : StE K c hT hid tp ρ σ H t) {hid' : Addr → Prop} {H' : Hp} {t' : Tp} (h1 : ∀ a, hid a → hid' a) (h2 : ∀ a, hid' a → hid a ∨ Nw H a) (m : Sm (tps tp) H H') (k : TpOk tp H' t') (h3 : ∀ a, hid' a → ¬ Nw H' a) : StE K c hT hid' tp ρ σ H' t' := by
  have kp : Kp hid H H' := m.kp fun x hx => S.sub x (S.tph x hx)
  have S' := S.sm m k
  refine ⟨S.len, fun i w e n n2 => ?_, fun i w e n => ?_, fun i w e n => ?_, S.sep, h3, fun a z => h1 a (S.sub a z), S.tph, k, S.slot, m.tab S.tbs⟩
  · obtain ⟨v, e1, h⟩ := S.im i w e n n2
    exact ⟨v, e1, Im.mono kp h2 _ _ h⟩
  · obtain ⟨a, ns, e1, e2, h⟩ := S.scr i w e n
    exact ⟨a, ns, e1, e2, h.mono h2 fun o n q nt => m.obj a o (fun z => n (S.sub a (S.tph a z))) q nt⟩
  · obtain ⟨a, e1, y1, y2, y3⟩ := S.own i w e n
    exact ⟨a, e1, h1 a y1, y2, y3.mono kp h2 fun o e n => m.obj a o (fun z => y2 (S.tph a z)) e n⟩
end

/-! ### what is walked -/
structure SrcG (K : PySem.W.Frag) (hx hid : Addr → Prop) (H0 : Hp) (items : List W) (J : It) (G : Hp → Prop) : Prop where
  here : G H0
  go : ∀ i Ha, i < items.length → G Ha → J.go i Ha
  stop : ∀ Ha, G Ha → J.stop items.length Ha
  stay : ∀ hx' : Addr → Prop, (∀ a, hx' a → hx a ∨ Nw H0 a) → ∀ Ha Hb, Sm hx' Ha Hb → G Ha → G Hb
  yld : ∀ hid' : Addr → Prop, (∀ a, hid' a → hid a ∨ Nw H0 a) → ∀ i Ha x Hb, i < items.length → G Ha → Sm hid' H0 Ha → J.yld i Ha x Hb → Sm (fun _ => False) Ha Hb ∧ ∃ w, items[i]? = some w ∧ Im K hid' Hb w x
def SrcOk (K : PySem.W.Frag) (hx hid : Addr → Prop) (H0 : Hp) (items : List W) (J : It) : Prop := ∃ G, SrcG K hx hid H0 items J G
/-- b: it may not be one that the frame owns -/
def PSrc (K : PySem.W.Frag) (b : Bool) (hT hid : Addr → Prop) : Hp → List W → Hp → It → Prop := fun _ items H' J => SrcOk K (if b = true then hid else hT) hid H' items J
theorem later_src {K : PySem.W.Frag} {b : Bool} {hT hid : Addr → Prop} {tp : Option (Addr × List Addr)} : Later tp (PSrc K b hT hid) := fun _ _ _ _ _ _ p => p
def tSrc (K : PySem.W.Frag) (cl : Nat → Addr) (c : Cf) (b : Bool) (s : Exs) (E : XK) : TI := fun σ H R =>
  ∃ hT hid tp ρ t, StE K c hT hid tp ρ σ H t ∧ Out cl tp E H (s ρ t) (PSrc K b hT hid) R
abbrev IX (X : Cx) (cl : Nat → Addr) (c : Cf) (b : Bool) (tg e : Expr) (s : Exs) (E : XK) : Prop := PI X tg e (tSrc X.K cl c b s E)
theorem PI_imp {X : Cx} {tg e : Expr} {t t' : TI} (h : PI X tg e t) (i : ∀ σ H R, t' σ H R → t σ H R) : PI X tg e t' := ⟨fun pins s σ H R I q => h.run pins s σ H R I (i σ H R q)⟩
theorem kp_of {hid hid' : Addr → Prop} {H0 Ha : Hp} (m : Sm hid' H0 Ha) (h : ∀ a, hid' a → hid a ∨ Nw H0 a) : Kp hid H0 Ha := by
  refine ⟨fun a vs n e => m.obj a _ (fun z => ?_) e fun ps z => (by cases z), fun a u n d r => ?_, m.tup⟩
  · rcases h a z with q | q
    · exact n q
    · exact Nw.not e (fun ps z => by cases z) q
  · have nh : ¬ hid' a := fun z => by
      rcases h a z with q | q
      · exact n q
      · exact Rd_ne r (fun ps z => by subst z; exact d) q
    exact Rd_exact r (fun ps z => by subst z; exact d) fun o e nt => m.obj a o nh e nt
/-- items of a list or tuple -/
def wSeq : W → Option (List W)
  | .tuple xs => some xs
  | .list xs => some xs
  | _ => none
def sSeq (s : Ex) : Exs := fun ρ t => (s ρ t).bind fun w t => rOf (wSeq w) t
section
variable {X : Cx} {cl : Nat → Addr} {c : Cf} {e a b : Expr} {s sa sb : Ex} {E : XK} {pos : Pos} {tg : Expr} {bb : Bool}
def iSeqx (K : PySem.W.Frag) (tl : TE) : TI := fun σ H R => tl σ H fun x H1 => ∃ b a, x = .ref a ∧ (∃ xs, Sqx K b H1 a xs) ∧ R (if b = true then Itt K a else Itl K a) H1
theorem pi_seqx {l : Expr} {tl : TE} (hl : PE X l tl) : PI X tg l (iSeqx X.K tl) := by
  refine ⟨fun pins s σ H R I h => ?_⟩
  refine thn (hl.run pins s σ H _ I h) fun v s1 ⟨x, H1, I1, r1, q1⟩ => ?_
  obtain ⟨b, a, e, ⟨xs, hq⟩, q⟩ := q1
  subst e
  cases r1
  cases b with
  | false =>
    obtain ⟨its, rv, p, hz⟩ := I1.list hq
    refine wpAny_pyIter_list p.isList ?_
    refine ⟨s1.heap.objs.size, [s1.heap.objs.size], _, _, H1, rfl, I1.kept (t' := s1.toks) fun b o e => Heap.get?_push_of_some _ e, turn_list a _, ⟨_, Heap.get?_push_size _ rfl, rfl, rfl⟩, fun b hb => ?_, q⟩
    have e : b = s1.heap.objs.size := by simpa using hb
    subst e
    exact I1.fpOk (Nat.le_refl _) (I1.hok.fresh (Nat.le_refl _))
  | true =>
    obtain ⟨its, rv, p, hz⟩ := I1.tuple hq
    refine wpAny_pyIter_tuple (show s1.heap.IsTuple a its.toArray from p) ?_
    refine ⟨s1.heap.objs.size, [s1.heap.objs.size], _, _, H1, rfl, I1.kept (t' := s1.toks) fun b o e => Heap.get?_push_of_some _ e, turn_tuple a _, ⟨_, Heap.get?_push_size _ rfl, rfl, rfl⟩, fun b hb => ?_, q⟩
    have e : b = s1.heap.objs.size := by simpa using hb
    subst e
    exact I1.fpOk (Nat.le_refl _) (I1.hok.fresh (Nat.le_refl _))

end
/-- a list or a tuple that stays: what says where it lies -/
structure Sts (K : PySem.W.Frag) (hx : Addr → Prop) (H0 : Hp) (b : Bool) (a : Addr) (vs : List V) (G : Hp → Prop) : Prop where
  here : G H0
  sq : ∀ Ha, G Ha → Sqx K b Ha a vs
  stay : ∀ hx' : Addr → Prop, (∀ x, hx' x → hx x ∨ Nw H0 x) → ∀ Ha Hb, Sm hx' Ha Hb → G Ha → G Hb
theorem sts_tup {K : PySem.W.Frag} {hx : Addr → Prop} {H0 : Hp} {a : Addr} {vs : List V} (h : SqT K H0 a vs) : Sts K hx H0 true a vs (fun Ha => SqT K Ha a vs) :=
  ⟨h, fun _ h => h, fun hx' _ Ha Hb m h => by
    rcases h with h | h
    · exact .inl (m.tup _ _ h)
    · exact .inr h⟩
theorem sts_lst {K : PySem.W.Frag} {hx : Addr → Prop} {H0 : Hp} {a : Addr} {vs : List V} (n : ¬ hx a) (h : H0 a = some (.lst vs)) : Sts K hx H0 false a vs (fun Ha => Ha a = some (.lst vs)) :=
  ⟨h, fun _ h => .inl (.inl h), fun hx' hh Ha Hb m e => m.obj a _ (fun z => by
    rcases hh a z with q | q
    · exact n q
    · exact Nw.not h (fun ps z => by cases z) q) e fun ps z => by cases z⟩
theorem sts_frz {K : PySem.W.Frag} {hx : Addr → Prop} {H0 : Hp} {a : Addr} {vs : List V} {o : Obj} (n : ¬ hx a) (h : H0 a = some (.frz o (.lst vs))) : Sts K hx H0 false a vs (fun Ha => Ha a = some (.frz o (.lst vs))) :=
  ⟨h, fun _ h => .inl (.inr ⟨o, h⟩), fun hx' hh Ha Hb m e => m.obj a _ (fun z => by
    rcases hh a z with q | q
    · exact n q
    · exact Nw.not h (fun ps z => by cases z) q) e fun ps z => by cases z⟩
theorem sts_kl {K : PySem.W.Frag} {hx : Addr → Prop} {H0 : Hp} {a : Addr} {vs : List V} (h : KL K a vs) : Sts K hx H0 false a vs (fun _ => True) :=
  ⟨trivial, fun _ _ => .inr h, fun _ _ _ _ _ _ => trivial⟩
/-- of a safe value (hx := hid), of a readable one (hx := hT) -/
theorem sts_safe {K : PySem.W.Frag} {hid : Addr → Prop} {H0 : Hp} {w : W} {v : V} {items : List W} (h : Im K hid H0 w v) (e : wSeq w = some items) : ∃ b a vs G, v = .ref a ∧ Ims K hid H0 items vs ∧ Sts K hid H0 b a vs G := by
  cases h with
  | tup h1 h2 => cases e; exact ⟨true, _, _, _, rfl, h2, sts_tup h1⟩
  | lst h1 h2 h3 => cases e; exact ⟨false, _, _, _, rfl, h3, sts_lst h1 h2⟩
  | _ => cases e
theorem sts_rd {K : PySem.W.Frag} {hT hid : Addr → Prop} {H0 : Hp} {w : W} {v : V} {items : List W} (hs : ∀ a, hT a → hid a) (h : Rdb K hT hid H0 w v) (e : wSeq w = some items) : ∃ b a vs G, v = .ref a ∧ Ims K hid H0 items vs ∧ Sts K hT H0 b a vs G := by
  have weak : ∀ {b a vs G}, Sts K hid H0 b a vs G → Sts K hT H0 b a vs G := fun s => ⟨s.here, s.sq, fun hx' hh => s.stay hx' fun x z => (hh x z).imp (hs x) id⟩
  rcases h with (h | ⟨a, ev, n, h⟩) | ⟨a, ns, ev, ew, h⟩
  · obtain ⟨b, a, vs, G, e1, e2, e3⟩ := sts_safe h e
    exact ⟨b, a, vs, G, e1, e2, weak e3⟩
  · rcases h with ⟨ws, vs, e', h2, h3⟩ | ⟨_, _, e', h2, _⟩ | ⟨_, _, e', h2, _⟩
    · subst e'; cases e; exact ⟨false, a, vs, _, ev, h3, sts_lst n h2⟩
    · subst e'; cases e
    · subst e'; cases e
  · subst ew; cases e
    rcases h with ⟨n, h | ⟨o, h⟩⟩ | h
    · exact ⟨false, a, _, _, ev, ims_ints, sts_lst (fun z => n (hs a z)) h⟩
    · exact ⟨false, a, _, _, ev, ims_ints, sts_frz (fun z => n (hs a z)) h⟩
    · exact ⟨false, a, _, _, ev, ims_ints, sts_kl h⟩
section
variable {X : Cx} {cl : Nat → Addr} {c : Cf} {e a b : Expr} {s sa sb : Ex} {E : XK} {pos : Pos} {tg : Expr} {bb : Bool}
/-- the mode of an expression that is walked: owned ones only within expressions -/
abbrev moOf (b : Bool) : Mo := if b = true then .safe else .rd
theorem sts_mo {K : PySem.W.Frag} {hT hid : Addr → Prop} {H0 H1 : Hp} {w : W} {v : V} {items : List W} (hs : ∀ a, hT a → hid a) (h : PWm K (moOf bb) hT hid H0 w H1 v) (e : wSeq w = some items) : ∃ b a vs G, v = .ref a ∧ Ims K hid H1 items vs ∧ Sts K (if bb = true then hid else hT) H1 b a vs G := by
  cases bb with
  | true => exact sts_safe h e
  | false => exact sts_rd hs h e
/-- the items stay what they are -/
theorem its_at {K : PySem.W.Frag} {hid hid' : Addr → Prop} {H1 Ha : Hp} {items : List W} {vs : List V} {i : Nat} {x : V} (h : Ims K hid H1 items vs) (hh : ∀ a, hid' a → hid a ∨ Nw H1 a) (m : Sm hid' H1 Ha) (hx : vs[i]? = some x) : ∃ w, items[i]? = some w ∧ Im K hid' Ha w x := by
  obtain ⟨w, e1, e2⟩ := h.getV hx
  exact ⟨w, e1, Im.mono (kp_of m hh) hh _ _ e2⟩
theorem ix_seqW (h : EX X cl c (moOf bb) e s E) : IX X cl c bb tg e (sSeq s) E := PI_imp (pi_seqx h) fun σ H R ⟨hT, hid, tp, ρ, t, S, o⟩ => by
  refine ⟨hT, hid, tp, ρ, t, S, o.seq later_src fun w t1 v1 H1 e1 m1 k1 p1 o1 => ?_⟩
  obtain ⟨items, ei, o1⟩ := rOf_ok o1
  obtain ⟨b, a, vs, G, ev, hi, st⟩ := sts_mo S.sub p1 ei
  refine ⟨b, a, ev, ⟨vs, st.sq _ st.here⟩, Out.ok_ o1 k1 Sm.refl ⟨G, st.here, ?_, ?_, st.stay, ?_⟩⟩
  · intro i Ha hl g
    have q := st.sq _ g
    have hl' : i < vs.length := by rw [← hi.length]; exact hl
    cases b with
    | true => exact walk_tup.goes i Ha hl' q
    | false => exact walk_list.goes i Ha hl' q
  · intro Ha g
    have q := st.sq _ g
    rw [hi.length]
    cases b with
    | true => exact walk_tup.stops Ha q
    | false => exact walk_list.stops Ha q
  · intro hid' hh i Ha x Hb hl g m y
    have q := st.sq _ g
    have hl' : i < vs.length := by rw [← hi.length]; exact hl
    have z : YAt vs i Ha x Hb := by
      cases b with
      | true => exact walk_tup.yields i Ha x Hb hl' q y
      | false => exact walk_list.yields i Ha x Hb hl' q y
    obtain ⟨e2, e3⟩ := z
    subst e2
    exact ⟨Sm.refl, its_at hi hh m e3⟩

/-! ### ranges -/
def rngW (lo c : Int) (n : Nat) : List W := (List.range n).map fun i => .int (lo + (i : Nat) * c)
theorem rngW_len {lo c : Int} {n : Nat} : (rngW lo c n).length = n := by unfold rngW; simp
theorem rngW_get {lo c : Int} {n i : Nat} (h : i < n) : (rngW lo c n)[i]? = some (.int (lo + (i : Nat) * c)) := by
  unfold rngW
  rw [List.getElem?_map, List.getElem?_range h]; rfl
def small62 (i : Int) : Bool := decide (-4611686018427387904 ≤ i ∧ i < 4611686018427387904)
def gRng1 : List W → Option (List W)
  | [.int j] => if small62 j = true then some (rngW 0 1 j.toNat) else none
  | _ => none
def gRng2 : List W → Option (List W)
  | [.int i, .int j] => if (small62 i && small62 j) = true then some (rngW i 1 (j - i).toNat) else none
  | _ => none
def sRng (g : List W → Option (List W)) (ss : Exs) : Exs := fun ρ t => (ss ρ t).bind fun ws t => rOf (g ws) t
theorem src_rng {K : PySem.W.Frag} {hx hid : Addr → Prop} {H : Hp} {lo : Int} {n : Nat} : SrcOk K hx hid H (rngW lo 1 n) (Itr lo n) := by
  refine ⟨fun _ => True, trivial, fun i Ha hl _ => ?_, fun Ha _ => ?_, fun _ _ _ _ _ _ => trivial, fun hid' hh i Ha x Hb hl _ m y => ?_⟩
  · rw [rngW_len] at hl; exact hl
  · rw [rngW_len]; exact Nat.le_refl _
  · rw [rngW_len] at hl
    obtain ⟨e1, e2⟩ := y
    subst e1; subst e2
    refine ⟨Sm.refl, _, rngW_get hl, ?_⟩
    rw [Int.mul_one]; exact .int _
theorem small62_ok {i : Int} (h : small62 i = true) : -(2 ^ 62) ≤ i ∧ i < 2 ^ 62 := of_decide_eq_true h
theorem bos_ints1 {K : PySem.W.Frag} {hT hid : Addr → Prop} {H : Hp} {i : Int} {vs : List V} (h : Bos K hT hid H [.int i] vs) : vs = [.int i] := by
  obtain ⟨v, rfl, r⟩ := bos1 h
  rw [rd_int r]
theorem bos_ints2 {K : PySem.W.Frag} {hT hid : Addr → Prop} {H : Hp} {i j : Int} {vs : List V} (h : Bos K hT hid H [.int i, .int j] vs) : vs = [.int i, .int j] := by
  obtain ⟨v, v', rfl, r, r'⟩ := bos2 h
  rw [rd_int r, rd_int r']
theorem ix_rng1 {p pos : Pos} {ss : Exs} (hg : Gl X "range") (hm : X.mg "range" = none) (ha : AX X cl c false [a] ss E) (hs : starEach [a] X.env = [(false, eval a X.env)]) : IX X cl c bb tg (.Call (.Name "range" p) [a] [] pos) (sRng gRng1 ss) E :=
  PI_imp (pi_range1 hg hm ha hs) fun σ H R ⟨hT, hid, tp, ρ, t, S, o⟩ => by
    refine ⟨hT, hid, tp, ρ, t, S, o.seq later_src fun ws t1 vs H1 e1 m1 k1 p1 o1 => ?_⟩
    obtain ⟨items, ei, o1⟩ := rOf_ok o1
    unfold gRng1 at ei
    split at ei
    · obtain ⟨q, e2⟩ := if_some ei
      subst e2
      obtain ⟨h1, h2⟩ := small62_ok q
      exact ⟨_, bos_ints1 p1, h1, h2, Out.ok_ o1 k1 Sm.refl src_rng⟩
    · cases ei
theorem ix_rng2 {p pos : Pos} {ss : Exs} (hg : Gl X "range") (hm : X.mg "range" = none) (ha : AX X cl c false [a, b] ss E) (hs : starEach [a, b] X.env = [(false, eval a X.env), (false, eval b X.env)]) (hs2 : starEach [b] X.env = [(false, eval b X.env)]) : IX X cl c bb tg (.Call (.Name "range" p) [a, b] [] pos) (sRng gRng2 ss) E :=
  PI_imp (pi_range2 hg hm ha hs hs2) fun σ H R ⟨hT, hid, tp, ρ, t, S, o⟩ => by
    refine ⟨hT, hid, tp, ρ, t, S, o.seq later_src fun ws t1 vs H1 e1 m1 k1 p1 o1 => ?_⟩
    obtain ⟨items, ei, o1⟩ := rOf_ok o1
    unfold gRng2 at ei
    split at ei
    · obtain ⟨q, e2⟩ := if_some ei
      subst e2
      rw [Bool.and_eq_true] at q
      obtain ⟨h1, h2⟩ := small62_ok q.1
      obtain ⟨h3, h4⟩ := small62_ok q.2
      exact ⟨_, _, bos_ints2 p1, ⟨h1, h2, h3, h4⟩, Out.ok_ o1 k1 Sm.refl src_rng⟩
    · cases ei

/-! ### enumerate, zip -/
def pairW (xs ys : List W) : List W := (xs.zip ys).map fun p => .tuple [p.1, p.2]
def sEnum (s : Ex) : Exs := fun ρ t => (s ρ t).bind fun w t => (rOf (wSeq w) t).bind fun xs t => .ok (pairW (rngW 0 1 xs.length) xs) t
theorem pairW_get {xs ys : List W} {i : Nat} {x y : W} (h1 : xs[i]? = some x) (h2 : ys[i]? = some y) : (pairW xs ys)[i]? = some (.tuple [x, y]) := by
  unfold pairW
  have e : (xs.zip ys)[i]? = some (x, y) := List.getElem?_zip_eq_some.mpr ⟨h1, h2⟩
  rw [List.getElem?_map, e]; rfl
theorem pairW_len {xs ys : List W} : (pairW xs ys).length = min xs.length ys.length := by unfold pairW; simp
theorem im_pair {K : PySem.W.Frag} {hid' : Addr → Prop} {Ha : Hp} {T : Addr} {x y : V} {w u : W} (hT : Ha T = none) (h1 : Im K hid' Ha w x) (h2 : Im K hid' Ha u y) : Im K hid' (upd Ha T (.tup [x, y])) (.tuple [w, u]) (.ref T) :=
  .tup (.inl (.inl upd_same)) (.cons ((im_new hT fun a z => .inl z).1 _ _ h1) (.cons ((im_new hT fun a z => .inl z).1 _ _ h2) .nil))
theorem ix_enum {p pos tpos : Pos} {elts : List Expr} {kk : Nat} (hg : Gl X "enumerate") (hm : X.mg "enumerate" = none) (ha : EX X cl c (moOf bb) a sa E) (hs : starEach [a] X.env = [(false, eval a X.env)]) : IX X cl c bb (.Tuple elts kk tpos) (.Call (.Name "enumerate" p) [a] [] pos) (sEnum sa) E :=
  PI_imp (pi_enumx hg hm (pa_cons ha pa_nil hs) hs) fun σ H R ⟨hT, hid, tp, ρ, t, S, o⟩ => by
    refine ⟨hT, hid, tp, ρ, t, S, o.seq later_src fun w t1 v1 H1 e1 m1 k1 p1 o1 => ?_⟩
    cases ei : wSeq w with
    | none => rw [ei] at o1; exact False.elim o1
    | some items =>
      rw [ei] at o1
      have o1 : Out cl tp E H1 (.ok (pairW (rngW 0 1 items.length) items) t1) (PSrc X.K bb hT hid) R := o1
      obtain ⟨b, a, vs, G, ev, hi, st⟩ := sts_mo S.sub p1 ei
      have en : (pairW (rngW 0 1 items.length) items).length = vs.length := by rw [pairW_len, rngW_len, Nat.min_self, hi.length]
      refine ⟨b, a, vs, by rw [ev], st.sq _ st.here, Out.ok_ o1 k1 Sm.refl ⟨G, st.here, fun i Ha hl g => ?_, fun Ha g => ?_, st.stay, fun hid' hh i Ha x Hb hl g m y => ?_⟩⟩
      · rw [en] at hl
        exact ⟨vs, vs[i], st.sq _ g, by simp [hl]⟩
      · exact ⟨vs, st.sq _ g, en.symm⟩
      · rw [en] at hl
        obtain ⟨T, x', e2, hn, e3, f⟩ := y
        subst e2; subst e3
        obtain ⟨u, e4, e5⟩ := its_at hi hh m (f vs (st.sq _ g))
        refine ⟨Sm.new hn, _, pairW_get (rngW_get (by rw [hi.length]; exact hl)) e4, ?_⟩
        rw [show (0 : Int) + (i : Nat) * 1 = (i : Nat) by omega]
        exact im_pair hn (.int _) e5
def sZip (s u : Ex) : Exs := fun ρ t => (s ρ t).bind fun w t => (u ρ t).bind fun w' t => (rOf (wSeq w) t).bind fun xs t => (rOf (wSeq w') t).bind fun ys t => .ok (pairW xs ys) t
theorem pwm_mono {K : PySem.W.Frag} {c : Cf} {hT hid : Addr → Prop} {tp : Option (Addr × List Addr)} {ρ : Sl} {σ : L2.St} {t : Tp} {H0 H H' : Hp} {w : W} {v : V} (S : StE K c hT hid tp ρ σ H t) (h : PWm K (moOf bb) hT hid H0 w H v) (m : Sm (tps tp) H H') : PWm K (moOf bb) hT hid H0 w H' v := by
  cases bb with
  | true => exact Im.mono (m.kp fun x z => S.sub x (S.tph x z)) (fun _ z => .inl z) _ _ (show Im K hid H w v from h)
  | false => exact rdb_mono S (show Rdb K hT hid H w v from h) m
theorem ix_zip {p pos tpos : Pos} {elts : List Expr} {kk : Nat} (hg : Gl X "zip") (hm : X.mg "zip" = none) (ha : EX X cl c (moOf bb) a sa E) (hb : EX X cl c (moOf bb) b sb E) (hs : starEach [a, b] X.env = (false, eval a X.env) :: starEach [b] X.env) (hs2 : starEach [b] X.env = [(false, eval b X.env)]) (hpl : (backTo pos (starEach [b] X.env)).any (·.1) = false) :
    IX X cl c bb (.Tuple elts kk tpos) (.Call (.Name "zip" p) [a, b] [] pos) (sZip sa sb) E :=
  PI_imp (pi_zipx hg hm (pa_cons ha (pa_cons hb pa_nil hs2) hs) hs hpl) fun σ H R ⟨hT, hid, tp, ρ, t, S, o⟩ => by
    refine ⟨hT, hid, tp, ρ, t, S, o.seq later_src fun w t1 v1 H1 e1 m1 k1 p1 o1 => ?_⟩
    have S1 := S.sm m1 k1
    refine ⟨hT, hid, tp, ρ, t1, S1, o1.seq later_src fun w' t2 v2 H2 e2 m2 k2 p2 o2 => ?_⟩
    have p1' := pwm_mono S1 p1 m2
    cases ei : wSeq w with
    | none => rw [ei] at o2; exact False.elim o2
    | some items =>
      rw [ei] at o2
      cases ej : wSeq w' with
      | none => rw [ej] at o2; exact False.elim o2
      | some items2 =>
        rw [ej] at o2
        have o2 : Out cl tp E H2 (.ok (pairW items items2) t2) (PSrc X.K bb hT hid) R := o2
        obtain ⟨b1, a1, vs, G, ev, hi, st⟩ := sts_mo S.sub p1' ei
        obtain ⟨b2, a2, vs2, G2, ev2, hi2, st2⟩ := sts_mo S.sub p2 ej
        have en : (pairW items items2).length = min vs.length vs2.length := by rw [pairW_len, hi.length, hi2.length]
        refine ⟨b1, b2, a1, a2, vs, vs2, by rw [ev, ev2], st.sq _ st.here, st2.sq _ st2.here, Out.ok_ o2 k2 Sm.refl ⟨fun Ha => G Ha ∧ G2 Ha, ⟨st.here, st2.here⟩, fun i Ha hl g => ?_, fun Ha g => ?_, fun hx' hh Ha Hb m g => ⟨st.stay hx' hh Ha Hb m g.1, st2.stay hx' hh Ha Hb m g.2⟩, fun hid' hh i Ha x Hb hl g m y => ?_⟩⟩
        · rw [en] at hl
          exact ⟨vs, vs2, vs[i]'(by omega), vs2[i]'(by omega), st.sq _ g.1, st2.sq _ g.2, by simp [show i < vs.length by omega], by simp [show i < vs2.length by omega]⟩
        · exact ⟨vs, vs2, st.sq _ g.1, st2.sq _ g.2, en⟩
        · obtain ⟨T, x1, x2, e3, hn, e4, f1, f2⟩ := y
          subst e3; subst e4
          obtain ⟨u, e5, e6⟩ := its_at hi hh m (f1 vs (st.sq _ g.1))
          obtain ⟨u2, e7, e8⟩ := its_at hi2 hh m (f2 vs2 (st2.sq _ g.2))
          exact ⟨Sm.new hn, _, pairW_get e5 e7, im_pair hn e6 e8⟩
end
end Ev

end

section
/-! Ev5: targets, comprehensions. -/
namespace Ev
open PySem PySem.Spec PyProof.Rows L2
variable [Tb]

/-! ### targets -/
abbrev Gw := W → Sl → Option Sl
abbrev Gws := List W → Sl → Option Sl
def gN (i : Nat) : Gw := fun w ρ => some (ρ.set i (some w))
def gsN : Gws := fun ws ρ => match ws with
  | [] => some ρ
  | _ => none
def gsC (g : Gw) (gs : Gws) : Gws := fun ws ρ => match ws with
  | w :: r => (g w ρ).bind (gs r)
  | [] => none
def gTp (gs : Gws) : Gw := fun w ρ => match w with
  | .tuple ws => gs ws ρ
  | _ => none
def tGx (K : PySem.W.Frag) (c : Cf) (g : Gw) (is : List Nat) : TG := fun v σ H Q => ∃ hT hid tp ρ t w ρ', StE K c hT hid tp ρ σ H t ∧ Im K hid H w v ∧ g w ρ = some ρ' ∧
  ∀ σ', StE K c hT hid tp ρ' σ' H t → σ'.length = σ.length → (∀ j, j ∉ is → σ'[j]? = σ[j]?) → (∀ j, j ∉ is → ρ'[j]? = ρ[j]?) → Q σ' H
def tGxs (K : PySem.W.Frag) (c : Cf) (g : Gws) (is : List Nat) : TGs := fun vs σ H Q => ∃ hT hid tp ρ t ws ρ', StE K c hT hid tp ρ σ H t ∧ Ims K hid H ws vs ∧ g ws ρ = some ρ' ∧
  ∀ σ', StE K c hT hid tp ρ' σ' H t → σ'.length = σ.length → (∀ j, j ∉ is → σ'[j]? = σ[j]?) → (∀ j, j ∉ is → ρ'[j]? = ρ[j]?) → Q σ' H
abbrev GX (X : Cx) (c : Cf) (tg : Expr) (g : Gw) (is : List Nat) : Prop := PG X tg (tGx X.K c g is)
structure GXs (X : Cx) (c : Cf) (tgs : List Expr) (g : Gws) (is : List Nat) (n : Nat) : Prop where
  run : PGs X tgs (tGxs X.K c g is)
  len : ∀ ws ρ ρ', g ws ρ = some ρ' → ws.length = n
section
variable {X : Cx} {c : Cf} {pos : Pos}
theorem PG_imp {e : Expr} {t t' : TG} (h : PG X e t) (i : ∀ v σ H Q, t' v σ H Q → t v σ H Q) : PG X e t' := ⟨fun pins s σ H v u Q I r q => h.run pins s σ H v u Q I r (i v σ H Q q)⟩
theorem PGs_imp {e : List Expr} {t t' : TGs} (h : PGs X e t) (i : ∀ v σ H Q, t' v σ H Q → t v σ H Q) : PGs X e t' := ⟨fun pins s σ H v u Q I r q => h.run pins s σ H v u Q I r (i v σ H Q q)⟩
theorem gx_name {i : Nat} {x : Str} (hN : X.N.Nodup) (hi : X.N[i]? = some x) (hx : Loc X.env.scope x) (hf : X.fn x = true ∨ X.env.scope.names.lookup x = some .local) (hm : i ∉ c.M) (hs : c.scr ≠ some i) (ht : c.tape ≠ some i) : GX X c (.Name x pos) (gN i) [i] :=
  PG_imp (pg_name hN hi hx hf) fun v σ H Q ⟨hT, hid, tp, ρ, t, w, ρ', S, p, e, k⟩ => by
    cases e
    exact k _ (S.set hm hs ht p) (List.length_set ..) (fun j hj => List.getElem?_set_ne fun z => hj (by simp [z])) fun j hj => List.getElem?_set_ne fun z => hj (by simp [z])
theorem gxs_nil : GXs X c [] gsN [] 0 := by
  refine ⟨PGs_imp pgs_nil fun v σ H Q ⟨hT, hid, tp, ρ, t, ws, ρ', S, p, e, k⟩ => ?_, fun ws ρ ρ' h => ?_⟩
  · cases ws with
    | nil =>
      cases p; cases e
      exact ⟨rfl, k _ S rfl (fun _ _ => rfl) fun _ _ => rfl⟩
    | cons w ws => cases e
  · cases ws with
    | nil => rfl
    | cons w ws => cases h
theorem gxs_cons {e : Expr} {es : List Expr} {g : Gw} {gs : Gws} {is js : List Nat} {n : Nat} (h1 : GX X c e g is) (h2 : GXs X c es gs js n) (hs : (assignEach (e :: es) X.env).map (·.2) = assign e X.env :: (assignEach es X.env).map (·.2)) : GXs X c (e :: es) (gsC g gs) (is ++ js) (n + 1) := by
  refine ⟨PGs_imp (pgs_cons h1 h2.run hs) fun vs σ H Q ⟨hT, hid, tp, ρ, t, ws, ρ', S, p, e, k⟩ => ?_, fun ws ρ ρ' h => ?_⟩
  · cases ws with
    | nil => cases e
    | cons w ws =>
      cases p with
      | cons p1 p2 =>
        cases eg : g w ρ with
        | none => rw [show gsC g gs (w :: ws) ρ = (g w ρ).bind (gs ws) from rfl, eg] at e; cases e
        | some ρ1 =>
          rw [show gsC g gs (w :: ws) ρ = (g w ρ).bind (gs ws) from rfl, eg] at e
          refine ⟨_, _, rfl, hT, hid, tp, ρ, t, w, ρ1, S, p1, eg, fun σ1 S1 l1 f1 f1' => ⟨hT, hid, tp, ρ1, t, ws, ρ', S1, p2, e, fun σ2 S2 l2 f2 f2' => k σ2 S2 (l2.trans l1) (fun j hj => ?_) fun j hj => ?_⟩⟩
          · simp only [List.mem_append, not_or] at hj
            rw [f2 j hj.2, f1 j hj.1]
          · simp only [List.mem_append, not_or] at hj
            rw [f2' j hj.2, f1' j hj.1]
  · cases ws with
    | nil => cases h
    | cons w ws =>
      cases eg : g w ρ with
      | none => rw [show gsC g gs (w :: ws) ρ = (g w ρ).bind (gs ws) from rfl, eg] at h; cases h
      | some ρ1 =>
        rw [show gsC g gs (w :: ws) ρ = (g w ρ).bind (gs ws) from rfl, eg] at h
        rw [List.length_cons, h2.len ws ρ1 ρ' h]
theorem gx_tup {es : List Expr} {k : Nat} {gs : Gws} {is : List Nat} {n : Nat} (hc : X.calm = true) (h : GXs X c es gs is n) (hn : (assignEach es X.env).length = n) (hst : (assignEach es X.env).findIdx? (·.1) = none) : GX X c (.Tuple es k pos) (gTp gs) is :=
  PG_imp (pg_tup hc h.run hn hst) fun v σ H Q ⟨hT, hid, tp, ρ, t, w, ρ', S, p, e, k⟩ => by
    cases w with
    | tuple ws =>
      cases p with
      | tup h1 h2 => exact ⟨_, _, rfl, h1, by rw [← h2.length]; exact h.len _ _ _ e, hT, hid, tp, ρ, t, ws, ρ', S, h2, e, k⟩
    | _ => cases e
end

/-! ### comprehensions -/
theorem wipe_get {α : Type} (f : List (Option α) → List Nat → List (Option α)) (f0 : ∀ l, f l [] = l) (f1 : ∀ l v vs, f l (v :: vs) = (f l vs).set v none) : ∀ (vs : List Nat) (l : List (Option α)) (j : Nat), (f l vs)[j]? = if j ∈ vs ∧ j < l.length then some none else l[j]?
  | [], l, j => by rw [f0]; simp
  | v :: vs, l, j => by
    have len : ∀ (vs : List Nat), (f l vs).length = l.length := fun vs => by
      induction vs with
      | nil => rw [f0]
      | cons v vs ih => rw [f1, List.length_set, ih]
    rw [f1]
    by_cases e : v = j
    · subst e
      by_cases hl : v < l.length
      · rw [List.getElem?_set_self (by rw [len]; exact hl), if_pos ⟨List.mem_cons_self, hl⟩]
      · rw [List.getElem?_eq_none (by rw [List.length_set, len]; omega), if_neg (fun z => hl z.2), List.getElem?_eq_none (by omega)]
    · rw [List.getElem?_set_ne e, wipe_get f f0 f1 vs l j]
      have : (j ∈ v :: vs ∧ j < l.length) ↔ (j ∈ vs ∧ j < l.length) := by
        constructor
        · rintro ⟨h, h2⟩
          rcases List.mem_cons.mp h with z | z
          · exact absurd z.symm e
          · exact ⟨z, h2⟩
        · rintro ⟨h, h2⟩; exact ⟨List.mem_cons_of_mem _ h, h2⟩
      by_cases q : j ∈ vs ∧ j < l.length
      · rw [if_pos q, if_pos (this.mpr q)]
      · rw [if_neg q, if_neg (fun z => q (this.mp z))]
theorem wipe_eq {σ σ2 : L2.St} {vs is : List Nat} (hl : σ2.length = (L2.wipe σ vs).length) (hs : ∀ i ∈ is, i ∈ vs) (h : ∀ j, j ∉ is → σ2[j]? = (L2.wipe σ vs)[j]?) : L2.wipe σ2 vs = L2.wipe σ vs := by
  have q := wipe_get (α := V) L2.wipe (fun _ => rfl) (fun _ _ _ => rfl)
  rw [wipe_length] at hl
  apply List.ext_getElem?
  intro j
  rw [q vs σ2 j, q vs σ j]
  by_cases hj : j ∈ vs ∧ j < σ.length
  · rw [if_pos hj, if_pos ⟨hj.1, by rw [hl]; exact hj.2⟩]
  · rw [if_neg hj, if_neg (by rw [hl]; exact hj)]
    by_cases hi : j ∈ is
    · have h1 : ¬ j < σ.length := fun z => hj ⟨hs j hi, z⟩
      rw [List.getElem?_eq_none (by omega), List.getElem?_eq_none (by omega)]
    · rw [h j hi, q vs σ j, if_neg hj]
theorem wipeW_len (ρ : Sl) : ∀ vs, (wipeW ρ vs).length = ρ.length
  | [] => rfl
  | v :: vs => by unfold wipeW; rw [List.length_set, wipeW_len ρ vs]
def isLD : HO → Prop
  | .lst _ => True
  | .dK _ => True
  | .dT _ => True
  | _ => False
/-- a list or dict is written -/
theorem Sm.wr {ex : Addr → Prop} {H : Hp} {D : Addr} {u o : HO} (h : H D = some u) (hm : isLD u) (he : ex D) (ho : isLD o) : Sm ex H (upd H D o) := by
  have k : ∀ b v, b ≠ D → H b = some v → upd H D o b = some v := fun b v n e => by rw [upd_ne n]; exact e
  have nd : ∀ b v, H b = some v → ¬ isLD v → b ≠ D := fun b v e n z => by
    subst z; rw [h] at e; cases e; exact n hm
  refine ⟨fun a v n e _ => k a v (fun z => n (z ▸ he)) e, fun a xs r => ?_, fun a n => ?_, fun t => ?_⟩
  · rcases r with r | ⟨ob, r⟩
    · exact .inl (k _ _ (nd _ _ r fun z => z) r)
    · exact .inr ⟨ob, k _ _ (nd _ _ r fun z => z) r⟩
  · by_cases e : a = D
    · subst e; exact Nw.not upd_same fun ps z => by subst z; exact ho
    · obtain ⟨v, q, nt⟩ := Nw.ob n
      exact Nw.not (k a v e q) nt
  · intro p hp
    obtain ⟨ps, h1, h2, h3⟩ := t p hp
    refine ⟨ps, k _ _ (nd _ _ h1 fun z => z) h1, h2, fun pos cv hc => ?_⟩
    obtain ⟨cc, e1, e2⟩ := h3 pos cv hc
    exact ⟨cc, e1, k _ _ (nd _ _ e2 fun z => z) e2⟩
/-- .. one that is new since H1 -/
theorem Sm.wrNew {ex : Addr → Prop} {H1 H : Hp} {D : Addr} {u o : HO} (m : Sm ex H1 H) (hn : Nw H1 D) (h : H D = some u) (hm : isLD u) (ho : isLD o) : Sm ex H1 (upd H D o) := by
  have q : Sm (fun a => a = D) H (upd H D o) := Sm.wr h hm rfl ho
  refine ⟨fun a v n e nt => q.obj a v (fun z => ?_) (m.obj a v n e nt) nt, fun a xs r => q.tup a xs (m.tup a xs r), fun a n => q.dom a (m.dom a n), fun t => q.tab (m.tab t)⟩
  subst z; obtain ⟨ps, q⟩ := hn v e; exact nt ps q
theorem Kp.wr {hid : Addr → Prop} {H : Hp} {D : Addr} {u o : HO} (h : H D = some u) (hm : isLD u) (he : hid D) (ho : isLD o) : Kp hid H (upd H D o) := (Sm.wr (ex := hid) h hm he ho).kp fun _ z => z
theorem TpOk.wr {tp : Option (Addr × List Addr)} {H : Hp} {t : Tp} {D : Addr} {o : HO} {u : HO} (k : TpOk tp H t) (n : ¬ tps tp D) (h : H D = some u) (hm : isLD u) (ho : isLD o) : TpOk tp (upd H D o) t := k.of (Sm.wr (ex := fun _ => True) h hm trivial ho).tup fun a u ha e => by
  rw [upd_ne (fun z => n (by subst z; exact ha))]; exact e

def noexc {α : Type} : Rs α → Rs α
  | .ok a t => .ok a t
  | _ => .bad
def lcL (g : Gw) (tt : Et) (te : Ex) : List W → Sl → Tp → Rs (List W)
  | [], _, t => .ok [] t
  | x :: xs, ρ, t => match g x ρ with
    | none => .bad
    | some ρ1 => (noexc (tt ρ1 t)).bind fun b t1 => if b = true then (noexc (te ρ1 t1)).bind fun w t2 => (lcL g tt te xs ρ t2).bind fun ws t3 => .ok (w :: ws) t3 else lcL g tt te xs ρ t1
def few1M (ws : List W) : Bool := decide (ws.length ≤ 1000000)
def eLc (src : Exs) (vs : List Nat) (g : Gw) (tt : Et) (te : Ex) : Ex := fun ρ t => (src ρ t).bind fun items t => if few1M items = true then (noexc (lcL g tt te items (wipeW ρ vs) t)).bind fun ws t => .ok (.list ws) t else .bad
theorem noexc_ok {α β : Type} {r : Rs α} {f : α → Tp → Rs β} {b : β} {t : Tp} (h : (noexc r).bind f = .ok b t) : ∃ a t1, r = .ok a t1 ∧ f a t1 = .ok b t := by
  cases r with
  | ok a t1 => exact ⟨a, t1, rfl, h⟩
  | exc c t => cases h
  | bad => cases h
theorem bind_ok {α β : Type} {r : Rs α} {f : α → Tp → Rs β} {b : β} {t : Tp} (h : r.bind f = .ok b t) : ∃ a t1, r = .ok a t1 ∧ f a t1 = .ok b t := by
  cases r with
  | ok a t1 => exact ⟨a, t1, rfl, h⟩
  | exc c t => cases h
  | bad => cases h
def etYes : Et := fun _ t => .ok true t
theorem no_tps {K : PySem.W.Frag} {c : Cf} {hT hid : Addr → Prop} {tp : Option (Addr × List Addr)} {ρ : Sl} {σ : L2.St} {H : Hp} {t : Tp} {D : Addr} (S : StE K c hT hid tp ρ σ H t) (h : Nw H D) : ¬ tps tp D := fun z => S.dom D (S.sub D (S.tph D z)) h
section
variable {X : Cx} {cl : Nat → Addr} {c : Cf} {E : XK} {pos : Pos}
abbrev TsX (X : Cx) (cl : Nat → Addr) (c : Cf) (ifs : List Expr) (s : Et) (E : XK) : Prop := PTs X ifs (tTs X.K cl c s E)
theorem PTs_imp {e : List Expr} {t t' : TT} (h : PTs X e t) (i : ∀ σ H Q, t' σ H Q → t σ H Q) : PTs X e t' := ⟨fun pins s σ H Q I q => h.run pins s σ H Q I (i σ H Q q)⟩
theorem tsx_nil : TsX X cl c [] etYes E := PTs_imp pts_nil fun σ H Q ⟨hT, hid, tp, ρ, t, S, o⟩ => Out.ok_ o S.tap Sm.refl rfl
theorem tsx_one {e : Expr} {s : Et} (h : TX X cl c e s E) : TsX X cl c [e] s E := pts_one h
theorem lc_core' {K : PySem.W.Frag} {src : Exs} {vs is : List Nat} {g : Gw} {tt : Et} {te : Ex} {cT : Cf} (his : ∀ i ∈ is, i ∈ vs) (hvt : ∀ i ∈ vs, c.tape ≠ some i) :
    ∀ σ H Q, tEx K cl c .fresh (eLc src vs g tt te) E σ H Q → tLc (tSrc K cl c false src E) (tGx K c g is) (tTs K cl c tt E0) (tEx K cl c .safe te E0) vs σ H Q := by
  intro σ H Q ⟨hT, hid, tp, ρ, t, S, o⟩
  refine ⟨hT, hid, tp, ρ, t, S, o.seq later_pw fun items t1 J H1 e1 m1 k1 p1 o1 => ?_⟩
  obtain ⟨hf, o1⟩ := few_ok o1
  have S1 := S.sm m1 k1
  obtain ⟨G, g0⟩ := (show SrcOk K hT hid H1 items J from p1)
  intro D hD
  -- what the loop makes
  obtain ⟨ws, tE, eL, o1⟩ : ∃ ws tE, lcL g tt te items (wipeW ρ vs) t1 = .ok ws tE ∧ Out cl tp E H1 (.ok (.list ws) tE) (PWm K .fresh hT hid) Q := by
    cases q : lcL g tt te items (wipeW ρ vs) t1 with
    | ok ws tE => rw [q] at o1; exact ⟨ws, tE, rfl, o1⟩
    | exc e t => rw [q] at o1; exact False.elim o1
    | bad => rw [q] at o1; exact False.elim o1
  have hlen : items.length ≤ 1000000 := of_decide_eq_true hf
  let hid' : Addr → Prop := fun a => hid a ∨ a = D
  have hh' : ∀ a, hid' a → hid a ∨ Nw H1 a := fun a z => z.imp id fun e => by rw [e]; exact Nw.of hD
  have nD : ¬ tps tp D := no_tps S1 (Nw.of hD)
  have hx1 : ∀ a, tps tp a → hT a ∨ Nw H1 a := fun a z => .inl (S.tph a z)
  have hxD : ∀ a, (tps tp a ∨ a = D) → hT a ∨ Nw H1 a := fun a z => z.elim (fun z => .inl (S.tph a z)) fun e => .inr (by rw [e]; exact Nw.of hD)
  let Pv : Nat → Hp → Prop := fun i Ha => ∃ ti done dv rest, G Ha ∧ Sm (tps tp) H1 Ha ∧ TpOk tp Ha ti ∧ Ha D = some (.lst dv) ∧ Ims K hid' Ha done dv ∧ done.length ≤ i ∧ lcL g tt te (items.drop i) (wipeW ρ vs) ti = .ok rest tE ∧ done ++ rest = ws
  have fin : ∀ Ha, Pv items.length Ha → J.stop items.length Ha ∧ Q (.ref D) Ha := fun Ha ⟨ti, done, dv, rest, hG, hS, hk, hDa, hI, _, eR, ew⟩ => by
    refine ⟨g0.stop Ha hG, ?_⟩
    rw [List.drop_length] at eR
    cases eR
    rw [List.append_nil] at ew
    subst ew
    exact o1 _ _ hS hk ⟨D, rfl, .inl (Nw.of hD), fun o u z => (by rw [hDa] at z; cases z), .inl ⟨done, dv, rfl, hDa, hI⟩⟩
  refine ⟨fun i m Ha => m = items.length - i ∧ i ≤ items.length ∧ Pv i Ha, ⟨_, rfl, Nat.zero_le _, ?_⟩, ?_⟩
  · refine ⟨t1, [], [], ws, g0.stay (fun _ => False) (fun _ z => z.elim) _ _ (Sm.new hD) g0.here, Sm.new hD, k1.new hD, upd_same, .nil, Nat.zero_le _, eL, rfl⟩
  rintro i m Ha ⟨rfl, hi, p⟩
  by_cases hlt : i < items.length
  · refine .inr ⟨g0.go i Ha hlt (by obtain ⟨_, _, _, _, hG, _⟩ := p; exact hG), Pv (i + 1), fun H' p' => ⟨items.length - (i + 1), by omega, rfl, hlt, p'⟩, fun x H' y => ?_⟩
    obtain ⟨ti, done, dv, rest, hG, hS, hk, hDa, hI, hdl, eR, ew⟩ := p
    obtain ⟨mF, w, ei, iw⟩ := g0.yld hid' hh' i Ha x H' hlt hG (hS.imp fun a z => .inl (S.sub a (S.tph a z))) y
    have hdrop : items.drop i = w :: items.drop (i + 1) := by
      rw [List.drop_eq_getElem_cons hlt]
      rw [List.getElem?_eq_getElem hlt] at ei
      rw [Option.some.inj ei]
    rw [hdrop] at eR
    cases eg : g w (wipeW ρ vs) with
    | none => rw [show lcL g tt te (w :: items.drop (i + 1)) (wipeW ρ vs) ti = .bad by unfold lcL; rw [eg]] at eR; cases eR
    | some ρ1 =>
      have eR : ((noexc (tt ρ1 ti)).bind fun b t1 => if b = true then (noexc (te ρ1 t1)).bind fun w t2 => (lcL g tt te (items.drop (i + 1)) (wipeW ρ vs) t2).bind fun ws t3 => .ok (w :: ws) t3 else lcL g tt te (items.drop (i + 1)) (wipeW ρ vs) t1) = .ok rest tE := by
        rw [← eR]
        show _ = (match g w (wipeW ρ vs) with | none => _ | some ρ1 => _)
        rw [eg]
      obtain ⟨b, t2, et, eR⟩ := noexc_ok eR
      have mF' : Sm (tps tp) Ha H' := mF.imp fun _ z => z.elim
      have k2 : TpOk tp H' ti := Out.ok_ (cl := cl) (E := E) (P := fun _ _ _ _ => True) (Q := fun (_ : Unit) H' => TpOk tp H' ti) (a := ()) (v := ()) (fun _ _ _ k _ => k) hk mF trivial
      have dD : H' D = some (.lst dv) := mF.obj D _ (fun z => z) hDa fun ps z => by cases z
      have SB : StE K c hT hid' tp (wipeW ρ vs) (L2.wipe σ vs) H' ti := (S1.wipe vs hvt).hide (fun a z => .inl z) hh' (hS.trans mF') k2 fun a z => by
        rcases z with z | z
        · exact (hS.trans mF').dom a (S1.dom a z)
        · rw [z]; exact Nw.not dD fun ps z => by cases z
      refine ⟨hT, hid', tp, wipeW ρ vs, ti, w, ρ1, SB, iw, eg, fun σ2 S2 l2 f2 _ => ⟨wipe_eq l2 his f2, ?_⟩⟩
      refine ⟨hT, hid', tp, ρ1, ti, S2, ?_⟩
      rw [et]
      intro b' H3 m3 k3 eb
      have eb : b' = b := eb
      subst eb
      have S3 := S2.sm m3 k3
      have dD3 : H3 D = some (.lst dv) := m3.obj D _ nD dD fun ps z => by cases z
      have hI3 : Ims K hid' H3 done dv := Ims.mono ((mF'.trans m3).kp fun a z => .inl (S.sub a (S.tph a z))) (fun _ z => .inl z) _ _ hI
      cases b' with
      | false =>
        rw [if_neg Bool.false_ne_true] at eR ⊢
        exact ⟨t2, done, dv, rest, g0.stay (tps tp) hx1 _ _ (mF'.trans m3) hG, (hS.trans mF').trans m3, k3, dD3, hI3, by omega, eR, ew⟩
      | true =>
        rw [if_pos rfl] at eR ⊢
        obtain ⟨u, t3, ee, eR⟩ := noexc_ok eR
        obtain ⟨rs, t4, eR, e5⟩ := bind_ok eR
        cases e5
        refine ⟨hT, hid', tp, ρ1, t2, S3, ?_⟩
        rw [ee]
        intro y4 H4 m4 k4 p4
        have dD4 : H4 D = some (.lst dv) := m4.obj D _ nD dD3 fun ps z => by cases z
        have p4 : Im K hid' H4 u y4 := p4
        have hI4 : Ims K hid' H4 done dv := Ims.mono (m4.kp fun a z => .inl (S.sub a (S.tph a z))) (fun _ z => .inl z) _ _ hI3
        have kw : Kp hid' H4 (upd H4 D (.lst (dv ++ [y4]))) := Kp.wr dD4 trivial (.inr rfl) trivial
        refine ⟨dv, dD4, ?_, t3, done ++ [u], dv ++ [y4], rs, ?_, ?_, TpOk.wr k4 nD dD4 trivial trivial, upd_same, Ims.mono kw (fun _ z => .inl z) _ _ (hI4.append (.cons p4 .nil)), ?_, eR, ?_⟩
        · rw [← hI.length, sizeLine_eq]; omega
        · exact g0.stay (fun a => tps tp a ∨ a = D) hxD _ _ (((mF'.trans m3).trans m4).imp (fun a z => .inl z) |>.trans (Sm.wr dD4 trivial (.inr rfl) trivial)) hG
        · exact Sm.wrNew (((hS.trans mF').trans m3).trans m4) (Nw.of hD) dD4 trivial trivial
        · rw [List.length_append, List.length_singleton]; omega
        · rw [List.append_assoc]; exact ew
  · have e : i = items.length := by omega
    subst e
    exact .inl (fin Ha p)
/-- [elt for tg in iter if ..] -/
theorem ev_lc {elt tg iter : Expr} {ifs : List Expr} {scope : Scope} {own : List (Str × Nat)} {src : Exs} {is : List Nat} {g : Gw} {tt : Et} {te : Ex} (hc : X.calm = true) (hN : X.N.Nodup) (hi : IX X cl c false tg iter src E) (ok : BlkOk X.N X.env.scope scope own)
    (hg : ∀ (s : Shared) (H : Hp) (C : Addr) (cl : List (Str × Addr)) (fp : List Addr), GX (X.blk s H scope (compEnvC scope cl C X.env) fp) c tg g is)
    (ht : ∀ (s : Shared) (H : Hp) (C : Addr) (cl' : List (Str × Addr)) (fp : List Addr), TsX (X.blk s H scope (compEnvC scope cl' C X.env) fp) cl c ifs tt E0)
    (he : ∀ (s : Shared) (H : Hp) (C : Addr) (cl' : List (Str × Addr)) (fp : List Addr), EX (X.blk s H scope (compEnvC scope cl' C X.env) fp) cl c .safe elt te E0)
    (hs : ∀ x, foldedSetIterable iter X.env x = pure x) (his : ∀ i ∈ is, i ∈ own.map (·.2)) (hvt : ∀ i ∈ own.map (·.2), c.tape ≠ some i) :
    EX X cl c .fresh (.ListComp elt [⟨tg, iter, ifs, 0⟩] scope pos) (eLc src (own.map (·.2)) g tt te) E :=
  PE_imp (pe_lc hc hN hi ok hg ht he hs) (lc_core' (cT := c) his hvt)
end
end Ev

end

section
/-! Ev6: statements. -/
namespace Ev
open PySem PySem.Spec PyProof.Rows L2
variable [Tb]

def Wrt (H : Hp) (a : Addr) : Prop := ∃ o, H a = some o ∧ isLD o
/-- the slots and the heap within a def's (or a loop's) work: what was there at H0 stays, but the tape and ow0 -/
structure StS (K : PySem.W.Frag) (c : Cf) (H0 : Hp) (ow0 hb hT hid : Addr → Prop) (tp : Option (Addr × List Addr)) (ρ : Sl) (σ : L2.St) (H : Hp) (t : Tp) : Prop where
  st : StE K c hT hid tp ρ σ H t
  hid0 : ∀ a, hid a → hb a ∨ Nw H0 a
  sm : Sm (fun a => tps tp a ∨ ow0 a) H0 H
  own : ∀ i w a, ρ[i]? = some (some w) → i ∈ c.M → σ[i]? = some (some (.ref a)) → (Nw H0 a ∨ ow0 a) ∧ Wrt H a
theorem Ow.wrt {K : PySem.W.Frag} {hid : Addr → Prop} {H : Hp} {w : W} {a : Addr} (h : Ow K hid H w a) (nf : ∀ o u, H a ≠ some (.frz o u)) : Wrt H a := by
  rcases h with ⟨ws, vs, h1, h2, h3⟩ | ⟨ws, vs, h1, h2, h3⟩ | ⟨ws, vs, h1, h2, h3⟩
  · exact ⟨_, h2, trivial⟩
  · rcases h2 with h2 | ⟨o, h2⟩
    · exact ⟨_, h2, trivial⟩
    · exact absurd h2 (nf _ _)
  · rcases h2 with h2 | ⟨o, h2⟩
    · exact ⟨_, h2, trivial⟩
    · exact absurd h2 (nf _ _)
theorem Wrt.nf {H : Hp} {a : Addr} (h : Wrt H a) : ∀ o u, H a ≠ some (.frz o u) := by
  obtain ⟨o, h, l⟩ := h
  intro o' u z
  rw [h] at z; cases z; exact l
section
variable {K : PySem.W.Frag} {c : Cf} {H0 : Hp} {ow0 hb hT hid : Addr → Prop} {tp : Option (Addr × List Addr)} {ρ : Sl} {σ : L2.St} {H H' : Hp} {t t' : Tp}
theorem StS.next (S : StS K c H0 ow0 hb hT hid tp ρ σ H t) (m : Sm (tps tp) H H') (k : TpOk tp H' t') : StS K c H0 ow0 hb hT hid tp ρ σ H' t' := by
  refine ⟨S.st.sm m k, S.hid0, S.sm.trans (m.imp fun a z => .inl z), fun i w a e hi hs => ?_⟩
  obtain ⟨h1, o, h2, l⟩ := S.own i w a e hi hs
  refine ⟨h1, o, m.obj a o (fun z => ?_) h2 fun ps z => (by subst z; exact l), l⟩
  obtain ⟨a', e', _, n, _⟩ := S.st.own i w e hi
  rw [hs] at e'; cases e'
  exact n (S.st.tph a z)
theorem StS.set {i : Nat} {w : W} {v : V} (S : StS K c H0 ow0 hb hT hid tp ρ σ H t) (hm : i ∉ c.M) (hs : c.scr ≠ some i) (ht : c.tape ≠ some i) (h : Im K hid H w v) : StS K c H0 ow0 hb hT hid tp (ρ.set i (some w)) (σ.set i (some v)) H t := by
  refine ⟨S.st.set hm hs ht h, S.hid0, S.sm, fun j w' a e hj hsj => ?_⟩
  have nj : i ≠ j := fun z => hm (z ▸ hj)
  rw [List.getElem?_set_ne nj] at e hsj
  exact S.own j w' a e hj hsj
theorem StS.clear {i : Nat} (S : StS K c H0 ow0 hb hT hid tp ρ σ H t) : StS K c H0 ow0 hb hT hid tp (ρ.set i none) σ H t := by
  have key : ∀ {j : Nat} {w : W}, (ρ.set i none)[j]? = some (some w) → ρ[j]? = some (some w) := fun {j w} e => by
    rcases get_set e with ⟨_, e2, _⟩ | e2
    · cases e2
    · exact e2.2
  refine ⟨⟨by rw [List.length_set]; exact S.st.len, fun j w e => S.st.im j w (key e), fun j w e => S.st.scr j w (key e), fun j w e => S.st.own j w (key e), fun j k w w' a e e' => S.st.sep j k w w' a (key e) (key e'), S.st.dom, S.st.sub, S.st.tph, S.st.tap, S.st.slot, S.st.tbs⟩, S.hid0, S.sm, fun j w a e => S.own j w a (key e)⟩
/-- a slot comes to own what is new -/
theorem StS.take {i : Nat} {w : W} {a : Addr} (S : StS K c H0 ow0 hb hT hid tp ρ σ H t) (hi : i ∈ c.M) (hs : c.scr ≠ some i) (ht : c.tape ≠ some i) (hn : Nw H0 a ∨ ow0 a) (hh : hid a) (hnT : ¬ hT a) (ho : Ow K hid H w a) (hw : Wrt H a)
    (hsep : ∀ j w', ρ[j]? = some (some w') → j ∈ c.M → j ≠ i → σ[j]? ≠ some (some (.ref a))) : StS K c H0 ow0 hb hT hid tp (ρ.set i (some w)) (σ.set i (some (.ref a))) H t := by
  have len := S.st.len
  refine ⟨⟨by rw [List.length_set, List.length_set, len], fun j w' e n n2 => ?_, fun j w' e n => ?_, fun j w' e n => ?_, fun j k w1 w2 b e1 e2 n1 n2 e3 e4 => ?_, S.st.dom, S.st.sub, S.st.tph, S.st.tap, fun j e => ?_, S.st.tbs⟩, S.hid0, S.sm, fun j w' b e hj hsj => ?_⟩
  · rcases get_set e with ⟨e1, e2, e3⟩ | ⟨e1, e2⟩
    · subst e1; exact absurd hi n
    · obtain ⟨u, h1, h2⟩ := S.st.im j w' e2 n n2
      exact ⟨u, by rw [List.getElem?_set_ne (fun z => e1 z.symm)]; exact h1, h2⟩
  · rcases get_set e with ⟨e1, e2, e3⟩ | ⟨e1, e2⟩
    · subst e1; exact absurd n hs
    · obtain ⟨b, ns, h1, h2⟩ := S.st.scr j w' e2 n
      exact ⟨b, ns, by rw [List.getElem?_set_ne (fun z => e1 z.symm)]; exact h1, h2⟩
  · rcases get_set e with ⟨e1, e2, e3⟩ | ⟨e1, e2⟩
    · subst e1; cases e2
      exact ⟨a, by rw [List.getElem?_set_self (by rw [← len]; exact e3)], hh, hnT, ho⟩
    · obtain ⟨b, h1, h2⟩ := S.st.own j w' e2 n
      exact ⟨b, by rw [List.getElem?_set_ne (fun z => e1 z.symm)]; exact h1, h2⟩
  · rcases get_set e1 with ⟨q1, q2, q3⟩ | ⟨q1, q2⟩
    · rcases get_set e2 with ⟨r1, r2, r3⟩ | ⟨r1, r2⟩
      · rw [q1, r1]
      · subst q1
        rw [List.getElem?_set_self (by rw [← len]; exact q3)] at e3
        rw [List.getElem?_set_ne (fun z => r1 z.symm)] at e4
        cases e3
        exact absurd e4 (hsep k w2 r2 n2 r1)
    · rcases get_set e2 with ⟨r1, r2, r3⟩ | ⟨r1, r2⟩
      · subst r1
        rw [List.getElem?_set_self (by rw [← len]; exact r3)] at e4
        rw [List.getElem?_set_ne (fun z => q1 z.symm)] at e3
        cases e4
        exact absurd e3 (hsep j w1 q2 n1 q1)
      · rw [List.getElem?_set_ne (fun z => q1 z.symm)] at e3
        rw [List.getElem?_set_ne (fun z => r1 z.symm)] at e4
        exact S.st.sep j k w1 w2 b q2 r2 n1 n2 e3 e4
  · obtain ⟨x, y, h1, h2⟩ := S.st.slot j e
    exact ⟨x, y, h1, by rw [List.getElem?_set_ne (fun z => ht (by rw [z]; exact e))]; exact h2⟩
  · rcases get_set e with ⟨e1, e2, e3⟩ | ⟨e1, e2⟩
    · subst e1
      rw [List.getElem?_set_self (by rw [← len]; exact e3)] at hsj
      cases hsj
      exact ⟨hn, hw⟩
    · rw [List.getElem?_set_ne (fun z => e1 z.symm)] at hsj
      exact S.own j w' b e2 hj hsj
/-- more is hidden -/
theorem StS.hide (S : StS K c H0 ow0 hb hT hid tp ρ σ H t) {hid' : Addr → Prop} (h1 : ∀ a, hid a → hid' a) (h2 : ∀ a, hid' a → hid a ∨ Nw H a) (m : Sm (tps tp) H H') (k : TpOk tp H' t') (h3 : ∀ a, hid' a → ¬ Nw H' a) : StS K c H0 ow0 hb hT hid' tp ρ σ H' t' :=
  ⟨S.st.hide h1 h2 m k h3, fun a z => (h2 a z).elim (S.hid0 a) fun e => .inr (S.sm.none e), (S.next m k).sm, (S.next m k).own⟩
/-- a slot takes what an expression made -/
theorem StS.fresh {i : Nat} {w : W} {v : V} (S : StS K c H0 ow0 hb hT hid tp ρ σ H t) (hi : i ∈ c.M) (hs : c.scr ≠ some i) (ht : c.tape ≠ some i) (m : Sm (tps tp) H H') (k : TpOk tp H' t') (p : Fe K (fun _ => False) hid H H' w v) : ∃ hid', StS K c H0 ow0 hb hT hid' tp (ρ.set i (some w)) (σ.set i (some v)) H' t' := by
  obtain ⟨a, e, n, nf, ho⟩ := p
  subst e
  have hn : Nw H a := n.elim id fun z => z.elim
  have hw := ho.wrt nf
  have ha : ¬ Nw H' a := by obtain ⟨o, h, l⟩ := hw; exact Nw.not h fun ps z => by subst z; exact l
  let hid' : Addr → Prop := fun x => hid x ∨ x = a
  have S' : StS K c H0 ow0 hb hT hid' tp ρ σ H' t' := S.hide (fun x z => .inl z) (fun x z => z.imp id fun e => by rw [e]; exact hn) m k fun x z => by
    rcases z with z | z
    · exact m.dom x (S.st.dom x z)
    · rw [z]; exact ha
  refine ⟨hid', S'.take hi hs ht (.inl (S.sm.none hn)) (.inr rfl) (fun z => S.st.dom a (S.st.sub a z) hn) ho hw fun j w' e hj _ z => ?_⟩
  obtain ⟨b, e1, h1, _⟩ := S.st.own j w' e hj
  rw [z] at e1; cases e1
  exact S.st.dom _ h1 hn
/-- an owned list is written -/
theorem StS.wr {i : Nat} {w w' : W} {D : Addr} {o : HO} (S : StS K c H0 ow0 hb hT hid tp ρ σ H t) (hi : i ∈ c.M) (hsc : c.scr ≠ some i) (hρ : ρ[i]? = some (some w)) (hσ : σ[i]? = some (some (.ref D))) (ho : isLD o) (hd : Ow K hid (upd H D o) w' D) :
    StS K c H0 ow0 hb hT hid tp (ρ.set i (some w')) σ (upd H D o) t := by
  obtain ⟨D', e, hh, hn, _⟩ := S.st.own i w hρ hi
  rw [hσ] at e; cases e
  obtain ⟨hb, u, hu, l⟩ := S.own i w D hρ hi hσ
  have kp : Kp hid H (upd H D o) := Kp.wr hu l hh ho
  have ne : ∀ x v, x ≠ D → H x = some v → upd H D o x = some v := fun x v n e => by rw [upd_ne n]; exact e
  have nt : ¬ tps tp D := fun z => hn (S.st.tph D z)
  refine ⟨⟨by rw [List.length_set]; exact S.st.len, fun j w1 e n n2 => ?_, fun j w1 e n => ?_, fun j w1 e n => ?_, fun j k w1 w2 b e1 e2 n1 n2 e3 e4 => ?_, fun a z => ?_, S.st.sub, S.st.tph, S.st.tap.wr nt hu l ho, S.st.slot, (Sm.wr (ex := fun _ => True) hu l trivial ho).tab S.st.tbs⟩, S.hid0, ?_, fun j w1 b e hj hs => ?_⟩
  · rcases get_set e with ⟨e1, e2, e3⟩ | ⟨e1, e2⟩
    · subst e1; exact absurd hi n
    · obtain ⟨x, h1, h2⟩ := S.st.im j w1 e2 n n2
      exact ⟨x, h1, Im.mono kp (fun _ z => .inl z) _ _ h2⟩
  · rcases get_set e with ⟨e1, e2, e3⟩ | ⟨e1, e2⟩
    · subst e1; exact absurd n hsc
    · obtain ⟨a, ns, h1, h2, h3⟩ := S.st.scr j w1 e2 n
      exact ⟨a, ns, h1, h2, h3.mono (fun _ z => .inl z) fun v nh q nt' => ne a v (fun z => nh (z ▸ hh)) q⟩
  · rcases get_set e with ⟨e1, e2, e3⟩ | ⟨e1, e2⟩
    · subst e1; cases e2
      exact ⟨D, hσ, hh, hn, hd⟩
    · obtain ⟨b, h1, h2, h3, h4⟩ := S.st.own j w1 e2 n
      have nb : b ≠ D := fun z => e1 (S.st.sep j i w1 w b e2 hρ n hi h1 (by rw [z]; exact hσ))
      exact ⟨b, h1, h2, h3, h4.mono kp (fun _ z => .inl z) fun v q nt' => ne b v nb q⟩
  · have key : ∀ {j : Nat} {x : W}, (ρ.set i (some w'))[j]? = some (some x) → ∃ y, ρ[j]? = some (some y) := fun {j x} e => by
      rcases get_set e with ⟨q1, q2, q3⟩ | ⟨q1, q2⟩
      · subst q1; exact ⟨w, hρ⟩
      · exact ⟨x, q2⟩
    obtain ⟨y1, f1⟩ := key e1
    obtain ⟨y2, f2⟩ := key e2
    exact S.st.sep j k y1 y2 b f1 f2 n1 n2 e3 e4
  · by_cases q : a = D
    · rw [q]; exact Nw.not upd_same fun ps z => by subst z; exact ho
    · obtain ⟨v, q1, q2⟩ := Nw.ob (S.st.dom a z)
      exact Nw.not (ne a v q q1) q2
  · rcases hb with hb | hb
    · exact Sm.wrNew S.sm hb hu l ho
    · exact S.sm.trans (Sm.wr hu l (.inr hb) ho)
  · have key : ∃ y, ρ[j]? = some (some y) := by
      rcases get_set e with ⟨q1, q2, q3⟩ | ⟨q1, q2⟩
      · subst q1; exact ⟨w, hρ⟩
      · exact ⟨w1, q2⟩
    obtain ⟨y, f⟩ := key
    obtain ⟨g1, v, g2, g3⟩ := S.own j y b f hj hs
    refine ⟨g1, ?_⟩
    by_cases q : b = D
    · subst q; exact ⟨o, upd_same, ho⟩
    · exact ⟨v, ne b v q g2, g3⟩
/-- less is hidden -/
theorem StE.show {K : PySem.W.Frag} {c c' : Cf} {hT hid hid' : Addr → Prop} {tp : Option (Addr × List Addr)} {ρ : Sl} {σ : L2.St} {H : Hp} {t : Tp} (S : StE K c hT hid tp ρ σ H t) (h1 : ∀ a, hid' a → hid a) (h2 : ∀ a, hT a → hid' a)
    (hM : ∀ i, i ∈ c'.M → i ∈ c.M) (hsc : c'.scr = c.scr) (htp : c'.tape = c.tape) (hin : ∀ i w a, ρ[i]? = some (some w) → i ∈ c'.M → σ[i]? = some (some (.ref a)) → hid' a)
    (hout : ∀ i w a, ρ[i]? = some (some w) → i ∈ c.M → i ∉ c'.M → σ[i]? = some (some (.ref a)) → c.scr ≠ some i → ¬ hid' a) : StE K c' hT hid' tp ρ σ H t := by
  have hh : ∀ a, hid' a → hid a ∨ Nw H a := fun a z => .inl (h1 a z)
  refine ⟨S.len, fun i w e n n2 => ?_, fun i w e n => ?_, fun i w e n => ?_, fun i j w w' a e1 e2 m1 m2 => S.sep i j w w' a e1 e2 (hM i m1) (hM j m2), fun a z => S.dom a (h1 a z), h2, S.tph, S.tap, fun i e => S.slot i (by rw [← htp]; exact e), S.tbs⟩
  · rw [hsc] at n2
    by_cases q : i ∈ c.M
    · obtain ⟨a, e1, y1, y2, y3⟩ := S.own i w e q
      have nh := hout i w a e q n e1 n2
      refine ⟨_, e1, ?_⟩
      rcases y3 with ⟨ws, vs, g1, g2, g3⟩ | ⟨ws, vs, g1, g2, g3⟩ | ⟨ws, vs, g1, g2, g3⟩
      · subst g1; exact .lst nh g2 (Ims.mono Kp.refl hh _ _ g3)
      · subst g1; exact .dK nh g2 (ImK.mono Kp.refl hh _ _ g3)
      · subst g1; exact .dT nh g2 (ImT.mono Kp.refl hh _ _ g3)
    · obtain ⟨v, e1, h⟩ := S.im i w e q n2
      exact ⟨v, e1, Im.mono Kp.refl hh _ _ h⟩
  · obtain ⟨a, ns, e1, e2, h⟩ := S.scr i w e (by rw [← hsc]; exact n)
    exact ⟨a, ns, e1, e2, h.mono hh fun o _ q _ => q⟩
  · obtain ⟨a, e1, y1, y2, y3⟩ := S.own i w e (hM i n)
    exact ⟨a, e1, hin i w a e n e1, y2, y3.mono Kp.refl hh fun o q _ => q⟩
/-- at a return: nothing is owned any more -/
theorem StE.loose (S : StE K c hT hid tp ρ σ H t) : StE K { c with M := [] } hT hT tp ρ σ H t :=
  S.show S.sub (fun _ z => z) (fun i z => by cases z) rfl rfl (fun i w a _ z => by cases z) fun i w a e hi _ hs _ z => by
    obtain ⟨b, e1, _, n, _⟩ := S.own i w e hi
    rw [hs] at e1; cases e1
    exact n z
/-- a slot gives what it owns to another one -/
theorem StS.move {i j : Nat} {w : W} {v : V} (S : StS K c H0 ow0 hb hT hid tp ρ σ H t) (hi : i ∈ c.M) (hj : j ∈ c.M) (hij : i ≠ j) (hs : c.scr ≠ some i) (ht : c.tape ≠ some i) (hρ : ρ[j]? = some (some w)) (hσ : σ[j]? = some (some v)) :
    StS K c H0 ow0 hb hT hid tp ((ρ.set i (some w)).set j none) (σ.set i (some v)) H t := by
  obtain ⟨a, e1, h1, h2, h3⟩ := S.st.own j w hρ hj
  rw [hσ] at e1; cases e1
  obtain ⟨g1, g2⟩ := S.own j w a hρ hj hσ
  rw [List.set_comm _ _ hij]
  refine (S.clear (i := j)).take hi hs ht g1 h1 h2 h3 g2 fun k w' e hk ni z => ?_
  rcases get_set e with ⟨_, q, _⟩ | ⟨q1, q2⟩
  · cases q
  · exact q1 (S.st.sep k j w' w a q2 hρ hk hj z hσ)
/-- a slot gives what it owns to a plain one: it is written no more -/
theorem StS.freeze {i j : Nat} {w : W} {v : V} (S : StS K c H0 ow0 hb hT hid tp ρ σ H t) (hi : i ∉ c.M) (hj : j ∈ c.M) (hs : c.scr ≠ some i) (ht : c.tape ≠ some i) (hρ : ρ[j]? = some (some w)) (hσ : σ[j]? = some (some v)) :
    ∃ hid', StS K c H0 ow0 hb hT hid' tp ((ρ.set i (some w)).set j none) (σ.set i (some v)) H t := by
  obtain ⟨a, e1, h1, h2, h3⟩ := S.st.own j w hρ hj
  rw [hσ] at e1; cases e1
  let hid' : Addr → Prop := fun x => hid x ∧ x ≠ a
  have hh : ∀ x, hid' x → hid x ∨ Nw H x := fun x z => .inl z.1
  have hij : i ≠ j := fun z => hi (z ▸ hj)
  have S1 := S.clear (i := j)
  have E1 : StE K c hT hid' tp (ρ.set j none) σ H t := S1.st.show (fun x z => z.1) (fun x z => ⟨S.st.sub x z, fun e => h2 (e ▸ z)⟩) (fun _ z => z) rfl rfl (fun k w' b e hk z => by
      obtain ⟨b', q1, q2, _⟩ := S1.st.own k w' e hk
      rw [z] at q1; cases q1
      refine ⟨q2, fun e' => ?_⟩
      subst e'
      rcases get_set e with ⟨_, q, _⟩ | ⟨r1, r2⟩
      · cases q
      · exact r1 (S.st.sep k j w' w b r2 hρ hk hj z hσ)) fun k w' b e hk nk => absurd hk nk
  have S2 : StS K c H0 ow0 hb hT hid' tp (ρ.set j none) σ H t := ⟨E1, fun x z => S.hid0 x z.1, S1.sm, S1.own⟩
  refine ⟨hid', ?_⟩
  rw [List.set_comm _ _ hij]
  refine S2.set hi hs ht ?_
  have nh : ¬ hid' a := fun z => z.2 rfl
  rcases h3 with ⟨ws, vs, g1, g2, g3⟩ | ⟨ws, vs, g1, g2, g3⟩ | ⟨ws, vs, g1, g2, g3⟩
  · subst g1; exact .lst nh g2 (Ims.mono Kp.refl hh _ _ g3)
  · subst g1; exact .dK nh g2 (ImK.mono Kp.refl hh _ _ g3)
  · subst g1; exact .dT nh g2 (ImT.mono Kp.refl hh _ _ g3)
end
end Ev

end

section
/-! Ev7: rules of statements. -/
namespace Ev
open PySem PySem.Spec PyProof.Rows L2
variable [Tb]

structure Bs where
  H0 : Hp
  ow0 : Addr → Prop
  hb : Addr → Prop
  hT : Addr → Prop
  tp : Option (Addr × List Addr)
abbrev Bs.ex (B : Bs) : Addr → Prop := fun a => tps B.tp a ∨ B.ow0 a
abbrev SB (K : PySem.W.Frag) (c : Cf) (B : Bs) (hid : Addr → Prop) (ρ : Sl) (σ : L2.St) (H : Hp) (t : Tp) : Prop := StS K c B.H0 B.ow0 B.hb B.hT hid B.tp ρ σ H t
def PR (K : PySem.W.Frag) (fr : Bool) (B : Bs) (H : Hp) (w : W) (v : V) : Prop := if fr = true then Fe K B.ow0 B.hT B.H0 H w v else Im K B.hT H w v
def OutS (K : PySem.W.Frag) (cl : Nat → Addr) (c : Cf) (fr : Bool) (E : XK) (B : Bs) (D : Ends) (r : SR) : Prop :=
  match r with
  | .next ρ t => ∀ hid σ H, SB K c B hid ρ σ H t → D.nx σ H
  | .ret w t => ∀ v H, Sm B.ex B.H0 H → TpOk B.tp H t → PR K fr B H w v → D.rt v H
  | .exc e t => ∀ H, Sm B.ex B.H0 H → TpOk B.tp H t → E (.ref (cl e)) none H
  | .bad => False
def tSv (K : PySem.W.Frag) (cl : Nat → Addr) (c : Cf) (fr : Bool) (s : Sv) (E : XK) : TS := fun D σ H => ∃ B hid ρ t, SB K c B hid ρ σ H t ∧ OutS K cl c fr E B D (s ρ t)
abbrev SX (X : Cx) (cl : Nat → Addr) (c : Cf) (fr : Bool) (st : Stmt) (s : Sv) (E : XK) : Prop := PS X st (tSv X.K cl c fr s E)
abbrev SsX (X : Cx) (cl : Nat → Addr) (c : Cf) (fr : Bool) (sts : List Stmt) (s : Sv) (E : XK) : Prop := PSs X sts (tSv X.K cl c fr s E)
def toS {α : Type} (r : Rs α) (f : α → Tp → SR) : SR := match r with
  | .ok a t => f a t
  | .exc e t => .exc e t
  | .bad => .bad
section
variable {K : PySem.W.Frag} {cl : Nat → Addr} {c : Cf} {fr : Bool} {E : XK} {B : Bs} {D : Ends} {hid : Addr → Prop} {ρ : Sl} {σ : L2.St} {H H1 : Hp} {t t1 : Tp}
theorem OutS.seq {α β : Type} {r : Rs α} {f : α → Tp → SR} {P1 : Hp → α → Hp → β → Prop} {Q1 : β → Hp → Prop} (S : SB K c B hid ρ σ H t) (h : OutS K cl c fr E B D (toS r f))
    (k : ∀ a t1 v1 H1, r = .ok a t1 → Sm (tps B.tp) H H1 → TpOk B.tp H1 t1 → P1 H a H1 v1 → OutS K cl c fr E B D (f a t1) → Q1 v1 H1) : Out cl B.tp E H r P1 Q1 := by
  cases r with
  | ok a t => exact fun v1 H1 m k1 p => k a t v1 H1 rfl m k1 p h
  | exc e t => exact fun H' m k1 => h H' (S.sm.trans (m.imp fun a z => .inl z)) k1
  | bad => exact h
theorem SB.run (S : SB K c B hid ρ σ H t) {m : Mo} {s : Ex} {f : W → Tp → SR} {Q : VK} (h : OutS K cl c fr E B D (toS (s ρ t) f))
    (k : ∀ a t1 v1 H1, Sm (tps B.tp) H H1 → TpOk B.tp H1 t1 → PWm K m B.hT hid H a H1 v1 → OutS K cl c fr E B D (f a t1) → Q v1 H1) : tEx K cl c m s E σ H Q :=
  ⟨B.hT, hid, B.tp, ρ, t, S.st, OutS.seq S h fun a t1 v1 H1 _ => k a t1 v1 H1⟩
end

section
variable {X : Cx} {cl : Nat → Addr} {c : Cf} {fr : Bool} {E : XK} {pos : Pos} {st : Stmt} {rest : List Stmt} {e a b : Expr} {s sa sb : Ex} {u v : Sv}

/-! ### blocks -/
def sNext : Sv := fun ρ t => .next ρ t
def sThen (u v : Sv) : Sv := fun ρ t => match u ρ t with
  | .next ρ t => v ρ t
  | .ret w t => .ret w t
  | .exc e t => .exc e t
  | .bad => .bad
theorem ss_nil : SsX X cl c fr [] sNext E := PSs_imp pss_nil fun D σ H ⟨B, hid, ρ, t, S, o⟩ => o hid σ H S
theorem ss_one (h : SX X cl c fr st u E) : SsX X cl c fr [st] u E := pss_one h
theorem ss_cons (h1 : SX X cl c fr st u E) (h2 : SsX X cl c fr rest v E) : SsX X cl c fr (st :: rest) (sThen u v) E :=
  PSs_imp (pss_cons h1 h2) fun D σ H ⟨B, hid, ρ, t, S, o⟩ => by
    refine ⟨B, hid, ρ, t, S, ?_⟩
    have o : OutS X.K cl c fr E B D (match u ρ t with | .next ρ t => v ρ t | .ret w t => .ret w t | .exc e t => .exc e t | .bad => .bad) := o
    cases q : u ρ t with
    | next ρ1 t1 => rw [q] at o; exact fun hid1 σ1 H1 S1 => ⟨B, hid1, ρ1, t1, S1, o⟩
    | ret w t1 => rw [q] at o; exact o
    | exc k t1 => rw [q] at o; exact o
    | bad => rw [q] at o; exact o
theorem sx_pass : SX X cl c fr (.Pass pos) sNext E := PS_imp ps_pass fun D σ H ⟨B, hid, ρ, t, S, o⟩ => o hid σ H S
theorem sx_doc {x j pos'} : SX X cl c fr (.Expr (.Constant (.str x) j pos) pos') sNext E := PS_imp ps_doc fun D σ H ⟨B, hid, ρ, t, S, o⟩ => o hid σ H S

/-! ### names are set -/
def sSet (i : Nat) (s : Ex) : Sv := fun ρ t => toS (s ρ t) fun w t => .next (ρ.set i (some w)) t
structure NmOk (X : Cx) (c : Cf) (i : Nat) (x : Str) : Prop where
  nd : X.N.Nodup
  at_ : X.N[i]? = some x
  loc : Loc X.env.scope x
  fn : X.fn x = true ∨ X.env.scope.names.lookup x = some .local
  scr : c.scr ≠ some i
  tape : c.tape ≠ some i
theorem sx_set {i : Nat} {x : Str} {pos' : Pos} (n : NmOk X c i x) (hm : i ∉ c.M) (he : EX X cl c .safe e s E) (hs : swapsWith e (some (.Name x pos')) pos.line X.env = pure false) : SX X cl c fr (.Assign [.Name x pos'] e pos) (sSet i s) E :=
  PS_imp (ps_set n.nd n.at_ n.loc he hs n.fn) fun D σ H ⟨B, hid, ρ, t, S, o⟩ => S.run o fun w t1 v1 H1 m1 k1 p1 o1 =>
    o1 hid _ H1 ((S.next m1 k1).set hm n.scr n.tape p1)
theorem sx_own {i : Nat} {x : Str} {pos' : Pos} (n : NmOk X c i x) (hm : i ∈ c.M) (he : EX X cl c .fresh e s E) (hs : swapsWith e (some (.Name x pos')) pos.line X.env = pure false) : SX X cl c fr (.Assign [.Name x pos'] e pos) (sSet i s) E :=
  PS_imp (ps_set n.nd n.at_ n.loc he hs n.fn) fun D σ H ⟨B, hid, ρ, t, S, o⟩ => S.run o fun w t1 v1 H1 m1 k1 p1 o1 => by
    obtain ⟨hid', S'⟩ := S.fresh hm n.scr n.tape m1 k1 p1
    exact o1 hid' _ H1 S'
/-- x = y, y's list goes over to x -/
def sMove (i j : Nat) : Sv := fun ρ t => match ρ[j]? with
  | some (some w) => .next ((ρ.set i (some w)).set j none) t
  | _ => .bad
theorem mv_ok {K : PySem.W.Frag} {B : Bs} {D : Ends} {ρ : Sl} {t : Tp} {i j : Nat} (o : OutS K cl c fr E B D (sMove i j ρ t)) : ∃ w, ρ[j]? = some (some w) ∧ OutS K cl c fr E B D (.next ((ρ.set i (some w)).set j none) t) := by
  unfold sMove at o
  split at o
  · rename_i w q
    exact ⟨w, q, o⟩
  · exact False.elim o
theorem sx_move {i j : Nat} {x y : Str} {pos' p : Pos} (n : NmOk X c i x) (hi : i ∈ c.M) (hj : j ∈ c.M) (hij : i ≠ j) (hN : X.N[j]? = some y) (hv : Vis X.env.scope y) (hd : (y == ("__debug__" : Str)) = false) (hcd : (y == ("__classdict__" : Str)) = false)
    (hs : swapsWith (.Name y p) (some (.Name x pos')) pos.line X.env = pure false) : SX X cl c fr (.Assign [.Name x pos'] (.Name y p) pos) (sMove i j) E :=
  PS_imp (ps_set n.nd n.at_ n.loc (pe_var hN hv hd hcd) hs n.fn) fun D σ H ⟨B, hid, ρ, t, S, o⟩ => by
    obtain ⟨w, q, o⟩ := mv_ok o
    obtain ⟨a, e1, _⟩ := S.st.own j w q hj
    exact ⟨_, e1, o hid _ H (S.move hi hj hij n.scr n.tape q e1)⟩
theorem sx_freeze {i j : Nat} {x y : Str} {pos' p : Pos} (n : NmOk X c i x) (hi : i ∉ c.M) (hj : j ∈ c.M) (hN : X.N[j]? = some y) (hv : Vis X.env.scope y) (hd : (y == ("__debug__" : Str)) = false) (hcd : (y == ("__classdict__" : Str)) = false)
    (hs : swapsWith (.Name y p) (some (.Name x pos')) pos.line X.env = pure false) : SX X cl c fr (.Assign [.Name x pos'] (.Name y p) pos) (sMove i j) E :=
  PS_imp (ps_set n.nd n.at_ n.loc (pe_var hN hv hd hcd) hs n.fn) fun D σ H ⟨B, hid, ρ, t, S, o⟩ => by
    obtain ⟨w, q, o⟩ := mv_ok o
    obtain ⟨a, e1, _⟩ := S.st.own j w q hj
    obtain ⟨hid', S'⟩ := S.freeze hi hj n.scr n.tape q e1
    exact ⟨_, e1, o hid' _ H S'⟩
/-- target = value -/
def sAsg (g : Gw) (s : Ex) : Sv := fun ρ t => toS (s ρ t) fun w t => match g w ρ with
  | some ρ' => .next ρ' t
  | none => .bad
theorem SB.tgt {K : PySem.W.Frag} {B : Bs} {hid : Addr → Prop} {ρ ρ' : Sl} {σ σ' : L2.St} {H : Hp} {t : Tp} {is : List Nat} (S : SB K c B hid ρ σ H t) (S' : StE K c B.hT hid B.tp ρ' σ' H t) (hm : ∀ i ∈ is, i ∉ c.M)
    (f : ∀ j, j ∉ is → σ'[j]? = σ[j]?) (f' : ∀ j, j ∉ is → ρ'[j]? = ρ[j]?) : SB K c B hid ρ' σ' H t :=
  ⟨S', S.hid0, S.sm, fun i w a e hi hs => by
    have ni : i ∉ is := fun z => hm i z hi
    rw [f' i ni] at e
    rw [f i ni] at hs
    exact S.own i w a e hi hs⟩
theorem sx_asg {tg : Expr} {g : Gw} {is : List Nat} (hg : GX X c tg g is) (hm : ∀ i ∈ is, i ∉ c.M) (he : EX X cl c .safe e s E) (hs : swapsWithSole [tg] e pos.line X.env = pure false) (hw : swappedStores [tg] e X.env = pure none)
    (h1 : (assignEach [tg] X.env).map (·.2) = [assign tg X.env]) : SX X cl c fr (.Assign [tg] e pos) (sAsg g s) E :=
  PS_imp (ps_asg he hg hs hw h1) fun D σ H ⟨B, hid, ρ, t, S, o⟩ => S.run o fun w t1 v1 H1 m1 k1 p1 o1 => by
    have S1 := S.next m1 k1
    cases q : g w ρ with
    | none =>
      have o1 : OutS X.K cl c fr E B D (match g w ρ with | some ρ' => .next ρ' t1 | none => .bad) := o1
      rw [q] at o1; exact False.elim o1
    | some ρ' =>
      have o1 : OutS X.K cl c fr E B D (match g w ρ with | some ρ' => .next ρ' t1 | none => .bad) := o1
      rw [q] at o1
      exact ⟨B.hT, hid, B.tp, ρ, t1, w, ρ', S1.st, p1, q, fun σ' S' _ f f' => o1 hid σ' H1 (SB.tgt S1 S' hm f f')⟩
/-- a, b = x, y: b's slot is stored first, but the values are there before -/
def sPar2 (i j : Nat) (sa sb : Ex) : Sv := fun ρ t => toS (sa ρ t) fun w t => toS (sb ρ t) fun w' t => .next ((ρ.set i (some w)).set j (some w')) t
def mo (b : Bool) : Mo := if b = true then .fresh else .safe
theorem SB.put {K : PySem.W.Frag} {B : Bs} {hid : Addr → Prop} {ρ ρ' : Sl} {σ σ' : L2.St} {H H1 : Hp} {t t1 : Tp} {i : Nat} {x : Str} {b : Bool} {w : W} {v : V} (S0 : SB K c B hid ρ σ H t) (S : SB K c B hid ρ' σ' H t) (n : NmOk X c i x) (hb : (decide (i ∈ c.M)) = b) (m : Sm (tps B.tp) H H1) (k : TpOk B.tp H1 t1)
    (p : PWm K (mo b) B.hT hid H w H1 v) : ∃ hid', SB K c B hid' ρ σ H1 t1 ∧ SB K c B hid' (ρ'.set i (some w)) (σ'.set i (some v)) H1 t1 := by
  cases b with
  | false =>
    have hm : i ∉ c.M := of_decide_eq_false hb
    exact ⟨hid, S0.next m k, (S.next m k).set hm n.scr n.tape p⟩
  | true =>
    have hm : i ∈ c.M := of_decide_eq_true hb
    obtain ⟨a, e, nw, nf, ho⟩ := (show Fe K (fun _ => False) hid H H1 w v from p)
    subst e
    have hn : Nw H a := nw.elim id fun z => z.elim
    have hw := ho.wrt nf
    have ha : ¬ Nw H1 a := by obtain ⟨o, h, l⟩ := hw; exact Nw.not h fun ps z => by subst z; exact l
    let hid' : Addr → Prop := fun x => hid x ∨ x = a
    have h2 : ∀ x, hid' x → hid x ∨ Nw H x := fun x z => z.imp id fun e => by rw [e]; exact hn
    have h3 : ∀ x, hid' x → ¬ Nw H1 x := fun x z => by
      rcases z with z | z
      · exact m.dom x (S.st.dom x z)
      · rw [z]; exact ha
    have S' : SB K c B hid' ρ' σ' H1 t1 := StS.hide S (fun x z => .inl z) h2 m k h3
    refine ⟨hid', StS.hide S0 (fun x z => .inl z) h2 m k h3, StS.take S' hm n.scr n.tape (.inl (S.sm.none hn)) (.inr rfl) (fun z => S.st.dom a (S.st.sub a z) hn) ho hw fun j w' e hj _ z => ?_⟩
    obtain ⟨b, e1, h1, _⟩ := S.st.own j w' e hj
    rw [z] at e1; cases e1
    exact S.st.dom _ h1 hn
/-- a, b evaluated one after another -/
def tTwo (ta tb : TE) : TA := fun σ H Q => ta σ H fun v H1 => tb σ H1 fun w H2 => Q [v, w] H2
theorem pa_two {ta tb : TE} (ha : PE X a ta) (hb : PE X b tb) (h1 : starEach [a, b] X.env = (false, eval a X.env) :: starEach [b] X.env) (h2 : starEach [b] X.env = [(false, eval b X.env)]) : PA X [a, b] (tTwo ta tb) :=
  PA_imp (pa_cons ha (pa_cons hb pa_nil h2) h1) fun σ H Q h => h
theorem sx_par2 {i j : Nat} {x y : Str} {px py pt : Pos} {kt k2 pt2} {b1 b2 : Bool} (hc : X.calm = true) (n1 : NmOk X c i x) (n2 : NmOk X c j y) (hij : i ≠ j) (l1 : X.env.scope.names.lookup x = some .local) (l2 : X.env.scope.names.lookup y = some .local) (m1 : decide (i ∈ c.M) = b1) (m2 : decide (j ∈ c.M) = b2)
    (ha : EX X cl c (mo b1) a sa E) (hb : EX X cl c (mo b2) b sb E) (h1 : starEach [a, b] X.env = (false, eval a X.env) :: starEach [b] X.env) (h2 : starEach [b] X.env = [(false, eval b X.env)])
    (hw : swappedStores [.Tuple [.Name x px, .Name y py] kt pt] (.Tuple [a, b] k2 pt2) X.env = pure (some [x, y]))
    (hs : swapsWithSole [.Tuple [.Name x px, .Name y py] kt pt] (.Tuple [a, b] k2 pt2) pos.line X.env = pure false) :
    SX X cl c fr (.Assign [.Tuple [.Name x px, .Name y py] kt pt] (.Tuple [a, b] k2 pt2) pos) (sPar2 i j sa sb) E :=
  PS_imp (ps_par hc n1.nd n1.at_ n2.at_ hij l1 l2 (pa_two ha hb h1 h2) hw hs) fun D σ H ⟨B, hid, ρ, t, S, o⟩ => S.run o fun w t1 v1 H1 sm1 k1 p1 o1 => by
    obtain ⟨hid1, S1, S2⟩ := SB.put S S n1 m1 sm1 k1 p1
    refine SB.run S1 o1 fun w' t2 v2 H2 sm2 k2 p2 o2 => ?_
    obtain ⟨hid2, _, S4⟩ := SB.put S1 S2 n2 m2 sm2 k2 p2
    exact ⟨v1, v2, rfl, o2 hid2 _ H2 S4⟩
def sPar3 (i j l : Nat) (sa sb sc : Ex) : Sv := fun ρ t => toS (sa ρ t) fun w t => toS (sb ρ t) fun w' t => toS (sc ρ t) fun w'' t => .next (((ρ.set i (some w)).set j (some w')).set l (some w'')) t
def tThree (ta tb tc : TE) : TA := fun σ H Q => ta σ H fun u H1 => tb σ H1 fun v H2 => tc σ H2 fun w H3 => Q [u, v, w] H3
theorem pa_three {d : Expr} {ta tb tc : TE} (ha : PE X a ta) (hb : PE X b tb) (hc : PE X d tc) (h1 : starEach [a, b, d] X.env = (false, eval a X.env) :: starEach [b, d] X.env) (h2 : starEach [b, d] X.env = (false, eval b X.env) :: starEach [d] X.env) (h3 : starEach [d] X.env = [(false, eval d X.env)]) : PA X [a, b, d] (tThree ta tb tc) :=
  PA_imp (pa_cons ha (pa_cons hb (pa_cons hc pa_nil h3) h2) h1) fun σ H Q h => h
theorem sx_par3 {i j l : Nat} {x y z : Str} {d : Expr} {sc : Ex} {px py pz pt : Pos} {kt k2 pt2} {b1 b2 b3 : Bool} (hc : X.calm = true) (n1 : NmOk X c i x) (n2 : NmOk X c j y) (n3 : NmOk X c l z) (hij : i ≠ j) (hil : i ≠ l) (hjl : j ≠ l) (l1 : X.env.scope.names.lookup x = some .local) (l2 : X.env.scope.names.lookup y = some .local) (l3 : X.env.scope.names.lookup z = some .local) (m1 : decide (i ∈ c.M) = b1) (m2 : decide (j ∈ c.M) = b2) (m3 : decide (l ∈ c.M) = b3)
    (ha : EX X cl c (mo b1) a sa E) (hb : EX X cl c (mo b2) b sb E) (hd : EX X cl c (mo b3) d sc E) (h1 : starEach [a, b, d] X.env = (false, eval a X.env) :: starEach [b, d] X.env) (h2 : starEach [b, d] X.env = (false, eval b X.env) :: starEach [d] X.env) (h3 : starEach [d] X.env = [(false, eval d X.env)])
    (hw : swappedStores [.Tuple [.Name x px, .Name y py, .Name z pz] kt pt] (.Tuple [a, b, d] k2 pt2) X.env = pure (some [x, y, z]))
    (hs : swapsWithSole [.Tuple [.Name x px, .Name y py, .Name z pz] kt pt] (.Tuple [a, b, d] k2 pt2) pos.line X.env = pure false) :
    SX X cl c fr (.Assign [.Tuple [.Name x px, .Name y py, .Name z pz] kt pt] (.Tuple [a, b, d] k2 pt2) pos) (sPar3 i j l sa sb sc) E :=
  PS_imp (ps_par3 hc n1.nd n1.at_ n2.at_ n3.at_ hij hil hjl l1 l2 l3 (pa_three ha hb hd h1 h2 h3) hw hs) fun D σ H ⟨B, hid, ρ, t, S, o⟩ => S.run o fun w t1 v1 H1 sm1 k1 p1 o1 => by
    obtain ⟨hid1, S1, T1⟩ := SB.put S S n1 m1 sm1 k1 p1
    refine SB.run S1 o1 fun w' t2 v2 H2 sm2 k2 p2 o2 => ?_
    obtain ⟨hid2, S2, T2⟩ := SB.put S1 T1 n2 m2 sm2 k2 p2
    refine SB.run S2 o2 fun w'' t3 v3 H3 sm3 k3 p3 o3 => ?_
    obtain ⟨hid3, _, T3⟩ := SB.put S2 T2 n3 m3 sm3 k3 p3
    exact ⟨v1, v2, v3, rfl, o3 hid3 _ H3 T3⟩
end
end Ev

end

section
/-! Ev8: rules of statements, 2. -/
namespace Ev
open PySem PySem.Spec PyProof.Rows L2
variable [Tb]
section
variable {K : PySem.W.Frag} {cl : Nat → Addr} {c : Cf} {fr : Bool} {E : XK} {B : Bs} {D : Ends} {hid : Addr → Prop} {ρ : Sl} {σ : L2.St} {H H1 : Hp} {t t1 : Tp}
/-- an owned list, to be written -/
theorem SB.lst {i : Nat} {ws : List W} (S : SB K c B hid ρ σ H t) (hi : i ∈ c.M) (hsc : c.scr ≠ some i) (hρ : ρ[i]? = some (some (.list ws))) :
    ∃ a dv, σ[i]? = some (some (.ref a)) ∧ H a = some (.lst dv) ∧ Ims K hid H ws dv ∧
      ∀ ws' dv', Ims K hid H ws' dv' → SB K c B hid (ρ.set i (some (.list ws'))) σ (upd H a (.lst dv')) t := by
  obtain ⟨a, e1, hh, hn, ho⟩ := S.st.own i _ hρ hi
  obtain ⟨hb, u, hu, l⟩ := S.own i _ a hρ hi e1
  rcases ho with ⟨ws1, dv, e, h2, h3⟩ | ⟨_, _, e, _⟩ | ⟨_, _, e, _⟩
  · cases e
    refine ⟨a, dv, e1, h2, h3, fun ws' dv' h => StS.wr S hi hsc hρ e1 trivial (.inl ⟨ws', dv', rfl, upd_same, ?_⟩)⟩
    exact Ims.mono (Kp.wr (o := .lst dv') h2 trivial hh trivial) (fun _ z => .inl z) _ _ h
  · cases e
  · cases e
end
section
variable {X : Cx} {cl : Nat → Addr} {c : Cf} {fr : Bool} {E : XK} {pos : Pos} {st : Stmt} {rest : List Stmt} {e a b : Expr} {s sa sb : Ex} {u v : Sv}
/-! ### name op= e -/
def sAug (f : W → W → Option W) (i : Nat) (s : Ex) : Sv := fun ρ t => match ρ[i]? with
  | some (some x) => toS (s ρ t) fun y t => match f x y with
    | some z => .next (ρ.set i (some z)) t
    | none => .bad
  | _ => .bad
theorem sx_aug {i : Nat} {x : Str} {pos' : Pos} {op : Operator} {f : W → W → Option W} {r : R2} (n : NmOk X c i x) (hm : i ∉ c.M) (he : EX X cl c .bor e s E) (ho : OpR X (inplaceOp op) r) (hf : BinOk X.K r f .safe) :
    SX X cl c fr (.AugAssign (.Name x pos') op e pos) (sAug f i s) E :=
  PS_imp (ps_aug n.nd n.at_ n.loc he ho n.fn) fun D σ H ⟨B, hid, ρ, t, S, o⟩ => by
    have o : OutS X.K cl c fr E B D (match ρ[i]? with | some (some x) => toS (s ρ t) fun y t => (match f x y with | some z => .next (ρ.set i (some z)) t | none => .bad) | _ => .bad) := o
    split at o
    · rename_i w q
      obtain ⟨x1, e1, h1⟩ := S.st.im i w q hm n.scr
      refine ⟨x1, e1, S.run o fun y t1 v1 H1 m1 k1 p1 o1 => ?_⟩
      have S1 := S.next m1 k1
      obtain ⟨x2, e2, h2⟩ := S1.st.im i w q hm n.scr
      rw [e1] at e2; cases e2
      cases ef : f w y with
      | none => rw [ef] at o1; exact False.elim o1
      | some z =>
        rw [ef] at o1
        refine hf B.hT hid H1 x1 v1 w y z _ S1.st.dom (.inl h2) p1 ef fun v H2 m2 p2 => ?_
        have k2 : TpOk B.tp H2 t1 := Out.ok_ (cl := cl) (E := E) (P := fun _ _ _ _ => True) (Q := fun (_ : Unit) H' => TpOk B.tp H' t1) (a := ()) (v := ()) (fun _ _ _ k _ => k) k1 m2 trivial
        exact o1 hid _ H2 ((S1.next (m2.imp fun _ z => z.elim) k2).set hm n.scr n.tape p2)
    · exact False.elim o
def wIAdd : W → W → Option W
  | .int i, .int j => some (.int (i + j))
  | _, _ => none
theorem ok_iadd {K : PySem.W.Frag} : BinOk K (ipI fun i j => i + j) wIAdd .safe := by
  intro hT hid H x y a b z Q hd ha hb hz q
  cases a <;> cases b <;> simp only [wIAdd] at hz <;> cases hz
  rw [bo_int ha, bo_int hb]
  exact ⟨_, _, rfl, rfl, q _ _ Sm.refl (.int _)⟩
theorem ok_isub {K : PySem.W.Frag} : BinOk K (ipI fun i j => i - j) wSub .safe := by
  intro hT hid H x y a b z Q hd ha hb hz q
  cases a <;> cases b <;> simp only [wSub] at hz <;> cases hz
  rw [bo_int ha, bo_int hb]
  exact ⟨_, _, rfl, rfl, q _ _ Sm.refl (.int _)⟩
def wIMul : W → W → Option W
  | .int i, .int j => if mulOk i j = true then some (.int (i * j)) else none
  | _, _ => none
theorem ok_imul {K : PySem.W.Frag} : BinOk K (rI CMulX fun i j => .int (i * j)) wIMul .safe := by
  intro hT hid H x y a b z Q hd ha hb hz q
  cases a <;> cases b <;> simp only [wIMul] at hz <;> try cases hz
  obtain ⟨c, e⟩ := if_some hz
  subst e
  rw [bo_int ha, bo_int hb]
  exact ⟨_, _, rfl, rfl, mulOk_ok c, q _ _ Sm.refl (.int _)⟩

/-! ### x[i] = e -/
def wPut : W → W → W → Option W
  | .list xs, .int k, w => (ixN xs.length k).map fun j => .list (xs.set j w)
  | _, _, _ => none
def sPut (i : Nat) (si s : Ex) : Sv := fun ρ t => toS (s ρ t) fun w t => match ρ[i]? with
  | some (some x) => toS (si ρ t) fun k t => match wPut x k w with
    | some x' => .next (ρ.set i (some x')) t
    | none => .bad
  | _ => .bad
theorem sx_put {i : Nat} {x : Str} {ix : Expr} {si : Ex} {px p : Pos} (hN : X.N[i]? = some x) (hv : Vis X.env.scope x) (hm : i ∈ c.M) (hsc : c.scr ≠ some i) (hd : (x == ("__debug__" : Str)) = false) (hcd : (x == ("__classdict__" : Str)) = false) (hix : EX X cl c .bor ix si E) (he : EX X cl c .safe e s E)
    (ha : ∀ v, assign (.Subscript (.Name x px) ix p) X.env v = (do
      let ov ← holding [v] (eval (.Name x px) X.env)
      let iv ← holding [v, ov] (eval ix X.env)
      standAt p
      holding [v, ov, iv] (setItem ov iv v)
      release [v, ov, iv] []))
    (hs : swapsWithSole [.Subscript (.Name x px) ix p] e pos.line X.env = pure false) (hw : swappedStores [.Subscript (.Name x px) ix p] e X.env = pure none)
    (h1 : (assignEach [.Subscript (.Name x px) ix p] X.env).map (·.2) = [assign (.Subscript (.Name x px) ix p) X.env]) : SX X cl c fr (.Assign [.Subscript (.Name x px) ix p] e pos) (sPut i si s) E :=
  PS_imp (ps_asg he (pg_sub (pe_var hN hv hd hcd) hix set_list ha) hs hw h1) fun D σ H ⟨B, hid, ρ, t, S, o⟩ => S.run o fun w t1 v1 H1 m1 k1 p1 o1 => by
    have S1 := S.next m1 k1
    have o1 : OutS X.K cl c fr E B D (match ρ[i]? with | some (some x) => toS (si ρ t1) fun k t => (match wPut x k w with | some x' => .next (ρ.set i (some x')) t | none => .bad) | _ => .bad) := o1
    split at o1
    · rename_i y q
      obtain ⟨a, e1, zz⟩ := S1.st.own i y q hm; clear zz
      refine ⟨.ref a, e1, SB.run S1 o1 fun kk t2 v2 H2 m2 k2 p2 o2 => ?_⟩
      have S2 := StS.next S1 m2 k2
      cases y <;> simp only [wPut] at o2 <;> try exact False.elim o2
      rename_i ws
      cases kk <;> simp only [wPut] at o2 <;> try exact False.elim o2
      rename_i k
      cases ej : ixN ws.length k with
      | none => rw [ej] at o2; exact False.elim o2
      | some j =>
        rw [ej] at o2
        obtain ⟨a', dv, e2, h2, h3, go⟩ := SB.lst S2 hm hsc q
        rw [e1] at e2; cases e2
        refine ⟨a, dv, k, j, rfl, bo_int p2, h2, by rw [← h3.length]; exact ej, ?_⟩
        have p1' : Im X.K hid H2 w v1 := Im.mono (m2.kp fun x z => S.st.sub x (S.st.tph x z)) (fun _ z => .inl z) _ _ p1
        exact o2 hid _ _ (go _ _ (Ims.set p1' j h3))
    · exact False.elim o1
/-! ### xs.append(e), xs.extend(e), xs.pop() -/
def sApp (i : Nat) (s : Ex) : Sv := fun ρ t => match ρ[i]? with
  | some (some (.list xs)) => toS (s ρ t) fun w t => if decide (xs.length < 16777216) = true then .next (ρ.set i (some (.list (xs ++ [w])))) t else .bad
  | _ => .bad
theorem fewS {α : Type} {K : PySem.W.Frag} {B : Bs} {D : Ends} {p : Bool} {r : SR} (h : OutS K cl c fr E B D (if p = true then r else .bad)) : p = true ∧ OutS K cl c fr E B D r := by
  cases p with
  | true => exact ⟨rfl, h⟩
  | false => exact False.elim h
theorem sx_app {i : Nat} {x : Str} {px apos cpos : Pos} (hN : X.N[i]? = some x) (hv : Vis X.env.scope x) (hm : i ∈ c.M) (hsc : c.scr ≠ some i) (hd : (x == ("__debug__" : Str)) = false) (hcd : (x == ("__classdict__" : Str)) = false) (he : EX X cl c .safe e s E)
    (hbase : attributeBase (.Name x px) "append" X.env (eval (.Name x px) X.env) = eval (.Name x px) X.env)
    (hfew : ((backTo cpos (starEach [e] X.env)).all (fun x => !x.1) && (backToKw cpos (keywordEach [] X.env)).all (fun x => x.1.isSome)
      && decide ([e].length + ([] : List Keyword).length + (if ([] : List Keyword).isEmpty then 0 else 1) < 30)) = true)
    (hline : (apos.endLine == cpos.line) = true) (hst : starEach [e] X.env = [(false, eval e X.env)]) (hplain : (backTo cpos (starEach [] X.env)).any (·.1) = false)
    (hsw : swapsWith (.Call (.Attribute (.Name x px) "append" apos) [e] [] cpos) none pos.line X.env = pure false) :
    SX X cl c fr (.Expr (.Call (.Attribute (.Name x px) "append" apos) [e] [] cpos) pos) (sApp i s) E :=
  PS_imp (ps_expr (pe_bm PySem.F.plainAttrs_list PySem.F.slot_list_append PySem.F.type_list_append mt_append (pe_var hN hv hd hcd) (pa_cons he pa_nil hst) hbase hfew hline hst hplain) hsw) fun D σ H ⟨B, hid, ρ, t, S, o⟩ => by
    have o : OutS X.K cl c fr E B D (match ρ[i]? with | some (some (.list xs)) => toS (s ρ t) fun w t => (if decide (xs.length < 16777216) = true then .next (ρ.set i (some (.list (xs ++ [w])))) t else .bad) | _ => .bad) := o
    split at o
    · rename_i ws q
      obtain ⟨a, dv, e1, h1, h2, _⟩ := SB.lst S hm hsc q
      refine ⟨.ref a, e1, .inl ⟨rfl, dv, .inl (.inl h1)⟩, SB.run S o fun w t1 v1 H1 m1 k1 p1 o1 => ?_⟩
      obtain ⟨hf, o1⟩ := fewS (α := Unit) o1
      have S1 := StS.next S m1 k1
      obtain ⟨a', dv', e1', h1', h2', go⟩ := SB.lst S1 hm hsc q
      rw [e1] at e1'; cases e1'
      refine ⟨a, dv', v1, rfl, rfl, h1', by rw [← h2'.length, sizeLine_eq]; exact of_decide_eq_true hf, ?_⟩
      exact o1 hid _ _ (go _ _ (h2'.append (.cons p1 .nil)))
    · exact False.elim o
def wLst : W → Option (List W)
  | .list xs => some xs
  | _ => none
def sExt (i : Nat) (s : Ex) : Sv := fun ρ t => match ρ[i]? with
  | some (some (.list xs)) => toS (s ρ t) fun w t => match w with
    | .list ys => if decide (xs.length + ys.length ≤ 16777216) = true then .next (ρ.set i (some (.list (xs ++ ys)))) t else .bad
    | _ => .bad
  | _ => .bad
theorem sx_ext {i : Nat} {x : Str} {px apos cpos : Pos} (hN : X.N[i]? = some x) (hv : Vis X.env.scope x) (hm : i ∈ c.M) (hsc : c.scr ≠ some i) (hd : (x == ("__debug__" : Str)) = false) (hcd : (x == ("__classdict__" : Str)) = false) (he : EX X cl c .bor e s E)
    (hbase : attributeBase (.Name x px) "extend" X.env (eval (.Name x px) X.env) = eval (.Name x px) X.env)
    (hfew : ((backTo cpos (starEach [e] X.env)).all (fun x => !x.1) && (backToKw cpos (keywordEach [] X.env)).all (fun x => x.1.isSome)
      && decide ([e].length + ([] : List Keyword).length + (if ([] : List Keyword).isEmpty then 0 else 1) < 30)) = true)
    (hline : (apos.endLine == cpos.line) = true) (hst : starEach [e] X.env = [(false, eval e X.env)]) (hplain : (backTo cpos (starEach [] X.env)).any (·.1) = false)
    (hsw : swapsWith (.Call (.Attribute (.Name x px) "extend" apos) [e] [] cpos) none pos.line X.env = pure false) :
    SX X cl c fr (.Expr (.Call (.Attribute (.Name x px) "extend" apos) [e] [] cpos) pos) (sExt i s) E :=
  PS_imp (ps_expr (pe_bm PySem.F.plainAttrs_list PySem.F.slot_list_extend PySem.F.type_list_extend mt_extend (pe_var hN hv hd hcd) (pa_cons he pa_nil hst) hbase hfew hline hst hplain) hsw) fun D σ H ⟨B, hid, ρ, t, S, o⟩ => by
    have o : OutS X.K cl c fr E B D (match ρ[i]? with | some (some (.list xs)) => toS (s ρ t) fun w t => (match w with | .list ys => if decide (xs.length + ys.length ≤ 16777216) = true then .next (ρ.set i (some (.list (xs ++ ys)))) t else .bad | _ => .bad) | _ => .bad) := o
    split at o
    · rename_i ws q
      obtain ⟨a, dv, e1, h1, h2, _⟩ := SB.lst S hm hsc q
      refine ⟨.ref a, e1, .inl ⟨rfl, dv, .inl (.inl h1)⟩, SB.run S o fun w t1 v1 H1 m1 k1 p1 o1 => ?_⟩
      cases w <;> try exact False.elim o1
      rename_i ys
      obtain ⟨hf, o1⟩ := fewS (α := Unit) o1
      have S1 := StS.next S m1 k1
      obtain ⟨a', dv', e1', h1', h2', go⟩ := SB.lst S1 hm hsc q
      rw [e1] at e1'; cases e1'
      obtain ⟨b, yv, rfl, hb, ib⟩ := bo_lst p1
      refine ⟨a, b, dv', yv, rfl, rfl, h1', hb, by rw [← h2'.length, ← ib.length, sizeLine_eq]; exact of_decide_eq_true hf, ?_⟩
      exact o1 hid _ _ (go _ _ (h2'.append ib))
    · exact False.elim o
def sPop (i : Nat) : Sv := fun ρ t => match ρ[i]? with
  | some (some (.list xs)) => if decide (0 < xs.length) = true then .next (ρ.set i (some (.list xs.dropLast))) t else .bad
  | _ => .bad
theorem sx_pop {i : Nat} {x : Str} {px apos cpos : Pos} (hN : X.N[i]? = some x) (hv : Vis X.env.scope x) (hm : i ∈ c.M) (hsc : c.scr ≠ some i) (hd : (x == ("__debug__" : Str)) = false) (hcd : (x == ("__classdict__" : Str)) = false)
    (hbase : attributeBase (.Name x px) "pop" X.env (eval (.Name x px) X.env) = eval (.Name x px) X.env) (hline : (apos.endLine == cpos.line) = true)
    (hsw : swapsWith (.Call (.Attribute (.Name x px) "pop" apos) [] [] cpos) none pos.line X.env = pure false) :
    SX X cl c fr (.Expr (.Call (.Attribute (.Name x px) "pop" apos) [] [] cpos) pos) (sPop i) E :=
  PS_imp (ps_expr (pe_bm0 PySem.F.plainAttrs_list PySem.F.slot_list_pop PySem.F.type_list_pop mt_pop (pe_var hN hv hd hcd) hbase hline) hsw) fun D σ H ⟨B, hid, ρ, t, S, o⟩ => by
    have o : OutS X.K cl c fr E B D (match ρ[i]? with | some (some (.list xs)) => (if decide (0 < xs.length) = true then .next (ρ.set i (some (.list xs.dropLast))) t else .bad) | _ => .bad) := o
    split at o
    · rename_i ws q
      obtain ⟨hf, o⟩ := fewS (α := Unit) o
      obtain ⟨a, dv, e1, h1, h2, go⟩ := SB.lst S hm hsc q
      have hf : 0 < ws.length := of_decide_eq_true hf
      have hl := h2.length
      have hy : dv[dv.length - 1]? = some (dv[dv.length - 1]'(by omega)) := List.getElem?_eq_getElem (by omega)
      refine ⟨.ref a, e1, .inl ⟨rfl, dv, .inl (.inl h1)⟩, a, dv, _, rfl, rfl, h1, hy, ?_⟩
      refine o hid _ _ (go _ _ ?_)
      rw [List.dropLast_eq_take, List.dropLast_eq_take, ← hl]
      exact h2.take _
    · exact False.elim o

/-! ### an expression by itself -/
def sDrop (s : Ex) : Sv := fun ρ t => toS (s ρ t) fun _ t => .next ρ t
theorem sx_drop (he : EX X cl c .bor e s E) (hs : swapsWith e none pos.line X.env = pure false) : SX X cl c fr (.Expr e pos) (sDrop s) E :=
  PS_imp (ps_expr he hs) fun D σ H ⟨B, hid, ρ, t, S, o⟩ => S.run o fun w t1 v1 H1 m1 k1 p1 o1 => o1 hid _ H1 (S.next m1 k1)
/-! ### if -/
def sIf (tc : Et) (u v : Sv) : Sv := fun ρ t => toS (tc ρ t) fun b t => if b = true then u ρ t else v ρ t
theorem sx_if {d : Expr} {p q : List Stmt} {tc : Et} (hc : TX X cl c d tc E) (hp : SsX X cl c fr p u E) (hq : SsX X cl c fr q v E) : SX X cl c fr (.If d p q pos) (sIf tc u v) E :=
  PS_imp (ps_if hc hp hq) fun D σ H ⟨B, hid, ρ, t, S, o⟩ => ⟨B.hT, hid, B.tp, ρ, t, S.st, OutS.seq S o fun b t1 v1 H1 _ m1 k1 p1 o1 => by
    have eb : v1 = b := p1
    subst eb
    have S1 := S.next m1 k1
    cases v1 with
    | true => rw [if_pos rfl] at o1 ⊢; exact ⟨B, hid, ρ, t1, S1, o1⟩
    | false => rw [if_neg Bool.false_ne_true] at o1 ⊢; exact ⟨B, hid, ρ, t1, S1, o1⟩⟩
/-! ### return -/
def sRet (s : Ex) : Sv := fun ρ t => toS (s ρ t) fun w t => .ret w t
theorem sx_ret (he : EX X cl { c with M := [] } (mo fr) e s E) : SX X cl c fr (.Return (some e) pos) (sRet s) E :=
  PS_imp (ps_ret he) fun D σ H ⟨B, hid, ρ, t, S, o⟩ => by
    refine ⟨B.hT, B.hT, B.tp, ρ, t, S.st.loose, OutS.seq S o fun w t1 v1 H1 _ m1 k1 p1 o1 => ?_⟩
    refine o1 v1 H1 (S.sm.trans (m1.imp fun a z => .inl z)) k1 ?_
    cases fr with
    | false => exact p1
    | true =>
      obtain ⟨a, e1, n, h⟩ := (show Fe X.K (fun _ => False) B.hT H H1 w v1 from p1)
      exact ⟨a, e1, .inl (S.sm.none (n.elim id fun z => z.elim)), h⟩
def sRetN : Sv := fun _ t => .ret .none t
theorem sx_retN : SX X cl c false (.Return none pos) sRetN E := PS_imp ps_retN fun D σ H ⟨B, hid, ρ, t, S, o⟩ => o .non H S.sm S.st.tap .non
/-- return x, of a list that x owns: the caller may own it -/
theorem sx_retOwn {i : Nat} {x : Str} {p : Pos} (hN : X.N[i]? = some x) (hv : Vis X.env.scope x) (hm : i ∈ c.M) (hd : (x == ("__debug__" : Str)) = false) (hcd : (x == ("__classdict__" : Str)) = false) : SX X cl c true (.Return (some (.Name x p)) pos) (sRet (eVar i)) E :=
  PS_imp (ps_ret (pe_var hN hv hd hcd)) fun D σ H ⟨B, hid, ρ, t, S, o⟩ => by
    have o : OutS X.K cl c true E B D (toS (eVar i ρ t) fun w t => .ret w t) := o
    unfold eVar at o
    split at o
    · rename_i w q
      obtain ⟨a, e1, hh, hn, ho⟩ := S.st.own i w q hm
      obtain ⟨hb, hw⟩ := S.own i w a q hm e1
      refine ⟨_, e1, o _ H S.sm S.st.tap ⟨a, rfl, hb, hw.nf, ho.mono Kp.refl (fun x z => .inl ?_) fun o q _ => q⟩⟩
      rcases z with z | z
      · exact S.st.sub x z
      · rw [z]; exact hh
    · exact False.elim o
/-! ### raise -/
def sRaise (k : Nat) : Sv := fun _ t => .exc k t
theorem sx_raise {k : Nat} (h : PS X st fun _ _ H => E (.ref (cl k)) none H) : SX X cl c fr st (sRaise k) E := PS_imp h fun D σ H ⟨B, hid, ρ, t, S, o⟩ => o H S.sm S.st.tap
end
end Ev

end

section
/-! Ev9: loops. -/
namespace Ev
open PySem PySem.Spec PyProof.Rows L2
variable [Tb]
theorem Sm.transN {ex ex' : Addr → Prop} {H0 H H' : Hp} (a : Sm ex H0 H) (b : Sm ex' H H') (h : ∀ x, ex' x → ex x ∨ Nw H0 x) : Sm ex H0 H' := by
  refine ⟨fun x o n e nt => b.obj x o (fun z => ?_) (a.obj x o n e nt) nt, fun x xs r => b.tup x xs (a.tup x xs r), fun x z => b.dom x (a.dom x z), fun z => b.tab (a.tab z)⟩
  rcases h x z with z | z
  · exact n z
  · obtain ⟨ps, q⟩ := z o e; exact nt ps q
/-- what a loop stands on -/
def ow1 (c : Cf) (ρ : Sl) (σ : L2.St) : Addr → Prop := fun a => ∃ i w, ρ[i]? = some (some w) ∧ i ∈ c.M ∧ σ[i]? = some (some (.ref a))
def Bs.re (B : Bs) (c : Cf) (hid : Addr → Prop) (ρ : Sl) (σ : L2.St) (H : Hp) : Bs := { H0 := H, ow0 := ow1 c ρ σ, hb := hid, hT := B.hT, tp := B.tp }
section
variable {K : PySem.W.Frag} {cl : Nat → Addr} {c : Cf} {fr : Bool} {E : XK} {B : Bs} {D : Ends} {hid hid' : Addr → Prop} {ρ ρ' : Sl} {σ σ' : L2.St} {H H' : Hp} {t t' : Tp}
theorem SB.re (S : SB K c B hid ρ σ H t) : SB K c (B.re c hid ρ σ H) hid ρ σ H t :=
  ⟨S.st, fun a z => .inl z, Sm.refl, fun i w a e hi hs => ⟨.inr ⟨i, w, e, hi, hs⟩, (S.own i w a e hi hs).2⟩⟩
theorem SB.exs (S : SB K c B hid ρ σ H t) : ∀ a, (B.re c hid ρ σ H).ex a → B.ex a ∨ Nw B.H0 a := fun a z => by
  rcases z with z | ⟨i, w, e, hi, hs⟩
  · exact .inl (.inl z)
  · exact (S.own i w a e hi hs).1.elim .inr fun z => .inl (.inr z)
theorem SB.exh (S : SB K c B hid ρ σ H t) : ∀ a, (B.re c hid ρ σ H).ex a → hid a := fun a z => by
  rcases z with z | ⟨i, w, e, hi, hs⟩
  · exact S.st.sub a (S.st.tph a z)
  · obtain ⟨b, e1, h, _⟩ := S.st.own i w e hi
    rw [hs] at e1; cases e1
    exact h
theorem SB.un (S : SB K c B hid ρ σ H t) (S' : SB K c (B.re c hid ρ σ H) hid' ρ' σ' H' t') : SB K c B hid' ρ' σ' H' t' := by
  refine ⟨S'.st, fun a z => ?_, S.sm.transN S'.sm S.exs, fun i w a e hi hs => ?_⟩
  · rcases S'.hid0 a z with q | q
    · exact S.hid0 a q
    · exact .inr (S.sm.none q)
  · obtain ⟨h1, h2⟩ := S'.own i w a e hi hs
    refine ⟨?_, h2⟩
    rcases h1 with h1 | ⟨j, w', e', hj, hs'⟩
    · exact .inl (S.sm.none h1)
    · exact (S.own j w' a e' hj hs').1
theorem PR.un {b : Bool} {w : W} {v : V} (S : SB K c B hid ρ σ H t) (h : PR K b (B.re c hid ρ σ H) H' w v) : PR K b B H' w v := by
  cases b with
  | false => exact h
  | true =>
    obtain ⟨a, e, n, h⟩ := (show Fe K (ow1 c ρ σ) B.hT H H' w v from h)
    refine ⟨a, e, ?_, h⟩
    rcases n with n | ⟨j, w', e', hj, hs'⟩
    · exact .inl (S.sm.none n)
    · exact (S.own j w' a e' hj hs').1
/-- a turn's outcome, by the loop's own base -/
theorem OutS.re {r : SR} {D' : Ends} (S : SB K c B hid ρ σ H t) (hr : D'.rt = D.rt) (hn : ∀ ρ1 t1, r = .next ρ1 t1 → ∀ hid1 σ1 H1, SB K c (B.re c hid ρ σ H) hid1 ρ1 σ1 H1 t1 → D'.nx σ1 H1) (h : (∀ ρ1 t1, r ≠ .next ρ1 t1) → OutS K cl c fr E B D r) (hb : r ≠ .bad) : OutS K cl c fr E (B.re c hid ρ σ H) D' r := by
  cases r with
  | next ρ1 t1 => exact hn ρ1 t1 rfl
  | ret w t1 =>
    intro v H1 m k p
    rw [hr]
    exact h (fun _ _ z => (by cases z)) v H1 (S.sm.transN m S.exs) k (PR.un S p)
  | exc e t1 => exact fun H1 m k => h (fun _ _ z => (by cases z)) H1 (S.sm.transN m S.exs) k
  | bad => exact absurd rfl hb
end

def forL (g : Gw) (body : Sv) : List W → Sl → Tp → SR
  | [], ρ, t => .next ρ t
  | x :: xs, ρ, t => match g x ρ with
    | none => .bad
    | some ρ1 => sThen body (forL g body xs) ρ1 t
def sFor (src : Exs) (g : Gw) (body : Sv) : Sv := fun ρ t => toS (src ρ t) fun items t => forL g body items ρ t
def whL (tc : Et) (body : Sv) (n : Nat) : Sv := Nat.rec (motive := fun _ => Sv) (fun _ _ => .bad) (fun _ ih ρ t => toS (tc ρ t) fun b t => if b = true then sThen body ih ρ t else .next ρ t) n
def sWhile (n : Nat) (tc : Et) (body : Sv) : Sv := whL tc body n
section
variable {X : Cx} {cl : Nat → Addr} {c : Cf} {fr : Bool} {E : XK} {pos : Pos} {body : List Stmt} {v : Sv}
theorem then_out {K : PySem.W.Frag} {B : Bs} {D : Ends} {u w : Sv} {ρ : Sl} {t : Tp} (o : OutS K cl c fr E B D (sThen u w ρ t)) :
    u ρ t ≠ .bad ∧ (∀ ρ1 t1, u ρ t = .next ρ1 t1 → OutS K cl c fr E B D (w ρ1 t1)) ∧ ((∀ ρ1 t1, u ρ t ≠ .next ρ1 t1) → OutS K cl c fr E B D (u ρ t)) := by
  have o : OutS K cl c fr E B D (match u ρ t with | .next ρ t => w ρ t | .ret w t => .ret w t | .exc e t => .exc e t | .bad => .bad) := o
  cases q : u ρ t with
  | next ρ1 t1 => rw [q] at o; exact ⟨fun z => (by cases z), fun ρ2 t2 e => (by cases e; exact o), fun n => False.elim (n _ _ rfl)⟩
  | ret x t1 => rw [q] at o; exact ⟨fun z => (by cases z), fun ρ2 t2 e => (by cases e), fun _ => o⟩
  | exc k t1 => rw [q] at o; exact ⟨fun z => (by cases z), fun ρ2 t2 e => (by cases e), fun _ => o⟩
  | bad => rw [q] at o; exact False.elim o
/-- for tg in iter: -/
theorem sx_for {tg iter : Expr} {src : Exs} {g : Gw} {is : List Nat} (hp : PassesOwn (model X.prog X.w) X.A X.env X.xe) (hc : X.calm = true) (hi : IX X cl c true tg iter src E) (hg : GX X c tg g is) (hm : ∀ i ∈ is, i ∉ c.M) (hb : SsX X cl c fr body v E)
    (hs : ∀ x, foldedSetIterable iter X.env x = pure x) : SX X cl c fr (.For tg iter body [] pos) (sFor src g v) E :=
  PS_imp (ps_for hp hc hi hg hb hs) fun D σ H ⟨B, hid, ρ, t, S, o⟩ => by
    refine ⟨B.hT, hid, B.tp, ρ, t, S.st, OutS.seq S o fun items t1 J H1 _ m1 k1 p1 o1 => ?_⟩
    have S1 : SB X.K c B hid ρ σ H1 t1 := S.next m1 k1
    obtain ⟨G, g0⟩ := (show SrcOk X.K hid hid H1 items J from p1)
    have stay : ∀ H', Sm (B.re c hid ρ σ H1).ex H1 H' → G H' := fun H' m => g0.stay _ (fun a z => .inl (SB.exh S1 a z)) H1 H' m g0.here
    refine ⟨fun i m σ' H' => m = items.length - i ∧ i ≤ items.length ∧ ∃ hid' ρ' t', SB X.K c (B.re c hid ρ σ H1) hid' ρ' σ' H' t' ∧ OutS X.K cl c fr E B D (forL g v (items.drop i) ρ' t'), ⟨_, rfl, Nat.zero_le _, hid, ρ, t1, SB.re S1, o1⟩, ?_⟩
    rintro i m σ' H' ⟨rfl, hi, hid', ρ', t', S', o'⟩
    have gH := stay H' S'.sm
    by_cases hlt : i < items.length
    · rw [List.drop_eq_getElem_cons hlt] at o'
      have o' : OutS X.K cl c fr E B D (match g items[i] ρ' with | none => .bad | some ρ1 => sThen v (forL g v (items.drop (i + 1))) ρ1 t') := o'
      refine .inr ⟨g0.go i H' hlt gH, fun σ2 H2 => ∃ hid2 ρ2 t2, SB X.K c (B.re c hid ρ σ H1) hid2 ρ2 σ2 H2 t2 ∧ OutS X.K cl c fr E B D (forL g v (items.drop (i + 1)) ρ2 t2), fun σ2 H2 z => ⟨_, ?_, rfl, hlt, z⟩, fun x H2 y => ?_⟩
      · omega
      · have hY : ∀ a, (hid' a ∨ hid a) → hid a ∨ Nw H1 a := fun a z => z.elim (S'.hid0 a) .inl
        obtain ⟨mF, w, ei, iw⟩ := g0.yld (fun a => hid' a ∨ hid a) hY i H' x H2 hlt gH (S'.sm.imp fun a z => .inr (SB.exh S1 a z)) y
        have ew : w = items[i] := by
          rw [List.getElem?_eq_getElem hlt] at ei
          exact (Option.some.inj ei).symm
        subst ew
        cases eg : g items[i] ρ' with
        | none => rw [eg] at o'; exact False.elim o'
        | some ρ1 =>
          rw [eg] at o'
          have mF' : Sm (tps B.tp) H' H2 := mF.imp fun _ z => z.elim
          have k2 : TpOk B.tp H2 t' := Out.ok_ (cl := cl) (E := E) (P := fun _ _ _ _ => True) (Q := fun (_ : Unit) H' => TpOk B.tp H' t') (a := ()) (v := ()) (fun _ _ _ k _ => k) S'.st.tap mF trivial
          have S2 : SB X.K c (B.re c hid ρ σ H1) hid' ρ' σ' H2 t' := StS.next S' mF' k2
          refine ⟨B.hT, hid', B.tp, ρ', t', items[i], ρ1, S2.st, Im.mono Kp.refl (fun a z => .inl (.inl z)) _ _ iw, eg, fun σ3 S3 _ f f' => ?_⟩
          have S4 : SB X.K c (B.re c hid ρ σ H1) hid' ρ1 σ3 H2 t' := SB.tgt S2 S3 hm f f'
          refine ⟨B.re c hid ρ σ H1, hid', ρ1, t', S4, ?_⟩
          obtain ⟨nb, o2, o3⟩ := then_out o'
          exact OutS.re S1 (by rfl) (fun ρ2 t2 q hid2 σ4 H4 S5 => ⟨hid2, ρ2, t2, S5, o2 ρ2 t2 q⟩) o3 nb
    · have e : i = items.length := by omega
      subst e
      rw [List.drop_length] at o'
      exact .inl ⟨g0.stop H' gH, o' hid' σ' H' (SB.un S1 S')⟩
/-- while -/
theorem sx_while {d : Expr} {tc : Et} {n : Nat} (hp : PassesOwn (model X.prog X.w) X.A X.env X.xe) (hc : TX X cl c d tc E) (hb : SsX X cl c fr body v E) : SX X cl c fr (.While d body [] pos) (sWhile n tc v) E :=
  PS_imp (ps_while hp hc hb) fun D σ H ⟨B, hid, ρ, t, S, o⟩ => by
    refine ⟨fun m σ' H' => ∃ hid' ρ' t', SB X.K c B hid' ρ' σ' H' t' ∧ OutS X.K cl c fr E B D (whL tc v m ρ' t'), ⟨n, hid, ρ, t, S, o⟩, ?_⟩
    rintro m σ' H' ⟨hid', ρ', t', S', o'⟩
    cases m with
    | zero => exact False.elim o'
    | succ m =>
      have o' : OutS X.K cl c fr E B D (toS (tc ρ' t') fun b t => if b = true then sThen v (whL tc v m) ρ' t else .next ρ' t) := o'
      refine ⟨B.hT, hid', B.tp, ρ', t', S'.st, OutS.seq S' o' fun b t1 v1 H1 _ m1 k1 p1 o1 => ?_⟩
      have eb : v1 = b := p1
      subst eb
      have S1 : SB X.K c B hid' ρ' σ' H1 t1 := StS.next S' m1 k1
      cases v1 with
      | false => rw [if_neg Bool.false_ne_true] at o1 ⊢; exact o1 hid' σ' H1 S1
      | true =>
        rw [if_pos rfl] at o1 ⊢
        refine ⟨fun σ2 H2 => ∃ hid2 ρ2 t2, SB X.K c B hid2 ρ2 σ2 H2 t2 ∧ OutS X.K cl c fr E B D (whL tc v m ρ2 t2), fun σ2 H2 z => ⟨m, Nat.lt_succ_self m, z⟩, B, hid', ρ', t1, S1, ?_⟩
        obtain ⟨nb, o2, o3⟩ := then_out o1
        · cases q : v ρ' t1 with
          | next ρ2 t2 => exact fun hid2 σ2 H2 S2 => ⟨hid2, ρ2, t2, S2, o2 ρ2 t2 q⟩
          | ret w t2 => have := o3 (fun _ _ z => by rw [q] at z; cases z); rw [q] at this; exact this
          | exc k t2 => have := o3 (fun _ _ z => by rw [q] at z; cases z); rw [q] at this; exact this
          | bad => exact absurd q nb
end
end Ev

end

section
/-! EvA: name = [..]; functions and their calls. -/
namespace Ev
open PySem PySem.Spec PyProof.Rows L2
variable [Tb]
section
variable {X : Cx} {cl : Nat → Addr} {c : Cf} {fr : Bool} {E : XK} {pos : Pos}
/-- y = [elt for tg in iter if ..] -/
theorem sx_setLc {i : Nat} {y : Str} {py : Pos} {elt tg iter : Expr} {ifs : List Expr} {scope : Scope} {own : List (Str × Nat)} {src : Exs} {is : List Nat} {g : Gw} {tt : Et} {te : Ex} {spos : Pos} {b : Bool} (hc : X.calm = true) (n : NmOk X c i y) (hl : X.env.scope.names.lookup y = some .local) (hb : decide (i ∈ c.M) = b)
    (hsw : swapsWith (.ListComp elt [⟨tg, iter, ifs, 0⟩] scope pos) (some (.Name y py)) spos.line X.env = pure true) (hi : IX X cl c false tg iter src E) (ok : BlkOk X.N X.env.scope scope own)
    (hg : ∀ (s : Shared) (H : Hp) (C : Addr) (cl : List (Str × Addr)) (fp : List Addr), GX (X.blk s H scope (compEnvC scope cl C X.env) fp) c tg g is)
    (ht : ∀ (s : Shared) (H : Hp) (C : Addr) (cl' : List (Str × Addr)) (fp : List Addr), TsX (X.blk s H scope (compEnvC scope cl' C X.env) fp) cl c ifs tt E0)
    (he : ∀ (s : Shared) (H : Hp) (C : Addr) (cl' : List (Str × Addr)) (fp : List Addr), EX (X.blk s H scope (compEnvC scope cl' C X.env) fp) cl c .safe elt te E0)
    (hs : ∀ x, foldedSetIterable iter X.env x = pure x) (his : ∀ i ∈ is, i ∈ own.map (·.2)) (hvt : ∀ i ∈ own.map (·.2), c.tape ≠ some i) :
    SX X cl c fr (.Assign [.Name y py] (.ListComp elt [⟨tg, iter, ifs, 0⟩] scope pos) spos) (sSet i (eLc src (own.map (·.2)) g tt te)) E :=
  PS_imp (ps_setLc hc n.nd n.at_ hl hsw hi ok hg ht he hs) fun D σ H ⟨B, hid, ρ, t, S, o⟩ => by
    refine lc_core' (cT := c) his hvt σ H _ (S.run o fun w t1 v1 H1 m1 k1 p1 o1 => ?_)
    cases b with
    | true =>
      obtain ⟨hid', S'⟩ := S.fresh (of_decide_eq_true hb) n.scr n.tape m1 k1 p1
      exact o1 hid' _ H1 S'
    | false => exact o1 hid _ H1 ((S.next m1 k1).set (of_decide_eq_false hb) n.scr n.tape (pw_sub S.st p1))
end

/-! ### functions -/
def retF (fr : Bool) (w : W) (v : V) (K : PySem.W.Frag) (hT : Addr → Prop) (H H' : Hp) : Prop := if fr = true then Fe K (fun _ => False) hT H H' w v else Im K hT H' w v
def EndF (K : PySem.W.Frag) (cl : Nat → Addr) (fr : Bool) (hT : Addr → Prop) (H : Hp) (r : FR) (Q : VK) (E : XK) : Prop :=
  match r with
  | .ok w => ∀ v H', Sm (fun _ => False) H H' → retF fr w v K hT H H' → Q v H'
  | .exc e => ∀ H', Sm (fun _ => False) H H' → E (.ref (cl e)) none H'
  | .bad => False
/-- what a def promises: f of its arguments -/
def FnS (K : PySem.W.Frag) (cl : Nat → Addr) (fr : Bool) (f : Fs) : Sp := fun vs H Q E => ∃ hT ws, (LamX.Tabs Tb.T H ∧ ∀ a, hT a → ¬ Nw H a) ∧ Ims K hT H ws vs ∧ EndF K cl fr hT H (f ws) Q E
/-- .. the first argument is the script -/
def FnC (K : PySem.W.Frag) (cl : Nat → Addr) (f : Fs) : Sp := fun vs H Q E => ∃ hT a ns ws us, vs = .ref a :: us ∧ (LamX.Tabs Tb.T H ∧ ∀ a, hT a → ¬ Nw H a) ∧ Sc K hT H a ns ∧ Ims K hT H ws us ∧ EndF K cl false hT H (f (.list (ns.map PyData.int) :: ws)) Q E
def endF (fr : Bool) : SR → FR
  | .next _ _ => if fr = true then .bad else .ok .none
  | .ret w _ => .ok w
  | .exc e _ => .exc e
  | .bad => .bad
def startW (m : Nat) (ws : List W) : Sl := ws.map some ++ List.replicate (m - ws.length) none
def runF (n m : Nat) (fr : Bool) (body : Sv) : Fs := fun ws => if ws.length = n then endF fr (body (startW m ws) none) else .bad
theorem runF_len {n m : Nat} {fr : Bool} {body : Sv} {ws : List W} {K : PySem.W.Frag} {cl : Nat → Addr} {hT : Addr → Prop} {H : Hp} {Q : VK} {E : XK} {b : Bool} (h : EndF K cl b hT H (runF n m fr body ws) Q E) : ws.length = n ∧ EndF K cl b hT H (endF fr (body (startW m ws) none)) Q E := by
  by_cases e : ws.length = n
  · refine ⟨e, ?_⟩
    rw [show runF n m fr body ws = endF fr (body (startW m ws) none) from if_pos e] at h
    exact h
  · rw [show runF n m fr body ws = .bad from if_neg e] at h
    exact False.elim h
theorem startW_get {m : Nat} {ws : List W} {i : Nat} {w : W} (h : (startW m ws)[i]? = some (some w)) : i < ws.length ∧ ws[i]? = some w := by
  unfold startW at h
  by_cases hi : i < ws.length
  · rw [List.getElem?_append_left (by simpa using hi), List.getElem?_map] at h
    refine ⟨hi, ?_⟩
    cases e : ws[i]? with
    | none => rw [e] at h; cases h
    | some a => rw [e] at h; cases h; rfl
  · rw [List.getElem?_append_right (by simpa using hi), List.getElem?_replicate] at h
    split at h <;> cases h
theorem start_get {N : List Str} {vs : List V} {i : Nat} {v : V} (h : vs[i]? = some v) : (L2.start N vs)[i]? = some (some v) := by
  have hi : i < vs.length := by
    by_cases hi : i < vs.length
    · exact hi
    · rw [List.getElem?_eq_none (by omega)] at h; cases h
  unfold L2.start
  rw [List.getElem?_append_left (by simpa using hi), List.getElem?_map, h] <;> rfl
def B0 (H : Hp) (hT : Addr → Prop) : Bs := { H0 := H, ow0 := fun _ => False, hb := hT, hT := hT, tp := none }
theorem tps0 {a : Addr} (h : tps none a) : False := by obtain ⟨x, y, e, _⟩ := h; cases e
theorem sm0 {B : Bs} {H0 H : Hp} (hb : B.ex = (B0 H0 B.hT).ex) (h : Sm B.ex H0 H) : Sm (fun _ => False) H0 H := h.imp fun a z => by
  rw [hb] at z
  exact z.elim (fun z => tps0 z) id
section
variable {P : Program} {w : World} {K : PySem.W.Frag} {mg : Str → Option Value} {base : Heap} {cl : Nat → Addr}
theorem end_out {c : Cf} {fr : Bool} {E : XK} {Q : VK} {hT : Addr → Prop} {H : Hp} {r : SR} (h : EndF K cl fr hT H (endF fr r) Q E) : OutS K cl c fr E (B0 H hT) { nx := fun _ H' => Q .non H', rt := Q } r := by
  have q : ∀ {H' : Hp}, Sm (B0 H hT).ex H H' → Sm (fun _ => False) H H' := fun m => m.imp fun a z => z.elim (fun z => tps0 z) id
  cases r with
  | next ρ t =>
    intro hid σ H' S
    cases fr with
    | true => exact False.elim h
    | false => exact h .non H' (q S.sm) .non
  | ret w t => exact fun v H' m _ p => h v H' (q m) p
  | exc e t => exact fun H' m _ => h H' (q m)
  | bad => exact h
theorem fn_ok {x qual : Str} {st : Stmt} {f : Addr} {fd : FuncData} {N ps : List Str} {k : Nat} {c : Cf} {fr : Bool} {body : Sv} (F : Fun K x qual st f fd) (S : FnScope N ps (defScope st)) (hM : ∀ i ∈ c.M, ps.length ≤ i) (hsc : c.scr = none) (htp : c.tape = none)
    (hb : ∀ (cdv : Value) (A : Around) (outer : List Env) (s : Shared) (H : Hp) (E : XK), Room k (A.deeper (envOfC qual (defScope st) s.heap.objs.size f cdv)) →
      SsX (cxOf (L2.CX P w) P w K mg base N qual (defScope st) f cdv A outer s H E) cl c fr (defBody st) body E) : FnOk P w K mg base (L2.CX P w) (k + 1) f fd ps (FnS K cl fr (runF ps.length N.length fr body)) := by
  refine F.okX S (fun vs H Q E h => ?_) fun cdv A outer s H vs Q E hr h => ⟨_, hb cdv A outer s H E hr, ?_⟩
  · obtain ⟨hT, ws, _, h2, h3⟩ := h
    rw [← h2.length]; exact (runF_len h3).1
  · obtain ⟨hT, ws, h1, h2, h3⟩ := h
    obtain ⟨hl, h3⟩ := runF_len h3
    have hlv : vs.length = ps.length := by rw [← h2.length]; exact hl
    refine ⟨B0 H hT, hT, startW N.length ws, none, ⟨⟨?_, fun i w e n n2 => ?_, fun i w e n => ?_, fun i w e n => ?_, fun i j w w' a e1 e2 n1 => ?_, h1.2, fun _ z => z, fun a z => (tps0 z).elim, rfl, fun i e => ?_, h1.1⟩, fun a z => .inl z, Sm.refl, fun i w a e n => ?_⟩, end_out h3⟩
    · unfold startW L2.start
      rw [List.length_append, List.length_append, List.length_map, List.length_map, List.length_replicate, List.length_replicate, h2.length]
    · obtain ⟨e1, e2⟩ := startW_get e
      obtain ⟨v, h4, h5⟩ := h2.get e2
      exact ⟨v, start_get h4, h5⟩
    · rw [hsc] at n; cases n
    · have := (startW_get e).1
      have := hM i n
      omega
    · have := (startW_get e1).1
      have := hM i n1
      omega
    · rw [htp] at e; cases e
    · have := (startW_get e).1
      have := hM i n
      omega
theorem begC {N ps : List Str} {c : Cf} {body : Sv} {vs : List V} {H : Hp} {Q : VK} {E : XK} (hM : ∀ i ∈ c.M, ps.length ≤ i) (hsc : c.scr = some 0) (htp : c.tape = none) (h : FnC K cl (runF ps.length N.length false body) vs H Q E) :
    vs.length = ps.length ∧ tSv K cl c false body E { nx := fun _ H' => Q .non H', rt := Q } (L2.start N vs) H := by
  obtain ⟨hT, a, ns, ws, us, e, h1, h4, h2, h3⟩ := h
  subst e
  obtain ⟨hl, h3⟩ := runF_len h3
  have hlv : us.length + 1 = ps.length := by rw [← h2.length]; exact hl
  refine ⟨hlv, B0 H hT, hT, startW N.length (.list (ns.map PyData.int) :: ws), none, ⟨⟨?_, fun i w e n n2 => ?_, fun i w e n => ?_, fun i w e n => ?_, fun i j w w' a e1 e2 n1 => ?_, h1.2, fun _ z => z, fun a z => (tps0 z).elim, rfl, fun i e => ?_, h1.1⟩, fun a z => .inl z, Sm.refl, fun i w a e n => ?_⟩, end_out h3⟩
  · unfold startW L2.start
    rw [List.length_append, List.length_append, List.length_map, List.length_map, List.length_replicate, List.length_replicate, List.length_cons, List.length_cons, h2.length]
  · obtain ⟨e1, e2⟩ := startW_get e
    cases i with
    | zero => rw [hsc] at n2; exact absurd rfl n2
    | succ i =>
      obtain ⟨v, h5, h6⟩ := h2.get (i := i) (by simpa using e2)
      exact ⟨v, start_get (by simpa using h5), h6⟩
  · rw [hsc] at n; cases n
    obtain ⟨e1, e2⟩ := startW_get e
    have ew : w = .list (ns.map PyData.int) := by simpa using e2.symm
    exact ⟨a, ns, start_get rfl, ew, h4⟩
  · have := (startW_get e).1
    have := hM i n
    omega
  · have := (startW_get e1).1
    have := hM i n1
    omega
  · rw [htp] at e; cases e
  · have := (startW_get e).1
    have := hM i n
    omega
theorem fn_okC {x qual : Str} {st : Stmt} {f : Addr} {fd : FuncData} {N ps : List Str} {k : Nat} {c : Cf} {body : Sv} (F : Fun K x qual st f fd) (S : FnScope N ps (defScope st)) (hM : ∀ i ∈ c.M, ps.length ≤ i) (hsc : c.scr = some 0) (htp : c.tape = none)
    (hb : ∀ (cdv : Value) (A : Around) (outer : List Env) (s : Shared) (H : Hp) (E : XK), Room k (A.deeper (envOfC qual (defScope st) s.heap.objs.size f cdv)) →
      SsX (cxOf (L2.CX P w) P w K mg base N qual (defScope st) f cdv A outer s H E) cl c false (defBody st) body E) : FnOk P w K mg base (L2.CX P w) (k + 1) f fd ps (FnC K cl (runF ps.length N.length false body)) :=
  F.okX S (fun vs H Q E h => (begC (c := c) hM hsc htp h).1) fun cdv A outer s H vs Q E hr h => ⟨_, hb cdv A outer s H E hr, (begC hM hsc htp h).2⟩
/-- .. the code object is known -/
theorem fn_okL {x qual : Str} {st : Stmt} {f : Addr} {fd : FuncData} {N ps : List Str} {k : Nat} {c : Cf} {body : Sv} (F : Fun K x qual st f fd) (S : FnScope N ps (defScope st)) (hM : ∀ i ∈ c.M, ps.length ≤ i) (hsc : c.scr = some 0) (htp : c.tape = none)
    (hb : ∀ (cdv : Value) (A : Around) (outer : List Env) (s : Shared) (H : Hp) (E : XK), (∃ (oc : Value) (od : Option Addr) (kV doc pm : Value) (an : Option Addr) (ct : Value) (osl : Array (Option Value)), K.lookup f = some ⟨oc, od, .func (PySem.W.fnOf x qual (defArgs st) (defBody st) (defScope st) .none kV doc pm an cdv ct), osl⟩ ∧ PySem.W.codeIn K cdv qual = true) →
      Room k (A.deeper (envOfC qual (defScope st) s.heap.objs.size f cdv)) → SsX (cxOf (L2.CX P w) P w K mg base N qual (defScope st) f cdv A outer s H E) cl c false (defBody st) body E) : FnOk P w K mg base (L2.CX P w) (k + 1) f fd ps (FnC K cl (runF ps.length N.length false body)) := by
  obtain ⟨oc, od, kV, doc, pm, an, cdv, ct, osl, rfl, lk, hcd⟩ := F.ex
  exact fn_of lk hcd S (fun vs H Q E h => (begC (c := c) hM hsc htp h).1) fun A outer s H vs Q E hr h => ⟨_, hb cdv A outer s H E ⟨oc, od, kV, doc, pm, an, ct, osl, lk, hcd⟩ hr, (begC hM hsc htp h).2⟩
end

/-! ### calls -/
def fR (t : Tp) : FR → Rs W
  | .ok w => .ok w t
  | .exc e => .exc e t
  | .bad => .bad
def eCall (f : Fs) (s : Exs) : Ex := fun ρ t => (s ρ t).bind fun ws t => fR t (f ws)
theorem TpOk.smF {tp : Option (Addr × List Addr)} {H H' : Hp} {t : Tp} (k : TpOk tp H t) (m : Sm (fun _ => False) H H') : TpOk tp H' t :=
  Out.ok_ (cl := fun _ => 0) (E := fun _ _ _ => True) (P := fun _ _ _ _ => True) (Q := fun (_ : Unit) H' => TpOk tp H' t) (a := ()) (v := ()) (fun _ _ _ k _ => k) k m trivial
theorem end_call {cl : Nat → Addr} {fr : Bool} {tp : Option (Addr × List Addr)} {E : XK} {K : PySem.W.Frag} {hT hid : Addr → Prop} {H : Hp} {r : FR} {t : Tp} {Q : VK} (k : TpOk tp H t) (o : Out cl tp E H (fR t r) (PWm K (mo fr) hT hid) Q) : EndF K cl fr hid H r Q E := by
  cases r with
  | ok w => exact fun v H' m p => o v H' (m.imp fun _ z => z.elim) (k.smF m) (by cases fr; exact p; exact p)
  | exc e => exact fun H' m => o H' (m.imp fun _ z => z.elim) (k.smF m)
  | bad => exact o
/-- a function of the program, to be called -/
structure FnA (P : Program) (w : World) (K : PySem.W.Frag) (mg : Str → Option Value) (base : Heap) (x : Str) (k : Nat) (sp : Sp) : Prop where
  ex : ∃ f fd ps, FnOk P w K mg base (L2.CX P w) k f fd ps sp ∧ mg x = some (.ref f) ∧ PySem.W.keepIn K (.ref f) = true ∧ Binds K fd ps []
section
variable {X : Cx} {cl : Nat → Addr} {c : Cf} {fr : Bool} {E : XK} {x : Str} {k : Nat} {fn : Fs} {e : Expr} {es : List Expr} {ss : Exs} {p pos : Pos}
theorem ev_call (F : FnA X.prog X.w X.K X.mg X.base x k (FnS X.K cl fr fn)) (hr : Room k X.A) (hg : Gl X x) (hx : Passes (L2.CX X.prog X.w) X E) (ha : AX X cl c true (e :: es) ss E)
    (hdb : (x == ("__debug__" : Str)) = false) (he : starEach (e :: es) X.env = (false, eval e X.env) :: starEach es X.env) (hpl : (backTo pos (starEach es X.env)).any (·.1) = false) : EX X cl c (mo fr) (.Call (.Name x p) (e :: es) [] pos) (eCall fn ss) E := by
  obtain ⟨f, fd, ps, F1, F2, F3, F4⟩ := F.ex
  refine PE_imp (pe_call F1 hr hg F2 F3 F4 .nil hx ha hdb he hpl) fun σ H Q ⟨hT, hid, tp, ρ, t, S, o⟩ => ?_
  refine ⟨hT, hid, tp, ρ, t, S, o.seq later_pw fun ws t1 vs H1 e1 m1 k1 p1 o1 => ?_⟩
  show FnS X.K cl fr fn (vs ++ []) H1 Q E
  rw [List.append_nil]
  exact ⟨hid, ws, ⟨(S.sm m1 k1).tbs, (S.sm m1 k1).dom⟩, p1, end_call k1 o1⟩
theorem ev_call0 (F : FnA X.prog X.w X.K X.mg X.base x k (FnS X.K cl fr fn)) (hr : Room k X.A) (hg : Gl X x) (hx : Passes (L2.CX X.prog X.w) X E) (hdb : (x == ("__debug__" : Str)) = false) : EX X cl c (mo fr) (.Call (.Name x p) [] [] pos) (eCall fn eNil) E := by
  obtain ⟨f, fd, ps, F1, F2, F3, F4⟩ := F.ex
  refine PE_imp (pe_call0 F1 hr hg F2 F3 F4 .nil hx hdb) fun σ H Q ⟨hT, hid, tp, ρ, t, S, o⟩ => ?_
  exact ⟨hid, [], ⟨S.tbs, S.dom⟩, .nil, end_call S.tap o⟩
mutual
/-- no list, no dict within -/
def pureW : W → Bool
  | .list _ => false
  | .dict _ => false
  | .tuple ws => pureWs ws
  | _ => true
def pureWs : List W → Bool
  | [] => true
  | w :: ws => pureW w && pureWs ws
end
mutual
theorem im_pure {K : PySem.W.Frag} {hid hid' : Addr → Prop} {H : Hp} : ∀ (w : W) (v : V), pureW w = true → Im K hid H w v → Im K hid' H w v
  | .none, v, _, h => by cases h; exact .non
  | .bool b, v, _, h => by cases h; exact .bl b
  | .int i, v, _, h => by cases h; exact .int i
  | .str x, v, _, h => by cases h; exact .str x
  | .tuple ws, v, q, h => by
    cases h with
    | tup h1 h2 => exact .tup h1 (ims_pure ws _ q h2)
  | .list ws, v, q, h => by cases q
  | .dict ws, v, q, h => by cases q
theorem ims_pure {K : PySem.W.Frag} {hid hid' : Addr → Prop} {H : Hp} : ∀ (ws : List W) (vs : List V), pureWs ws = true → Ims K hid H ws vs → Ims K hid' H ws vs
  | [], vs, _, h => by cases h; exact .nil
  | w :: ws, vs, q, h => by
    cases h with
    | cons h1 h2 =>
      have q : (pureW w && pureWs ws) = true := q
      rw [Bool.and_eq_true] at q
      exact .cons (im_pure w _ q.1 h1) (ims_pure ws _ q.2 h2)
end
def pOk (t : Tp) : FR → Rs W
  | .ok w => if pureW w = true then .ok w t else .bad
  | .exc e => .exc e t
  | .bad => .bad
def eCallB' (f : Fs) (s : Exs) : Ex := fun ρ t => (s ρ t).bind fun ws t => pOk t (f ws)
/-- arguments that may be owned lists: read only; nothing of them comes back -/
inductive Bos' (K : PySem.W.Frag) (hT hid : Addr → Prop) (H : Hp) : List W → List V → Prop
  | nil : Bos' K hT hid H [] []
  | cons {w : W} {v : V} {ws : List W} {vs : List V} : Bo K hT hid H w v → Bos' K hT hid H ws vs → Bos' K hT hid H (w :: ws) (v :: vs)
theorem bo_im {K : PySem.W.Frag} {hT hid : Addr → Prop} {H : Hp} {w : W} {v : V} (hs : ∀ a, hT a → hid a) (h : Bo K hT hid H w v) : Im K hT H w v := by
  have hh : ∀ a, hT a → hid a ∨ Nw H a := fun a z => .inl (hs a z)
  rcases h with h | ⟨a, e, n, h⟩
  · exact Im.mono Kp.refl hh _ _ h
  · subst e
    rcases h with ⟨ws, vs, g1, g2, g3⟩ | ⟨ws, vs, g1, g2, g3⟩ | ⟨ws, vs, g1, g2, g3⟩
    · subst g1; exact .lst n g2 (Ims.mono Kp.refl hh _ _ g3)
    · subst g1; exact .dK n g2 (ImK.mono Kp.refl hh _ _ g3)
    · subst g1; exact .dT n g2 (ImT.mono Kp.refl hh _ _ g3)
theorem bos_ims {K : PySem.W.Frag} {hT hid : Addr → Prop} {H : Hp} (hs : ∀ a, hT a → hid a) : ∀ {ws : List W} {vs : List V}, Bos' K hT hid H ws vs → Ims K hT H ws vs
  | _, _, .nil => .nil
  | _, _, .cons h1 h2 => .cons (bo_im hs h1) (bos_ims hs h2)
def PBs (K : PySem.W.Frag) (hT hid : Addr → Prop) : Hp → List W → Hp → List V → Prop := fun _ ws H' vs => Bos' K hT hid H' ws vs
theorem later_pbs {K : PySem.W.Frag} {hT hid : Addr → Prop} {tp : Option (Addr × List Addr)} : Later tp (PBs K hT hid) := fun _ _ _ _ _ _ p => p
def tBs (K : PySem.W.Frag) (cl : Nat → Addr) (c : Cf) (s : Exs) (E : XK) : TA := fun σ H Q =>
  ∃ hT hid tp ρ t, StE K c hT hid tp ρ σ H t ∧ Out cl tp E H (s ρ t) (PBs K hT hid) Q
abbrev AB (X : Cx) (cl : Nat → Addr) (c : Cf) (es : List Expr) (s : Exs) (E : XK) : Prop := PA X es (tBs X.K cl c s E)
theorem ab_nil : AB X cl c [] eNil E := PA_imp pa_nil fun σ H Q ⟨hT, hid, tp, ρ, t, S, o⟩ => Out.ok_ o S.tap Sm.refl .nil
theorem ab_cons {sa : Ex} (ha : EX X cl c .bor e sa E) (hr : AB X cl c es ss E) (hs : starEach (e :: es) X.env = (false, eval e X.env) :: starEach es X.env) : AB X cl c (e :: es) (eCons sa ss) E :=
  PA_imp (pa_cons ha hr hs) fun σ H Q ⟨hT, hid, tp, ρ, t, S, o⟩ => ⟨hT, hid, tp, ρ, t, S, o.seq later_pbs fun w t1 v1 H1 e1 m1 k1 p1 o1 => by
    have S1 := S.sm m1 k1
    refine ⟨hT, hid, tp, ρ, t1, S1, o1.seq later_pbs fun ws t2 vs H2 e2 m2 k2 p2 o2 => Out.ok_ o2 k2 Sm.refl ?_⟩
    exact .cons (Bo.mono p1 _ m2 S.tph S.sub) p2⟩
theorem ev_callB' (F : FnA X.prog X.w X.K X.mg X.base x k (FnS X.K cl false fn)) (hr : Room k X.A) (hg : Gl X x) (hx : Passes (L2.CX X.prog X.w) X E) (ha : AB X cl c (e :: es) ss E)
    (hdb : (x == ("__debug__" : Str)) = false) (he : starEach (e :: es) X.env = (false, eval e X.env) :: starEach es X.env) (hpl : (backTo pos (starEach es X.env)).any (·.1) = false) : EX X cl c .safe (.Call (.Name x p) (e :: es) [] pos) (eCallB' fn ss) E := by
  obtain ⟨f, fd, ps, F1, F2, F3, F4⟩ := F.ex
  refine PE_imp (pe_call F1 hr hg F2 F3 F4 .nil hx ha hdb he hpl) fun σ H Q ⟨hT, hid, tp, ρ, t, S, o⟩ => ?_
  refine ⟨hT, hid, tp, ρ, t, S, o.seq later_pw fun ws t1 vs H1 e1 m1 k1 p1 o1 => ?_⟩
  show FnS X.K cl false fn (vs ++ []) H1 Q E
  rw [List.append_nil]
  have S1 := S.sm m1 k1
  refine ⟨hT, ws, ⟨S1.tbs, fun a z => S1.dom a (S.sub a z)⟩, bos_ims S.sub p1, ?_⟩
  cases q : fn ws with
  | ok w =>
    rw [q] at o1
    obtain ⟨hp, o1⟩ := few_ok o1
    exact fun v H' m r => o1 v H' (m.imp fun _ z => z.elim) (k1.smF m) (im_pure w v hp r)
  | exc n => rw [q] at o1; exact fun H' m => o1 H' (m.imp fun _ z => z.elim) (k1.smF m)
  | bad => rw [q] at o1; exact o1
/-- f(script, ..) -/
def eScr (f : Fs) (i : Nat) (s : Exs) : Ex := fun ρ t => match ρ[i]? with
  | some (some w) => (s ρ t).bind fun ws t => fR t (f (w :: ws))
  | _ => .bad
theorem ev_callC {i : Nat} {y : Str} {q : Pos} (F : FnA X.prog X.w X.K X.mg X.base x k (FnC X.K cl fn)) (hr : Room k X.A) (hg : Gl X x) (hx : Passes (L2.CX X.prog X.w) X E) (hN : X.N[i]? = some y) (hv : Vis X.env.scope y) (hs : c.scr = some i) (ha : AX X cl c true es ss E)
    (hd : (y == ("__debug__" : Str)) = false) (hcd : (y == ("__classdict__" : Str)) = false)
    (hdb : (x == ("__debug__" : Str)) = false) (he : starEach (.Name y q :: es) X.env = (false, eval (.Name y q) X.env) :: starEach es X.env) (hpl : (backTo pos (starEach es X.env)).any (·.1) = false) : EX X cl c .safe (.Call (.Name x p) (.Name y q :: es) [] pos) (eScr fn i ss) E := by
  obtain ⟨f, fd, ps, F1, F2, F3, F4⟩ := F.ex
  refine PE_imp (pe_call F1 hr hg F2 F3 F4 .nil hx (pa_cons (pe_var hN hv hd hcd) ha he) hdb he hpl) fun σ H Q ⟨hT, hid, tp, ρ, t, S, o⟩ => ?_
  have o : Out cl tp E H (match ρ[i]? with | some (some w) => (ss ρ t).bind fun ws t => fR t (fn (w :: ws)) | _ => .bad) (PWm X.K .safe hT hid) Q := o
  split at o
  · rename_i w qw
    obtain ⟨a, ns, e1, ew, hS⟩ := S.scr i w qw hs
    subst ew
    refine ⟨.ref a, e1, hT, hid, tp, ρ, t, S, o.seq later_pw fun ws t1 vs H1 e2 m1 k1 p1 o1 => ?_⟩
    have S1 := S.sm m1 k1
    show FnC X.K cl fn ((.ref a :: vs) ++ []) H1 Q E
    rw [List.append_nil]
    exact ⟨hid, a, ns, ws, vs, rfl, ⟨S1.tbs, S1.dom⟩, hS.mono (fun _ z => .inl z) fun o n q nt => m1.obj a o (fun z => n (S.sub a (S.tph a z))) q nt, p1, end_call (fr := false) k1 o1⟩
  · exact False.elim o
end
end Ev

end

section
/-! EvB: errors: raised, and told by a def that gets a lambda. -/
namespace Ev
open PySem PySem.Spec PyProof.Rows L2
variable [Tb]

/-! ### raise X() -/
/-- an own class over ValueError (or another) without __init__: what the top has written -/
structure ExC (K : PySem.W.Frag) (mg : Str → Option Value) (x : Str) (C : Addr) : Prop where
  g : mg x = some (.ref C)
  x : ∃ (B newId initId : String) (bm : List Value), ExcBaseFacts B newId initId bm ∧ PySem.W.excIn K C bm newId = true
  k : PySem.W.keepIn K (.ref C) = true
  b : PySem.W.subIn K (.ref C) (.type "BaseException") = some true
  t : PySem.W.typeIn K (.ref C) = some (.type "type")
section
variable {X : Cx}
theorem pmk_own0 {C : Addr} {x : Str} {p pos : Pos} (F : ExC X.K X.mg x C) (hg : Gl X x) (hdb : (x == ("__debug__" : Str)) = false) : PMk X (.Call (.Name x p) [] [] pos) (fun _ H Q => Q (.ref C) none H) := by
  obtain ⟨B, newId, initId, bmB, F1, q⟩ := F.x
  intro pins s σ H Q I h
  refine wpAny_Call_Name_kw (ld_glob I hg F.g ?_ hdb)
  refine PySem.W.callWith_K0 I.kIn F.k ?_
  show wpAny _ _ (call (.ref C) []) _ _ _
  obtain ⟨bm, N, nm, qn, bs, hdct, sn, sub, ab, col, dd, k0, k1, k2, k3, k5, mN, hC, hN, hni, T⟩ := exc_obj I.kIn q
  refine wpAny_call_exc_subT F1 T hC hN hni (fun h' e hm => ?_) (by show 0 ≤ sizeLine; omega)
  exact mk_of I hm (raises_own F.b F.t) h (I.hok.gone hm.new)
theorem sx_raise0 {cl : Nat → Addr} {c : Cf} {fr : Bool} {E : XK} {j : Nat} {x : Str} {p pos pos' : Pos} (hc : X.calm = true) (tk : Takes X (fun cls d _ H => E cls d H)) (F : ExC X.K X.mg x (cl j)) (hg : Gl X x) (hdb : (x == ("__debug__" : Str)) = false) :
    SX X cl c fr (.Raise (some (.Call (.Name x p) [] [] pos)) none pos') (sRaise j) E := sx_raise (ps_raise hc tk (pmk_own0 F hg hdb))
end

/-! ### a def that tells what a lambda does -/
def cV : W → V
  | .str x => .str x
  | .bool b => .bl b
  | .int i => .int i
  | _ => .non
def isC : W → Bool
  | .str _ => true
  | .bool _ => true
  | .int _ => true
  | .none => true
  | _ => false
theorem im_c {K : PySem.W.Frag} {hid : Addr → Prop} {H : Hp} {w : W} (h : isC w = true) : Im K hid H w (cV w) := by
  cases w <;> first | exact .non | exact .bl _ | exact .int _ | exact .str _ | cases h
/-- the classes are told apart -/
def Apart (K : PySem.W.Frag) (cl : Nat → Addr) (n : Nat) : Prop := ∀ i j, i < n → j < n → PySem.W.exmOne K (.ref (cl i)) (.ref (cl j)) = some (decide (i = j))
def wish (K : PySem.W.Frag) (cl : Nat → Addr) (Q : VK) : List (Nat × W) → Value → Hp → Prop
  | [], _, _ => False
  | (j, w) :: r, cls, H => ∃ b, PySem.W.exmOne K cls (.ref (cl j)) = some b ∧ (b = true → Q (cV w) H) ∧ (b = false → wish K cl Q r cls H)
def TA' (K : PySem.W.Frag) (cl : Nat → Addr) (hs : List (Nat × W)) (w : W) : (XK → Hp → VK → Prop) → Hp → VK → Prop := fun tl H Q => tl (fun cls _ H' => wish K cl Q hs cls H') H fun _ H1 => Q (cV w) H1
def TB' (K : PySem.W.Frag) (cl : Nat → Addr) (hs : List (Nat × W)) : (XK → Hp → VK → Prop) → Hp → VK → Prop := fun tl H Q => tl (fun cls _ H' => wish K cl Q hs cls H') H Q
abbrev hl (cl : Nat → Addr) (hs : List (Nat × W)) : List (Value × (Addr → Value → Option Addr → TS)) := hs.map fun p => (.ref (cl p.1), fun _ _ _ => tRet (tC (cV p.2)))
theorem wish_many {K : PySem.W.Frag} {cl : Nat → Addr} {D : Ends} {cls : Value} {d : Option Addr} {σ : L2.St} {H : Hp} : ∀ {hs : List (Nat × W)}, wish K cl D.rt hs cls H → wMany K (fun _ _ _ _ => False) D (hl cl hs) cls d σ H
  | [], h => h
  | (j, w) :: r, ⟨b, h1, h2, h3⟩ => ⟨b, h1, fun e _ _ => h2 e, fun e => wish_many (h3 e)⟩
theorem pe_c {X : Cx} {w : W} {k : Const} {j pos} (h : (w, k) ∈ [(w, k)]) (e : (∃ x, w = .str x ∧ k = .str x) ∨ (∃ b, w = .bool b ∧ k = .bool b) ∨ (∃ i, w = .int i ∧ k = .int i) ∨ (w = .none ∧ k = .none)) : PE X (.Constant k j pos) (tC (cV w)) := by
  rcases e with ⟨x, rfl, rfl⟩ | ⟨b, rfl, rfl⟩ | ⟨i, rfl, rfl⟩ | ⟨rfl, rfl⟩
  · exact pe_str
  · exact pe_bl
  · exact pe_int
  · exact pe_non
section
variable {X : Cx} {cl : Nat → Addr} {Ng : List Str} {x a q : Str} {sg : Scope} {g : Addr} {cdg : Value} {hs : List (Nat × W)} {h₀ : ExceptHandler} {hds : List ExceptHandler} {p1 p2 p3 p6 p8 : Pos}
/-- try: a() / except ..: return .. / return w -/
theorem gives_expr {w : W} {e : Expr} (h0 : ∀ f : Addr, (L2.start Ng [V.ref f])[0]? = some (some (V.ref f))) (hh : ∀ Y : Cx, Y.K = X.K → Y.mg = X.mg → Y.env.scope = sg → HdsOk Y (h₀ :: hds) (hl cl hs)) (he : ∀ Y : Cx, PE Y e (tC (cV w)))
    (hsw : ∀ (en : Env), swapsWith (.Call (.Name a p1) [] [] p2) none p3.line en = pure false) :
    LamX.GivesTo X Ng x sg g cdg [.Try [.Expr (.Call (.Name a p1) [] [] p2) p3] (h₀ :: hds) [] [] p8, .Return (some e) p6] a q (TA' X.K cl hs w) := by
  intro f c' s H Q tl act hc h
  refine ⟨_, pss_cons (ps_try_many (X := (cxOf C8.CX0 X.prog X.w X.K X.mg X.base Ng x sg g cdg X.A X.stack s H C8.E0).nox) (l := hl cl hs)
      (tb := fun W D σ H => ∃ Ech : XK, (∀ cls d σ' H', Ech cls d H' → W cls d σ' H') ∧ σ[0]? = some (some (.ref f)) ∧ H c' = some (LamX.CodeO c' q) ∧ tl Ech H fun _ H1 => D.nx σ H1)
      (Wout := fun _ _ _ _ => False) rfl rfl LamX.takes0 (fun W pn xe tk _ => ?_) (hh _ rfl rfl rfl)) (pss_one (ps_ret (he _))), ?_⟩
  · refine ⟨fun pins s' σ H' D I h' => ?_⟩
    obtain ⟨Ech, hW, h1, h2, h3⟩ := h'
    have hp := act W pn xe Ech p1 p2 tk hW
    have hq := pss_one (ps_expr (pos := p3) hp (hsw _))
    exact hq.run pins s' σ H' D I ⟨h1, h2, h3⟩
  · exact ⟨_, fun cls d σ' H' z => wish_many z, h0 f, hc, h⟩
/-- try: return a() / except ..: return .. -/
theorem gives_ret (h0 : ∀ f : Addr, (L2.start Ng [V.ref f])[0]? = some (some (V.ref f))) (hh : ∀ Y : Cx, Y.K = X.K → Y.mg = X.mg → Y.env.scope = sg → HdsOk Y (h₀ :: hds) (hl cl hs)) :
    LamX.GivesTo X Ng x sg g cdg [.Try [.Return (some (.Call (.Name a p1) [] [] p2)) p3] (h₀ :: hds) [] [] p8] a q (TB' X.K cl hs) := by
  intro f c' s H Q tl act hc h
  refine ⟨_, pss_one (ps_try_many (X := (cxOf C8.CX0 X.prog X.w X.K X.mg X.base Ng x sg g cdg X.A X.stack s H C8.E0).nox) (l := hl cl hs)
      (tb := fun W D σ H => ∃ Ech : XK, (∀ cls d σ' H', Ech cls d H' → W cls d σ' H') ∧ σ[0]? = some (some (.ref f)) ∧ H c' = some (LamX.CodeO c' q) ∧ tl Ech H D.rt)
      (Wout := fun _ _ _ _ => False) rfl rfl LamX.takes0 (fun W pn xe tk _ => ?_) (hh _ rfl rfl rfl)), ?_⟩
  · refine ⟨fun pins s' σ H' D I h' => ?_⟩
    obtain ⟨Ech, hW, h1, h2, h3⟩ := h'
    have hp := act W pn xe Ech p1 p2 tk hW
    have hq := pss_one (ps_ret (pos := p3) hp)
    exact hq.run pins s' σ H' D I ⟨h1, h2, h3⟩
  · exact ⟨_, fun cls d σ' H' z => wish_many z, h0 f, hc, h⟩
end
def exC (n : Nat) (hs : List (Nat × W)) (e : Nat) (t : Tp) : Rs W := if e < n then (match hs.lookup e with
  | some w => if isC w = true then .ok w t else .bad
  | none => .bad) else .bad
def eToldA (n : Nat) (hs : List (Nat × W)) (w : W) (s : Ex) : Ex := fun ρ t => match s ρ t with
  | .ok _ t => if isC w = true then .ok w t else .bad
  | .exc e t => exC n hs e t
  | .bad => .bad
def eToldB (n : Nat) (hs : List (Nat × W)) (s : Ex) : Ex := fun ρ t => match s ρ t with
  | .ok w t => .ok w t
  | .exc e t => exC n hs e t
  | .bad => .bad
theorem wish_of {K : PySem.W.Frag} {cl : Nat → Addr} {n : Nat} (A : Apart K cl n) {Q : VK} {H : Hp} {e : Nat} {w : W} (he : e < n) : ∀ {hs : List (Nat × W)}, (∀ p ∈ hs, p.1 < n) → hs.lookup e = some w → Q (cV w) H → wish K cl Q hs (.ref (cl e)) H
  | [], _, h, _ => by cases h
  | (j, u) :: r, hn, h, q => by
    have hj : j < n := hn (j, u) List.mem_cons_self
    refine ⟨_, A e j he hj, fun e1 => ?_, fun e1 => ?_⟩
    · have e1 : e = j := of_decide_eq_true e1
      subst e1
      rw [List.lookup_cons_self] at h
      cases h; exact q
    · have e1 : ¬ e = j := of_decide_eq_false e1
      rw [List.lookup_cons, show (e == j) = false from beq_false_of_ne e1] at h
      exact wish_of A he (fun p hp => hn p (List.mem_cons_of_mem _ hp)) h q
theorem sm_ext {H H1 : Hp} (h : LamX.ExtN H H1) (t : LamX.Tabs Tb.T H1) : Sm (fun _ => False) H H1 := by
  refine ⟨fun a o _ e n => h a o e n, fun a xs r => ?_, fun a n => ?_, fun _ => t⟩
  · rcases r with r | ⟨ob, r⟩
    · exact .inl (h _ _ r fun ps z => by cases z)
    · exact .inr ⟨ob, h _ _ r fun ps z => by cases z⟩
  · obtain ⟨o, e, nt⟩ := Nw.ob n
    exact Nw.not (h a o e nt) nt
/-- a def that gets a lambda and tells what it does: f its text -/
structure ToldOk (X : Cx) (x a : Str) (g : Addr) (TT : (XK → Hp → VK → Prop) → Hp → VK → Prop) : Prop where
  gm : X.mg x = some (.ref g)
  kp : PySem.W.keepIn X.K (.ref g) = true
  ex : ∃ (Ng : List Str) (pg : Arguments) (bg : List Stmt) (sg : Scope) (dV kV doc pm cdv ct oc : Value) (an od : Option Addr) (osl : Array (Option Value)),
    X.K.lookup g = some ⟨oc, od, .func (PySem.W.fnOf x x pg bg sg dV kV doc pm an cdv ct), osl⟩ ∧ PySem.W.codeIn X.K cdv x = true ∧ L2.Binds X.K (PySem.W.fnOf x x pg bg sg dV kV doc pm an cdv ct) [a] [] ∧ FnScope Ng [a] sg ∧ Ng[0]? = some a ∧ Vis sg a ∧
    LamX.GivesTo X Ng x sg g cdv bg a (X.env.qual ++ "<lambda>") TT
section
variable {X : Cx} {cl : Nat → Addr} {c : Cf} {E : XK} {x a : Str} {g co P : Addr} {k n : Nat} {hs : List (Nat × W)} {w : W} {te : Ex} {params : Arguments} {body : Expr} {scope : Scope} {p lpos pos : Pos} {m : Mo}
theorem told_core {m : Mo} {cc : Cf} {f : Rs W → Rs W} {TT : (XK → Hp → VK → Prop) → Hp → VK → Prop} (hA : Apart X.K cl n) (hn : ∀ p ∈ hs, p.1 < n)
    (hf : ∀ {tp : Option (Addr × List Addr)} {hT hid : Addr → Prop} {tl : XK → Hp → VK → Prop} {H1 : Hp} {Q : VK} (r : Rs W), Out cl tp E H1 (f r) (PWm X.K m hT hid) Q →
      (∀ Q' : VK, Out cl tp (fun cls _ H' => wish X.K cl Q hs cls H') H1 r (PWm X.K .safe hT hid) Q' → tl (fun cls _ H' => wish X.K cl Q hs cls H') H1 Q') → TT tl H1 Q) :
    ∀ σ H Q, tEx X.K cl c m (fun ρ t => f (te ρ t)) E σ H Q → LamX.tLam Tb.T TT (fun E' => tEx X.K cl c .safe te E') σ H Q := by
  intro σ H Q ⟨hT, hid, tp, ρ, t, S, o⟩
  refine ⟨S.tbs, fun H1 e1 t1 => ?_⟩
  have m0 := sm_ext e1 t1
  have m1 : Sm (tps tp) H H1 := m0.imp fun _ z => z.elim
  have S1 := S.sm m1 (S.tap.smF m0)
  exact hf (te ρ t) (Out.later later_pw o m1) fun Q' o' => ⟨hT, hid, tp, ρ, t, S1, o'⟩
theorem ev_toldA (F : ToldOk X x a g (TA' X.K cl hs w)) (hA : Apart X.K cl n) (hn : ∀ p ∈ hs, p.1 < n) (hg : Gl X x) (TB : LamX.TabB X.base X.mg co P) (hcode : X.env.code = .ref co) (hmT : (P, X.env.qual ++ "<lambda>") ∈ Tb.T) (hu : ∀ p ∈ Tb.T, p.1 = P → p.2 = X.env.qual ++ "<lambda>")
    (hr : Room (k + 2) X.A) (L : LamX.LamS X.env.scope scope) (hdef : defaultsOf params X.env = ([], [])) (hbind : ∀ (q : Str) (cl : List (Str × Addr)) (pm cv ctv : Value), bindArgs (PySem.W.kla_fn "<lambda>" q params body scope cl pm cv ctv) ⟨[], []⟩ = pure [])
    (hbody : ∀ (A : Around) (outer : List Env) (s : Shared) (H : Hp) (E : XK) (f c' : Addr), Room k (A.deeper (LamX.lamEnv X scope s.heap.objs.size f c')) → EX (LamX.lamCx X A outer s H E scope f c') cl c .safe body te E)
    (hdb : (x == ("__debug__" : Str)) = false) (hd : (a == ("__debug__" : Str)) = false) (hcd : (a == ("__classdict__" : Str)) = false) :
    EX X cl c .safe (.Call (.Name x p) [.Lambda params body scope lpos] [] pos) (eToldA n hs w te) E := by
  obtain ⟨Ng, pg, bg, sg, dV, kV, doc, pm, cdv, ct, oc, an, od, osl, h1, h2, h3, h4, h5, h6, h7⟩ := F.ex
  refine PE_imp (LamX.pe_lamcall (T := Tb.T) (t := fun E' => tEx X.K cl c .safe te E') hg F.gm F.kp h1 h2 h3 h4 h5 h6 h7 TB hcode hmT hu hr L hdef hbind hbody hdb hd hcd) (told_core (m := .safe) (cc := c) (f := fun r => match r with | .ok _ t => if isC w = true then .ok w t else .bad | .exc e t => exC n hs e t | .bad => .bad) hA hn ?_)
  intro tp hT hid tl H1 Q r o go
  refine go _ ?_
  cases r with
  | ok u t =>
    obtain ⟨hc, o⟩ := few_ok o
    exact fun v H' m k _ => o _ H' m k (im_c hc)
  | exc e t =>
    have o : Out cl tp E H1 (exC n hs e t) (PWm X.K .safe hT hid) Q := o
    intro H' m k
    obtain ⟨he, o⟩ : e < n ∧ Out cl tp E H1 (match hs.lookup e with | some w => if isC w = true then .ok w t else .bad | none => .bad) (PWm X.K .safe hT hid) Q := by
      by_cases he : e < n
      · exact ⟨he, by rw [show exC n hs e t = _ from if_pos he] at o; exact o⟩
      · rw [show exC n hs e t = .bad from if_neg he] at o; exact False.elim o
    cases q : hs.lookup e with
    | none => rw [q] at o; exact False.elim o
    | some u =>
      rw [q] at o
      obtain ⟨hc, o⟩ := few_ok o
      exact wish_of hA he hn q (o _ H' m k (im_c hc))
  | bad => exact o
theorem ev_toldB (F : ToldOk X x a g (TB' X.K cl hs)) (hA : Apart X.K cl n) (hn : ∀ p ∈ hs, p.1 < n) (hg : Gl X x) (TB : LamX.TabB X.base X.mg co P) (hcode : X.env.code = .ref co) (hmT : (P, X.env.qual ++ "<lambda>") ∈ Tb.T) (hu : ∀ p ∈ Tb.T, p.1 = P → p.2 = X.env.qual ++ "<lambda>")
    (hr : Room (k + 2) X.A) (L : LamX.LamS X.env.scope scope) (hdef : defaultsOf params X.env = ([], [])) (hbind : ∀ (q : Str) (cl : List (Str × Addr)) (pm cv ctv : Value), bindArgs (PySem.W.kla_fn "<lambda>" q params body scope cl pm cv ctv) ⟨[], []⟩ = pure [])
    (hbody : ∀ (A : Around) (outer : List Env) (s : Shared) (H : Hp) (E : XK) (f c' : Addr), Room k (A.deeper (LamX.lamEnv X scope s.heap.objs.size f c')) → EX (LamX.lamCx X A outer s H E scope f c') cl c .safe body te E)
    (hdb : (x == ("__debug__" : Str)) = false) (hd : (a == ("__debug__" : Str)) = false) (hcd : (a == ("__classdict__" : Str)) = false) :
    EX X cl c .safe (.Call (.Name x p) [.Lambda params body scope lpos] [] pos) (eToldB n hs te) E := by
  obtain ⟨Ng, pg, bg, sg, dV, kV, doc, pm, cdv, ct, oc, an, od, osl, h1, h2, h3, h4, h5, h6, h7⟩ := F.ex
  refine PE_imp (LamX.pe_lamcall (T := Tb.T) (t := fun E' => tEx X.K cl c .safe te E') hg F.gm F.kp h1 h2 h3 h4 h5 h6 h7 TB hcode hmT hu hr L hdef hbind hbody hdb hd hcd) (told_core (m := .safe) (cc := c) (f := fun r => match r with | .ok w t => .ok w t | .exc e t => exC n hs e t | .bad => .bad) hA hn ?_)
  intro tp hT hid tl H1 Q r o go
  refine go _ ?_
  cases r with
  | ok u t => exact o
  | exc e t =>
    have o : Out cl tp E H1 (exC n hs e t) (PWm X.K .safe hT hid) Q := o
    intro H' m k
    obtain ⟨he, o⟩ : e < n ∧ Out cl tp E H1 (match hs.lookup e with | some w => if isC w = true then .ok w t else .bad | none => .bad) (PWm X.K .safe hT hid) Q := by
      by_cases he : e < n
      · exact ⟨he, by rw [show exC n hs e t = _ from if_pos he] at o; exact o⟩
      · rw [show exC n hs e t = .bad from if_neg he] at o; exact False.elim o
    cases q : hs.lookup e with
    | none => rw [q] at o; exact False.elim o
    | some u =>
      rw [q] at o
      obtain ⟨hc, o⟩ := few_ok o
      exact wish_of hA he hn q (o _ H' m k (im_c hc))
  | bad => exact o
end
end Ev

end

section
/-! EvC: the rules in short, for printed derivations. -/
namespace Ev
open PySem PySem.Spec PyProof.Rows L2
variable [Tb]
theorem boot_len' : bootBuiltins "len" = some (.builtin "len") := by decide +kernel
theorem boot_abs' : bootBuiltins "abs" = some (.builtin "abs") := by decide +kernel
theorem boot_all' : bootBuiltins "all" = some (.builtin "all") := by decide +kernel
theorem boot_any' : bootBuiltins "any" = some (.builtin "any") := by decide +kernel
theorem boot_sum' : bootBuiltins "sum" = some (.builtin "sum") := by decide +kernel
theorem boot_min' : bootBuiltins "min" = some (.builtin "min") := by decide +kernel
theorem boot_max' : bootBuiltins "max" = some (.builtin "max") := by decide +kernel
theorem boot_isi' : bootBuiltins "isinstance" = some (.builtin "isinstance") := by decide +kernel
theorem boot_int' : bootBuiltins "int" = some (.type "int") := by decide +kernel
theorem boot_bool' : bootBuiltins "bool" = some (.type "bool") := by decide +kernel
theorem boot_str' : bootBuiltins "str" = some (.type "str") := by decide +kernel
theorem boot_tuple' : bootBuiltins "tuple" = some (.type "tuple") := by decide +kernel
theorem boot_list' : bootBuiltins "list" = some (.type "list") := by decide +kernel
/-- the built-in names stand for themselves -/
structure Bn (mg : Str → Option Value) : Prop where
  len : mg "len" = none
  abs : mg "abs" = none
  all : mg "all" = none
  any : mg "any" = none
  sum : mg "sum" = none
  min : mg "min" = none
  max : mg "max" = none
  isi : mg "isinstance" = none
  int : mg "int" = none
  bool : mg "bool" = none
  tuple : mg "tuple" = none
  list : mg "list" = none
  range : mg "range" = none
  enum : mg "enumerate" = none
  zip : mg "zip" = none
def bnNames : List Str := ["len", "abs", "all", "any", "sum", "min", "max", "isinstance", "int", "bool", "tuple", "list", "range", "enumerate", "zip"]
section
variable {X : Cx} {cl : Nat → Addr} {c : Cf} {E : XK} {pos p : Pos} {a b d e : Expr} {es : List Expr} {sa sb sc : Ex} {ss : Exs} {ta tb tc : Et} {m : Mo} {k : Nat} {bb : Bool}
theorem vS (i : Nat) {x : Str} (hN : X.N[i]? = some x := by rfl) (hv : Vis X.env.scope x := by first | exact .inl rfl | exact .inr (.inl rfl) | exact .inr (.inr rfl)) (hm : i ∉ c.M := by decide) (hs : c.scr ≠ some i := by decide) (hd : (x == ("__debug__" : Str)) = false := by decide) (hcd : (x == ("__classdict__" : Str)) = false := by decide) :
    EX X cl c .safe (.Name x pos) (eVar i) E := ev_var hN hv hm hs hd hcd
theorem vB (i : Nat) {x : Str} (hN : X.N[i]? = some x := by rfl) (hv : Vis X.env.scope x := by first | exact .inl rfl | exact .inr (.inl rfl) | exact .inr (.inr rfl)) (hs : c.scr ≠ some i := by decide) (hd : (x == ("__debug__" : Str)) = false := by decide) (hcd : (x == ("__classdict__" : Str)) = false := by decide) :
    EX X cl c .bor (.Name x pos) (eVar i) E := ev_varB hN hv hs hd hcd
theorem vC (i : Nat) {x : Str} (hN : X.N[i]? = some x := by rfl) (hv : Vis X.env.scope x := by first | exact .inl rfl | exact .inr (.inl rfl) | exact .inr (.inr rfl)) (hs : c.scr = some i := by rfl) (hd : (x == ("__debug__" : Str)) = false := by decide) (hcd : (x == ("__classdict__" : Str)) = false := by decide) :
    EX X cl c .rd (.Name x pos) (eVar i) E := ev_scr hN hv hs hd hcd
theorem gC {x : Str} {w : W} (hc : Cst X.K X.mg x w) (hg : Gl X x := by rfl) (hd : (x == ("__debug__" : Str)) = false := by decide) : EX X cl c .safe (.Name x pos) (eC w) E := ev_glob hg hc hd
/-! operators -/
theorem bAdd (ha : EX X cl c .bor a sa E) (hb : EX X cl c .bor b sb E) : EX X cl c .safe (.BinOp a .Add b pos) (eBin wAdd sa sb) E := ev_bin op_addW ok_add ha hb
theorem bAddL (ha : EX X cl c .bor a sa E) (hb : EX X cl c .bor b sb E) : EX X cl c .fresh (.BinOp a .Add b pos) (eBin wAddL sa sb) E := ev_bin op_cat ok_addL ha hb
theorem bSub (ha : EX X cl c .bor a sa E) (hb : EX X cl c .bor b sb E) : EX X cl c .safe (.BinOp a .Sub b pos) (eBin wSub sa sb) E := ev_bin op_sub ok_sub ha hb
theorem bMul (ha : EX X cl c .bor a sa E) (hb : EX X cl c .bor b sb E) : EX X cl c .safe (.BinOp a .Mult b pos) (eBin wMul sa sb) E := ev_bin op_mulW' ok_mul ha hb
theorem bMulL (ha : EX X cl c .bor a sa E) (hb : EX X cl c .bor b sb E) : EX X cl c .fresh (.BinOp a .Mult b pos) (eBin wMulL sa sb) E := ev_bin op_rep ok_mulL ha hb
theorem bDiv (ha : EX X cl c .bor a sa E) (hb : EX X cl c .bor b sb E) : EX X cl c .safe (.BinOp a .FloorDiv b pos) (eBin wFdiv sa sb) E := ev_bin op_fdivX ok_fdiv ha hb
theorem bMod (ha : EX X cl c .bor a sa E) (hb : EX X cl c .bor b sb E) : EX X cl c .safe (.BinOp a .Mod b pos) (eBin wMod sa sb) E := ev_bin op_modN ok_mod ha hb
theorem uNeg (ha : EX X cl c .rd a sa E) : EX X cl c .safe (.UnaryOp .USub a pos) (eUn wNeg sa) E := ev_un un_neg ok_neg ha
/-! comparisons -/
theorem cEq (hr : Room k X.A) (ha : EX X cl c .bor a sa E) (hb : EX X cl c .bor b sb E) : EX X cl c .bor (.Compare a [.Eq] [b] pos) (eBin wEq sa sb) E := ev_cmp (op_eqD hr.units) ok_eq ha hb (nomark _)
theorem cNe (hr : Room k X.A) (ha : EX X cl c .bor a sa E) (hb : EX X cl c .bor b sb E) : EX X cl c .bor (.Compare a [.NotEq] [b] pos) (eBin wNe sa sb) E := ev_cmp (op_neD hr.units) ok_ne ha hb (nomark _)
theorem cLt (ha : EX X cl c .bor a sa E) (hb : EX X cl c .bor b sb E) : EX X cl c .bor (.Compare a [.Lt] [b] pos) (eBin wLt sa sb) E := ev_cmp op_lt ok_cmp ha hb (nomark _)
theorem cLe (ha : EX X cl c .bor a sa E) (hb : EX X cl c .bor b sb E) : EX X cl c .bor (.Compare a [.LtE] [b] pos) (eBin wLe sa sb) E := ev_cmp op_le ok_cmp ha hb (nomark _)
theorem cGt (ha : EX X cl c .bor a sa E) (hb : EX X cl c .bor b sb E) : EX X cl c .bor (.Compare a [.Gt] [b] pos) (eBin wGt sa sb) E := ev_cmp op_gt ok_cmp ha hb (nomark _)
theorem cGe (ha : EX X cl c .bor a sa E) (hb : EX X cl c .bor b sb E) : EX X cl c .bor (.Compare a [.GtE] [b] pos) (eBin wGe sa sb) E := ev_cmp op_ge ok_cmp ha hb (nomark _)
theorem cIsB (ha : EX X cl c .bor a sa E) (hb : EX X cl c .bor b sb E) : EX X cl c .bor (.Compare a [.Is] [b] pos) (eBin (wIsB false) sa sb) E := ev_cmp op_is_bl ok_isB ha hb (nomark _)
theorem cNotB (ha : EX X cl c .bor a sa E) (hb : EX X cl c .bor b sb E) : EX X cl c .bor (.Compare a [.IsNot] [b] pos) (eBin (wIsB true) sa sb) E := ev_cmp op_notBl ok_notB ha hb (nomark _)
theorem tEq (hr : Room k X.A) (ha : EX X cl c .bor a sa E) (hb : EX X cl c .bor b sb E) : TX X cl c (.Compare a [.Eq] [b] pos) (eTest (eBin wEq sa sb)) E := tx_cmp (op_eqD hr.units) ok_eq ha hb (nomark _)
theorem tNe (hr : Room k X.A) (ha : EX X cl c .bor a sa E) (hb : EX X cl c .bor b sb E) : TX X cl c (.Compare a [.NotEq] [b] pos) (eTest (eBin wNe sa sb)) E := tx_cmp (op_neD hr.units) ok_ne ha hb (nomark _)
theorem tLt (ha : EX X cl c .bor a sa E) (hb : EX X cl c .bor b sb E) : TX X cl c (.Compare a [.Lt] [b] pos) (eTest (eBin wLt sa sb)) E := tx_cmp op_lt ok_cmp ha hb (nomark _)
theorem tLe (ha : EX X cl c .bor a sa E) (hb : EX X cl c .bor b sb E) : TX X cl c (.Compare a [.LtE] [b] pos) (eTest (eBin wLe sa sb)) E := tx_cmp op_le ok_cmp ha hb (nomark _)
theorem tGt (ha : EX X cl c .bor a sa E) (hb : EX X cl c .bor b sb E) : TX X cl c (.Compare a [.Gt] [b] pos) (eTest (eBin wGt sa sb)) E := tx_cmp op_gt ok_cmp ha hb (nomark _)
theorem tGe (ha : EX X cl c .bor a sa E) (hb : EX X cl c .bor b sb E) : TX X cl c (.Compare a [.GtE] [b] pos) (eTest (eBin wGe sa sb)) E := tx_cmp op_ge ok_cmp ha hb (nomark _)
theorem tIsB (ha : EX X cl c .bor a sa E) (hb : EX X cl c .bor b sb E) : TX X cl c (.Compare a [.Is] [b] pos) (eTest (eBin (wIsB false) sa sb)) E := tx_cmp op_is_bl ok_isB ha hb (nomark _)
theorem tNotB (ha : EX X cl c .bor a sa E) (hb : EX X cl c .bor b sb E) : TX X cl c (.Compare a [.IsNot] [b] pos) (eTest (eBin (wIsB true) sa sb)) E := tx_cmp op_notBl ok_notB ha hb (nomark _)
theorem tLtLe (ha : EX X cl c .bor a sa E) (hb : EX X cl c .bor b sb E) (hd : EX X cl c .bor d sc E) : TX X cl c (.Compare a [.Lt, .LtE] [b, d] pos) (eTest (eChain wLt wLe sa sb sc)) E := tx_chain op_lt op_le ok_cmp ok_cmp ha hb hd (nomark _)
theorem cLtLe (ha : EX X cl c .bor a sa E) (hb : EX X cl c .bor b sb E) (hd : EX X cl c .bor d sc E) : EX X cl c .bor (.Compare a [.Lt, .LtE] [b, d] pos) (eChain wLt wLe sa sb sc) E := ev_chain op_lt op_le ok_cmp ok_cmp ha hb hd (nomark _)
theorem tV (h : EX X cl c .bor e sa E) (he : ∀ whole, isTrue e X.env whole = (do let v ← whole; standAt e.pos; holding [v] (truthy v)) := by intro _; rfl) : TX X cl c e (eTest sa) E := tx_val h he
theorem tT1 {whole : Expr} {t : Et} (h : TXw X cl c whole t E) : TX X cl c whole t E := tx_of h
/-! items -/
theorem iX (ha : EX X cl c .rd a sa E) (hb : EX X cl c .bor b sb E) (hs : PlainIx b := by intro _ _; rfl) : EX X cl c .safe (.Subscript a b pos) (eBin wIdx sa sb) E := ev_idx ha hb hs
/-! arguments -/
theorem aS (ha : EX X cl c .safe a sa E) (hr : AX X cl c true es ss E) (hs : starEach (a :: es) X.env = (false, eval a X.env) :: starEach es X.env := by rfl) : AX X cl c true (a :: es) (eCons sa ss) E := as_consS ha hr hs
theorem aB (ha : EX X cl c .rd a sa E) (hr : AX X cl c false es ss E) (hs : starEach (a :: es) X.env = (false, eval a X.env) :: starEach es X.env := by rfl) : AX X cl c false (a :: es) (eCons sa ss) E := as_consB ha hr hs
theorem aO (ha : EX X cl c .bor a sa E) (hr : AB X cl c es ss E) (hs : starEach (a :: es) X.env = (false, eval a X.env) :: starEach es X.env := by rfl) : AB X cl c (a :: es) (eCons sa ss) E := ab_cons ha hr hs
theorem nS : AX X cl c true [] eNil E := as_nil
theorem nB : AX X cl c false [] eNil E := as_nil
/-! built-in functions -/
theorem fLen (B : Bn X.mg) (ha : AX X cl c false (a :: es) ss E) (hg : Gl X "len" := by rfl) (he : starEach (a :: es) X.env = (false, eval a X.env) :: starEach es X.env := by rfl) (hpl : (backTo pos (starEach es X.env)).any (·.1) = false := by rfl) : EX X cl c .safe (.Call (.Name "len" p) (a :: es) [] pos) (eCallB gLen ss) E :=
  ev_callB call_len_seq ok_len hg B.len boot_len' ha (by decide) (by decide) he hpl
theorem fAbs (B : Bn X.mg) (ha : AX X cl c false (a :: es) ss E) (hg : Gl X "abs" := by rfl) (he : starEach (a :: es) X.env = (false, eval a X.env) :: starEach es X.env := by rfl) (hpl : (backTo pos (starEach es X.env)).any (·.1) = false := by rfl) : EX X cl c .safe (.Call (.Name "abs" p) (a :: es) [] pos) (eCallB gAbs ss) E :=
  ev_callB call_abs ok_abs hg B.abs boot_abs' ha (by decide) (by decide) he hpl
theorem fAll (B : Bn X.mg) (ha : AX X cl c false (a :: es) ss E) (hc : X.calm = true := by rfl) (hg : Gl X "all" := by rfl) (he : starEach (a :: es) X.env = (false, eval a X.env) :: starEach es X.env := by rfl) (hpl : (backTo pos (starEach es X.env)).any (·.1) = false := by rfl) : EX X cl c .safe (.Call (.Name "all" p) (a :: es) [] pos) (eCallB gAll ss) E :=
  ev_callB (cr_all hc) ok_all hg B.all boot_all' ha (by decide) (by decide) he hpl
theorem fAny (B : Bn X.mg) (ha : AX X cl c false (a :: es) ss E) (hc : X.calm = true := by rfl) (hg : Gl X "any" := by rfl) (he : starEach (a :: es) X.env = (false, eval a X.env) :: starEach es X.env := by rfl) (hpl : (backTo pos (starEach es X.env)).any (·.1) = false := by rfl) : EX X cl c .safe (.Call (.Name "any" p) (a :: es) [] pos) (eCallB gAny ss) E :=
  ev_callB (cr_any hc) ok_any hg B.any boot_any' ha (by decide) (by decide) he hpl
theorem fSum (B : Bn X.mg) (ha : AX X cl c false (a :: es) ss E) (hc : X.calm = true := by rfl) (hg : Gl X "sum" := by rfl) (he : starEach (a :: es) X.env = (false, eval a X.env) :: starEach es X.env := by rfl) (hpl : (backTo pos (starEach es X.env)).any (·.1) = false := by rfl) : EX X cl c .safe (.Call (.Name "sum" p) (a :: es) [] pos) (eCallB gSum ss) E :=
  ev_callB (cr_sum hc) ok_sum hg B.sum boot_sum' ha (by decide) (by decide) he hpl
theorem fMin (B : Bn X.mg) (ha : AX X cl c false (a :: es) ss E) (hc : X.calm = true := by rfl) (hg : Gl X "min" := by rfl) (he : starEach (a :: es) X.env = (false, eval a X.env) :: starEach es X.env := by rfl) (hpl : (backTo pos (starEach es X.env)).any (·.1) = false := by rfl) : EX X cl c .safe (.Call (.Name "min" p) (a :: es) [] pos) (eCallB gMin2 ss) E :=
  ev_callB (call_min2 hc) ok_min2 hg B.min boot_min' ha (by decide) (by decide) he hpl
theorem fMax (B : Bn X.mg) (ha : AX X cl c false (a :: es) ss E) (hc : X.calm = true := by rfl) (hg : Gl X "max" := by rfl) (he : starEach (a :: es) X.env = (false, eval a X.env) :: starEach es X.env := by rfl) (hpl : (backTo pos (starEach es X.env)).any (·.1) = false := by rfl) : EX X cl c .safe (.Call (.Name "max" p) (a :: es) [] pos) (eCallB gMax2 ss) E :=
  ev_callB (call_max2 hc) ok_max2 hg B.max boot_max' ha (by decide) (by decide) he hpl
theorem fInt (B : Bn X.mg) (ha : AX X cl c false (a :: es) ss E) (hg : Gl X "int" := by rfl) (he : starEach (a :: es) X.env = (false, eval a X.env) :: starEach es X.env := by rfl) (hpl : (backTo pos (starEach es X.env)).any (·.1) = false := by rfl) : EX X cl c .safe (.Call (.Name "int" p) (a :: es) [] pos) (eCallB gInt ss) E :=
  ev_callTy call_int1 ok_int hg B.int boot_int' ha (by decide) (by decide) he hpl
theorem fTuple (B : Bn X.mg) (ha : AX X cl c false (a :: es) ss E) (hg : Gl X "tuple" := by rfl) (he : starEach (a :: es) X.env = (false, eval a X.env) :: starEach es X.env := by rfl) (hpl : (backTo pos (starEach es X.env)).any (·.1) = false := by rfl) : EX X cl c .safe (.Call (.Name "tuple" p) (a :: es) [] pos) (eCallB gTuple ss) E :=
  ev_callTy call_tuple_of ok_tuple hg B.tuple boot_tuple' ha (by decide) (by decide) he hpl
theorem fList (B : Bn X.mg) (ha : AX X cl c false (a :: es) ss E) (hg : Gl X "list" := by rfl) (he : starEach (a :: es) X.env = (false, eval a X.env) :: starEach es X.env := by rfl) (hpl : (backTo pos (starEach es X.env)).any (·.1) = false := by rfl) : EX X cl c .fresh (.Call (.Name "list" p) (a :: es) [] pos) (eCallB gList ss) E :=
  ev_callTy call_list_of ok_list hg B.list boot_list' ha (by decide) (by decide) he hpl
theorem isT {q : Pos} (B : Bn X.mg) (ha : EX X cl c .bor a sa E) (hg : Gl X "isinstance" := by rfl) (hg2 : Gl X "tuple" := by rfl) (he : starEach [a, .Name "tuple" q] X.env = (false, eval a X.env) :: starEach [.Name "tuple" q] X.env := by rfl) (he2 : starEach [.Name "tuple" q] X.env = [(false, eval (.Name "tuple" q) X.env)] := by rfl) (hpl : (backTo pos (starEach [.Name "tuple" q] X.env)).any (·.1) = false := by rfl) :
    EX X cl c .bor (.Call (.Name "isinstance" p) [a, .Name "tuple" q] [] pos) (eIsI "tuple" sa) E := ev_isi kit_tuple hg B.isi boot_isi' hg2 B.tuple boot_tuple' ha (by decide) (by decide) (by decide) (by decide) he he2 hpl
theorem isI {q : Pos} (B : Bn X.mg) (ha : EX X cl c .bor a sa E) (hg : Gl X "isinstance" := by rfl) (hg2 : Gl X "int" := by rfl) (he : starEach [a, .Name "int" q] X.env = (false, eval a X.env) :: starEach [.Name "int" q] X.env := by rfl) (he2 : starEach [.Name "int" q] X.env = [(false, eval (.Name "int" q) X.env)] := by rfl) (hpl : (backTo pos (starEach [.Name "int" q] X.env)).any (·.1) = false := by rfl) :
    EX X cl c .bor (.Call (.Name "isinstance" p) [a, .Name "int" q] [] pos) (eIsI "int" sa) E := ev_isi kit_int hg B.isi boot_isi' hg2 B.int boot_int' ha (by decide) (by decide) (by decide) (by decide) he he2 hpl
theorem isB {q : Pos} (B : Bn X.mg) (ha : EX X cl c .bor a sa E) (hg : Gl X "isinstance" := by rfl) (hg2 : Gl X "bool" := by rfl) (he : starEach [a, .Name "bool" q] X.env = (false, eval a X.env) :: starEach [.Name "bool" q] X.env := by rfl) (he2 : starEach [.Name "bool" q] X.env = [(false, eval (.Name "bool" q) X.env)] := by rfl) (hpl : (backTo pos (starEach [.Name "bool" q] X.env)).any (·.1) = false := by rfl) :
    EX X cl c .bor (.Call (.Name "isinstance" p) [a, .Name "bool" q] [] pos) (eIsI "bool" sa) E := ev_isi kit_bool hg B.isi boot_isi' hg2 B.bool boot_bool' ha (by decide) (by decide) (by decide) (by decide) he he2 hpl
/-! what is walked -/
variable {tg : Expr}
theorem wR1 {q : Pos} (B : Bn X.mg) (ha : AX X cl c false [a] ss E) (hg : Gl X "range" := by rfl) (hs : starEach [a] X.env = [(false, eval a X.env)] := by rfl) : IX X cl c bb tg (.Call (.Name "range" q) [a] [] pos) (sRng gRng1 ss) E := ix_rng1 hg B.range ha hs
theorem wR2 {q : Pos} (B : Bn X.mg) (ha : AX X cl c false [a, b] ss E) (hg : Gl X "range" := by rfl) (hs : starEach [a, b] X.env = [(false, eval a X.env), (false, eval b X.env)] := by rfl) (hs2 : starEach [b] X.env = [(false, eval b X.env)] := by rfl) : IX X cl c bb tg (.Call (.Name "range" q) [a, b] [] pos) (sRng gRng2 ss) E := ix_rng2 hg B.range ha hs hs2
theorem wEn {q tpos : Pos} {elts : List Expr} {kk : Nat} (B : Bn X.mg) (ha : EX X cl c (moOf bb) a sa E) (hg : Gl X "enumerate" := by rfl) (hs : starEach [a] X.env = [(false, eval a X.env)] := by rfl) : IX X cl c bb (.Tuple elts kk tpos) (.Call (.Name "enumerate" q) [a] [] pos) (sEnum sa) E := ix_enum hg B.enum ha hs
theorem wZ {q tpos : Pos} {elts : List Expr} {kk : Nat} (B : Bn X.mg) (ha : EX X cl c (moOf bb) a sa E) (hb : EX X cl c (moOf bb) b sb E) (hg : Gl X "zip" := by rfl) (hs : starEach [a, b] X.env = (false, eval a X.env) :: starEach [b] X.env := by rfl) (hs2 : starEach [b] X.env = [(false, eval b X.env)] := by rfl) (hpl : (backTo pos (starEach [b] X.env)).any (·.1) = false := by rfl) :
    IX X cl c bb (.Tuple elts kk tpos) (.Call (.Name "zip" q) [a, b] [] pos) (sZip sa sb) E := ix_zip hg B.zip ha hb hs hs2 hpl
theorem wS (h : EX X cl c (moOf bb) e sa E) : IX X cl c bb tg e (sSeq sa) E := ix_seqW h
/-! targets -/
theorem gV (i : Nat) {x : Str} (hN : X.N.Nodup) (hi : X.N[i]? = some x := by rfl) (hx : Loc X.env.scope x := by first | exact .inl rfl | exact .inr rfl) (hf : X.fn x = true ∨ X.env.scope.names.lookup x = some .local := by first | exact .inl rfl | exact .inr rfl) (hm : i ∉ c.M := by decide) (hs : c.scr ≠ some i := by decide) (ht : c.tape ≠ some i := by decide) : GX X c (.Name x pos) (gN i) [i] := gx_name hN hi hx hf hm hs ht
theorem gSs {e : Expr} {es : List Expr} {g : Gw} {gs : Gws} {is js : List Nat} {n : Nat} (h1 : GX X c e g is) (h2 : GXs X c es gs js n) (hs : (assignEach (e :: es) X.env).map (·.2) = assign e X.env :: (assignEach es X.env).map (·.2) := by rfl) : GXs X c (e :: es) (gsC g gs) (is ++ js) (n + 1) := gxs_cons h1 h2 hs
theorem gT {es : List Expr} {k : Nat} {gs : Gws} {is : List Nat} {n : Nat} (h : GXs X c es gs is n) (hc : X.calm = true := by rfl) (hn : (assignEach es X.env).length = n := by rfl) (hst : (assignEach es X.env).findIdx? (·.1) = none := by rfl) : GX X c (.Tuple es k pos) (gTp gs) is := gx_tup hc h hn hst
/-! comprehensions -/
theorem lC {elt tg iter : Expr} {ifs : List Expr} {scope : Scope} (own : List (Str × Nat)) {src : Exs} {is : List Nat} {g : Gw} {tt : Et} {te : Ex} (hN : X.N.Nodup) (hi : IX X cl c false tg iter src E)
    (hg : ∀ (s : Shared) (H : Hp) (C : Addr) (cl : List (Str × Addr)) (fp : List Addr), GX (X.blk s H scope (compEnvC scope cl C X.env) fp) c tg g is)
    (ht : ∀ (s : Shared) (H : Hp) (C : Addr) (cl' : List (Str × Addr)) (fp : List Addr), TsX (X.blk s H scope (compEnvC scope cl' C X.env) fp) cl c ifs tt E0)
    (he : ∀ (s : Shared) (H : Hp) (C : Addr) (cl' : List (Str × Addr)) (fp : List Addr), EX (X.blk s H scope (compEnvC scope cl' C X.env) fp) cl c .safe elt te E0)
    (ok : blkC X.N X.env.scope scope own = true := by rfl)
    (hc : X.calm = true := by rfl) (hs : ∀ x, foldedSetIterable iter X.env x = pure x := by intro _; rfl) (his : ∀ i ∈ is, i ∈ own.map (·.2) := by decide) (hvt : ∀ i ∈ own.map (·.2), c.tape ≠ some i := by decide) :
    EX X cl c .fresh (.ListComp elt [⟨tg, iter, ifs, 0⟩] scope pos) (eLc src (own.map (·.2)) g tt te) E := ev_lc hc hN hi (blkOk_by ok) hg ht he hs his hvt
/-! calls -/
variable {fn : Fs} {x : Str} {fr : Bool}
theorem kS (F : FnA X.prog X.w X.K X.mg X.base x k (FnS X.K cl false fn)) (hr : Room k X.A) (hx : Passes (L2.CX X.prog X.w) X E) (ha : AX X cl c true (e :: es) ss E) (hg : Gl X x := by rfl)
    (hdb : (x == ("__debug__" : Str)) = false := by decide) (he : starEach (e :: es) X.env = (false, eval e X.env) :: starEach es X.env := by rfl) (hpl : (backTo pos (starEach es X.env)).any (·.1) = false := by rfl) : EX X cl c .safe (.Call (.Name x p) (e :: es) [] pos) (eCall fn ss) E := ev_call F hr hg hx ha hdb he hpl
theorem kF (F : FnA X.prog X.w X.K X.mg X.base x k (FnS X.K cl true fn)) (hr : Room k X.A) (hx : Passes (L2.CX X.prog X.w) X E) (ha : AX X cl c true (e :: es) ss E) (hg : Gl X x := by rfl)
    (hdb : (x == ("__debug__" : Str)) = false := by decide) (he : starEach (e :: es) X.env = (false, eval e X.env) :: starEach es X.env := by rfl) (hpl : (backTo pos (starEach es X.env)).any (·.1) = false := by rfl) : EX X cl c .fresh (.Call (.Name x p) (e :: es) [] pos) (eCall fn ss) E := ev_call F hr hg hx ha hdb he hpl
theorem k0 (F : FnA X.prog X.w X.K X.mg X.base x k (FnS X.K cl false fn)) (hr : Room k X.A) (hx : Passes (L2.CX X.prog X.w) X E) (hg : Gl X x := by rfl) (hdb : (x == ("__debug__" : Str)) = false := by decide) : EX X cl c .safe (.Call (.Name x p) [] [] pos) (eCall fn eNil) E := ev_call0 F hr hg hx hdb
theorem kO (F : FnA X.prog X.w X.K X.mg X.base x k (FnS X.K cl false fn)) (hr : Room k X.A) (hx : Passes (L2.CX X.prog X.w) X E) (ha : AB X cl c (e :: es) ss E) (hg : Gl X x := by rfl)
    (hdb : (x == ("__debug__" : Str)) = false := by decide) (he : starEach (e :: es) X.env = (false, eval e X.env) :: starEach es X.env := by rfl) (hpl : (backTo pos (starEach es X.env)).any (·.1) = false := by rfl) : EX X cl c .safe (.Call (.Name x p) (e :: es) [] pos) (eCallB' fn ss) E := ev_callB' F hr hg hx ha hdb he hpl
theorem kC (i : Nat) {y : Str} {q : Pos} (F : FnA X.prog X.w X.K X.mg X.base x k (FnC X.K cl fn)) (hr : Room k X.A) (hx : Passes (L2.CX X.prog X.w) X E) (ha : AX X cl c true es ss E) (hN : X.N[i]? = some y := by rfl) (hv : Vis X.env.scope y := by first | exact .inl rfl | exact .inr (.inl rfl) | exact .inr (.inr rfl)) (hs : c.scr = some i := by rfl) (hg : Gl X x := by rfl)
    (hd : (y == ("__debug__" : Str)) = false := by decide) (hcd : (y == ("__classdict__" : Str)) = false := by decide)
    (hdb : (x == ("__debug__" : Str)) = false := by decide) (he : starEach (.Name y q :: es) X.env = (false, eval (.Name y q) X.env) :: starEach es X.env := by rfl) (hpl : (backTo pos (starEach es X.env)).any (·.1) = false := by rfl) : EX X cl c .safe (.Call (.Name x p) (.Name y q :: es) [] pos) (eScr fn i ss) E := ev_callC F hr hg hx hN hv hs ha hd hcd hdb he hpl
/-! statements -/
variable {st : Stmt} {rest : List Stmt} {s : Ex} {u v : Sv}
theorem nm {i : Nat} {x : Str} (nd : X.N.Nodup) (h : X.N[i]? = some x := by rfl) (l : Loc X.env.scope x := by first | exact .inl rfl | exact .inr rfl) (f : X.fn x = true ∨ X.env.scope.names.lookup x = some .local := by first | exact .inl rfl | exact .inr rfl) (s : c.scr ≠ some i := by decide) (t : c.tape ≠ some i := by decide) : NmOk X c i x := ⟨nd, h, l, f, s, t⟩
theorem zSet (i : Nat) {x : Str} {pos' : Pos} (nd : X.N.Nodup) (he : EX X cl c .safe e s E) (n : NmOk X c i x := by exact nm (by assumption)) (hm : i ∉ c.M := by decide) (hs : swapsWith e (some (.Name x pos')) pos.line X.env = pure false := by rfl) : SX X cl c fr (.Assign [.Name x pos'] e pos) (sSet i s) E := sx_set n hm he hs
theorem zOwn (i : Nat) {x : Str} {pos' : Pos} (nd : X.N.Nodup) (he : EX X cl c .fresh e s E) (n : NmOk X c i x := by exact nm (by assumption)) (hm : i ∈ c.M := by decide) (hs : swapsWith e (some (.Name x pos')) pos.line X.env = pure false := by rfl) : SX X cl c fr (.Assign [.Name x pos'] e pos) (sSet i s) E := sx_own n hm he hs
theorem zMove (i j : Nat) {x y : Str} {pos' p : Pos} (nd : X.N.Nodup) (n : NmOk X c i x := by exact nm (by assumption)) (hi : i ∈ c.M := by decide) (hj : j ∈ c.M := by decide) (hij : i ≠ j := by decide) (hN : X.N[j]? = some y := by rfl) (hv : Vis X.env.scope y := by first | exact .inl rfl | exact .inr (.inl rfl) | exact .inr (.inr rfl)) (hd : (y == ("__debug__" : Str)) = false := by decide) (hcd : (y == ("__classdict__" : Str)) = false := by decide)
    (hs : swapsWith (.Name y p) (some (.Name x pos')) pos.line X.env = pure false := by rfl) : SX X cl c fr (.Assign [.Name x pos'] (.Name y p) pos) (sMove i j) E := sx_move n hi hj hij hN hv hd hcd hs
theorem zFreeze (i j : Nat) {x y : Str} {pos' p : Pos} (nd : X.N.Nodup) (n : NmOk X c i x := by exact nm (by assumption)) (hi : i ∉ c.M := by decide) (hj : j ∈ c.M := by decide) (hN : X.N[j]? = some y := by rfl) (hv : Vis X.env.scope y := by first | exact .inl rfl | exact .inr (.inl rfl) | exact .inr (.inr rfl)) (hd : (y == ("__debug__" : Str)) = false := by decide) (hcd : (y == ("__classdict__" : Str)) = false := by decide)
    (hs : swapsWith (.Name y p) (some (.Name x pos')) pos.line X.env = pure false := by rfl) : SX X cl c fr (.Assign [.Name x pos'] (.Name y p) pos) (sMove i j) E := sx_freeze n hi hj hN hv hd hcd hs
theorem zAsg {tg : Expr} {g : Gw} {is : List Nat} (hg : GX X c tg g is) (he : EX X cl c .safe e s E) (hm : ∀ i ∈ is, i ∉ c.M := by decide) (hs : swapsWithSole [tg] e pos.line X.env = pure false := by rfl) (hw : swappedStores [tg] e X.env = pure none := by rfl) (h1 : (assignEach [tg] X.env).map (·.2) = [assign tg X.env] := by rfl) : SX X cl c fr (.Assign [tg] e pos) (sAsg g s) E := sx_asg hg hm he hs hw h1
theorem zPar2 (i j : Nat) (b1 b2 : Bool) {x y : Str} {px py pt : Pos} {kt k2 pt2} (nd : X.N.Nodup) (ha : EX X cl c (mo b1) a sa E) (hb : EX X cl c (mo b2) b sb E) (n1 : NmOk X c i x := by exact nm (by assumption)) (n2 : NmOk X c j y := by exact nm (by assumption)) (hij : i ≠ j := by decide) (l1 : X.env.scope.names.lookup x = some .local := by rfl) (l2 : X.env.scope.names.lookup y = some .local := by rfl) (m1 : decide (i ∈ c.M) = b1 := by rfl) (m2 : decide (j ∈ c.M) = b2 := by rfl)
    (h1 : starEach [a, b] X.env = (false, eval a X.env) :: starEach [b] X.env := by rfl) (h2 : starEach [b] X.env = [(false, eval b X.env)] := by rfl)
    (hw : swappedStores [.Tuple [.Name x px, .Name y py] kt pt] (.Tuple [a, b] k2 pt2) X.env = pure (some [x, y]) := by rfl)
    (hs : swapsWithSole [.Tuple [.Name x px, .Name y py] kt pt] (.Tuple [a, b] k2 pt2) pos.line X.env = pure false := by rfl) (hc : X.calm = true := by rfl) :
    SX X cl c fr (.Assign [.Tuple [.Name x px, .Name y py] kt pt] (.Tuple [a, b] k2 pt2) pos) (sPar2 i j sa sb) E := sx_par2 hc n1 n2 hij l1 l2 m1 m2 ha hb h1 h2 hw hs
theorem zPar3 (i j l : Nat) (b1 b2 b3 : Bool) {x y z : Str} {px py pz pt : Pos} {kt k2 pt2} (nd : X.N.Nodup) (ha : EX X cl c (mo b1) a sa E) (hb : EX X cl c (mo b2) b sb E) (hd : EX X cl c (mo b3) d sc E) (n1 : NmOk X c i x := by exact nm (by assumption)) (n2 : NmOk X c j y := by exact nm (by assumption)) (n3 : NmOk X c l z := by exact nm (by assumption)) (hij : i ≠ j := by decide) (hil : i ≠ l := by decide) (hjl : j ≠ l := by decide) (l1 : X.env.scope.names.lookup x = some .local := by rfl) (l2 : X.env.scope.names.lookup y = some .local := by rfl) (l3 : X.env.scope.names.lookup z = some .local := by rfl) (m1 : decide (i ∈ c.M) = b1 := by rfl) (m2 : decide (j ∈ c.M) = b2 := by rfl) (m3 : decide (l ∈ c.M) = b3 := by rfl)
    (h1 : starEach [a, b, d] X.env = (false, eval a X.env) :: starEach [b, d] X.env := by rfl) (h2 : starEach [b, d] X.env = (false, eval b X.env) :: starEach [d] X.env := by rfl) (h3 : starEach [d] X.env = [(false, eval d X.env)] := by rfl)
    (hw : swappedStores [.Tuple [.Name x px, .Name y py, .Name z pz] kt pt] (.Tuple [a, b, d] k2 pt2) X.env = pure (some [x, y, z]) := by rfl)
    (hs : swapsWithSole [.Tuple [.Name x px, .Name y py, .Name z pz] kt pt] (.Tuple [a, b, d] k2 pt2) pos.line X.env = pure false := by rfl) (hc : X.calm = true := by rfl) :
    SX X cl c fr (.Assign [.Tuple [.Name x px, .Name y py, .Name z pz] kt pt] (.Tuple [a, b, d] k2 pt2) pos) (sPar3 i j l sa sb sc) E := sx_par3 hc n1 n2 n3 hij hil hjl l1 l2 l3 m1 m2 m3 ha hb hd h1 h2 h3 hw hs
theorem zIAdd (i : Nat) {x : Str} {pos' : Pos} (nd : X.N.Nodup) (he : EX X cl c .bor e s E) (n : NmOk X c i x := by exact nm (by assumption)) (hm : i ∉ c.M := by decide) : SX X cl c fr (.AugAssign (.Name x pos') .Add e pos) (sAug wIAdd i s) E := sx_aug n hm he ip_add ok_iadd
theorem zIMul (i : Nat) {x : Str} {pos' : Pos} (nd : X.N.Nodup) (he : EX X cl c .bor e s E) (n : NmOk X c i x := by exact nm (by assumption)) (hm : i ∉ c.M := by decide) : SX X cl c fr (.AugAssign (.Name x pos') .Mult e pos) (sAug wIMul i s) E := sx_aug n hm he iop_mulX ok_imul
theorem zIDiv (i : Nat) {x : Str} {pos' : Pos} (nd : X.N.Nodup) (he : EX X cl c .bor e s E) (n : NmOk X c i x := by exact nm (by assumption)) (hm : i ∉ c.M := by decide) : SX X cl c fr (.AugAssign (.Name x pos') .FloorDiv e pos) (sAug wFdiv i s) E := sx_aug n hm he iop_fdivX ok_fdiv
theorem zPut (i : Nat) {x : Str} {ix : Expr} {si : Ex} {px p : Pos} (hix : EX X cl c .bor ix si E) (he : EX X cl c .safe e s E) (hN : X.N[i]? = some x := by rfl) (hv : Vis X.env.scope x := by first | exact .inl rfl | exact .inr (.inl rfl) | exact .inr (.inr rfl)) (hm : i ∈ c.M := by decide) (hsc : c.scr ≠ some i := by decide) (hd : (x == ("__debug__" : Str)) = false := by decide) (hcd : (x == ("__classdict__" : Str)) = false := by decide)
    (ha : ∀ v, assign (.Subscript (.Name x px) ix p) X.env v = (do
      let ov ← holding [v] (eval (.Name x px) X.env)
      let iv ← holding [v, ov] (eval ix X.env)
      standAt p
      holding [v, ov, iv] (setItem ov iv v)
      release [v, ov, iv] []) := by intro _; rfl)
    (hs : swapsWithSole [.Subscript (.Name x px) ix p] e pos.line X.env = pure false := by rfl) (hw : swappedStores [.Subscript (.Name x px) ix p] e X.env = pure none := by rfl)
    (h1 : (assignEach [.Subscript (.Name x px) ix p] X.env).map (·.2) = [assign (.Subscript (.Name x px) ix p) X.env] := by rfl) : SX X cl c fr (.Assign [.Subscript (.Name x px) ix p] e pos) (sPut i si s) E := sx_put hN hv hm hsc hd hcd hix he ha hs hw h1
theorem zApp (i : Nat) {x : Str} {px apos cpos : Pos} (he : EX X cl c .safe e s E) (hN : X.N[i]? = some x := by rfl) (hv : Vis X.env.scope x := by first | exact .inl rfl | exact .inr (.inl rfl) | exact .inr (.inr rfl)) (hm : i ∈ c.M := by decide) (hsc : c.scr ≠ some i := by decide) (hd : (x == ("__debug__" : Str)) = false := by decide) (hcd : (x == ("__classdict__" : Str)) = false := by decide)
    (hbase : attributeBase (.Name x px) "append" X.env (eval (.Name x px) X.env) = eval (.Name x px) X.env := by rfl)
    (hfew : ((backTo cpos (starEach [e] X.env)).all (fun x => !x.1) && (backToKw cpos (keywordEach [] X.env)).all (fun x => x.1.isSome)
      && decide ([e].length + ([] : List Keyword).length + (if ([] : List Keyword).isEmpty then 0 else 1) < 30)) = true := by rfl)
    (hline : (apos.endLine == cpos.line) = true := by rfl) (hst : starEach [e] X.env = [(false, eval e X.env)] := by rfl) (hplain : (backTo cpos (starEach [] X.env)).any (·.1) = false := by rfl)
    (hsw : swapsWith (.Call (.Attribute (.Name x px) "append" apos) [e] [] cpos) none pos.line X.env = pure false := by rfl) :
    SX X cl c fr (.Expr (.Call (.Attribute (.Name x px) "append" apos) [e] [] cpos) pos) (sApp i s) E := sx_app hN hv hm hsc hd hcd he hbase hfew hline hst hplain hsw
theorem zExt (i : Nat) {x : Str} {px apos cpos : Pos} (he : EX X cl c .bor e s E) (hN : X.N[i]? = some x := by rfl) (hv : Vis X.env.scope x := by first | exact .inl rfl | exact .inr (.inl rfl) | exact .inr (.inr rfl)) (hm : i ∈ c.M := by decide) (hsc : c.scr ≠ some i := by decide) (hd : (x == ("__debug__" : Str)) = false := by decide) (hcd : (x == ("__classdict__" : Str)) = false := by decide)
    (hbase : attributeBase (.Name x px) "extend" X.env (eval (.Name x px) X.env) = eval (.Name x px) X.env := by rfl)
    (hfew : ((backTo cpos (starEach [e] X.env)).all (fun x => !x.1) && (backToKw cpos (keywordEach [] X.env)).all (fun x => x.1.isSome)
      && decide ([e].length + ([] : List Keyword).length + (if ([] : List Keyword).isEmpty then 0 else 1) < 30)) = true := by rfl)
    (hline : (apos.endLine == cpos.line) = true := by rfl) (hst : starEach [e] X.env = [(false, eval e X.env)] := by rfl) (hplain : (backTo cpos (starEach [] X.env)).any (·.1) = false := by rfl)
    (hsw : swapsWith (.Call (.Attribute (.Name x px) "extend" apos) [e] [] cpos) none pos.line X.env = pure false := by rfl) :
    SX X cl c fr (.Expr (.Call (.Attribute (.Name x px) "extend" apos) [e] [] cpos) pos) (sExt i s) E := sx_ext hN hv hm hsc hd hcd he hbase hfew hline hst hplain hsw
theorem zPop (i : Nat) {x : Str} {px apos cpos : Pos} (hN : X.N[i]? = some x := by rfl) (hv : Vis X.env.scope x := by first | exact .inl rfl | exact .inr (.inl rfl) | exact .inr (.inr rfl)) (hm : i ∈ c.M := by decide) (hsc : c.scr ≠ some i := by decide) (hd : (x == ("__debug__" : Str)) = false := by decide) (hcd : (x == ("__classdict__" : Str)) = false := by decide)
    (hbase : attributeBase (.Name x px) "pop" X.env (eval (.Name x px) X.env) = eval (.Name x px) X.env := by rfl) (hline : (apos.endLine == cpos.line) = true := by rfl)
    (hsw : swapsWith (.Call (.Attribute (.Name x px) "pop" apos) [] [] cpos) none pos.line X.env = pure false := by rfl) :
    SX X cl c fr (.Expr (.Call (.Attribute (.Name x px) "pop" apos) [] [] cpos) pos) (sPop i) E := sx_pop hN hv hm hsc hd hcd hbase hline hsw
theorem zDrop (he : EX X cl c .bor e s E) (hs : swapsWith e none pos.line X.env = pure false := by rfl) : SX X cl c fr (.Expr e pos) (sDrop s) E := sx_drop he hs
theorem zFor {tg iter : Expr} {body : List Stmt} {src : Exs} {g : Gw} {is : List Nat} (hp : PassesOwn (model X.prog X.w) X.A X.env X.xe) (hi : IX X cl c true tg iter src E) (hg : GX X c tg g is) (hb : SsX X cl c fr body v E)
    (hm : ∀ i ∈ is, i ∉ c.M := by decide) (hs : ∀ x, foldedSetIterable iter X.env x = pure x := by intro _; rfl) (hc : X.calm = true := by rfl) : SX X cl c fr (.For tg iter body [] pos) (sFor src g v) E := sx_for hp hc hi hg hm hb hs
theorem zWhile {d : Expr} {body : List Stmt} (n : Nat) {tc : Et} (hp : PassesOwn (model X.prog X.w) X.A X.env X.xe) (hc : TX X cl c d tc E) (hb : SsX X cl c fr body v E) : SX X cl c fr (.While d body [] pos) (sWhile n tc v) E := sx_while hp hc hb
theorem zRet (he : EX X cl { c with M := [] } .safe e s E) : SX X cl c false (.Return (some e) pos) (sRet s) E := sx_ret (fr := false) he
theorem zRetF (he : EX X cl { c with M := [] } .fresh e s E) : SX X cl c true (.Return (some e) pos) (sRet s) E := sx_ret (fr := true) he
theorem zRetO (i : Nat) {x : Str} {p : Pos} (hN : X.N[i]? = some x := by rfl) (hv : Vis X.env.scope x := by first | exact .inl rfl | exact .inr (.inl rfl) | exact .inr (.inr rfl)) (hm : i ∈ c.M := by decide) (hd : (x == ("__debug__" : Str)) = false := by decide) (hcd : (x == ("__classdict__" : Str)) = false := by decide) : SX X cl c true (.Return (some (.Name x p)) pos) (sRet (eVar i)) E := sx_retOwn hN hv hm hd hcd
theorem zRaise (j : Nat) {x : Str} {p pos pos' : Pos} (F : ExC X.K X.mg x (cl j)) (tk : Takes X (fun cls d _ H => E cls d H)) (hg : Gl X x := by rfl) (hc : X.calm = true := by rfl) (hdb : (x == ("__debug__" : Str)) = false := by decide) : SX X cl c fr (.Raise (some (.Call (.Name x p) [] [] pos)) none pos') (sRaise j) E := sx_raise0 hc tk F hg hdb
theorem zSetLc (i : Nat) (b : Bool) {y : Str} {py : Pos} {elt tg iter : Expr} {ifs : List Expr} {scope : Scope} (own : List (Str × Nat)) {src : Exs} {is : List Nat} {g : Gw} {tt : Et} {te : Ex} {spos : Pos} (nd : X.N.Nodup) (hi : IX X cl c false tg iter src E)
    (hg : ∀ (s : Shared) (H : Hp) (C : Addr) (cl : List (Str × Addr)) (fp : List Addr), GX (X.blk s H scope (compEnvC scope cl C X.env) fp) c tg g is)
    (ht : ∀ (s : Shared) (H : Hp) (C : Addr) (cl' : List (Str × Addr)) (fp : List Addr), TsX (X.blk s H scope (compEnvC scope cl' C X.env) fp) cl c ifs tt E0)
    (he : ∀ (s : Shared) (H : Hp) (C : Addr) (cl' : List (Str × Addr)) (fp : List Addr), EX (X.blk s H scope (compEnvC scope cl' C X.env) fp) cl c .safe elt te E0)
    (n : NmOk X c i y := by exact nm (by assumption)) (hl : X.env.scope.names.lookup y = some .local := by rfl) (hb : decide (i ∈ c.M) = b := by rfl)
    (hsw : swapsWith (.ListComp elt [⟨tg, iter, ifs, 0⟩] scope pos) (some (.Name y py)) spos.line X.env = pure true := by exact sw_true rfl rfl rfl (by decide +kernel)) (ok : blkC X.N X.env.scope scope own = true := by rfl)
    (hs : ∀ x, foldedSetIterable iter X.env x = pure x := by intro _; rfl) (hc : X.calm = true := by rfl) (his : ∀ i ∈ is, i ∈ own.map (·.2) := by decide) (hvt : ∀ i ∈ own.map (·.2), c.tape ≠ some i := by decide) :
    SX X cl c fr (.Assign [.Name y py] (.ListComp elt [⟨tg, iter, ifs, 0⟩] scope pos) spos) (sSet i (eLc src (own.map (·.2)) g tt te)) E := sx_setLc hc n hl hb hsw hi (blkOk_by ok) hg ht he hs his hvt
end
end Ev
namespace Ev
open PySem PySem.Spec PyProof.Rows L2
variable [Tb]
section
variable {X : Cx} {cl : Nat → Addr} {c : Cf} {E : XK} {pos p : Pos} {a b d e : Expr} {es : List Expr} {sa sb sc s : Ex}
/-- a truth -/
def BoolEx (s : Ex) : Prop := ∀ ρ t w t', s ρ t = .ok w t' → ∃ k, w = .bool k
theorem ex_bool (h : EX X cl c .bor e s E) (hb : BoolEx s) : EX X cl c .safe e s E := PE_imp h fun σ H Q ⟨hT, hid, tp, ρ, t, S, o⟩ =>
  ⟨hT, hid, tp, ρ, t, S, o.imp fun a t' v H' e1 m k p go => by
    obtain ⟨q, e2⟩ := hb ρ t a t' e1
    subst e2
    rw [bl_of p]
    exact go _ (.bl q)⟩
theorem rOf_inv {α : Type} {o : Option α} {t t' : Tp} {z : α} (h : rOf o t = .ok z t') : o = some z := by
  cases o with
  | none => cases h
  | some y => cases h; rfl
theorem bool_bin {f : W → W → Option W} (hf : ∀ a b z, f a b = some z → ∃ k, z = .bool k) : BoolEx (eBin f sa sb) := fun ρ t w t' h => by
  obtain ⟨x, t1, _, h⟩ := bind_ok h
  obtain ⟨y, t2, _, h⟩ := bind_ok h
  exact hf x y w (rOf_inv h)
theorem isb_eq : ∀ a b z, wEq a b = some z → ∃ k, z = .bool k := fun a b z h => by unfold wEq at h; obtain ⟨_, e⟩ := if_some h; exact ⟨_, e.symm⟩
theorem isb_ne : ∀ a b z, wNe a b = some z → ∃ k, z = .bool k := fun a b z h => by unfold wNe at h; obtain ⟨_, e⟩ := if_some h; exact ⟨_, e.symm⟩
theorem isb_cmp {p : Int → Int → Bool} : ∀ a b z, wCmp p a b = some z → ∃ k, z = .bool k := fun a b z h => by
  cases a <;> cases b <;> simp only [wCmp] at h <;> cases h
  exact ⟨_, rfl⟩
theorem isb_is {n : Bool} : ∀ a b z, wIsB n a b = some z → ∃ k, z = .bool k := fun a b z h => by
  cases a <;> cases b <;> simp only [wIsB] at h <;> cases h
  exact ⟨_, rfl⟩
theorem bool_eq : BoolEx (eBin wEq sa sb) := bool_bin isb_eq
theorem bool_ne : BoolEx (eBin wNe sa sb) := bool_bin isb_ne
theorem bool_cmp {p : Int → Int → Bool} : BoolEx (eBin (wCmp p) sa sb) := bool_bin isb_cmp
theorem bool_is {n : Bool} : BoolEx (eBin (wIsB n) sa sb) := bool_bin isb_is
theorem bool_chain {p q : Int → Int → Bool} : BoolEx (eChain (wCmp p) (wCmp q) sa sb sc) := fun ρ t w t' h => by
  obtain ⟨x, t1, _, h⟩ := bind_ok h
  obtain ⟨y, t2, _, h⟩ := bind_ok h
  obtain ⟨z, t3, ez, h⟩ := bind_ok h
  clear ez
  cases z with
  | bool k =>
    cases k with
    | false => cases h; exact ⟨_, rfl⟩
    | true =>
      obtain ⟨u, t4, _, h⟩ := bind_ok h
      exact isb_cmp y u w (rOf_inv h)
  | _ => cases h
theorem bool_isi {T : String} : BoolEx (eIsI T sa) := fun ρ t w t' h => by
  obtain ⟨x, t1, _, h⟩ := bind_ok h
  by_cases c : noDict x = true
  · rw [if_pos c] at h; cases h; exact ⟨_, rfl⟩
  · rw [if_neg c] at h; cases h
theorem bool_isN {n : Bool} : BoolEx (eIsN n sa) := fun ρ t w t' h => by
  obtain ⟨x, t1, _, h⟩ := bind_ok h
  cases h; exact ⟨_, rfl⟩
end
mutual
/-- the constants of the top -/
def datB (K : PySem.W.Frag) : W → Value → Bool
  | .none, .none => true
  | .bool b, .bool c => b == c
  | .int i, .int j _ => decide (i = j)
  | .str x, .str y _ => decide (x = y)
  | .tuple ws, .ref a => (match K.lookup a with
    | some o => decide (o.cls = .type "tuple") && o.dict.isNone && (match o.data with
      | .seq its n => decide (its.size ≤ 1000) && datsB K ws its.toList
      | _ => false)
    | none => false)
  | _, _ => false
def datsB (K : PySem.W.Frag) : List W → List Value → Bool
  | [], [] => true
  | w :: ws, v :: vs => datB K w v && datsB K ws vs
  | _, _ => false
end

mutual
theorem datB_ok {K : PySem.W.Frag} : ∀ (w : W) (u : Value), datB K w u = true → ∃ v, RelV v u ∧ ∀ hid H, Im K hid H w v
  | .none, u, h => by
    cases u <;> first | exact ⟨.non, rfl, fun _ _ => .non⟩ | simp [datB] at h
  | .bool b, u, h => by
    cases u <;> simp [datB] at h
    subst h
    exact ⟨.bl _, rfl, fun _ _ => .bl _⟩
  | .int i, u, h => by
    cases u <;> simp [datB] at h
    subst h
    exact ⟨.int _, ⟨_, rfl⟩, fun _ _ => .int _⟩
  | .str x, u, h => by
    cases u <;> simp [datB] at h
    subst h
    exact ⟨.str _, ⟨_, rfl⟩, fun _ _ => .str _⟩
  | .tuple ws, u, h => by
    cases u with
    | ref a =>
      unfold datB at h
      cases e : K.lookup a with
      | none => rw [e] at h; cases h
      | some o =>
        rw [e] at h
        obtain ⟨h1, h2⟩ := Bool.and_eq_true_iff.mp h
        obtain ⟨h3, h4⟩ := Bool.and_eq_true_iff.mp h1
        cases ed : o.data with
        | seq its n =>
          rw [ed] at h2
          obtain ⟨h5, h6⟩ := Bool.and_eq_true_iff.mp h2
          obtain ⟨vs, r, im⟩ := datsB_ok ws its.toList h6
          exact ⟨.ref a, rfl, fun hid H => .tup (.inr ⟨o, its, n, e, of_decide_eq_true h3, ed, Nat.le_trans (of_decide_eq_true h5) (by decide), r⟩) (im hid H)⟩
        | _ => rw [ed] at h2; cases h2
    | _ => simp [datB] at h
  | .list ws, u, h => by cases u <;> simp [datB] at h
  | .dict ws, u, h => by cases u <;> simp [datB] at h
theorem datsB_ok {K : PySem.W.Frag} : ∀ (ws : List W) (us : List Value), datsB K ws us = true → ∃ vs, Vals vs us ∧ ∀ hid H, Ims K hid H ws vs
  | [], us, h => by
    cases us with
    | nil => exact ⟨[], .nil, fun _ _ => .nil⟩
    | cons u us => cases h
  | w :: ws, us, h => by
    cases us with
    | nil => cases h
    | cons u us =>
      obtain ⟨h1, h2⟩ := Bool.and_eq_true_iff.mp h
      obtain ⟨v, r, im⟩ := datB_ok w u h1
      obtain ⟨vs, rs, ims⟩ := datsB_ok ws us h2
      exact ⟨v :: vs, .cons r rs, fun hid H => .cons (im hid H) (ims hid H)⟩
end
/-- the name x stands for the data w -/
def cstB (K : PySem.W.Frag) (x : Str) (w : W) : Bool := match PySem.W.nsIn K mainGlobals x with
  | some (some u) => datB K w u
  | _ => false
theorem cst_ok {K : PySem.W.Frag} {h : Heap} {mg : Str → Option Value} (X : K.In h) (G : h.Ns mainGlobals mg) {x : Str} {w : W} (c : cstB K x w = true) : Cst K mg x w := by
  unfold cstB at c
  split at c
  · rename_i u e
    obtain ⟨v, r, im⟩ := datB_ok w u c
    exact ⟨v, u, PySem.W.mg_of X G e, r, im⟩
  · cases c
/-- an own error over ValueError -/
def excB (K : PySem.W.Frag) (x : Str) : Bool := He.eqO (PySem.W.nsIn K mainGlobals x) (some (some (.ref (He.ga K x)))) && (PySem.W.excIn K (He.ga K x) He.veBase "ValueError.__new__" && (PySem.W.keepIn K (.ref (He.ga K x)) && (decide (PySem.W.subIn K (.ref (He.ga K x)) (.type "BaseException") = some true) && decide (PySem.W.typeIn K (.ref (He.ga K x)) = some (.type "type")))))
theorem exc_ok {K : PySem.W.Frag} {h : Heap} {mg : Str → Option Value} (X : K.In h) (G : h.Ns mainGlobals mg) {x : Str} (c : excB K x = true) : ExC K mg x (He.ga K x) := by
  unfold excB at c
  simp only [Bool.and_eq_true, decide_eq_true_eq] at c
  obtain ⟨c1, c2, c3, c4, c5⟩ := c
  exact ⟨PySem.W.mg_of X G (He.eqO_ok c1), ⟨_, _, _, _, PySem.F.excBase_ValueError, c2⟩, c3, c4, c5⟩
/-- classes told apart, by names -/
def apB (K : PySem.W.Frag) (xs : List Str) : Bool := (List.range xs.length).all fun i => (List.range xs.length).all fun j => decide (PySem.W.exmOne K (.ref (He.ga K (xs.getD i ""))) (.ref (He.ga K (xs.getD j ""))) = some (decide (i = j)))
def clA (K : PySem.W.Frag) (xs : List Str) : Nat → Addr := fun i => He.ga K (xs.getD i "")
theorem ap_ok {K : PySem.W.Frag} {xs : List Str} (c : apB K xs = true) : Apart K (clA K xs) xs.length := fun i j hi hj =>
  of_decide_eq_true (List.all_eq_true.mp (List.all_eq_true.mp c i (List.mem_range.mpr hi)) j (List.mem_range.mpr hj))
/-- the built-in names -/
def bnB (K : PySem.W.Frag) : Bool := bnNames.all fun x => He.eqO (PySem.W.nsIn K mainGlobals x) (some none)
theorem bn_ok {K : PySem.W.Frag} {h : Heap} {mg : Str → Option Value} (X : K.In h) (G : h.Ns mainGlobals mg) (c : bnB K = true) : Bn mg := by
  have k : ∀ x ∈ bnNames, mg x = none := fun x hx => PySem.W.mg_none_of X G (He.eqO_ok (List.all_eq_true.mp c x hx))
  exact ⟨k _ (by decide +kernel), k _ (by decide +kernel), k _ (by decide +kernel), k _ (by decide +kernel), k _ (by decide +kernel), k _ (by decide +kernel), k _ (by decide +kernel), k _ (by decide +kernel), k _ (by decide +kernel), k _ (by decide +kernel), k _ (by decide +kernel), k _ (by decide +kernel), k _ (by decide +kernel), k _ (by decide +kernel), k _ (by decide +kernel)⟩
end Ev

end

section
/-! EvD: the end. -/
namespace Ev
open PySem PySem.Spec PyProof.Rows L2
variable [Tb]
theorem co_of {K : PySem.W.Frag} {p : Str × Option Str} {x qual : Str} {st : Stmt} {cdv : Value} (h : ∃ (oc : Value) (od : Option Addr) (kV doc pm : Value) (an : Option Addr) (ct : Value) (osl : Array (Option Value)), K.lookup (He.fAd K p) = some ⟨oc, od, .func (PySem.W.fnOf x qual (defArgs st) (defBody st) (defScope st) .none kV doc pm an cdv ct), osl⟩ ∧ PySem.W.codeIn K cdv qual = true) :
    cdv = .ref (He.codeOf K p) := by
  obtain ⟨oc, od, kV, doc, pm, an, ct, osl, lk, hc⟩ := h
  obtain ⟨c, e⟩ := He.codeIn_ref hc
  subst e
  rw [He.codeOf_eq (c := c) lk rfl]
/-- a def of the text, to be called -/
theorem fnA_of {P : Program} {w : World} {K : PySem.W.Frag} {mg : Str → Option Value} {base : Heap} {x : Str} {k : Nat} {sp : Sp} {f : Addr} {fd : FuncData} {ps : List Str} (F : FnOk P w K mg base (L2.CX P w) k f fd ps sp) (hm : mg x = some (.ref f)) (hk : PySem.W.keepIn K (.ref f) = true) (hb : Binds K fd ps []) : FnA P w K mg base x k sp := ⟨f, fd, ps, F, hm, hk, hb⟩
theorem told_of {K : PySem.W.Frag} {mg : Str → Option Value} {x a : Str} {st : Stmt} {g : Addr} {fd : FuncData} {TT : (XK → Hp → VK → Prop) → Hp → VK → Prop} (F : Fun K x x st g fd) (hg : mg x = some (.ref g)) (S : FnScope [a] [a] (defScope st)) (hv : Vis (defScope st) a) (hb : Binds K fd [a] [])
    (X : Cx) (hK : X.K = K) (hm : X.mg = mg) (hG : ∀ cdv, LamX.GivesTo X [a] x (defScope st) g cdv (defBody st) a (X.env.qual ++ "<lambda>") TT) : ToldOk X x a g TT := by
  subst hK hm
  have kp := F.kp
  obtain ⟨oc, od, kV, doc, pm, an, cdv, ct, osl, rfl, lk, hcd⟩ := F.ex
  exact ⟨hg, kp, [a], _, _, _, _, _, _, _, _, _, _, _, _, _, lk, hcd, hb, S, rfl, hv, hG _⟩
/-- what the law's promise is at the entry -/
theorem law_sp {K : PySem.W.Frag} {cl : Nat → Addr} {f : Fs} {H : Hp} {a : Addr} {ns : List Int} (hT : LamX.Tabs Tb.T H) (hS : SqL K H a (ns.map V.int)) (hf : f [.list (ns.map PyData.int)] = .ok (.bool true)) : FnC K cl f [.ref a] H (fun v _ => v = .bl true) fun _ _ _ => False := by
  refine ⟨fun _ => False, a, ns, [], [], rfl, ⟨hT, fun _ z => z.elim⟩, ?_, .nil, ?_⟩
  · rcases hS with h | h
    · exact .inl ⟨fun z => z, h⟩
    · exact .inr h
  · rw [hf]
    intro v H' _ r
    cases (show Im K _ H' (.bool true) v from r)
    rfl
theorem bad0 {K : PySem.W.Frag} {cl : Nat → Addr} {fr : Bool} {f : Fs} {vs : List V} {H : Hp} {Q : VK} {E : XK} (hf : ∀ ws, f ws = .bad) (h : FnS K cl fr f vs H Q E) : False := by
  obtain ⟨hT, ws, _, _, h⟩ := h
  rw [hf ws] at h
  exact h
end Ev

end

section
namespace Ev
open PySem PySem.Spec PyProof.Rows L2
variable [Tb]
/-! ### range with a step -/
def gRng3 : List W → Option (List W)
  | [.int i, .int j, .int c] => if (!(c == 0) && decide (c.natAbs < 1073741824) && Builtin.Range.small i j c && decide (0 ≤ Builtin.Range.rangeSize i j c)) = true then some (rngW i c (Builtin.Range.rangeSize i j c).toNat) else none
  | _ => none
theorem src_rngC {K : PySem.W.Frag} {hx hid : Addr → Prop} {H : Hp} {lo c : Int} {n : Nat} : SrcOk K hx hid H (rngW lo c n) (Itc lo c n) := by
  refine ⟨fun _ => True, trivial, fun i Ha hl _ => ?_, fun Ha _ => ?_, fun _ _ _ _ _ _ => trivial, fun hid' hh i Ha x Hb hl _ m y => ?_⟩
  · rw [rngW_len] at hl; exact hl
  · rw [rngW_len]; exact Nat.le_refl _
  · rw [rngW_len] at hl
    obtain ⟨e1, e2⟩ := y
    subst e1; subst e2
    exact ⟨Sm.refl, _, rngW_get hl, .int _⟩
theorem bos_ints3 {K : PySem.W.Frag} {hT hid : Addr → Prop} {H : Hp} {i j k : Int} {vs : List V} (h : Bos K hT hid H [.int i, .int j, .int k] vs) : vs = [.int i, .int j, .int k] := by
  cases h with
  | cons h1 h2 =>
    cases h2 with
    | cons h3 h4 =>
      cases h4 with
      | cons h5 h6 => cases h6; rw [rd_int h1, rd_int h3, rd_int h5]
section
variable {X : Cx} {cl : Nat → Addr} {c : Cf} {a b d : Expr} {E : XK} {pos : Pos} {tg : Expr} {bb : Bool}
theorem ix_rng3 {p : Pos} {ss : Exs} (hg : Gl X "range") (hm : X.mg "range" = none) (ha : AX X cl c false [a, b, d] ss E) (hs : starEach [a, b, d] X.env = (false, eval a X.env) :: starEach [b, d] X.env) (hpl : (backTo pos (starEach [b, d] X.env)).any (·.1) = false) : IX X cl c bb tg (.Call (.Name "range" p) [a, b, d] [] pos) (sRng gRng3 ss) E :=
  PI_imp (pi_range3 hg hm ha hs hpl) fun σ H R ⟨hT, hid, tp, ρ, t, S, o⟩ => by
    refine ⟨hT, hid, tp, ρ, t, S, o.seq later_src fun ws t1 vs H1 e1 m1 k1 p1 o1 => ?_⟩
    obtain ⟨items, ei, o1⟩ := rOf_ok o1
    unfold gRng3 at ei
    split at ei
    · obtain ⟨q, e2⟩ := if_some ei
      subst e2
      simp only [Bool.and_eq_true, Bool.not_eq_true', beq_eq_false_iff_ne, decide_eq_true_eq] at q
      obtain ⟨⟨⟨q1, q2⟩, q3⟩, q4⟩ := q
      exact ⟨_, _, _, _, bos_ints3 p1, ⟨q1, q2, q3, by omega⟩, Out.ok_ o1 k1 Sm.refl src_rngC⟩
    · cases ei
theorem wR3 {q : Pos} {ss : Exs} (B : Bn X.mg) (ha : AX X cl c false [a, b, d] ss E) (hg : Gl X "range" := by rfl) (hs : starEach [a, b, d] X.env = (false, eval a X.env) :: starEach [b, d] X.env := by rfl) (hpl : (backTo pos (starEach [b, d] X.env)).any (·.1) = false := by rfl) : IX X cl c bb tg (.Call (.Name "range" q) [a, b, d] [] pos) (sRng gRng3 ss) E := ix_rng3 hg B.range ha hs hpl
end
end Ev

end

section
/-! EvX: a list of lists, made at once, written within by xs[i][j] = e, and let go. -/
namespace Ev
open PySem PySem.Spec PyProof.Rows L2
variable [Tb]
/-! ### plain functions -/
def rowW : W → Option (List W)
  | .list r => if pureWs r = true then some r else none
  | _ => none
def rowsW : List W → Option (List (List W))
  | [] => some []
  | w :: ws => (rowW w).bind fun r => (rowsW ws).bind fun rs => some (r :: rs)
def nGet : Tp → W → W → Option W
  | some rows, .int k, .int j => (atI rows k).bind fun r => atI r j
  | _, _, _ => none
def nPut : Tp → W → W → W → Option Tp
  | some rows, .int k, .int j, w => if pureW w = true then (ixN rows.length k).bind fun k' => (rows[k']?).bind fun r => (ixN r.length j).map fun j' => some (rows.set k' (r.set j' w)) else none
  | _, _, _, _ => none
def nRow : Tp → W → Option (List W)
  | some rows, .int k => atI rows k
  | _, _ => none
def eNst (s1 s2 : Ex) : Ex := fun ρ t => (s1 ρ t).bind fun k t => (rOf (nRow t k) t).bind fun _ t => (s2 ρ t).bind fun j t => rOf (nGet t k j) t
def sNPut (s1 s2 s : Ex) : Sv := fun ρ t => toS (s ρ t) fun w t => toS (s1 ρ t) fun k t => toS (rOf (nRow t k) t) fun _ t => toS (s2 ρ t) fun j t => match nPut t k j w with
  | some t' => .next ρ t'
  | none => .bad
def wRows : W → Option (List (List W))
  | .list ws => rowsW ws
  | _ => none
def sNest (i : Nat) (s : Ex) (v u : Sv) : Sv := fun ρ t => match t with
  | none => if decide (i < ρ.length) = true then toS (s ρ none) fun w _ => match wRows w with
    | some rows => match v (ρ.set i none) (some rows) with
      | .next ρ2 (some rows2) => u (ρ2.set i (some (.list (rows2.map PyData.list)))) none
      | _ => .bad
    | none => .bad else .bad
  | some _ => .bad
theorem rowW_some {w : W} {r : List W} (h : rowW w = some r) : w = .list r ∧ pureWs r = true := by
  unfold rowW at h
  split at h
  · obtain ⟨a, b⟩ := if_some h
    exact ⟨by rw [b], by rw [← b]; exact a⟩
  · cases h
theorem rowsW_append : ∀ {as bs : List W} {rs : List (List W)}, rowsW (as ++ bs) = some rs → ∃ r1 r2, rowsW as = some r1 ∧ rowsW bs = some r2 ∧ rs = r1 ++ r2
  | [], bs, rs, h => ⟨[], rs, rfl, h, rfl⟩
  | a :: as, bs, rs, h => by
    rw [List.cons_append] at h
    unfold rowsW at h
    cases q : rowW a with
    | none => rw [q] at h; cases h
    | some r =>
      rw [q] at h
      cases q2 : rowsW (as ++ bs) with
      | none => rw [q2] at h; cases h
      | some rs' =>
        rw [q2] at h
        obtain ⟨r1, r2, e1, e2, e3⟩ := rowsW_append q2
        refine ⟨r :: r1, r2, by unfold rowsW; rw [q, e1]; rfl, e2, ?_⟩
        cases h
        rw [e3]; rfl
theorem rowsW_cons {a : W} {bs : List W} {rs : List (List W)} (h : rowsW (a :: bs) = some rs) : ∃ r rs', rowW a = some r ∧ rowsW bs = some rs' ∧ rs = r :: rs' := by
  unfold rowsW at h
  cases q : rowW a with
  | none => rw [q] at h; cases h
  | some r =>
    rw [q] at h
    cases q2 : rowsW bs with
    | none => rw [q2] at h; cases h
    | some rs' => rw [q2] at h; cases h; exact ⟨r, rs', rfl, rfl, rfl⟩
theorem rowsW_eq : ∀ {ws : List W} {rs : List (List W)}, rowsW ws = some rs → ws = rs.map PyData.list
  | [], rs, h => by unfold rowsW at h; cases h; rfl
  | w :: ws, rs, h => by
    obtain ⟨r, rs', h1, h2, h3⟩ := rowsW_cons h
    subst h3
    rw [(rowW_some h1).1, rowsW_eq h2]; rfl
theorem Rws.length {H : Hp} : ∀ {bs : List Addr} {rs : List (List W)}, Rws H bs rs → rs.length = bs.length
  | _, _, .nil => rfl
  | _, _, .cons _ _ h => by rw [List.length_cons, List.length_cons, Rws.length h]
theorem Rws.append {H : Hp} : ∀ {bs cs : List Addr} {rs ss : List (List W)}, Rws H bs rs → Rws H cs ss → Rws H (bs ++ cs) (rs ++ ss)
  | _, _, _, _, .nil, h => h
  | _, _, _, _, .cons h1 h2 h3, h => .cons h1 h2 (Rws.append h3 h)
theorem Rws.get {H : Hp} : ∀ {bs : List Addr} {rs : List (List W)} {k : Nat} {r : List W}, Rws H bs rs → rs[k]? = some r → ∃ b us, bs[k]? = some b ∧ H b = some (.lst us) ∧ Ims Tb.K (fun _ => True) H r us
  | _, _, _, _, .nil, e => by simp at e
  | _, _, 0, _, .cons h1 h2 h3, e => by simp at e; subst e; exact ⟨_, _, rfl, h1, h2⟩
  | _, _, k + 1, _, .cons h1 h2 h3, e => by
    obtain ⟨b, us, e1, e2, e3⟩ := Rws.get (k := k) h3 (by simpa using e)
    exact ⟨b, us, by simpa using e1, e2, e3⟩
theorem Rws.put {H : Hp} {o : HO} {b0 : Addr} {us' : List V} {r' : List W} (ho : o = .lst us') (hI : Ims Tb.K (fun _ => True) (upd H b0 o) r' us') (kt : ∀ a xs, Rd H a (.tup xs) → Rd (upd H b0 o) a (.tup xs)) : ∀ {bs : List Addr} {rs : List (List W)} {k : Nat}, Rws H bs rs → bs.Nodup → bs[k]? = some b0 → Rws (upd H b0 o) bs (rs.set k r')
  | _, _, k, .nil, _, e => by simp at e
  | _, _, 0, .cons h1 h2 h3, nd, e => by
    simp at e; subst e
    have nd := List.nodup_cons.mp nd
    refine .cons (by rw [upd_same, ho]) hI (h3.of kt fun a o' z q => ?_)
    rw [upd_ne (fun y => nd.1 (by rw [← y]; exact z))]; exact q
  | _, _, k + 1, .cons h1 h2 h3, nd, e => by
    have nd := List.nodup_cons.mp nd
    have e : _ := (by simpa using e : _)
    refine .cons ?_ (Ims.mono (kpT kt) (fun _ _ => .inl trivial) _ _ h2) (Rws.put ho hI kt h3 nd.2 e)
    rw [upd_ne (fun y => nd.1 (by rw [y]; exact List.mem_of_getElem? e))]; exact h1
/-! ### the making -/
def PN (H : Hp) (w : W) (H' : Hp) (v : V) : Prop := ∃ a bs rows, wRows w = some rows ∧ v = .ref a ∧ Nw H a ∧ (∀ b ∈ bs, Nw H b) ∧ a ∉ bs ∧ bs.Nodup ∧ H' a = some (.lst (bs.map V.ref)) ∧ Rws H' bs rows
def eRows (s : Ex) : Ex := fun ρ t => (s ρ t).bind fun w t => if (wRows w).isSome = true then .ok w t else .bad
section
variable {X : Cx} {cl : Nat → Addr} {c : Cf} {E : XK} {pos : Pos}
theorem later_pn {tp : Option (Addr × List Addr)} : Later tp PN := by
  intro H H1 a H' v sm ⟨x, bs, rows, h1, h2, h3, h4, h5⟩
  exact ⟨x, bs, rows, h1, h2, sm.none h3, fun b z => sm.none (h4 b z), h5⟩
theorem lcN_core {K : PySem.W.Frag} (hK : Tb.K = K) {src : Exs} {vs is : List Nat} {g : Gw} {tt : Et} {te : Ex} {cT : Cf} (his : ∀ i ∈ is, i ∈ vs) (hvt : ∀ i ∈ vs, c.tape ≠ some i) {σ : L2.St} {H : Hp} {Q : VK} {hT hid : Addr → Prop} {tp : Option (Addr × List Addr)} {ρ : Sl} {t : Tp}
    (S : StE K c hT hid tp ρ σ H t) (o : Out cl tp E H (eRows (eLc src vs g tt te) ρ t) PN Q) : tLc (tSrc K cl c false src E) (tGx K c g is) (tTs K cl c tt E0) (tEx K cl c .fresh te E0) vs σ H Q := by
  subst hK
  have o : Out cl tp E H (((src ρ t).bind fun items t => if few1M items = true then (noexc (lcL g tt te items (wipeW ρ vs) t)).bind fun ws t => .ok (.list ws) t else .bad).bind fun w t => if (wRows w).isSome = true then .ok w t else .bad) PN Q := o
  have bb : ∀ {α β γ : Type} (r : Rs α) (f : α → Tp → Rs β) (g : β → Tp → Rs γ), (r.bind f).bind g = r.bind fun a t => (f a t).bind g := fun r f g => by cases r <;> rfl
  rw [bb] at o
  refine ⟨hT, hid, tp, ρ, t, S, Out.seq later_pn o fun items t1 J H1 e1 m1 k1 p1 o1 => ?_⟩
  have S1 := S.sm m1 k1
  obtain ⟨G, g0⟩ := (show SrcOk Tb.K hT hid H1 items J from p1)
  intro D hD
  obtain ⟨hf, o1⟩ : few1M items = true ∧ Out cl tp E H1 (((noexc (lcL g tt te items (wipeW ρ vs) t1)).bind fun ws t => .ok (.list ws) t).bind fun w t => if (wRows w).isSome = true then .ok w t else .bad) PN Q := by
    cases q : few1M items with
    | true => rw [q, if_pos rfl] at o1; exact ⟨rfl, o1⟩
    | false => rw [q, if_neg Bool.false_ne_true] at o1; exact False.elim o1
  obtain ⟨ws, tE, rows, eL, eR0, o1⟩ : ∃ ws tE rows, lcL g tt te items (wipeW ρ vs) t1 = .ok ws tE ∧ rowsW ws = some rows ∧ Out cl tp E H1 (.ok (.list ws) tE) PN Q := by
    cases q : lcL g tt te items (wipeW ρ vs) t1 with
    | ok ws tE =>
      rw [q] at o1
      have o1 : Out cl tp E H1 (if (rowsW ws).isSome = true then .ok (.list ws) tE else .bad) PN Q := o1
      cases q2 : rowsW ws with
      | none => rw [q2] at o1; exact False.elim o1
      | some rows => rw [q2] at o1; exact ⟨ws, tE, rows, rfl, q2, o1⟩
    | exc e t => rw [q] at o1; exact False.elim o1
    | bad => rw [q] at o1; exact False.elim o1
  have hlen : items.length ≤ 1000000 := of_decide_eq_true hf
  let hid' : Addr → Prop := fun a => hid a ∨ a = D
  have hh' : ∀ a, hid' a → hid a ∨ Nw H1 a := fun a z => z.imp id fun e => by rw [e]; exact Nw.of hD
  have nD : ¬ tps tp D := no_tps S1 (Nw.of hD)
  have hx1 : ∀ a, tps tp a → hT a ∨ Nw H1 a := fun a z => .inl (S.tph a z)
  have hxD : ∀ a, (tps tp a ∨ a = D) → hT a ∨ Nw H1 a := fun a z => z.elim (fun z => .inl (S.tph a z)) fun e => .inr (by rw [e]; exact Nw.of hD)
  let Pv : Nat → Hp → Prop := fun i Ha => ∃ ti done bs rd rest, G Ha ∧ Sm (tps tp) H1 Ha ∧ TpOk tp Ha ti ∧ Ha D = some (.lst (bs.map V.ref)) ∧ (rowsW done = some rd ∧ Rws Ha bs rd ∧ D ∉ bs ∧ bs.Nodup ∧ ∀ b ∈ bs, Nw H1 b) ∧ done.length ≤ i ∧ lcL g tt te (items.drop i) (wipeW ρ vs) ti = .ok rest tE ∧ done ++ rest = ws
  have fin : ∀ Ha, Pv items.length Ha → J.stop items.length Ha ∧ Q (.ref D) Ha := fun Ha ⟨ti, done, bs, rd, rest, hG, hS, hk, hDa, ⟨h1, h2, h3, h4, h5⟩, _, eR, ew⟩ => by
    refine ⟨g0.stop Ha hG, ?_⟩
    rw [List.drop_length] at eR
    cases eR
    rw [List.append_nil] at ew
    subst ew
    exact o1 _ _ hS hk ⟨D, bs, rd, h1, rfl, Nw.of hD, h5, h3, h4, hDa, h2⟩
  refine ⟨fun i m Ha => m = items.length - i ∧ i ≤ items.length ∧ Pv i Ha, ⟨_, rfl, Nat.zero_le _, ?_⟩, ?_⟩
  · exact ⟨t1, [], [], [], ws, g0.stay (fun _ => False) (fun _ z => z.elim) _ _ (Sm.new hD) g0.here, Sm.new hD, k1.new hD, upd_same, ⟨rfl, .nil, fun z => (by cases z), List.nodup_nil, fun _ z => (by cases z)⟩, Nat.zero_le _, eL, rfl⟩
  rintro i m Ha ⟨rfl, hi, p⟩
  by_cases hlt : i < items.length
  · refine .inr ⟨g0.go i Ha hlt (by obtain ⟨_, _, _, _, _, hG, _⟩ := p; exact hG), Pv (i + 1), fun H' p' => ⟨items.length - (i + 1), by omega, rfl, hlt, p'⟩, fun x H' y => ?_⟩
    obtain ⟨ti, done, bs, rd, rest, hG, hS, hk, hDa, ⟨n1, n2, n3, n4, n5⟩, hdl, eR, ew⟩ := p
    obtain ⟨mF, w, ei, iw⟩ := g0.yld hid' hh' i Ha x H' hlt hG (hS.imp fun a z => .inl (S.sub a (S.tph a z))) y
    have hdrop : items.drop i = w :: items.drop (i + 1) := by
      rw [List.drop_eq_getElem_cons hlt]
      rw [List.getElem?_eq_getElem hlt] at ei
      rw [Option.some.inj ei]
    rw [hdrop] at eR
    cases eg : g w (wipeW ρ vs) with
    | none => rw [show lcL g tt te (w :: items.drop (i + 1)) (wipeW ρ vs) ti = .bad by unfold lcL; rw [eg]] at eR; cases eR
    | some ρ1 =>
      have eR : ((noexc (tt ρ1 ti)).bind fun b t1 => if b = true then (noexc (te ρ1 t1)).bind fun w t2 => (lcL g tt te (items.drop (i + 1)) (wipeW ρ vs) t2).bind fun ws t3 => .ok (w :: ws) t3 else lcL g tt te (items.drop (i + 1)) (wipeW ρ vs) t1) = .ok rest tE := by
        rw [← eR]
        show _ = (match g w (wipeW ρ vs) with | none => _ | some ρ1 => _)
        rw [eg]
      obtain ⟨b, t2, et, eR⟩ := noexc_ok eR
      have mF' : Sm (tps tp) Ha H' := mF.imp fun _ z => z.elim
      have k2 : TpOk tp H' ti := hk.smF mF
      have dD : H' D = some (.lst (bs.map V.ref)) := mF.obj D _ (fun z => z) hDa fun ps z => by cases z
      have SB : StE Tb.K c hT hid' tp (wipeW ρ vs) (L2.wipe σ vs) H' ti := (S1.wipe vs hvt).hide (fun a z => .inl z) hh' (hS.trans mF') k2 fun a z => by
        rcases z with z | z
        · exact (hS.trans mF').dom a (S1.dom a z)
        · rw [z]; exact Nw.not dD fun ps z => by cases z
      have nb : ∀ b ∈ bs, ¬ tps tp b := fun b z => no_tps S1 (n5 b z)
      refine ⟨hT, hid', tp, wipeW ρ vs, ti, w, ρ1, SB, iw, eg, fun σ2 S2 l2 f2 _ => ⟨wipe_eq l2 his f2, ?_⟩⟩
      refine ⟨hT, hid', tp, ρ1, ti, S2, ?_⟩
      rw [et]
      intro b' H3 m3 k3 eb
      have eb : b' = b := eb
      subst eb
      have S3 := S2.sm m3 k3
      have mA : Sm (tps tp) Ha H3 := mF'.trans m3
      have dD3 : H3 D = some (.lst (bs.map V.ref)) := m3.obj D _ nD dD fun ps z => by cases z
      have keep : ∀ {Hx Hy : Hp}, Sm (tps tp) Hx Hy → Rws Hx bs rd → Rws Hy bs rd := fun {Hx Hy} m h => h.of m.tup fun a o z q => by
        obtain ⟨vs', q'⟩ := h.lst z
        rw [q] at q'; cases q'
        exact m.obj a _ (nb a z) q fun ps y => by cases y
      have n2' : Rws H3 bs rd := keep mA n2
      cases b' with
      | false =>
        rw [if_neg Bool.false_ne_true] at eR ⊢
        exact ⟨t2, done, bs, rd, rest, g0.stay (tps tp) hx1 _ _ mA hG, hS.trans mA, k3, dD3, ⟨n1, n2', n3, n4, n5⟩, by omega, eR, ew⟩
      | true =>
        rw [if_pos rfl] at eR ⊢
        obtain ⟨u, t3, ee, eR⟩ := noexc_ok eR
        obtain ⟨rs, t4, eRn, e5⟩ := bind_ok eR
        cases e5
        refine ⟨hT, hid', tp, ρ1, t2, S3, ?_⟩
        rw [ee]
        intro y4 H4 m4 k4 p4
        have dD4 : H4 D = some (.lst (bs.map V.ref)) := m4.obj D _ nD dD3 fun ps z => by cases z
        obtain ⟨b, eb, nwb, _, ow⟩ := (show Fe Tb.K (fun _ => False) hid' H3 H4 u y4 from p4)
        subst eb
        have nwb : Nw H3 b := nwb.elim id fun z => z.elim
        have eR0' := eR0
        rw [← ew] at eR0'
        obtain ⟨r1, r2, q1, q2, _⟩ := rowsW_append eR0'
        obtain ⟨r, rs', q3, _, _⟩ := rowsW_cons q2
        obtain ⟨eu, pu⟩ := rowW_some q3
        subst eu
        obtain ⟨us, hb, hi4⟩ : ∃ us, H4 b = some (.lst us) ∧ Ims Tb.K (fun _ => True) H4 r us := by
          rcases ow with ⟨ws1, dv, e, h2, h3⟩ | ⟨_, _, e, _⟩ | ⟨_, _, e, _⟩
          · cases e; exact ⟨dv, h2, ims_pure _ _ pu h3⟩
          · cases e
          · cases e
        have bD : b ≠ D := fun z => by subst z; exact Nw.not dD3 (fun ps z => by cases z) nwb
        have bn : b ∉ bs := fun z => by
          obtain ⟨vs', q⟩ := n2'.lst z
          exact Nw.not q (fun ps z => by cases z) nwb
        have n4' : Rws H4 bs rd := keep m4 n2'
        have mw : Sm (fun _ => True) H4 (upd H4 D (.lst (bs.map V.ref ++ [V.ref b]))) := Sm.wr dD4 trivial trivial trivial
        have ne : ∀ x o, x ≠ D → H4 x = some o → upd H4 D (.lst (bs.map V.ref ++ [V.ref b])) x = some o := fun x o n q => by rw [upd_ne n]; exact q
        refine ⟨bs.map V.ref, dD4, ?_, t3, done ++ [.list r], bs ++ [b], rd ++ [r], rs, ?_, ?_, TpOk.wr k4 nD dD4 trivial trivial, by rw [upd_same, List.map_append]; rfl, ⟨?_, ?_, ?_, ?_, ?_⟩, ?_, eRn, ?_⟩
        · have := n2'.length
          have hle : rd.length ≤ done.length := by
            have : ∀ {ws : List W} {rs : List (List W)}, rowsW ws = some rs → rs.length = ws.length := fun {ws rs} h => by rw [rowsW_eq h, List.length_map]
            rw [this n1]; exact Nat.le_refl _
          rw [List.length_map, ← this, sizeLine_eq]; omega
        · exact g0.stay (fun a => tps tp a ∨ a = D) hxD _ _ ((mA.trans m4).imp (fun a z => .inl z) |>.trans (Sm.wr dD4 trivial (.inr rfl) trivial)) hG
        · exact Sm.wrNew ((hS.trans mA).trans m4) (Nw.of hD) dD4 trivial trivial
        · have : ∀ {as : List W} {ra : List (List W)}, rowsW as = some ra → rowsW (as ++ [.list r]) = some (ra ++ [r]) := by
            intro as
            induction as with
            | nil => intro ra h; unfold rowsW at h; cases h; rw [List.nil_append, List.nil_append]; unfold rowsW; rw [q3]; rfl
            | cons a as ih =>
              intro ra h
              obtain ⟨r', rs', h1, h2, h3⟩ := rowsW_cons h
              subst h3
              rw [List.cons_append]
              unfold rowsW
              rw [h1, ih h2]; rfl
          exact this n1
        · exact (n4'.of mw.tup fun a o z q => ne a o (fun y => n3 (y ▸ z)) q).append (.cons (ne _ _ bD hb) (Ims.mono (kpT mw.tup) (fun _ _ => .inl trivial) _ _ hi4) .nil)
        · intro z
          rcases List.mem_append.mp z with z | z
          · exact n3 z
          · exact bD (List.mem_singleton.mp z).symm
        · exact List.nodup_append.mpr ⟨n4, List.nodup_cons.mpr ⟨fun z => (by cases z), List.nodup_nil⟩, fun x hx y hy z => by
            rw [List.mem_singleton.mp hy] at z; subst z; exact bn hx⟩
        · intro x z
          rcases List.mem_append.mp z with z | z
          · exact n5 x z
          · rw [List.mem_singleton.mp z]; exact (hS.trans mA).none nwb
        · rw [List.length_append, List.length_singleton]; omega
        · rw [List.append_assoc]; exact ew
  · have e : i = items.length := by omega
    subst e
    exact .inl (fin Ha p)
end
end Ev

end

section
/-! EvY: the list of lists: the rules. -/
namespace Ev
open PySem PySem.Spec PyProof.Rows L2
variable [Tb]
def cN (c : Cf) (i : Nat) : Cf := { c with tape := some i }
def hN (hid : Addr → Prop) (a : Addr) (bs : List Addr) : Addr → Prop := fun x => hid x ∨ x = a ∨ x ∈ bs
def nBs (B : Bs) (c : Cf) (hid : Addr → Prop) (ρ : Sl) (σ : L2.St) (H : Hp) (a : Addr) (bs : List Addr) : Bs := { H0 := H, ow0 := ow1 c ρ σ, hb := hN hid a bs, hT := hN B.hT a bs, tp := some (a, bs) }
section
variable {K : PySem.W.Frag} {cl : Nat → Addr} {c : Cf} {fr : Bool} {E : XK} {B : Bs} {D : Ends} {hid hid' : Addr → Prop} {ρ ρ' : Sl} {σ σ' : L2.St} {H H1 H' : Hp} {t t' : Tp} {i : Nat} {a : Addr} {bs : List Addr} {rows : List (List W)}
theorem set_none {i j : Nat} {w : W} {ρ : Sl} (e : (ρ.set i none)[j]? = some (some w)) : j ≠ i ∧ ρ[j]? = some (some w) := by
  rcases get_set e with ⟨_, q, _⟩ | q
  · cases q
  · exact q
theorem SB.nest (S : SB K c B hid ρ σ H none) (m : Sm (tps B.tp) H H1) (hi : i < σ.length) (hs : c.scr ≠ some i) (ht : c.tape = none) (na : Nw H a) (nb : ∀ b ∈ bs, Nw H b) (hab : a ∉ bs) (nd : bs.Nodup) (h1 : H1 a = some (.lst (bs.map V.ref))) (h2 : Rws H1 bs rows) :
    SB K (cN c i) (nBs B c hid ρ σ H1 a bs) (hN hid a bs) (ρ.set i none) (σ.set i (some (.ref a))) H1 (some rows) := by
  have etp : B.tp = none := S.st.tap
  have hh : ∀ x, hN hid a bs x → hid x ∨ Nw H x := fun x z => by
    rcases z with z | z | z
    · exact .inl z
    · rw [z]; exact .inr na
    · exact .inr (nb x z)
  have nT : ∀ x, tps B.tp x → False := fun x z => by rw [etp] at z; obtain ⟨_, _, e, _⟩ := z; cases e
  have k : Kp hid H H1 := m.kp fun x hx => (nT x hx).elim
  have obj : ∀ x o, H x = some o → (∀ ps, o ≠ .tbl ps) → H1 x = some o := fun x o e n => m.obj x o (fun z => nT x z) e n
  have sg : ∀ {j : Nat}, j ≠ i → (σ.set i (some (V.ref a)))[j]? = σ[j]? := fun {j} n => List.getElem?_set_ne (fun z => n z.symm)
  refine ⟨⟨by rw [List.length_set, List.length_set]; exact S.st.len, fun j w e n n2 => ?_, fun j w e n => ?_, fun j w e n => ?_, fun j l w w' b e1 e2 n1 n2 e3 e4 => ?_, fun x z => ?_, fun x z => z.imp (S.st.sub x) id, fun x z => ?_, ⟨a, bs, rfl, hab, nd, h1, h2⟩, fun j e => ?_, m.tab S.st.tbs⟩, fun x z => .inl z, Sm.refl, fun j w b e hj hsj => ?_⟩
  · obtain ⟨q1, q2⟩ := set_none e
    obtain ⟨v, e1, h⟩ := S.st.im j w q2 n n2
    exact ⟨v, by rw [sg q1]; exact e1, Im.mono k hh _ _ h⟩
  · obtain ⟨q1, q2⟩ := set_none e
    obtain ⟨b, ns, e1, e2, h⟩ := S.st.scr j w q2 n
    exact ⟨b, ns, by rw [sg q1]; exact e1, e2, h.mono hh fun o _ q nt => obj _ o q nt⟩
  · obtain ⟨q1, q2⟩ := set_none e
    obtain ⟨b, e1, g1, g2, g3⟩ := S.st.own j w q2 n
    have nnb : ¬ Nw H b := S.st.dom b g1
    refine ⟨b, by rw [sg q1]; exact e1, .inl g1, fun z => ?_, g3.mono k hh fun o q nt => obj _ o q nt⟩
    rcases z with z | z | z
    · exact g2 z
    · exact nnb (by rw [z]; exact na)
    · exact nnb (nb b z)
  · obtain ⟨q1, q2⟩ := set_none e1
    obtain ⟨r1, r2⟩ := set_none e2
    rw [sg q1] at e3
    rw [sg r1] at e4
    exact S.st.sep j l w w' b q2 r2 n1 n2 e3 e4
  · rcases z with z | z | z
    · exact m.dom x (S.st.dom x z)
    · rw [z]; exact Nw.not h1 fun ps z => by cases z
    · obtain ⟨vs, q⟩ := h2.lst z
      exact Nw.not q fun ps z => by cases z
  · obtain ⟨y, ys, e, z⟩ := z
    cases e
    exact .inr z
  · have e : some i = some j := e
    cases e
    exact ⟨a, bs, rfl, by rw [List.getElem?_set_self hi]⟩
  · obtain ⟨q1, q2⟩ := set_none e
    rw [sg q1] at hsj
    obtain ⟨_, w1⟩ := (S.next m (t' := none) etp).own j w b q2 hj hsj
    exact ⟨.inr ⟨j, w, q2, hj, hsj⟩, w1⟩
theorem Rws.ims {hid : Addr → Prop} : ∀ {bs : List Addr} {rs : List (List W)}, Rws H bs rs → (∀ b ∈ bs, ¬ hid b) → Ims Tb.K hid H (rs.map PyData.list) (bs.map V.ref)
  | _, _, .nil, _ => .nil
  | _, _, .cons h1 h2 h3, n => .cons (.lst (n _ List.mem_cons_self) h1 (Ims.mono Kp.refl (fun _ _ => .inl trivial) _ _ h2)) (Rws.ims h3 fun b z => n b (List.mem_cons_of_mem _ z))
theorem SB.unnest (hK : Tb.K = K) (S : SB K c B hid ρ σ H none) (m : Sm (tps B.tp) H H1) (hm : i ∉ c.M) (hs : c.scr ≠ some i) (ht : c.tape = none) (na : Nw H a) (nb : ∀ b ∈ bs, Nw H b)
    (S' : SB K (cN c i) (nBs B c hid ρ σ H1 a bs) hid' ρ' σ' H' (some rows)) : ∃ hid2, SB K c B hid2 (ρ'.set i (some (.list (rows.map PyData.list)))) σ' H' none := by
  subst hK
  have etp : B.tp = none := S.st.tap
  obtain ⟨a1, bs1, q1, hab, nd, h1, h2⟩ := S'.st.tap
  have q1 : some (a, bs) = some (a1, bs1) := q1
  cases q1
  obtain ⟨a2, bs2, q2, hσ⟩ := S'.st.slot i rfl
  have q2 : some (a, bs) = some (a2, bs2) := q2
  cases q2
  let hid2 : Addr → Prop := fun x => hid' x ∧ x ≠ a ∧ x ∉ bs
  have hh : ∀ x, hid2 x → hid' x ∨ Nw H' x := fun x z => .inl z.1
  have nT : ∀ x, tps B.tp x → False := fun x z => by rw [etp] at z; obtain ⟨_, _, e, _⟩ := z; cases e
  have key : ∀ {j : Nat} {w w' : W}, (ρ'.set i (some w'))[j]? = some (some w) → (j = i ∧ w' = w) ∨ (j ≠ i ∧ ρ'[j]? = some (some w)) := fun {j w w'} e => by
    rcases get_set e with ⟨e1, e2, _⟩ | e2
    · exact .inl ⟨e1.symm ▸ rfl, by cases e2; rfl⟩
    · exact .inr e2
  refine ⟨hid2, ⟨⟨by rw [List.length_set]; exact S'.st.len, fun j w e n n2 => ?_, fun j w e n => ?_, fun j w e n => ?_, fun j l w w' b e1 e2 n1 n2 e3 e4 => ?_, fun x z => S'.st.dom x z.1, fun x z => ?_, fun x z => (nT x z).elim, etp, fun j e => ?_, S'.st.tbs⟩, fun x z => ?_, ?_, fun j w b e hj hsj => ?_⟩⟩
  · rcases key e with ⟨e1, e2⟩ | ⟨e1, e2⟩
    · subst e1; subst e2
      exact ⟨_, hσ, .lst (fun z => z.2.1 rfl) h1 (h2.ims fun b z y => y.2.2 z)⟩
    · obtain ⟨v, e3, h⟩ := S'.st.im j w e2 n n2
      exact ⟨v, e3, Im.mono Kp.refl hh _ _ h⟩
  · rcases key e with ⟨e1, e2⟩ | ⟨e1, e2⟩
    · subst e1; exact absurd n hs
    · obtain ⟨b, ns, e3, e4, h⟩ := S'.st.scr j w e2 n
      exact ⟨b, ns, e3, e4, h.mono hh fun o _ q _ => q⟩
  · rcases key e with ⟨e1, e2⟩ | ⟨e1, e2⟩
    · subst e1; exact absurd n hm
    · obtain ⟨b, e3, g1, g2, g3⟩ := S'.st.own j w e2 n
      exact ⟨b, e3, ⟨g1, fun z => g2 (.inr (.inl z)), fun z => g2 (.inr (.inr z))⟩, fun z => g2 (.inl z), g3.mono Kp.refl hh fun o q _ => q⟩
  · rcases key e1 with ⟨r1, r2⟩ | ⟨r1, r2⟩
    · subst r1; exact absurd n1 hm
    · rcases key e2 with ⟨p1, p2⟩ | ⟨p1, p2⟩
      · subst p1; exact absurd n2 hm
      · exact S'.st.sep j l w w' b r2 p2 n1 n2 e3 e4
  · have nn : ¬ Nw H x := S.st.dom x (S.st.sub x z)
    exact ⟨S'.st.sub x (.inl z), fun e => nn (by rw [e]; exact na), fun e => nn (nb x e)⟩
  · rw [ht] at e; cases e
  · rcases S'.hid0 x z.1 with q | q
    · rcases q with q | q | q
      · exact S.hid0 x q
      · exact absurd q z.2.1
      · exact absurd q z.2.2
    · exact .inr (S.sm.none (m.none q))
  · refine (S.sm.transN m fun x z => (nT x z).elim).transN S'.sm fun x z => ?_
    rcases z with ⟨y, ys, e, z⟩ | ⟨j, w, e, hj, hs'⟩
    · have e : some (a, bs) = some (y, ys) := e
      cases e
      rcases z with z | z
      · rw [z]; exact .inr (S.sm.none na)
      · exact .inr (S.sm.none (nb x z))
    · exact (S.own j w x e hj hs').1.elim .inr fun z => .inl (.inr z)
  · rcases key e with ⟨e1, e2⟩ | ⟨e1, e2⟩
    · subst e1; exact absurd hj hm
    · obtain ⟨h, w1⟩ := S'.own j w b e2 hj hsj
      refine ⟨?_, w1⟩
      rcases h with h | ⟨l, w', e3, hl, hs'⟩
      · exact .inl (S.sm.none (m.none h))
      · exact (S.own l w' b e3 hl hs').1
/-- one of its lists is written -/
theorem SB.npt {b : Addr} {us us' : List V} {k : Nat} {r' : List W} (S : SB K c B hid ρ σ H (some rows)) (ht : c.tape = some i) : ∃ a bs, B.tp = some (a, bs) ∧ σ[i]? = some (some (.ref a)) ∧ H a = some (.lst (bs.map V.ref)) ∧ Rws H bs rows ∧
    ∀ {k : Nat} {b : Addr} {us us' : List V} {r' : List W}, bs[k]? = some b → H b = some (.lst us) → Ims Tb.K (fun _ => True) H r' us' → SB K c B hid ρ σ (upd H b (.lst us')) (some (rows.set k r')) := by
  obtain ⟨a, bs, e1, hσ⟩ := S.st.slot i ht
  obtain ⟨a', bs', e2, hab, nd, h1, h2⟩ := S.st.tap
  rw [e1] at e2; cases e2
  refine ⟨a, bs, e1, hσ, h1, h2, fun {k b us us' r'} eb hb hI => ?_⟩
  have hbm : b ∈ bs := List.mem_of_getElem? eb
  have tb : tps B.tp b := ⟨a, bs, e1, .inr hbm⟩
  have hTb : B.hT b := S.st.tph b tb
  have hh : hid b := S.st.sub b hTb
  have kp : Kp hid H (upd H b (.lst us')) := Kp.wr hb trivial hh trivial
  have mw : Sm (tps B.tp) H (upd H b (.lst us')) := Sm.wr hb trivial tb trivial
  have ne : ∀ x v, x ≠ b → H x = some v → upd H b (.lst us') x = some v := fun x v n e => by rw [upd_ne n]; exact e
  refine ⟨⟨S.st.len, fun j w1 e n n2 => ?_, fun j w1 e n => ?_, fun j w1 e n => ?_, S.st.sep, fun x z => mw.dom x (S.st.dom x z), S.st.sub, S.st.tph, ?_, S.st.slot, mw.tab S.st.tbs⟩, S.hid0, S.sm.trans (mw.imp fun x z => .inl z), fun j w1 x e hj hs => ?_⟩
  · obtain ⟨x, g1, g2⟩ := S.st.im j w1 e n n2
    exact ⟨x, g1, Im.mono kp (fun _ z => .inl z) _ _ g2⟩
  · obtain ⟨x, ns, g1, g2, g3⟩ := S.st.scr j w1 e n
    exact ⟨x, ns, g1, g2, g3.mono (fun _ z => .inl z) fun o nh q nt => ne x o (fun z => nh (z ▸ hh)) q⟩
  · obtain ⟨x, g1, g2, g3, g4⟩ := S.st.own j w1 e n
    have nx : x ≠ b := fun z => g3 (z ▸ hTb)
    exact ⟨x, g1, g2, g3, g4.mono kp (fun _ z => .inl z) fun o q nt => ne x o nx q⟩
  · refine ⟨a, bs, e1, hab, nd, ne _ _ (fun z => hab (z ▸ hbm)) h1, h2.put rfl (Ims.mono (kpT mw.tup) (fun _ _ => .inl trivial) _ _ hI) mw.tup nd eb⟩
  · obtain ⟨g1, v, g2, g3⟩ := S.own j w1 x e hj hs
    obtain ⟨x', q1, q2, q3, _⟩ := S.st.own j w1 e hj
    rw [hs] at q1; cases q1
    have nx : x ≠ b := fun z => q3 (z ▸ hTb)
    exact ⟨g1, v, ne x v nx g2, g3⟩
end
end Ev

end

section
/-! EvZ: the list of lists: the rules, in short. -/
namespace Ev
open PySem PySem.Spec PyProof.Rows L2
variable [Tb]
section
variable {X : Cx} {cl : Nat → Addr} {c : Cf} {fr : Bool} {E : XK} {pos : Pos} {st : Stmt} {rest : List Stmt} {e ix1 ix2 : Expr} {s s1 s2 : Ex} {u v : Sv}
theorem ixN_map {α β : Type} {xs : List α} {ys : List β} {k : Int} {r : α} (h : atI xs k = some r) (hl : xs.length = ys.length) : ∃ j, ixN ys.length k = some j ∧ xs[j]? = some r := by
  unfold atI at h
  rw [hl] at h
  cases q : ixN ys.length k with
  | none => rw [q] at h; cases h
  | some j => rw [q] at h; exact ⟨j, rfl, h⟩
theorem nRow_ok {t : Tp} {k : W} {r : List W} (h : nRow t k = some r) : ∃ rows i, t = some rows ∧ k = .int i ∧ atI rows i = some r := by
  unfold nRow at h
  split at h
  · exact ⟨_, _, rfl, rfl, h⟩
  · cases h
theorem nst_row {K : PySem.W.Frag} {hT hid : Addr → Prop} {tp : Option (Addr × List Addr)} {ρ : Sl} {σ : L2.St} {H1 : Hp} {t1 : Tp} {a : Addr} {bs : List Addr} {k : W} {r : List W} {v1 : V} (S : StE K c hT hid tp ρ σ H1 t1) (etp : tp = some (a, bs)) (hr : nRow t1 k = some r) (p : Bo K hT hid H1 k v1) :
    ∃ kk k' b, k = .int kk ∧ v1 = .int kk ∧ H1 a = some (.lst (bs.map V.ref)) ∧ ixN bs.length kk = some k' ∧ bs[k']? = some b ∧ atI (bs.map V.ref) kk = some (.ref b) := by
  obtain ⟨rows, kk, e1, e2, e3⟩ := nRow_ok hr
  subst e1; subst e2
  obtain ⟨a', bs', e4, _, _, h1, h2⟩ := S.tap
  rw [etp] at e4; cases e4
  obtain ⟨k', q1, q2⟩ := ixN_map (ys := bs) e3 h2.length
  obtain ⟨b, us, g1, _⟩ := h2.get q2
  refine ⟨kk, k', b, rfl, bo_int p, h1, q1, g1, ?_⟩
  unfold atI
  rw [List.length_map, q1]
  show (bs.map V.ref)[k']? = _
  rw [List.getElem?_map, g1]; rfl
theorem ev_nst {i : Nat} {x : Str} {px p1 p2 : Pos} (hN : X.N[i]? = some x) (hv : Vis X.env.scope x) (ht : c.tape = some i) (hK : Tb.K = X.K) (hd : (x == ("__debug__" : Str)) = false) (hcd : (x == ("__classdict__" : Str)) = false)
    (h1 : EX X cl c .bor ix1 s1 E) (h2 : EX X cl c .bor ix2 s2 E) (hs1 : PlainIx ix1) (hs2 : PlainIx ix2) : EX X cl c .safe (.Subscript (.Subscript (.Name x px) ix1 p1) ix2 p2) (eNst s1 s2) E :=
  PE_imp (pe_ix ix_seq (pe_ix ix_seq (pe_var hN hv hd hcd) h1 hs1) h2 hs2) fun σ H Q ⟨hT, hid, tp, ρ, t, S, o⟩ => by
    obtain ⟨a, bs, etp, hσ⟩ := S.slot i ht
    refine ⟨.ref a, hσ, hT, hid, tp, ρ, t, S, Out.seq later_pw o fun k t1 v1 H1 e1 m1 k1 p1 o1 => ?_⟩
    have S1 := S.sm m1 k1
    obtain ⟨r, er, o1⟩ : ∃ r, nRow t1 k = some r ∧ Out cl tp E H1 ((s2 ρ t1).bind fun j t => rOf (nGet t k j) t) (PWm X.K .safe hT hid) Q := by
      cases q : nRow t1 k with
      | none => rw [q] at o1; exact False.elim o1
      | some r => rw [q] at o1; exact ⟨r, rfl, o1⟩
    obtain ⟨kk, k', b, ek, ev, ha, ex, eb, eat⟩ := nst_row S1 etp er p1
    subst ek; subst ev
    refine .inl ⟨a, _, kk, .ref b, rfl, rfl, .inl (.inl ha), eat, ?_⟩
    refine ⟨hT, hid, tp, ρ, t1, S1, Out.seq later_pw o1 fun j t2 v2 H2 e2 m2 k2 p2 o2 => ?_⟩
    have S2 := S1.sm m2 k2
    obtain ⟨z, ez, o9⟩ := rOf_ok o2
    cases t2 with
    | none => cases ez
    | some rows =>
      cases j <;> simp only [nGet] at ez <;> try cases ez
      rename_i jj
      obtain ⟨a', bs', e4, _, _, g1, g2⟩ := S2.tap
      rw [etp] at e4; cases e4
      cases er2 : atI rows kk with
      | none => rw [er2] at ez; cases ez
      | some r2 =>
        rw [er2] at ez
        have ez : atI r2 jj = some z := ez
        obtain ⟨k2', q1, q2⟩ := ixN_map (ys := bs) er2 g2.length
        rw [ex] at q1; cases q1
        obtain ⟨b', us, f1, f2, f3⟩ := g2.get q2
        rw [eb] at f1; cases f1
        rw [bo_int p2]
        obtain ⟨vz, d1, d2⟩ := ims_at f3 ez
        refine .inl ⟨b, us, jj, vz, rfl, rfl, .inl (.inl f2), d1, o9.ok_ k2 Sm.refl ?_⟩
        rw [hK] at d2
        exact Im.mono Kp.refl (fun _ _ => .inl trivial) _ _ d2
theorem sx_nput {i : Nat} {x : Str} {px p1 p2 : Pos} (hN : X.N[i]? = some x) (hv : Vis X.env.scope x) (ht : c.tape = some i) (hK : Tb.K = X.K) (hd : (x == ("__debug__" : Str)) = false) (hcd : (x == ("__classdict__" : Str)) = false)
    (h1 : EX X cl c .bor ix1 s1 E) (h2 : EX X cl c .bor ix2 s2 E) (he : EX X cl c .safe e s E) (hs1 : PlainIx ix1)
    (ha : ∀ v, assign (.Subscript (.Subscript (.Name x px) ix1 p1) ix2 p2) X.env v = (do
      let ov ← holding [v] (eval (.Subscript (.Name x px) ix1 p1) X.env)
      let iv ← holding [v, ov] (eval ix2 X.env)
      standAt p2
      holding [v, ov, iv] (setItem ov iv v)
      release [v, ov, iv] []))
    (hs : swapsWithSole [.Subscript (.Subscript (.Name x px) ix1 p1) ix2 p2] e pos.line X.env = pure false) (hw : swappedStores [.Subscript (.Subscript (.Name x px) ix1 p1) ix2 p2] e X.env = pure none)
    (hone : (assignEach [.Subscript (.Subscript (.Name x px) ix1 p1) ix2 p2] X.env).map (·.2) = [assign (.Subscript (.Subscript (.Name x px) ix1 p1) ix2 p2) X.env]) : SX X cl c fr (.Assign [.Subscript (.Subscript (.Name x px) ix1 p1) ix2 p2] e pos) (sNPut s1 s2 s) E :=
  PS_imp (ps_asg he (pg_sub (pe_ix ix_seq (pe_var hN hv hd hcd) h1 hs1) h2 set_list ha) hs hw hone) fun D σ H ⟨B, hid, ρ, t, S, o⟩ => S.run o fun w t1 v1 H1 m1 k1 p1 o1 => by
    have S1 := S.next m1 k1
    obtain ⟨a, bs, etp, hσ⟩ := S1.st.slot i ht
    refine ⟨.ref a, hσ, SB.run S1 o1 fun k t2 v2 H2 m2 k2 p2 o2 => ?_⟩
    have S2 := StS.next S1 m2 k2
    obtain ⟨r, er, o2⟩ : ∃ r, nRow t2 k = some r ∧ OutS X.K cl c fr E B D (toS (s2 ρ t2) fun j t => match nPut t k j w with | some t' => .next ρ t' | none => .bad) := by
      cases q : nRow t2 k with
      | none => rw [q] at o2; exact False.elim o2
      | some r => rw [q] at o2; exact ⟨r, rfl, o2⟩
    obtain ⟨kk, k', b, ek, ev, ha2, ex, eb, eat⟩ := nst_row S2.st etp er p2
    subst ek; subst ev
    refine .inl ⟨a, _, kk, .ref b, rfl, rfl, .inl (.inl ha2), eat, SB.run S2 o2 fun j t3 v3 H3 m3 k3 p3 o3 => ?_⟩
    have S3 := StS.next S2 m3 k3
    cases t3 with
    | none => exact False.elim o3
    | some rows =>
      cases j <;> simp only [nPut] at o3 <;> try exact False.elim o3
      rename_i jj
      obtain ⟨a', bs', e4, _, g1, g2, go⟩ := SB.npt (b := b) (us := []) (us' := []) (k := 0) (r' := []) S3 ht
      rw [etp] at e4; cases e4
      cases ep : pureW w with
      | false => rw [ep, if_neg Bool.false_ne_true] at o3; exact False.elim o3
      | true =>
        rw [ep, if_pos rfl, g2.length, ex] at o3
        have o3 : OutS X.K cl c fr E B D (match ((rows[k']?).bind fun r => (ixN r.length jj).map fun j' => some (rows.set k' (r.set j' w)) : Option Tp) with | some t' => .next ρ t' | none => .bad) := o3
        cases er3 : rows[k']? with
        | none => rw [er3] at o3; exact False.elim o3
        | some r3 =>
          rw [er3] at o3
          have o3 : OutS X.K cl c fr E B D (match ((ixN r3.length jj).map fun j' => some (rows.set k' (r3.set j' w)) : Option Tp) with | some t' => .next ρ t' | none => .bad) := o3
          cases ej : ixN r3.length jj with
          | none => rw [ej] at o3; exact False.elim o3
          | some j' =>
            rw [ej] at o3
            obtain ⟨b', us, f1, f2, f3⟩ := g2.get er3
            rw [eb] at f1; cases f1
            refine ⟨b, us, jj, j', rfl, bo_int p3, f2, by rw [← f3.length]; exact ej, ?_⟩
            have p1' : Im X.K hid H3 w v1 := Im.mono ((m2.trans m3).kp fun x z => S1.st.sub x (S1.st.tph x z)) (fun _ z => .inl z) _ _ p1
            have p1'' : Im Tb.K (fun _ => True) H3 w v1 := by rw [hK]; exact im_pure w v1 ep p1'
            exact o3 hid _ _ (go eb f2 (Ims.set p1'' j' f3))
theorem ss_nest {i : Nat} {y : Str} {py : Pos} {elt tg iter : Expr} {ifs : List Expr} {scope : Scope} {own : List (Str × Nat)} {src : Exs} {is : List Nat} {g : Gw} {tt : Et} {te : Ex} {spos : Pos} (hc : X.calm = true) (hK : Tb.K = X.K) (n : NmOk X c i y) (hl : X.env.scope.names.lookup y = some .local) (hm : i ∉ c.M) (htp : c.tape = none)
    (hsw : swapsWith (.ListComp elt [⟨tg, iter, ifs, 0⟩] scope pos) (some (.Name y py)) spos.line X.env = pure true) (hi : IX X cl c false tg iter src E) (ok : BlkOk X.N X.env.scope scope own)
    (hg : ∀ (s : Shared) (H : Hp) (C : Addr) (cl : List (Str × Addr)) (fp : List Addr), GX (X.blk s H scope (compEnvC scope cl C X.env) fp) c tg g is)
    (ht : ∀ (s : Shared) (H : Hp) (C : Addr) (cl' : List (Str × Addr)) (fp : List Addr), TsX (X.blk s H scope (compEnvC scope cl' C X.env) fp) cl c ifs tt E0)
    (he : ∀ (s : Shared) (H : Hp) (C : Addr) (cl' : List (Str × Addr)) (fp : List Addr), EX (X.blk s H scope (compEnvC scope cl' C X.env) fp) cl c .fresh elt te E0)
    (hs : ∀ x, foldedSetIterable iter X.env x = pure x) (his : ∀ i ∈ is, i ∈ own.map (·.2)) (hvt : ∀ i ∈ own.map (·.2), c.tape ≠ some i)
    (hb : SX X cl (cN c i) false st v E) (hr : SsX X cl c fr rest u E) :
    SsX X cl c fr (.Assign [.Name y py] (.ListComp elt [⟨tg, iter, ifs, 0⟩] scope pos) spos :: st :: rest) (sNest i (eRows (eLc src (own.map (·.2)) g tt te)) v u) E :=
  PSs_imp (pss_cons (ps_setLc (te := tEx X.K cl c .fresh te E0) (g := tGx X.K c g is) (tt := tTs X.K cl c tt E0) hc n.nd n.at_ hl hsw hi ok hg ht he hs) (pss_cons hb hr)) fun D σ H ⟨B, hid, ρ, t, S, o⟩ => by
    cases t with
    | some rows => exact False.elim o
    | none =>
      have o : OutS X.K cl c fr E B D (if decide (i < ρ.length) = true then toS (eRows (eLc src (own.map (·.2)) g tt te) ρ none) fun w _ => (match wRows w with
        | some rows => (match v (ρ.set i none) (some rows) with
          | .next ρ2 (some rows2) => u (ρ2.set i (some (.list (rows2.map PyData.list)))) none
          | _ => .bad)
        | none => .bad) else .bad) := o
      obtain ⟨hlt, o⟩ := fewS (α := Unit) o
      have hlt : i < σ.length := by rw [← S.st.len]; exact of_decide_eq_true hlt
      show tLc (tSrc X.K cl c false src E) (tGx X.K c g is) (tTs X.K cl c tt E0) (tEx X.K cl c .fresh te E0) (own.map (·.2)) σ H (fun v1 H1 => gName i v1 σ H1 (tSeq (tSv X.K cl (cN c i) false v E) (tSv X.K cl c fr u E) D))
      refine lcN_core (E := E) hK (cT := c) his hvt S.st (OutS.seq S o fun w t1 v1 H1 ew m1 k1 p1 o1 => ?_)
      obtain ⟨a, bs, rows, hw, ev, na, nb, hab, nd, h1, h2⟩ := (show PN H w H1 v1 from p1)
      subst ev
      rw [hw] at o1
      have o1 : OutS X.K cl c fr E B D (match v (ρ.set i none) (some rows) with
          | .next ρ2 (some rows2) => u (ρ2.set i (some (.list (rows2.map PyData.list)))) none
          | _ => .bad) := o1
      refine ⟨nBs B c hid ρ σ H1 a bs, hN hid a bs, ρ.set i none, some rows, SB.nest S m1 hlt n.scr htp na nb hab nd h1 h2, ?_⟩
      cases q : v (ρ.set i none) (some rows) with
      | next ρ2 t2 =>
        rw [q] at o1
        cases t2 with
        | none => exact False.elim o1
        | some rows2 =>
          intro hid2 σ2 H2 S2
          obtain ⟨hid3, S3⟩ := SB.unnest hK S m1 hm n.scr htp na nb S2
          exact ⟨B, hid3, _, none, S3, o1⟩
      | ret w t2 => rw [q] at o1; exact False.elim o1
      | exc e t2 => rw [q] at o1; exact False.elim o1
      | bad => rw [q] at o1; exact False.elim o1
/-! ### for printed derivations -/
theorem vNst (i : Nat) {x : Str} {px p1 p2 : Pos} (hK : Tb.K = X.K) (h1 : EX X cl c .bor ix1 s1 E) (h2 : EX X cl c .bor ix2 s2 E) (hN : X.N[i]? = some x := by rfl) (hv : Vis X.env.scope x := by first | exact .inl rfl | exact .inr (.inl rfl) | exact .inr (.inr rfl)) (ht : c.tape = some i := by rfl) (hd : (x == ("__debug__" : Str)) = false := by decide) (hcd : (x == ("__classdict__" : Str)) = false := by decide)
    (hs1 : PlainIx ix1 := by intro _ _; rfl) (hs2 : PlainIx ix2 := by intro _ _; rfl) : EX X cl c .safe (.Subscript (.Subscript (.Name x px) ix1 p1) ix2 p2) (eNst s1 s2) E := ev_nst hN hv ht hK hd hcd h1 h2 hs1 hs2
theorem zNPut (i : Nat) {x : Str} {px p1 p2 : Pos} (hK : Tb.K = X.K) (h1 : EX X cl c .bor ix1 s1 E) (h2 : EX X cl c .bor ix2 s2 E) (he : EX X cl c .safe e s E) (hN : X.N[i]? = some x := by rfl) (hv : Vis X.env.scope x := by first | exact .inl rfl | exact .inr (.inl rfl) | exact .inr (.inr rfl)) (ht : c.tape = some i := by rfl) (hd : (x == ("__debug__" : Str)) = false := by decide) (hcd : (x == ("__classdict__" : Str)) = false := by decide)
    (hs1 : PlainIx ix1 := by intro _ _; rfl)
    (ha : ∀ v, assign (.Subscript (.Subscript (.Name x px) ix1 p1) ix2 p2) X.env v = (do
      let ov ← holding [v] (eval (.Subscript (.Name x px) ix1 p1) X.env)
      let iv ← holding [v, ov] (eval ix2 X.env)
      standAt p2
      holding [v, ov, iv] (setItem ov iv v)
      release [v, ov, iv] []) := by intro _; rfl)
    (hs : swapsWithSole [.Subscript (.Subscript (.Name x px) ix1 p1) ix2 p2] e pos.line X.env = pure false := by rfl) (hw : swappedStores [.Subscript (.Subscript (.Name x px) ix1 p1) ix2 p2] e X.env = pure none := by rfl)
    (hone : (assignEach [.Subscript (.Subscript (.Name x px) ix1 p1) ix2 p2] X.env).map (·.2) = [assign (.Subscript (.Subscript (.Name x px) ix1 p1) ix2 p2) X.env] := by rfl) : SX X cl c fr (.Assign [.Subscript (.Subscript (.Name x px) ix1 p1) ix2 p2] e pos) (sNPut s1 s2 s) E := sx_nput hN hv ht hK hd hcd h1 h2 he hs1 ha hs hw hone
theorem zNest (i : Nat) {y : Str} {py : Pos} {elt tg iter : Expr} {ifs : List Expr} {scope : Scope} (own : List (Str × Nat)) {src : Exs} {is : List Nat} {g : Gw} {tt : Et} {te : Ex} {spos : Pos} (hK : Tb.K = X.K) (nd : X.N.Nodup) (hi : IX X cl c false tg iter src E)
    (hg : ∀ (s : Shared) (H : Hp) (C : Addr) (cl : List (Str × Addr)) (fp : List Addr), GX (X.blk s H scope (compEnvC scope cl C X.env) fp) c tg g is)
    (ht : ∀ (s : Shared) (H : Hp) (C : Addr) (cl' : List (Str × Addr)) (fp : List Addr), TsX (X.blk s H scope (compEnvC scope cl' C X.env) fp) cl c ifs tt E0)
    (he : ∀ (s : Shared) (H : Hp) (C : Addr) (cl' : List (Str × Addr)) (fp : List Addr), EX (X.blk s H scope (compEnvC scope cl' C X.env) fp) cl c .fresh elt te E0)
    (hb : SX X cl (cN c i) false st v E) (hr : SsX X cl c fr rest u E)
    (n : NmOk X c i y := by exact nm (by assumption)) (hl : X.env.scope.names.lookup y = some .local := by rfl) (hm : i ∉ c.M := by decide) (htp : c.tape = none := by rfl)
    (hsw : swapsWith (.ListComp elt [⟨tg, iter, ifs, 0⟩] scope pos) (some (.Name y py)) spos.line X.env = pure true := by exact sw_true rfl rfl rfl (by decide +kernel)) (ok : blkC X.N X.env.scope scope own = true := by rfl)
    (hs : ∀ x, foldedSetIterable iter X.env x = pure x := by intro _; rfl) (hc : X.calm = true := by rfl) (his : ∀ i ∈ is, i ∈ own.map (·.2) := by decide) (hvt : ∀ i ∈ own.map (·.2), c.tape ≠ some i := by decide) :
    SsX X cl c fr (.Assign [.Name y py] (.ListComp elt [⟨tg, iter, ifs, 0⟩] scope pos) spos :: st :: rest) (sNest i (eRows (eLc src (own.map (·.2)) g tt te)) v u) E := ss_nest hc hK n hl hm htp hsw hi (blkOk_by ok) hg ht he hs his hvt hb hr
end
end Ev

end

section
namespace G
open PySem PySem.Spec PyProof.Rows L2 Ev
def top (i : Nat) : Stmt := PySem.Challenge.pw_slideforms_k04_whole_products_parted_by.main.body.getD i (.Pass ⟨0, 0, 0, 0⟩)
def xs : List Str := ["BadNumber", "BadForm"]
def d_divisor : He.DefD := ⟨("divisor", none), "divisor", "divisor", defArgs (top 9), defBody (top 9), defScope (top 9), [], []⟩
def d_is_integer : He.DefD := ⟨("is_integer", none), "is_integer", "is_integer", defArgs (top 7), defBody (top 7), defScope (top 7), [], []⟩
def d_is_ratio : He.DefD := ⟨("is_ratio", none), "is_ratio", "is_ratio", defArgs (top 8), defBody (top 8), defScope (top 8), [], []⟩
def d_is_form : He.DefD := ⟨("is_form", none), "is_form", "is_form", defArgs (top 18), defBody (top 18), defScope (top 18), [], []⟩
def d_check_order : He.DefD := ⟨("check_order", none), "check_order", "check_order", defArgs (top 22), defBody (top 22), defScope (top 22), [], []⟩
def d_make : He.DefD := ⟨("make", none), "make", "make", defArgs (top 10), defBody (top 10), defScope (top 10), [], []⟩
def d_multiply_ratios : He.DefD := ⟨("multiply_ratios", none), "multiply", "multiply", defArgs (top 13), defBody (top 13), defScope (top 13), [], []⟩
def d_slope_x : He.DefD := ⟨("slope_x", none), "slope_x", "slope_x", defArgs (top 28), defBody (top 28), defScope (top 28), [], []⟩
def d_slope_y : He.DefD := ⟨("slope_y", none), "slope_y", "slope_y", defArgs (top 29), defBody (top 29), defScope (top 29), [], []⟩
def d_add_ratios : He.DefD := ⟨("add_ratios", none), "add", "add", defArgs (top 11), defBody (top 11), defScope (top 11), [], []⟩
def d_check_form : He.DefD := ⟨("check_form", none), "check_form", "check_form", defArgs (top 19), defBody (top 19), defScope (top 19), [], []⟩
def d_zero : He.DefD := ⟨("zero", none), "zero", "zero", defArgs (top 21), defBody (top 21), defScope (top 21), [], []⟩
def d_scaled : He.DefD := ⟨("scaled", none), "scaled", "scaled", defArgs (top 25), defBody (top 25), defScope (top 25), [], []⟩
def d_order : He.DefD := ⟨("order", none), "order", "order", defArgs (top 20), defBody (top 20), defScope (top 20), [], []⟩
def d_slopes : He.DefD := ⟨("slopes", none), "slopes", "slopes", defArgs (top 30), defBody (top 30), defScope (top 30), [], []⟩
def d_add_forms : He.DefD := ⟨("add_forms", none), "add", "add", defArgs (top 23), defBody (top 23), defScope (top 23), [], []⟩
def d_factorial : He.DefD := ⟨("factorial", none), "factorial", "factorial", defArgs (top 32), defBody (top 32), defScope (top 32), [], []⟩
def d_divide : He.DefD := ⟨("divide", none), "divide", "divide", defArgs (top 15), defBody (top 15), defScope (top 15), [], []⟩
def d_choose : He.DefD := ⟨("choose", none), "choose", "choose", defArgs (top 31), defBody (top 31), defScope (top 31), [], []⟩
def d_multiply_forms : He.DefD := ⟨("multiply_forms", none), "multiply", "multiply", defArgs (top 26), defBody (top 26), defScope (top 26), [], []⟩
def d_slide : He.DefD := ⟨("slide", none), "slide", "slide", defArgs (top 35), defBody (top 35), defScope (top 35), [], []⟩
def d__law_make : He.DefD := ⟨("_law_make", none), "_law_make", "_law_make", defArgs (top 47), defBody (top 47), defScope (top 47), [], []⟩
def d__law_add : He.DefD := ⟨("_law_add", none), "_law_add", "_law_add", defArgs (top 48), defBody (top 48), defScope (top 48), [], []⟩
def d__law_mul : He.DefD := ⟨("_law_mul", none), "_law_mul", "_law_mul", defArgs (top 49), defBody (top 49), defScope (top 49), [], []⟩
def d__law_scaled : He.DefD := ⟨("_law_scaled", none), "_law_scaled", "_law_scaled", defArgs (top 53), defBody (top 53), defScope (top 53), [], []⟩
def d__law_plus : He.DefD := ⟨("_law_plus", none), "_law_plus", "_law_plus", defArgs (top 52), defBody (top 52), defScope (top 52), [], []⟩
def d__law_choose : He.DefD := ⟨("_law_choose", none), "_law_choose", "_law_choose", defArgs (top 57), defBody (top 57), defScope (top 57), [], []⟩
def d__law_slope : He.DefD := ⟨("_law_slope", none), "_law_slope", "_law_slope", defArgs (top 56), defBody (top 56), defScope (top 56), [], []⟩
def d__law_times : He.DefD := ⟨("_law_times", none), "_law_times", "_law_times", defArgs (top 51), defBody (top 51), defScope (top 51), [], []⟩
def d__law_slide : He.DefD := ⟨("_law_slide", none), "_law_slide", "_law_slide", defArgs (top 61), defBody (top 61), defScope (top 61), [], []⟩
def d__law_same : He.DefD := ⟨("_law_same", none), "_law_same", "_law_same", defArgs (top 46), defBody (top 46), defScope (top 46), [], []⟩
def d_weighed : He.DefD := ⟨("weighed", none), "weighed", "weighed", defArgs (top 33), defBody (top 33), defScope (top 33), [], []⟩
def d_times_bracket : He.DefD := ⟨("times_bracket", none), "times_bracket", "times_bracket", defArgs (top 40), defBody (top 40), defScope (top 40), [], []⟩
def d_add_doubles : He.DefD := ⟨("add_doubles", none), "add_doubles", "add_doubles", defArgs (top 38), defBody (top 38), defScope (top 38), [], []⟩
def d_polarized : He.DefD := ⟨("polarized", none), "polarized", "polarized", defArgs (top 39), defBody (top 39), defScope (top 39), [], []⟩
def d_all_slides : He.DefD := ⟨("all_slides", none), "all_slides", "all_slides", defArgs (top 36), defBody (top 36), defScope (top 36), [], []⟩
def d__law_slides : He.DefD := ⟨("_law_slides", none), "_law_slides", "_law_slides", defArgs (top 62), defBody (top 62), defScope (top 62), [], []⟩
def d__law_rich : He.DefD := ⟨("_law_rich", none), "_law_rich", "_law_rich", defArgs (top 45), defBody (top 45), defScope (top 45), [], []⟩
def d__law_form : He.DefD := ⟨("_law_form", none), "_law_form", "_law_form", defArgs (top 58), defBody (top 58), defScope (top 58), [], []⟩
def d__law_cell : He.DefD := ⟨("_law_cell", none), "_law_cell", "_law_cell", defArgs (top 44), defBody (top 44), defScope (top 44), [], []⟩
def d_from_slides : He.DefD := ⟨("from_slides", none), "from_slides", "from_slides", defArgs (top 41), defBody (top 41), defScope (top 41), [], []⟩
def d__law_div : He.DefD := ⟨("_law_div", none), "_law_div", "_law_div", defArgs (top 50), defBody (top 50), defScope (top 50), [], []⟩
def d_double_of : He.DefD := ⟨("double_of", none), "double_of", "double_of", defArgs (top 37), defBody (top 37), defScope (top 37), [], []⟩
def d_slides_of_double : He.DefD := ⟨("slides_of_double", none), "slides_of_double", "slides_of_double", defArgs (top 42), defBody (top 42), defScope (top 42), [], []⟩
def d__law_refused : He.DefD := ⟨("_law_refused", none), "_law_refused", "_law_refused", defArgs (top 63), defBody (top 63), defScope (top 63), [], []⟩
def d_law : He.DefD := ⟨("law", none), "law", "law", defArgs (top 64), defBody (top 64), defScope (top 64), [], []⟩
def fn : List He.DefD := ([d_divisor, d_is_integer, d_is_ratio, d_is_form, d_check_order, d_make, d_multiply_ratios, d_slope_x, d_slope_y, d_add_ratios, d_check_form, d_zero, d_scaled, d_order, d_slopes, d_add_forms, d_factorial, d_divide, d_choose, d_multiply_forms, d_slide, d__law_make, d__law_add, d__law_mul, d__law_scaled, d__law_plus, d__law_choose, d__law_slope, d__law_times, d__law_slide] : List He.DefD) ++ ([d__law_same, d_weighed, d_times_bracket, d_add_doubles, d_polarized, d_all_slides, d__law_slides, d__law_rich, d__law_form, d__law_cell, d_from_slides, d__law_div, d_double_of, d_slides_of_double, d__law_refused, d_law] : List He.DefD)
def fa : List He.Fa := ([.glo "divisor", .glo "is_integer", .glo "is_ratio", .glo "is_form", .glo "check_order", .glo "make", .glo "multiply_ratios", .glo "slope_x", .glo "slope_y", .glo "add_ratios", .glo "check_form", .glo "zero", .glo "scaled", .glo "order", .glo "slopes", .glo "add_forms", .glo "factorial", .glo "divide", .glo "choose", .glo "multiply_forms", .glo "slide", .glo "_law_make", .glo "_law_add", .glo "_law_mul", .glo "_law_scaled", .glo "_law_plus", .glo "_law_choose", .glo "_law_slope", .glo "_law_times", .glo "_law_slide"] : List He.Fa) ++ ([.glo "_law_same", .glo "weighed", .glo "times_bracket", .glo "add_doubles", .glo "polarized", .glo "all_slides", .glo "_law_slides", .glo "_law_rich", .glo "_law_form", .glo "_law_cell", .glo "from_slides", .glo "_law_div", .glo "double_of", .glo "slides_of_double", .glo "_law_refused", .glo "law"] : List He.Fa)
def exB (K : PySem.W.Frag) : Bool := bnB K && (apB K xs && (excB K "BadForm" && (excB K "BadNumber" && (cstB K "MOST_ORDER" (.int (24)) && (cstB K "ZERO" (.tuple [(.int (0)), (.int (1))]) && (cstB K "ONE" (.tuple [(.int (1)), (.int (1))])))))))
abbrev R : PySem.W.OpenRow := PySem.W.OpenLaw.row PySem.Challenge.rw_slideforms_k04_whole_products_parted_by
abbrev tf : List He.Defn := [("law", none)]
abbrev hk : PySem.W.Hook := He.hookX 5 fa fn [] tf exB
def ob (s : PySem.W.SharedT) : He.AlX := He.obsX 5 fa fn [] tf exB (HandSHeadRun.getT s)
theorem ob_eq (s : PySem.W.SharedT) : ob s = hk.obs s.abs := He.obsX_eq (HandSHeadRun.getT_eq s)
def loose : List Str := (["FormError", "BadNumber", "BadForm", "ZERO", "ONE", "is_integer", "is_ratio", "divisor", "make", "add", "add_ratios", "multiply", "multiply_ratios", "divide", "MOST_ORDER", "is_form", "check_form", "order", "zero", "check_order", "add_forms", "scaled", "multiply_forms", "slope_x", "slope_y", "slopes", "choose", "factorial", "weighed", "slide"] : List Str) ++ (["all_slides", "double_of", "add_doubles", "polarized", "times_bracket", "from_slides", "slides_of_double", "_law_cell", "_law_rich", "_law_same", "_law_make", "_law_add", "_law_mul", "_law_div", "_law_times", "_law_plus", "_law_scaled", "_law_power", "_law_changed", "_law_slope", "_law_choose", "_law_form", "_law_change", "_law_det", "_law_slide", "_law_slides", "_law_refused"] : List Str)
theorem run (w : World) : HandSHeadRun.RunEq R (PySem.W.view R.prog [64]) hk ob 9000 loose w := by
  intro os
  kernel_rfl
end G

end

section
namespace G
open PySem PySem.Spec PyProof.Rows L2 Ev
/-! ### what each def does -/
abbrev X_BadNumber : Nat := 0
abbrev X_BadForm : Nat := 1
abbrev X_BadChange : Nat := 99
abbrev X_BadSource : Nat := 99
abbrev X_BadSize : Nat := 99
abbrev X_BadPoint : Nat := 99
abbrev X_BadText : Nat := 99
/-- divisor(one, other): slots 0 one, 1 other -/
def ratios_divisor : Fs := runF 2 2 false
  (sThen (sPar2 0 1 (eCallB gAbs (eCons (eVar 0) eNil)) (eCallB gAbs (eCons (eVar 1) eNil))) (sThen (sWhile 1000000 (eTest (eBin wGt (eVar 1) (eC (.int (0))))) (sPar2 0 1 (eVar 1) (eBin wMod (eVar 0) (eVar 1)))) (sRet (eVar 0))))
/-- is_integer(value): slots 0 value -/
def ratios_is_integer : Fs := runF 1 1 false
  (sRet (eAnd (eIsI "int" (eVar 0)) (eNot (eIsI "bool" (eVar 0)))))
/-- is_ratio(value): slots 0 value, 1 item -/
def ratios_is_ratio : Fs := runF 1 2 false
  (sThen (sIf (eOrT (eNotT (eTest (eIsI "tuple" (eVar 0)))) (eOrT (eTest (eBin wNe (eCallB gLen (eCons (eVar 0) eNil)) (eC (.int (2))))) (eNotT (eTest (eCallB gAll (eCons (eLc (sSeq (eVar 0)) [1] (gN 1) etYes (eCall ratios_is_integer (eCons (eVar 1) eNil))) eNil)))))) (sRet (eC (.bool false))) sNext) (sRet (eAnd (eBin wGt (eBin wIdx (eVar 0) (eC (.int (1)))) (eC (.int (0)))) (eBin wEq (eCall ratios_divisor (eCons (eBin wIdx (eVar 0) (eC (.int (0)))) (eCons (eBin wIdx (eVar 0) (eC (.int (1)))) eNil))) (eC (.int (1)))))))
/-- is_form(value): slots 0 value, 1 item -/
def forms_is_form : Fs := runF 1 2 false
  (sRet (eAnd (eIsI "tuple" (eVar 0)) (eAnd (eChain wLt wLe (eC (.int (0))) (eCallB gLen (eCons (eVar 0) eNil)) (eBin wAdd (eC (.int (24))) (eC (.int (1))))) (eCallB gAll (eCons (eLc (sSeq (eVar 0)) [1] (gN 1) etYes (eCall ratios_is_ratio (eCons (eVar 1) eNil))) eNil)))))
/-- check_form(value): slots 0 value -/
def forms_check_form : Fs := runF 1 1 false
  (sIf (eNotT (eTest (eCall forms_is_form (eCons (eVar 0) eNil)))) (sRaise X_BadForm) sNext)
/-- check_order(size): slots 0 size -/
def forms_check_order : Fs := runF 1 1 false
  (sIf (eOrT (eNotT (eTest (eCall ratios_is_integer (eCons (eVar 0) eNil)))) (eOrT (eTest (eBin wLt (eVar 0) (eC (.int (0))))) (eTest (eBin wGt (eVar 0) (eC (.int (24))))))) (sRaise X_BadNumber) sNext)
/-- zero(size): slots 0 size -/
def forms_zero : Fs := runF 1 1 false
  (sThen (sDrop (eCall forms_check_order (eCons (eVar 0) eNil))) (sRet (eBin wMul (eTup (eCons (eC (.tuple [(.int (0)), (.int (1))])) eNil)) (eBin wAdd (eVar 0) (eC (.int (1)))))))
/-- make(above, below): slots 0 above, 1 below, 2 common -/
def ratios_make : Fs := runF 2 3 false
  (sThen (sIf (eTest (eBin wEq (eVar 1) (eC (.int (0))))) (sRaise X_BadNumber) sNext) (sThen (sSet 2 (eCall ratios_divisor (eCons (eVar 0) (eCons (eVar 1) eNil)))) (sThen (sIf (eTest (eBin wLt (eVar 1) (eC (.int (0))))) (sSet 2 (eUn wNeg (eVar 2))) sNext) (sRet (eTup (eCons (eBin wFdiv (eVar 0) (eVar 2)) (eCons (eBin wFdiv (eVar 1) (eVar 2)) eNil)))))))
/-- multiply(one, other): slots 0 one, 1 other -/
def ratios_multiply : Fs := runF 2 2 false
  (sRet (eCall ratios_make (eCons (eBin wMul (eBin wIdx (eVar 0) (eC (.int (0)))) (eBin wIdx (eVar 1) (eC (.int (0))))) (eCons (eBin wMul (eBin wIdx (eVar 0) (eC (.int (1)))) (eBin wIdx (eVar 1) (eC (.int (1))))) eNil))))
/-- scaled(number, one): slots 0 number, 1 one, 2 item -/
def forms_scaled : Fs := runF 2 3 false
  (sRet (eCallB gTuple (eCons (eLc (sSeq (eVar 1)) [2] (gN 2) etYes (eCall ratios_multiply (eCons (eVar 0) (eCons (eVar 2) eNil)))) eNil)))
/-- order(form): slots 0 form -/
def forms_order : Fs := runF 1 1 false
  (sRet (eBin wSub (eCallB gLen (eCons (eVar 0) eNil)) (eC (.int (1)))))
/-- slope_x(form): slots 0 form, 1 size, 2 k, 3 item -/
def forms_slope_x : Fs := runF 1 4 false
  (sThen (sSet 1 (eBin wSub (eCallB gLen (eCons (eVar 0) eNil)) (eC (.int (1))))) (sThen (sIf (eTest (eBin wEq (eVar 1) (eC (.int (0))))) (sRet (eTup (eCons (eC (.tuple [(.int (0)), (.int (1))])) eNil))) sNext) (sRet (eCallB gTuple (eCons (eLc (sEnum (eSlice (eVar 0) oNone (oSome (eUn wNeg (eC (.int (1))))))) [2, 3] (gTp (gsC (gN 2) (gsC (gN 3) gsN))) etYes (eCall ratios_multiply (eCons (eTup (eCons (eBin wSub (eVar 1) (eVar 2)) (eCons (eC (.int (1))) eNil))) (eCons (eVar 3) eNil)))) eNil)))))
/-- slope_y(form): slots 0 form, 1 k, 2 item -/
def forms_slope_y : Fs := runF 1 3 false
  (sThen (sIf (eTest (eBin wEq (eCallB gLen (eCons (eVar 0) eNil)) (eC (.int (1))))) (sRet (eTup (eCons (eC (.tuple [(.int (0)), (.int (1))])) eNil))) sNext) (sRet (eCallB gTuple (eCons (eLc (sEnum (eSlice (eVar 0) (oSome (eC (.int (1)))) oNone)) [1, 2] (gTp (gsC (gN 1) (gsC (gN 2) gsN))) etYes (eCall ratios_multiply (eCons (eTup (eCons (eBin wAdd (eVar 1) (eC (.int (1)))) (eCons (eC (.int (1))) eNil))) (eCons (eVar 2) eNil)))) eNil))))
/-- slopes(form, by_x, by_y): slots 0 form, 1 by_x, 2 by_y, 3 _ -/
def forms_slopes : Fs := runF 3 4 false
  (sThen (sFor (sRng gRng1 (eCons (eVar 1) eNil)) (gN 3) (sSet 0 (eCall forms_slope_x (eCons (eVar 0) eNil)))) (sThen (sFor (sRng gRng1 (eCons (eVar 2) eNil)) (gN 3) (sSet 0 (eCall forms_slope_y (eCons (eVar 0) eNil)))) (sRet (eVar 0))))
/-- add(one, other): slots 0 one, 1 other -/
def ratios_add : Fs := runF 2 2 false
  (sRet (eCall ratios_make (eCons (eBin wAdd (eBin wMul (eBin wIdx (eVar 0) (eC (.int (0)))) (eBin wIdx (eVar 1) (eC (.int (1))))) (eBin wMul (eBin wIdx (eVar 1) (eC (.int (0)))) (eBin wIdx (eVar 0) (eC (.int (1)))))) (eCons (eBin wMul (eBin wIdx (eVar 0) (eC (.int (1)))) (eBin wIdx (eVar 1) (eC (.int (1))))) eNil))))
/-- add(one, other): slots 0 one, 1 other, 2 left, 3 right -/
def forms_add : Fs := runF 2 4 false
  (sThen (sIf (eTest (eBin wNe (eCallB gLen (eCons (eVar 0) eNil)) (eCallB gLen (eCons (eVar 1) eNil)))) (sRaise X_BadForm) sNext) (sRet (eCallB gTuple (eCons (eLc (sZip (eVar 0) (eVar 1)) [2, 3] (gTp (gsC (gN 2) (gsC (gN 3) gsN))) etYes (eCall ratios_add (eCons (eVar 2) (eCons (eVar 3) eNil)))) eNil))))
/-- factorial(number): slots 0 number, 1 found, 2 k -/
def forms_factorial : Fs := runF 1 3 false
  (sThen (sSet 1 (eC (.int (1)))) (sThen (sFor (sRng gRng2 (eCons (eC (.int (2))) (eCons (eBin wAdd (eVar 0) (eC (.int (1)))) eNil))) (gN 2) (sAug wIMul 1 (eVar 2))) (sRet (eVar 1))))
/-- divide(one, other): slots 0 one, 1 other -/
def ratios_divide : Fs := runF 2 2 false
  (sThen (sIf (eTest (eBin wEq (eBin wIdx (eVar 1) (eC (.int (0)))) (eC (.int (0))))) (sRaise X_BadNumber) sNext) (sRet (eCall ratios_make (eCons (eBin wMul (eBin wIdx (eVar 0) (eC (.int (0)))) (eBin wIdx (eVar 1) (eC (.int (1))))) (eCons (eBin wMul (eBin wIdx (eVar 0) (eC (.int (1)))) (eBin wIdx (eVar 1) (eC (.int (0))))) eNil)))))
/-- choose(many, few): slots 0 many, 1 few, 2 found, 3 k -/
def forms_choose : Fs := runF 2 4 false
  (sThen (sSet 2 (eC (.int (1)))) (sThen (sFor (sRng gRng1 (eCons (eVar 1) eNil)) (gN 3) (sSet 2 (eBin wFdiv (eBin wMul (eVar 2) (eBin wSub (eVar 0) (eVar 3))) (eBin wAdd (eVar 3) (eC (.int (1))))))) (sRet (eIf (eTest (eBin wGe (eVar 1) (eC (.int (0))))) (eVar 2) (eC (.int (0)))))))
/-- multiply(one, other): slots 0 one, 1 other, 2 found, 3 k, 4 left, 5 j, 6 right -/
def forms_multiply : Fs := runF 2 7 false
  (sThen (sIf (eTest (eBin wGt (eBin wSub (eBin wAdd (eCallB gLen (eCons (eVar 0) eNil)) (eCallB gLen (eCons (eVar 1) eNil))) (eC (.int (1)))) (eBin wAdd (eC (.int (24))) (eC (.int (1)))))) (sRaise X_BadForm) sNext) (sThen (sSet 2 (eBin wMulL (eLst (eCons (eC (.tuple [(.int (0)), (.int (1))])) eNil)) (eBin wSub (eBin wAdd (eCallB gLen (eCons (eVar 0) eNil)) (eCallB gLen (eCons (eVar 1) eNil))) (eC (.int (1)))))) (sThen (sFor (sEnum (eVar 0)) (gTp (gsC (gN 3) (gsC (gN 4) gsN))) (sIf (eTest (eBin wNe (eVar 4) (eC (.tuple [(.int (0)), (.int (1))])))) (sFor (sEnum (eVar 1)) (gTp (gsC (gN 5) (gsC (gN 6) gsN))) (sPut 2 (eBin wAdd (eVar 3) (eVar 5)) (eCall ratios_add (eCons (eBin wIdx (eVar 2) (eBin wAdd (eVar 3) (eVar 5))) (eCons (eCall ratios_multiply (eCons (eVar 4) (eCons (eVar 6) eNil))) eNil))))) sNext)) (sRet (eCallB gTuple (eCons (eVar 2) eNil))))))
/-- slide(one, other, count): slots 0 one, 1 other, 2 count, 3 m, 4 n, 5 found, 6 k, 7 left, 8 right, 9 number, 10 below, 11 above -/
def slides_slide : Fs := runF 3 12 false
  (sThen (sDrop (eCall forms_check_form (eCons (eVar 0) eNil))) (sThen (sDrop (eCall forms_check_form (eCons (eVar 1) eNil))) (sThen (sPar2 3 4 (eCall forms_order (eCons (eVar 0) eNil)) (eCall forms_order (eCons (eVar 1) eNil))) (sThen (sIf (eOrT (eNotT (eTest (eCall ratios_is_integer (eCons (eVar 2) eNil)))) (eOrT (eTest (eBin wLt (eVar 2) (eC (.int (0))))) (eOrT (eTest (eBin wGt (eVar 2) (eVar 3))) (eTest (eBin wGt (eVar 2) (eVar 4)))))) (sRaise X_BadNumber) sNext) (sThen (sSet 5 (eCall forms_zero (eCons (eBin wSub (eBin wAdd (eVar 3) (eVar 4)) (eBin wMul (eC (.int (2))) (eVar 2))) eNil))) (sThen (sFor (sRng gRng1 (eCons (eBin wAdd (eVar 2) (eC (.int (1)))) eNil)) (gN 6) (sThen (sSet 7 (eCall forms_slopes (eCons (eVar 0) (eCons (eBin wSub (eVar 2) (eVar 6)) (eCons (eVar 6) eNil))))) (sThen (sSet 8 (eCall forms_slopes (eCons (eVar 1) (eCons (eVar 6) (eCons (eBin wSub (eVar 2) (eVar 6)) eNil))))) (sThen (sSet 9 (eIf (eTest (eBin wEq (eBin wMod (eVar 6) (eC (.int (2)))) (eC (.int (0))))) (eCall forms_choose (eCons (eVar 2) (eCons (eVar 6) eNil))) (eUn wNeg (eCall forms_choose (eCons (eVar 2) (eCons (eVar 6) eNil)))))) (sSet 5 (eCall forms_add (eCons (eVar 5) (eCons (eCall forms_scaled (eCons (eTup (eCons (eVar 9) (eCons (eC (.int (1))) eNil))) (eCons (eCall forms_multiply (eCons (eVar 7) (eCons (eVar 8) eNil))) eNil))) eNil)))))))) (sThen (sSet 10 (eBin wMul (eCall forms_factorial (eCons (eVar 3) eNil)) (eCall forms_factorial (eCons (eVar 4) eNil)))) (sThen (sSet 11 (eBin wMul (eCall forms_factorial (eCons (eBin wSub (eVar 3) (eVar 2)) eNil)) (eCall forms_factorial (eCons (eBin wSub (eVar 4) (eVar 2)) eNil)))) (sRet (eCall forms_scaled (eCons (eCall ratios_divide (eCons (eTup (eCons (eVar 11) (eCons (eC (.int (1))) eNil))) (eCons (eTup (eCons (eVar 10) (eCons (eC (.int (1))) eNil))) eNil))) (eCons (eVar 5) eNil))))))))))))
/-- all_slides(one, other): slots 0 one, 1 other, 2 count -/
def slides_all_slides : Fs := runF 2 3 false
  (sRet (eCallB gTuple (eCons (eLc (sRng gRng1 (eCons (eBin wAdd (eCallB gMin2 (eCons (eCall forms_order (eCons (eVar 0) eNil)) (eCons (eCall forms_order (eCons (eVar 1) eNil)) eNil))) (eC (.int (1)))) eNil)) [2] (gN 2) etYes (eCall slides_slide (eCons (eVar 0) (eCons (eVar 1) (eCons (eVar 2) eNil))))) eNil)))
/-- _law_make(above, under): slots 0 above, 1 under, 2 one, 3 other -/
def law_make : Fs := runF 2 4 false
  (sThen (sPar2 2 3 (eCallB gAbs (eCons (eVar 0) eNil)) (eCallB gAbs (eCons (eVar 1) eNil))) (sThen (sWhile 1000000 (eTest (eBin wGt (eVar 3) (eC (.int (0))))) (sPar2 2 3 (eVar 3) (eBin wMod (eVar 2) (eVar 3)))) (sRet (eIf (eTest (eBin wGt (eVar 1) (eC (.int (0))))) (eTup (eCons (eBin wFdiv (eVar 0) (eVar 2)) (eCons (eBin wFdiv (eVar 1) (eVar 2)) eNil))) (eTup (eCons (eBin wFdiv (eUn wNeg (eVar 0)) (eVar 2)) (eCons (eBin wFdiv (eUn wNeg (eVar 1)) (eVar 2)) eNil)))))))
/-- _law_add(one, other): slots 0 one, 1 other -/
def law_add : Fs := runF 2 2 false
  (sRet (eCall law_make (eCons (eBin wAdd (eBin wMul (eBin wIdx (eVar 0) (eC (.int (0)))) (eBin wIdx (eVar 1) (eC (.int (1))))) (eBin wMul (eBin wIdx (eVar 1) (eC (.int (0)))) (eBin wIdx (eVar 0) (eC (.int (1)))))) (eCons (eBin wMul (eBin wIdx (eVar 0) (eC (.int (1)))) (eBin wIdx (eVar 1) (eC (.int (1))))) eNil))))
/-- _law_plus(one, other): slots 0 one, 1 other, 2 a, 3 b -/
def law_plus : Fs := runF 2 4 false
  (sRet (eCallB gTuple (eCons (eLc (sZip (eVar 0) (eVar 1)) [2, 3] (gTp (gsC (gN 2) (gsC (gN 3) gsN))) etYes (eCall law_add (eCons (eVar 2) (eCons (eVar 3) eNil)))) eNil)))
/-- _law_mul(one, other): slots 0 one, 1 other -/
def law_mul : Fs := runF 2 2 false
  (sRet (eCall law_make (eCons (eBin wMul (eBin wIdx (eVar 0) (eC (.int (0)))) (eBin wIdx (eVar 1) (eC (.int (0))))) (eCons (eBin wMul (eBin wIdx (eVar 0) (eC (.int (1)))) (eBin wIdx (eVar 1) (eC (.int (1))))) eNil))))
/-- _law_scaled(number, one): slots 0 number, 1 one, 2 item -/
def law_scaled : Fs := runF 2 3 false
  (sRet (eCallB gTuple (eCons (eLc (sSeq (eVar 1)) [2] (gN 2) etYes (eCall law_mul (eCons (eVar 0) (eCons (eVar 2) eNil)))) eNil)))
/-- _law_choose(many, few): slots 0 many, 1 few, 2 found, 3 k -/
def law_choose : Fs := runF 2 4 false
  (sThen (sSet 2 (eC (.int (1)))) (sThen (sFor (sRng gRng1 (eCons (eVar 1) eNil)) (gN 3) (sSet 2 (eBin wFdiv (eBin wMul (eVar 2) (eBin wSub (eVar 0) (eVar 3))) (eBin wAdd (eVar 3) (eC (.int (1))))))) (sRet (eVar 2))))
/-- _law_slope(form, by_x): slots 0 form, 1 by_x, 2 size, 3 k -/
def law_slope : Fs := runF 2 4 false
  (sThen (sSet 2 (eBin wSub (eCallB gLen (eCons (eVar 0) eNil)) (eC (.int (1))))) (sThen (sIf (eTest (eBin wEq (eVar 2) (eC (.int (0))))) (sRet (eTup (eCons (eTup (eCons (eC (.int (0))) (eCons (eC (.int (1))) eNil))) eNil))) sNext) (sThen (sIf (eTest (eVar 1)) (sRet (eCallB gTuple (eCons (eLc (sRng gRng1 (eCons (eVar 2) eNil)) [3] (gN 3) etYes (eCall law_mul (eCons (eTup (eCons (eBin wSub (eVar 2) (eVar 3)) (eCons (eC (.int (1))) eNil))) (eCons (eBin wIdx (eVar 0) (eVar 3)) eNil)))) eNil))) sNext) (sRet (eCallB gTuple (eCons (eLc (sRng gRng1 (eCons (eVar 2) eNil)) [3] (gN 3) etYes (eCall law_mul (eCons (eTup (eCons (eBin wAdd (eVar 3) (eC (.int (1)))) (eCons (eC (.int (1))) eNil))) (eCons (eBin wIdx (eVar 0) (eBin wAdd (eVar 3) (eC (.int (1))))) eNil)))) eNil))))))
/-- _law_times(one, other): slots 0 one, 1 other, 2 found, 3 k, 4 j -/
def law_times : Fs := runF 2 5 false
  (sThen (sSet 2 (eBin wMulL (eLst (eCons (eTup (eCons (eC (.int (0))) (eCons (eC (.int (1))) eNil))) eNil)) (eBin wSub (eBin wAdd (eCallB gLen (eCons (eVar 0) eNil)) (eCallB gLen (eCons (eVar 1) eNil))) (eC (.int (1)))))) (sThen (sFor (sRng gRng1 (eCons (eCallB gLen (eCons (eVar 0) eNil)) eNil)) (gN 3) (sFor (sRng gRng1 (eCons (eCallB gLen (eCons (eVar 1) eNil)) eNil)) (gN 4) (sPut 2 (eBin wAdd (eVar 3) (eVar 4)) (eCall law_add (eCons (eBin wIdx (eVar 2) (eBin wAdd (eVar 3) (eVar 4))) (eCons (eCall law_mul (eCons (eBin wIdx (eVar 0) (eVar 3)) (eCons (eBin wIdx (eVar 1) (eVar 4)) eNil))) eNil)))))) (sRet (eCallB gTuple (eCons (eVar 2) eNil)))))
/-- _law_slide(one, other, count): slots 0 one, 1 other, 2 count, 3 m, 4 n, 5 found, 6 j, 7 left, 8 right, 9 turn_of, 10 number, 11 below, 12 k -/
def law_slide : Fs := runF 3 13 false
  (sThen (sPar2 3 4 (eBin wSub (eCallB gLen (eCons (eVar 0) eNil)) (eC (.int (1)))) (eBin wSub (eCallB gLen (eCons (eVar 1) eNil)) (eC (.int (1))))) (sThen (sSet 5 (eBin wMul (eTup (eCons (eTup (eCons (eC (.int (0))) (eCons (eC (.int (1))) eNil))) eNil)) (eBin wAdd (eBin wSub (eBin wAdd (eVar 3) (eVar 4)) (eBin wMul (eC (.int (2))) (eVar 2))) (eC (.int (1)))))) (sThen (sFor (sRng gRng1 (eCons (eBin wAdd (eVar 2) (eC (.int (1)))) eNil)) (gN 6) (sThen (sPar2 7 8 (eVar 0) (eVar 1)) (sThen (sFor (sRng gRng1 (eCons (eVar 2) eNil)) (gN 9) (sPar2 7 8 (eCall law_slope (eCons (eVar 7) (eCons (eBin wLt (eVar 9) (eBin wSub (eVar 2) (eVar 6))) eNil))) (eCall law_slope (eCons (eVar 8) (eCons (eBin wLt (eVar 9) (eVar 6)) eNil))))) (sThen (sSet 10 (eIf (eTest (eBin wEq (eBin wMod (eVar 6) (eC (.int (2)))) (eC (.int (0))))) (eCall law_choose (eCons (eVar 2) (eCons (eVar 6) eNil))) (eUn wNeg (eCall law_choose (eCons (eVar 2) (eCons (eVar 6) eNil)))))) (sSet 5 (eCall law_plus (eCons (eVar 5) (eCons (eCall law_scaled (eCons (eTup (eCons (eVar 10) (eCons (eC (.int (1))) eNil))) (eCons (eCall law_times (eCons (eVar 7) (eCons (eVar 8) eNil))) eNil))) eNil)))))))) (sThen (sSet 11 (eC (.int (1)))) (sThen (sFor (sRng gRng1 (eCons (eVar 2) eNil)) (gN 12) (sSet 11 (eBin wMul (eBin wMul (eVar 11) (eBin wSub (eVar 3) (eVar 12))) (eBin wSub (eVar 4) (eVar 12))))) (sRet (eCall law_scaled (eCons (eTup (eCons (eC (.int (1))) (eCons (eVar 11) eNil))) (eCons (eVar 5) eNil)))))))))
/-- _law_slides(table): slots 0 table, 1 m, 2 n, 3 found, 4 count, 5 total, 6 k, 7 unit, 8 j -/
def law_slides : Fs := runF 1 9 false
  (sThen (sPar3 1 2 3 (eBin wSub (eCallB gLen (eCons (eVar 0) eNil)) (eC (.int (1)))) (eBin wSub (eCallB gLen (eCons (eBin wIdx (eVar 0) (eC (.int (0)))) eNil)) (eC (.int (1)))) (eLst eNil)) (sThen (sFor (sRng gRng1 (eCons (eBin wAdd (eCallB gMin2 (eCons (eVar 1) (eCons (eVar 2) eNil))) (eC (.int (1)))) eNil)) (gN 4) (sThen (sSet 5 (eBin wMul (eTup (eCons (eTup (eCons (eC (.int (0))) (eCons (eC (.int (1))) eNil))) eNil)) (eBin wAdd (eBin wSub (eBin wAdd (eVar 1) (eVar 2)) (eBin wMul (eC (.int (2))) (eVar 4))) (eC (.int (1)))))) (sThen (sFor (sRng gRng1 (eCons (eBin wAdd (eVar 1) (eC (.int (1)))) eNil)) (gN 6) (sThen (sSet 7 (eCallB gTuple (eCons (eLc (sRng gRng1 (eCons (eBin wAdd (eVar 1) (eC (.int (1)))) eNil)) [8] (gN 8) etYes (eTup (eCons (eIf (eTest (eBin wEq (eVar 8) (eVar 6))) (eC (.int (1))) (eC (.int (0)))) (eCons (eC (.int (1))) eNil)))) eNil))) (sSet 5 (eCall law_plus (eCons (eVar 5) (eCons (eCall law_slide (eCons (eVar 7) (eCons (eBin wIdx (eVar 0) (eVar 6)) (eCons (eVar 4) eNil)))) eNil)))))) (sApp 3 (eVar 5))))) (sRet (eCallB gTuple (eCons (eVar 3) eNil)))))
/-- _law_rich(cell, k): slots 0 cell, 1 k, 2 mixed -/
def law_rich : Fs := runF 2 3 false
  (sThen (sSet 2 (eBin wMod (eCallB gInt (eCons (eBin wAdd (eBin wAdd (eBin wMul (eVar 0) (eC (.int (48271)))) (eBin wMul (eVar 1) (eC (.int (69621))))) (eC (.int (17)))) eNil)) (eC (.int (2147483647))))) (sRet (eBin wAdd (eBin wMul (eVar 2) (eC (.int (2147483629)))) (eBin wMod (eCallB gInt (eCons (eBin wAdd (eBin wMul (eVar 2) (eC (.int (16807)))) (eVar 0)) eNil)) (eC (.int (2147483629)))))))
/-- _law_form(rich, size): slots 0 rich, 1 size, 2 k -/
def law_form : Fs := runF 2 3 false
  (sRet (eCallB gTuple (eCons (eLc (sRng gRng1 (eCons (eBin wAdd (eVar 1) (eC (.int (1)))) eNil)) [2] (gN 2) etYes (eCall law_make (eCons (eBin wSub (eBin wMod (eBin wFdiv (eVar 0) (eBin wAdd (eC (.int (3))) (eBin wMul (eC (.int (7))) (eVar 2)))) (eC (.int (7)))) (eC (.int (3)))) (eCons (eBin wAdd (eC (.int (1))) (eBin wMod (eBin wFdiv (eVar 0) (eBin wAdd (eC (.int (5))) (eBin wMul (eC (.int (3))) (eVar 2)))) (eC (.int (2))))) eNil)))) eNil)))
/-- _law_same(told, due): slots 0 told, 1 due, 2 one, 3 other -/
def b_law_same (self : Fs) : Fs := runF 2 4 false (sThen (sIf (eTest (eIsI "tuple" (eVar 1))) (sRet (eAnd (eIsI "tuple" (eVar 0)) (eAnd (eBin wEq (eCallB gLen (eCons (eVar 0) eNil)) (eCallB gLen (eCons (eVar 1) eNil))) (eCallB gAll (eCons (eLc (sZip (eVar 0) (eVar 1)) [2, 3] (gTp (gsC (gN 2) (gsC (gN 3) gsN))) etYes (eCall self (eCons (eVar 2) (eCons (eVar 3) eNil)))) eNil))))) sNext) (sThen (sIf (eOrT (eTest (eIsI "bool" (eVar 1))) (eTest (eIsI "bool" (eVar 0)))) (sRet (eAnd (eIsI "bool" (eVar 0)) (eAnd (eIsI "bool" (eVar 1)) (eBin wEq (eVar 0) (eVar 1))))) sNext) (sThen (sIf (eTest (eIsI "int" (eVar 1))) (sRet (eAnd (eIsI "int" (eVar 0)) (eBin wEq (eVar 0) (eVar 1)))) sNext) (sRet (eBin wEq (eVar 0) (eVar 1))))))
def law_same (n : Nat) : Fs := Nat.rec (motive := fun _ => Fs) (fun _ => .bad) (fun _ ih => b_law_same ih) n
/-- weighed(form): slots 0 form, 1 size, 2 k, 3 item -/
def forms_weighed : Fs := runF 1 4 false
  (sThen (sSet 1 (eBin wSub (eCallB gLen (eCons (eVar 0) eNil)) (eC (.int (1))))) (sRet (eCallB gTuple (eCons (eLc (sEnum (eVar 0)) [2, 3] (gTp (gsC (gN 2) (gsC (gN 3) gsN))) etYes (eCall ratios_divide (eCons (eVar 3) (eCons (eTup (eCons (eCall forms_choose (eCons (eVar 1) (eCons (eVar 2) eNil))) (eCons (eC (.int (1))) eNil))) eNil)))) eNil))))
/-- polarized(form, second): slots 0 form, 1 second, 2 size, 3 first, 4 known, 5 rows, 6 k, 7 row, 8 j -/
def slides_polarized : Fs := runF 2 9 false
  (sThen (sSet 2 (eCall forms_order (eCons (eVar 0) eNil))) (sThen (sIf (eOrT (eNotT (eTest (eCall ratios_is_integer (eCons (eVar 1) eNil)))) (eOrT (eTest (eBin wLt (eVar 1) (eC (.int (0))))) (eTest (eBin wGt (eVar 1) (eVar 2))))) (sRaise X_BadNumber) sNext) (sThen (sSet 3 (eBin wSub (eVar 2) (eVar 1))) (sThen (sSet 4 (eCall forms_weighed (eCons (eVar 0) eNil))) (sThen (sSet 5 (eLst eNil)) (sThen (sFor (sRng gRng1 (eCons (eBin wAdd (eVar 3) (eC (.int (1)))) eNil)) (gN 6) (sThen (sSet 7 (eLst eNil)) (sThen (sFor (sRng gRng1 (eCons (eBin wAdd (eVar 1) (eC (.int (1)))) eNil)) (gN 8) (sApp 7 (eCall ratios_multiply (eCons (eBin wIdx (eVar 4) (eBin wAdd (eVar 6) (eVar 8))) (eCons (eTup (eCons (eBin wMul (eCall forms_choose (eCons (eVar 3) (eCons (eVar 6) eNil))) (eCall forms_choose (eCons (eVar 1) (eCons (eVar 8) eNil)))) (eCons (eC (.int (1))) eNil))) eNil))))) (sApp 5 (eCallB gTuple (eCons (eVar 7) eNil)))))) (sRet (eCallB gTuple (eCons (eVar 5) eNil)))))))))
/-- _law_cell(script, k): slots 0 script, 1 k -/
def law_cell : Fs := runF 2 2 false
  (sThen (sIf (eTest (eBin wLt (eVar 1) (eCallB gLen (eCons (eVar 0) eNil)))) (sRet (eBin wMod (eCallB gAbs (eCons (eCallB gInt (eCons (eBin wIdx (eVar 0) (eVar 1)) eNil)) eNil)) (eC (.int (1000000007))))) sNext) (sRet (eC (.int (0)))))
/-- times_bracket(table, count): slots 0 table, 1 count, 2 _, 3 height, 4 width, 5 rows, 6 k, 7 row, 8 j, 9 item -/
def slides_times_bracket : Fs := runF 2 10 false
  (sThen (sFor (sRng gRng1 (eCons (eVar 1) eNil)) (gN 2) (sThen (sAsg (gTp (gsC (gN 3) (gsC (gN 4) gsN))) (eTup (eCons (eCallB gLen (eCons (eVar 0) eNil)) (eCons (eCallB gLen (eCons (eBin wIdx (eVar 0) (eC (.int (0)))) eNil)) eNil)))) (sNest 5 (eRows (eLc (sRng gRng1 (eCons (eBin wAdd (eVar 3) (eC (.int (1)))) eNil)) [2] (gN 2) etYes (eBin wMulL (eLst (eCons (eC (.tuple [(.int (0)), (.int (1))])) eNil)) (eBin wAdd (eVar 4) (eC (.int (1))))))) (sFor (sEnum (eVar 0)) (gTp (gsC (gN 6) (gsC (gN 7) gsN))) (sFor (sEnum (eVar 7)) (gTp (gsC (gN 8) (gsC (gN 9) gsN))) (sThen (sNPut (eVar 6) (eBin wAdd (eVar 8) (eC (.int (1)))) (eCall ratios_add (eCons (eNst (eVar 6) (eBin wAdd (eVar 8) (eC (.int (1))))) (eCons (eVar 9) eNil)))) (sNPut (eBin wAdd (eVar 6) (eC (.int (1)))) (eVar 8) (eCall ratios_add (eCons (eNst (eBin wAdd (eVar 6) (eC (.int (1)))) (eVar 8)) (eCons (eTup (eCons (eUn wNeg (eBin wIdx (eVar 9) (eC (.int (0))))) (eCons (eBin wIdx (eVar 9) (eC (.int (1)))) eNil))) eNil))))))) (sSet 0 (eCallB gTuple (eCons (eLc (sSeq (eVar 5)) [7] (gN 7) etYes (eCallB gTuple (eCons (eVar 7) eNil))) eNil)))))) (sRet (eVar 0)))
/-- add_doubles(one, other): slots 0 one, 1 other, 2 row, 3 mate, 4 a, 5 b -/
def slides_add_doubles : Fs := runF 2 6 false
  (sRet (eCallB gTuple (eCons (eLc (sZip (eVar 0) (eVar 1)) [2, 3] (gTp (gsC (gN 2) (gsC (gN 3) gsN))) etYes (eCallB gTuple (eCons (eLc (sZip (eVar 2) (eVar 3)) [4, 5] (gTp (gsC (gN 4) (gsC (gN 5) gsN))) etYes (eCall ratios_add (eCons (eVar 4) (eCons (eVar 5) eNil)))) eNil))) eNil)))
/-- from_slides(parts, m, n): slots 0 parts, 1 m, 2 n, 3 found, 4 k, 5 part, 6 number, 7 made, 8 _, 9 row, 10 item -/
def slides_from_slides : Fs := runF 3 11 false
  (sThen (sIf (eOrT (eTest (eBin wNe (eCallB gLen (eCons (eVar 0) eNil)) (eBin wAdd (eCallB gMin2 (eCons (eVar 1) (eCons (eVar 2) eNil))) (eC (.int (1)))))) (eTest (eCallB gAny (eCons (eLc (sEnum (eVar 0)) [4, 5] (gTp (gsC (gN 4) (gsC (gN 5) gsN))) etYes (eBin wNe (eCall forms_order (eCons (eVar 5) eNil)) (eBin wSub (eBin wAdd (eVar 1) (eVar 2)) (eBin wMul (eC (.int (2))) (eVar 4))))) eNil)))) (sRaise X_BadForm) sNext) (sThen (sSet 3 (eCallB gTuple (eCons (eLc (sRng gRng1 (eCons (eBin wAdd (eVar 1) (eC (.int (1)))) eNil)) [8] (gN 8) etYes (eBin wMul (eTup (eCons (eC (.tuple [(.int (0)), (.int (1))])) eNil)) (eBin wAdd (eVar 2) (eC (.int (1)))))) eNil))) (sThen (sFor (sEnum (eVar 0)) (gTp (gsC (gN 4) (gsC (gN 5) gsN))) (sThen (sSet 6 (eCall ratios_divide (eCons (eTup (eCons (eBin wMul (eCall forms_choose (eCons (eVar 1) (eCons (eVar 4) eNil))) (eCall forms_choose (eCons (eVar 2) (eCons (eVar 4) eNil)))) (eCons (eC (.int (1))) eNil))) (eCons (eTup (eCons (eCall forms_choose (eCons (eBin wAdd (eBin wSub (eBin wAdd (eVar 1) (eVar 2)) (eVar 4)) (eC (.int (1)))) (eCons (eVar 4) eNil))) (eCons (eC (.int (1))) eNil))) eNil)))) (sThen (sSet 7 (eCall slides_times_bracket (eCons (eCall slides_polarized (eCons (eVar 5) (eCons (eBin wSub (eVar 2) (eVar 4)) eNil))) (eCons (eVar 4) eNil)))) (sSet 3 (eCall slides_add_doubles (eCons (eVar 3) (eCons (eCallB gTuple (eCons (eLc (sSeq (eVar 7)) [9] (gN 9) etYes (eCallB gTuple (eCons (eLc (sSeq (eVar 9)) [10] (gN 10) etYes (eCall ratios_multiply (eCons (eVar 6) (eCons (eVar 10) eNil)))) eNil))) eNil)) eNil))))))) (sRet (eVar 3)))))
/-- _law_div(one, other): slots 0 one, 1 other -/
def law_div : Fs := runF 2 2 false
  (sRet (eCall law_make (eCons (eBin wMul (eBin wIdx (eVar 0) (eC (.int (0)))) (eBin wIdx (eVar 1) (eC (.int (1))))) (eCons (eBin wMul (eBin wIdx (eVar 0) (eC (.int (1)))) (eBin wIdx (eVar 1) (eC (.int (0))))) eNil))))
/-- double_of(one, other): slots 0 one, 1 other, 2 left, 3 right -/
def slides_double_of : Fs := runF 2 4 false
  (sRet (eCallB gTuple (eCons (eLc (sSeq (eVar 0)) [2] (gN 2) etYes (eCallB gTuple (eCons (eLc (sSeq (eVar 1)) [3] (gN 3) etYes (eCall ratios_multiply (eCons (eVar 2) (eCons (eVar 3) eNil)))) eNil))) eNil)))
/-- slides_of_double(table): slots 0 table, 1 m, 2 n, 3 found, 4 count, 5 total, 6 k, 7 row, 8 unit, 9 item, 10 j -/
def slides_slides_of_double : Fs := runF 1 11 false
  (sThen (sPar2 1 2 (eBin wSub (eCallB gLen (eCons (eVar 0) eNil)) (eC (.int (1)))) (eBin wSub (eCallB gLen (eCons (eBin wIdx (eVar 0) (eC (.int (0)))) eNil)) (eC (.int (1))))) (sThen (sSet 3 (eLst eNil)) (sThen (sFor (sRng gRng1 (eCons (eBin wAdd (eCallB gMin2 (eCons (eVar 1) (eCons (eVar 2) eNil))) (eC (.int (1)))) eNil)) (gN 4) (sThen (sSet 5 (eCall forms_zero (eCons (eBin wSub (eBin wAdd (eVar 1) (eVar 2)) (eBin wMul (eC (.int (2))) (eVar 4))) eNil))) (sThen (sFor (sEnum (eVar 0)) (gTp (gsC (gN 6) (gsC (gN 7) gsN))) (sIf (eTest (eCallB gAny (eCons (eLc (sSeq (eVar 7)) [9] (gN 9) etYes (eBin wNe (eVar 9) (eC (.tuple [(.int (0)), (.int (1))])))) eNil))) (sThen (sSet 8 (eCallB gTuple (eCons (eLc (sRng gRng1 (eCons (eBin wAdd (eVar 1) (eC (.int (1)))) eNil)) [10] (gN 10) etYes (eIf (eTest (eBin wEq (eVar 10) (eVar 6))) (eC (.tuple [(.int (1)), (.int (1))])) (eC (.tuple [(.int (0)), (.int (1))])))) eNil))) (sSet 5 (eCall forms_add (eCons (eVar 5) (eCons (eCall slides_slide (eCons (eVar 8) (eCons (eVar 7) (eCons (eVar 4) eNil)))) eNil))))) sNext)) (sApp 3 (eVar 5))))) (sRet (eCallB gTuple (eCons (eVar 3) eNil))))))
/-- law(script): slots 0 script, 1 rich, 2 other, 3 m, 4 n, 5 one, 6 two, 7 table, 8 slides, 9 drawn, 10 due, 11 free, 12 form, 13 second, 14 told, 15 size, 16 rows, 17 k, 18 known, 19 folded, 20 j, 21 count, 22 made, 23 turn_of, 24 more, 25 a, 26 b, 27 row, 28 item -/
def law : Fs := runF 1 29 false
  (sThen (sAsg (gTp (gsC (gN 1) (gsC (gN 2) gsN))) (eTup (eCons (eCall law_rich (eCons (eScr law_cell 0 (eCons (eC (.int (0))) eNil)) (eCons (eC (.int (0))) eNil))) (eCons (eCall law_rich (eCons (eScr law_cell 0 (eCons (eC (.int (1))) eNil)) (eCons (eC (.int (1))) eNil))) eNil)))) (sThen (sAsg (gTp (gsC (gN 3) (gsC (gN 4) gsN))) (eTup (eCons (eBin wMod (eVar 1) (eC (.int (5)))) (eCons (eBin wMod (eVar 2) (eC (.int (5)))) eNil)))) (sThen (sAsg (gTp (gsC (gN 5) (gsC (gN 6) gsN))) (eTup (eCons (eCall law_form (eCons (eBin wFdiv (eVar 1) (eC (.int (5)))) (eCons (eVar 3) eNil))) (eCons (eCall law_form (eCons (eBin wFdiv (eVar 2) (eC (.int (5)))) (eCons (eVar 4) eNil))) eNil)))) (sThen (sSet 7 (eCallB gTuple (eCons (eLc (sSeq (eVar 5)) [25] (gN 25) etYes (eCallB gTuple (eCons (eLc (sSeq (eVar 6)) [26] (gN 26) etYes (eCall law_mul (eCons (eVar 25) (eCons (eVar 26) eNil)))) eNil))) eNil))) (sThen (sSet 8 (eCall slides_all_slides (eCons (eVar 5) (eCons (eVar 6) eNil)))) (sThen (sIf (eNotT (eTest (eCall (law_same 40) (eCons (eTup (eCons (eCall slides_double_of (eCons (eVar 5) (eCons (eVar 6) eNil))) (eCons (eCall slides_from_slides (eCons (eVar 8) (eCons (eVar 3) (eCons (eVar 4) eNil)))) eNil))) (eCons (eTup (eCons (eVar 7) (eCons (eVar 7) eNil))) eNil))))) (sRet (eC (.bool false))) sNext) (sThen (sSet 9 (eCallB gTuple (eCons (eLc (sRng gRng1 (eCons (eBin wAdd (eVar 3) (eC (.int (1)))) eNil)) [17] (gN 17) etYes (eCall law_form (eCons (eBin wAdd (eBin wFdiv (eVar 1) (eBin wAdd (eC (.int (3))) (eBin wMul (eC (.int (2))) (eVar 17)))) (eVar 2)) (eCons (eVar 4) eNil)))) eNil))) (sThen (sSet 10 (eCall law_slides (eCons (eVar 9) eNil))) (sThen (sIf (eNotT (eTest (eCall (law_same 40) (eCons (eTup (eCons (eCall slides_slides_of_double (eCons (eVar 9) eNil)) (eCons (eCall slides_from_slides (eCons (eVar 10) (eCons (eVar 3) (eCons (eVar 4) eNil)))) eNil))) (eCons (eTup (eCons (eVar 10) (eCons (eVar 9) eNil))) eNil))))) (sRet (eC (.bool false))) sNext) (sThen (sSet 11 (eCallB gTuple (eCons (eLc (sRng gRng1 (eCons (eBin wAdd (eCallB gMin2 (eCons (eVar 3) (eCons (eVar 4) eNil))) (eC (.int (1)))) eNil)) [17] (gN 17) etYes (eCall law_form (eCons (eBin wAdd (eBin wFdiv (eVar 2) (eBin wAdd (eC (.int (3))) (eBin wMul (eC (.int (2))) (eVar 17)))) (eBin wFdiv (eVar 1) (eC (.int (7))))) (eCons (eBin wSub (eBin wAdd (eVar 3) (eVar 4)) (eBin wMul (eC (.int (2))) (eVar 17))) eNil)))) eNil))) (sThen (sIf (eTest (eBin wNe (eCall law_slides (eCons (eCall slides_from_slides (eCons (eVar 11) (eCons (eVar 3) (eCons (eVar 4) eNil)))) eNil)) (eVar 11))) (sRet (eC (.bool false))) sNext) (sThen (sAsg (gTp (gsC (gN 12) (gsC (gN 13) gsN))) (eTup (eCons (eCall law_form (eCons (eBin wFdiv (eVar 1) (eC (.int (11)))) (eCons (eBin wAdd (eC (.int (1))) (eBin wMod (eVar 1) (eC (.int (5))))) eNil))) (eCons (eBin wMod (eBin wFdiv (eVar 2) (eC (.int (7)))) (eBin wAdd (eC (.int (2))) (eBin wMod (eVar 1) (eC (.int (5)))))) eNil)))) (sThen (sAsg (gTp (gsC (gN 14) (gsC (gN 15) gsN))) (eTup (eCons (eCall slides_polarized (eCons (eVar 12) (eCons (eVar 13) eNil))) (eCons (eBin wSub (eCallB gLen (eCons (eVar 12) eNil)) (eC (.int (1)))) eNil)))) (sThen (sSet 16 (eLst eNil)) (sThen (sFor (sRng gRng1 (eCons (eBin wAdd (eBin wSub (eVar 15) (eVar 13)) (eC (.int (1)))) eNil)) (gN 17) (sThen (sSet 18 (eLc (sRng gRng1 (eCons (eBin wAdd (eVar 13) (eC (.int (1)))) eNil)) [20] (gN 20) etYes (eCall law_div (eCons (eBin wIdx (eVar 12) (eBin wAdd (eVar 17) (eVar 20))) (eCons (eTup (eCons (eCall law_choose (eCons (eVar 15) (eCons (eBin wAdd (eVar 17) (eVar 20)) eNil))) (eCons (eC (.int (1))) eNil))) eNil))))) (sApp 16 (eCallB gTuple (eCons (eLc (sRng gRng1 (eCons (eBin wAdd (eVar 13) (eC (.int (1)))) eNil)) [20] (gN 20) etYes (eCall law_mul (eCons (eBin wIdx (eVar 18) (eVar 20)) (eCons (eTup (eCons (eBin wMul (eCall law_choose (eCons (eBin wSub (eVar 15) (eVar 13)) (eCons (eVar 17) eNil))) (eCall law_choose (eCons (eVar 13) (eCons (eVar 20) eNil)))) (eCons (eC (.int (1))) eNil))) eNil)))) eNil))))) (sThen (sIf (eNotT (eTest (eCall (law_same 40) (eCons (eVar 14) (eCons (eCallB gTuple (eCons (eVar 16) eNil)) eNil))))) (sRet (eC (.bool false))) sNext) (sThen (sSet 19 (eBin wMulL (eLst (eCons (eTup (eCons (eC (.int (0))) (eCons (eC (.int (1))) eNil))) eNil)) (eBin wAdd (eVar 15) (eC (.int (1)))))) (sThen (sFor (sRng gRng1 (eCons (eCallB gLen (eCons (eVar 14) eNil)) eNil)) (gN 17) (sFor (sRng gRng1 (eCons (eCallB gLen (eCons (eBin wIdx (eVar 14) (eVar 17)) eNil)) eNil)) (gN 20) (sPut 19 (eBin wAdd (eVar 17) (eVar 20)) (eCall law_add (eCons (eBin wIdx (eVar 19) (eBin wAdd (eVar 17) (eVar 20))) (eCons (eBin wIdx (eBin wIdx (eVar 14) (eVar 17)) (eVar 20)) eNil)))))) (sThen (sIf (eTest (eBin wNe (eCallB gTuple (eCons (eVar 19) eNil)) (eVar 12))) (sRet (eC (.bool false))) sNext) (sThen (sSet 21 (eBin wMod (eBin wFdiv (eVar 1) (eC (.int (13)))) (eC (.int (3))))) (sThen (sSet 22 (eVar 9)) (sThen (sFor (sRng gRng1 (eCons (eVar 21) eNil)) (gN 23) (sNest 24 (eRows (eLc (sRng gRng1 (eCons (eBin wAdd (eCallB gLen (eCons (eVar 22) eNil)) (eC (.int (1)))) eNil)) [17] (gN 17) etYes (eBin wMulL (eLst (eCons (eTup (eCons (eC (.int (0))) (eCons (eC (.int (1))) eNil))) eNil)) (eBin wAdd (eCallB gLen (eCons (eBin wIdx (eVar 22) (eC (.int (0)))) eNil)) (eC (.int (1))))))) (sFor (sRng gRng1 (eCons (eCallB gLen (eCons (eVar 22) eNil)) eNil)) (gN 17) (sFor (sRng gRng1 (eCons (eCallB gLen (eCons (eBin wIdx (eVar 22) (eC (.int (0)))) eNil)) eNil)) (gN 20) (sThen (sNPut (eVar 17) (eBin wAdd (eVar 20) (eC (.int (1)))) (eCall law_add (eCons (eNst (eVar 17) (eBin wAdd (eVar 20) (eC (.int (1))))) (eCons (eBin wIdx (eBin wIdx (eVar 22) (eVar 17)) (eVar 20)) eNil)))) (sNPut (eBin wAdd (eVar 17) (eC (.int (1)))) (eVar 20) (eCall law_add (eCons (eNst (eBin wAdd (eVar 17) (eC (.int (1)))) (eVar 20)) (eCons (eCall law_mul (eCons (eTup (eCons (eUn wNeg (eC (.int (1)))) (eCons (eC (.int (1))) eNil))) (eCons (eBin wIdx (eBin wIdx (eVar 22) (eVar 17)) (eVar 20)) eNil))) eNil))))))) (sSet 22 (eCallB gTuple (eCons (eLc (sSeq (eVar 24)) [27] (gN 27) etYes (eCallB gTuple (eCons (eVar 27) eNil))) eNil))))) (sThen (sIf (eNotT (eTest (eCall (law_same 40) (eCons (eCall slides_times_bracket (eCons (eVar 9) (eCons (eVar 21) eNil))) (eCons (eVar 22) eNil))))) (sRet (eC (.bool false))) sNext) (sThen (sIf (eAndT (eTest (eBin wGt (eVar 21) (eC (.int (0))))) (eTest (eCallB gAny (eCons (eLc (sSeq (eBin wIdx (eCall law_slides (eCons (eVar 22) eNil)) (eC (.int (0))))) [28] (gN 28) etYes (eBin wNe (eBin wIdx (eVar 28) (eC (.int (0)))) (eC (.int (0))))) eNil)))) (sRet (eC (.bool false))) sNext) (sThen (sIf (eTest (eBin wNe (eToldA 2 [(X_BadForm, (.str "form")), (X_BadNumber, (.str "number"))] (.str "") (eCall slides_from_slides (eCons (eBin wAdd (eVar 8) (eTup (eCons (eVar 5) eNil))) (eCons (eVar 3) (eCons (eVar 4) eNil))))) (eC (.str "form")))) (sRet (eC (.bool false))) sNext) (sRet (eBin wEq (eToldA 2 [(X_BadForm, (.str "form")), (X_BadNumber, (.str "number"))] (.str "") (eCall slides_polarized (eCons (eVar 12) (eCons (eCallB gLen (eCons (eVar 12) eNil)) eNil)))) (eC (.str "number")))))))))))))))))))))))))))))
end G

end

section
namespace G
open PySem Ev
/-! ### data -/
/-- a fraction -/
def enc (q : Rat) : W := .tuple [.int q.num, .int (q.den : Int)]
/-- a form -/
def encF (f : List Rat) : W := .tuple (f.map enc)
theorem enc_zero : (PyData.tuple [.int 0, .int 1] : W) = enc 0 := rfl
theorem enc_one : (PyData.tuple [.int 1, .int 1] : W) = enc 1 := rfl

/-! ### sizes -/
theorem bits_lt {i : Int} {k : Nat} (h : i.natAbs < 2 ^ k) : Builtin.Int.intBits i ≤ k := by
  unfold Builtin.Int.intBits
  split
  · omega
  · rename_i n
    have n0 : i.natAbs ≠ 0 := by
      simp at n; omega
    have := (Nat.log2_lt n0).mpr h
    omega
theorem mulOk_of {i j : Int} (hi : i.natAbs < 2 ^ 4000) (hj : j.natAbs < 2 ^ 4000) : mulOk i j = true := by
  have h1 := bits_lt hi
  have h2 := bits_lt hj
  unfold mulOk
  exact decide_eq_true (by omega)
theorem divOk_of {i j : Int} (h0 : j ≠ 0) (h : j.natAbs < 2 ^ 9000) : divOk i j = true := by
  unfold divOk
  have : Builtin.divisionGoesByPylong i j = false := PyProof.noPylong_of_log2 ((Nat.log2_lt (by omega)).mpr h)
  rw [this]
  simp [h0]

/-! ### lists of slots -/
theorem set_get {α : Type} {l : List α} {i : Nat} {x : α} (h : l[i]? = some x) : l.set i x = l := by
  apply List.ext_getElem?
  intro j
  by_cases e : i = j
  · subst e
    rw [List.getElem?_set]
    have : i < l.length := by
      by_cases q : i < l.length
      · exact q
      · rw [List.getElem?_eq_none (by omega)] at h; cases h
    rw [List.getElem?_eq_getElem this] at h
    simp [this, Option.some.inj h]
  · rw [List.getElem?_set_ne e]
theorem get_lt {α : Type} {l : List α} {i : Nat} {x : α} (h : l[i]? = some x) : i < l.length := by
  by_cases q : i < l.length
  · exact q
  · rw [List.getElem?_eq_none (by omega)] at h; cases h

theorem then_next {u v : Sv} {ρ ρ' : Sl} {t t' : Tp} (h : u ρ t = .next ρ' t') : sThen u v ρ t = v ρ' t' := by unfold sThen; rw [h]
theorem then_ret {u v : Sv} {ρ : Sl} {w : W} {t t' : Tp} (h : u ρ t = .ret w t') : sThen u v ρ t = .ret w t' := by unfold sThen; rw [h]
theorem then_exc {u v : Sv} {ρ : Sl} {e : Nat} {t t' : Tp} (h : u ρ t = .exc e t') : sThen u v ρ t = .exc e t' := by unfold sThen; rw [h]
theorem wh_more {tc : Et} {body : Sv} {n : Nat} {ρ ρ' : Sl} {t t' t'' : Tp} (h : tc ρ t = .ok true t') (hb : body ρ t' = .next ρ' t'') : whL tc body (n + 1) ρ t = whL tc body n ρ' t'' := by
  show toS (tc ρ t) _ = _
  rw [h]
  exact then_next hb
theorem wh_end {tc : Et} {body : Sv} {n : Nat} {ρ : Sl} {t t' : Tp} (h : tc ρ t = .ok false t') : whL tc body (n + 1) ρ t = .next ρ t' := by
  show toS (tc ρ t) _ = _
  rw [h]
  rfl
/-! ### the divisor's loop -/
abbrev gcdTest (j : Nat) : Et := eTest (eBin wGt (eVar j) (eC (.int 0)))
abbrev gcdStep (i j : Nat) : Sv := sPar2 i j (eVar j) (eBin wMod (eVar i) (eVar j))
theorem eVar_of {ρ : Sl} {i : Nat} {w : W} (t : Tp) (h : ρ[i]? = some (some w)) : eVar i ρ t = .ok w t := by
  unfold eVar; rw [h]
theorem gcd_loop {i j : Nat} (hij : i ≠ j) : ∀ (k n : Nat) (ρ : Sl) (a b : Nat) (t : Tp), ρ[i]? = some (some (.int (a : Int))) → ρ[j]? = some (some (.int (b : Int))) → b < 2 ^ k → 2 * k + 1 ≤ n →
    whL (gcdTest j) (gcdStep i j) n ρ t = .next ((ρ.set i (some (.int (Nat.gcd b a : Nat)))).set j (some (.int 0))) t := by
  have test : ∀ {ρ : Sl} {b : Nat} (t : Tp), ρ[j]? = some (some (.int (b : Int))) → gcdTest j ρ t = .ok (decide (0 < b)) t := fun {ρ b} t h => by
    unfold gcdTest eTest eBin
    simp [Rs.bind, eVar_of t h, eC, rOf, wGt, wCmp, wB]
  have step : ∀ {ρ : Sl} {a b : Nat} (t : Tp), ρ[i]? = some (some (.int (a : Int))) → ρ[j]? = some (some (.int (b : Int))) → b ≠ 0 → gcdStep i j ρ t = .next ((ρ.set i (some (.int (b : Int)))).set j (some (.int ((a % b : Nat) : Int)))) t := fun {ρ a b} t h1 h2 hb => by
    unfold gcdStep sPar2
    have : (b : Int) ≠ 0 := by omega
    simp [toS, Rs.bind, eVar_of t h1, eVar_of t h2, eBin, rOf, wMod, hb, Int.fmod_eq_emod_of_nonneg]
  intro k
  induction k with
  | zero =>
    intro n ρ a b t h1 h2 hb hn
    have b0 : b = 0 := by omega
    subst b0
    obtain ⟨m, rfl⟩ : ∃ m, n = m + 1 := ⟨n - 1, by omega⟩
    rw [wh_end (by rw [test t h2]; rfl), Nat.gcd_zero_left, set_get h1]
    exact congrArg (fun l => SR.next l t) (set_get h2).symm
  | succ k ih =>
    intro n ρ a b t h1 h2 hb hn
    obtain ⟨m, rfl⟩ : ∃ m, n = m + 2 := ⟨n - 2, by omega⟩
    have l1 := get_lt h1
    have l2 := get_lt h2
    by_cases b0 : b = 0
    · subst b0
      rw [wh_end (by rw [test t h2]; rfl), Nat.gcd_zero_left, set_get h1]
      exact congrArg (fun l => SR.next l t) (set_get h2).symm
    · have d0 : decide (0 < b) = true := decide_eq_true (by omega)
      rw [wh_more (by rw [test t h2, d0]) (step t h1 h2 b0)]
      have g1 : ((ρ.set i (some (.int (b : Int)))).set j (some (.int ((a % b : Nat) : Int))))[i]? = some (some (.int (b : Int))) := by
        rw [List.getElem?_set_ne (Ne.symm hij), List.getElem?_set_self l1]
      have g2 : ((ρ.set i (some (.int (b : Int)))).set j (some (.int ((a % b : Nat) : Int))))[j]? = some (some (.int ((a % b : Nat) : Int))) := by
        rw [List.getElem?_set_self (by rw [List.length_set]; exact l2)]
      by_cases r0 : a % b = 0
      · rw [wh_end (by rw [test t g2, r0]; rfl), r0]
        have : Nat.gcd b a = b := Nat.gcd_eq_left (Nat.dvd_of_mod_eq_zero r0)
        rw [this]
        rfl
      · have d1 : decide (0 < a % b) = true := decide_eq_true (by omega)
        rw [wh_more (by rw [test t g2, d1]) (step t g1 g2 r0)]
        have lt : b % (a % b) < 2 ^ k := by
          have h3 : a % b < b := Nat.mod_lt _ (by omega)
          have h4 : b % (a % b) < a % b := Nat.mod_lt _ (by omega)
          have h5 : b % (a % b) ≤ b - a % b := by
            rw [Nat.mod_eq_sub_mod (by omega)]
            exact Nat.mod_le _ _
          have h6 : 2 ^ (k + 1) = 2 * 2 ^ k := by rw [Nat.pow_succ]; omega
          omega
        rw [ih m _ (a % b) (b % (a % b)) t ?_ ?_ lt (by omega)]
        · have e : Nat.gcd (b % (a % b)) (a % b) = Nat.gcd b a := by
            rw [← Nat.gcd_rec, ← Nat.gcd_rec]
          rw [e]
          congr 1
          apply List.ext_getElem?
          intro q
          simp only [List.getElem?_set, List.length_set]
          by_cases q1 : j = q
          · subst q1; simp
          · by_cases q2 : i = q
            · subst q2; simp [q1]
            · simp [q1, q2]
        · rw [List.getElem?_set_ne (Ne.symm hij), List.getElem?_set_self (by simpa using l1)]
        · rw [List.getElem?_set_self (by simpa using l2)]
end G

end

section
namespace G
open PySem Ev
theorem runF_eq {n m : Nat} {fr : Bool} {body : Sv} {ws : List W} (h : ws.length = n) : runF n m fr body ws = endF fr (body (startW m ws) none) := if_pos h
theorem gAbs_int (i : Int) : gAbs [.int i] = some (.int (i.natAbs : Int)) := by
  show some (PyData.int _) = _
  congr 2
  split <;> omega
theorem divisor_spec (a b : Int) (h : b.natAbs < 2 ^ 8000) : ratios_divisor [.int a, .int b] = .ok (.int ((Nat.gcd b.natAbs a.natAbs : Nat) : Int)) := by
  unfold ratios_divisor
  rw [runF_eq (n := 2) rfl]
  have e1 : sPar2 0 1 (eCallB gAbs (eCons (eVar 0) eNil)) (eCallB gAbs (eCons (eVar 1) eNil)) (startW 2 [.int a, .int b]) none = .next [some (.int (a.natAbs : Int)), some (.int (b.natAbs : Int))] none := by
    simp [startW, sPar2, toS, eCallB, eCons, eNil, eVar, Rs.bind, rOf, gAbs_int]
  rw [then_next e1]
  have e2 := gcd_loop (i := 0) (j := 1) (by decide) 8000 1000000 [some (.int (a.natAbs : Int)), some (.int (b.natAbs : Int))] a.natAbs b.natAbs none rfl rfl h (by decide)
  rw [then_next (show sWhile 1000000 _ _ _ _ = _ from e2)]
  rfl
/-- what make tells -/
theorem make_core {n d : Int} (h0 : d ≠ 0) (h : d.natAbs < 2 ^ 8000) (s : Int) (hs : s = if d < 0 then -((Nat.gcd d.natAbs n.natAbs : Nat) : Int) else ((Nat.gcd d.natAbs n.natAbs : Nat) : Int)) :
    divOk n s = true ∧ divOk d s = true ∧ n.fdiv s = (Rat.divInt n d).num ∧ d.fdiv s = ((Rat.divInt n d).den : Int) := by
  have g0 : Nat.gcd d.natAbs n.natAbs ≠ 0 := by
    intro z
    have := Nat.eq_zero_of_gcd_eq_zero_left z
    omega
  have gd : Nat.gcd d.natAbs n.natAbs ∣ d.natAbs := Nat.gcd_dvd_left _ _
  have gn : Nat.gcd d.natAbs n.natAbs ∣ n.natAbs := Nat.gcd_dvd_right _ _
  have gle : Nat.gcd d.natAbs n.natAbs ≤ d.natAbs := Nat.le_of_dvd (by omega) gd
  have s0 : s ≠ 0 := by rw [hs]; split <;> omega
  have sb : s.natAbs < 2 ^ 9000 := by
    have e : s.natAbs = Nat.gcd d.natAbs n.natAbs := by rw [hs]; split <;> omega
    rw [e]
    refine Nat.lt_of_le_of_lt gle (Nat.lt_trans h ?_)
    exact Nat.pow_lt_pow_right (by decide) (by decide)
  have dn : s ∣ n := by
    have : ((Nat.gcd d.natAbs n.natAbs : Nat) : Int) ∣ n := Int.ofNat_dvd_left.mpr gn
    rw [hs]; split
    · exact (Int.neg_dvd).mpr this
    · exact this
  have dd : s ∣ d := by
    have : ((Nat.gcd d.natAbs n.natAbs : Nat) : Int) ∣ d := Int.ofNat_dvd_left.mpr gd
    rw [hs]; split
    · exact (Int.neg_dvd).mpr this
    · exact this
  refine ⟨divOk_of s0 sb, divOk_of s0 sb, ?_, ?_⟩
  · rw [Rat.num_divInt, Int.fdiv_eq_ediv_of_dvd dn]
    have e : ((Int.gcd d n : Nat) : Int) = ((Nat.gcd d.natAbs n.natAbs : Nat) : Int) := rfl
    rw [e, hs]
    split
    · rename_i c
      rw [Int.sign_eq_neg_one_of_neg c, Int.ediv_neg, Int.neg_one_mul, Int.neg_ediv_of_dvd (Int.ofNat_dvd_left.mpr gn)]
    · rename_i c
      rw [Int.sign_eq_one_of_pos (by omega), Int.one_mul]
  · rw [Rat.den_divInt, if_neg h0, Int.fdiv_eq_ediv_of_dvd dd]
    have e : Int.gcd d n = Nat.gcd d.natAbs n.natAbs := rfl
    rw [e, hs, Int.natCast_ediv]
    split
    · rename_i c
      have : ((d.natAbs : Nat) : Int) = -d := by omega
      rw [this, Int.ediv_neg, Int.neg_ediv_of_dvd (Int.ofNat_dvd_left.mpr gd)]
    · rename_i c
      have : ((d.natAbs : Nat) : Int) = d := by omega
      rw [this]
theorem shaped_int (i : Int) : SeqAt.shaped (.int i) = true := rfl
theorem shaped_bool (b : Bool) : SeqAt.shaped (.bool b) = true := rfl
theorem wEq_int (i j : Int) : wEq (.int i) (.int j) = some (.bool (i == j)) := rfl
theorem wNe_int (i j : Int) : wNe (.int i) (.int j) = some (.bool (!(i == j))) := rfl
theorem wEq_bool (i j : Bool) : wEq (.bool i) (.bool j) = some (.bool (i == j)) := rfl
theorem wNe_bool (i j : Bool) : wNe (.bool i) (.bool j) = some (.bool (!(i == j))) := rfl
theorem few_of {ws : List W} (h : ws.length ≤ 1000) : few1000 ws = true := decide_eq_true h
theorem wFdiv_of {i j : Int} (h : divOk i j = true) : wFdiv (.int i) (.int j) = some (.int (i.fdiv j)) := if_pos h
theorem wMul_of {i j : Int} (h : mulOk i j = true) : wMul (.int i) (.int j) = some (.int (i * j)) := if_pos h
theorem make_spec (n d : Int) (h : d.natAbs < 2 ^ 8000) : ratios_make [.int n, .int d] = if d = 0 then .exc X_BadNumber else .ok (enc (Rat.divInt n d)) := by
  unfold ratios_make
  rw [runF_eq (n := 2) rfl]
  by_cases d0 : d = 0
  · subst d0
    rfl
  · rw [if_neg d0]
    obtain ⟨o1, o2, e1, e2⟩ := make_core (n := n) d0 h _ rfl
    have b0 : (d == 0) = false := by simp [d0]
    rw [then_next (ρ' := [some (.int n), some (.int d), none]) (t' := none) (by simp [sIf, toS, eTest, eBin, eVar, startW, Rs.bind, eC, rOf, wEq_int, wB, b0, sNext]),
      then_next (ρ' := [some (.int n), some (.int d), some (.int ((Nat.gcd d.natAbs n.natAbs : Nat) : Int))]) (t' := none) (by simp [sSet, toS, eCall, eCons, eNil, eVar, Rs.bind, divisor_spec n d h, fR])]
    by_cases c : d < 0
    · rw [if_pos c] at o1 o2 e1 e2
      rw [then_next (ρ' := [some (.int n), some (.int d), some (.int (-((Nat.gcd d.natAbs n.natAbs : Nat) : Int)))]) (t' := none) (by simp [sIf, toS, eTest, eBin, eVar, Rs.bind, eC, rOf, wLt, wCmp, wB, c, sSet, eUn, wNeg])]
      simp [sRet, toS, eTup, eCons, eNil, eBin, eVar, Rs.bind, rOf, wFdiv_of o1, wFdiv_of o2, few1000, e1, e2, endF, enc]
    · rw [if_neg c] at o1 o2 e1 e2
      rw [then_next (ρ' := [some (.int n), some (.int d), some (.int ((Nat.gcd d.natAbs n.natAbs : Nat) : Int))]) (t' := none) (by simp [sIf, toS, eTest, eBin, eVar, Rs.bind, eC, rOf, wLt, wCmp, wB, c, sNext])]
      simp [sRet, toS, eTup, eCons, eNil, eBin, eVar, Rs.bind, rOf, wFdiv_of o1, wFdiv_of o2, few1000, e1, e2, endF, enc]
end G

end

section
namespace G
open PySem Ev
theorem nr {α : Type} {a b : α} (h : a = b) : a = b := h
/-! ### the parts, written out -/
@[simp] theorem s_eVar (i : Nat) (ρ : Sl) (t : Tp) : eVar i ρ t = (match ρ[i]? with | some (some w) => .ok w t | _ => .bad) := nr rfl
@[simp] theorem s_eC (w : W) (ρ : Sl) (t : Tp) : eC w ρ t = .ok w t := nr rfl
@[simp] theorem s_eBin (f : W → W → Option W) (a b : Ex) (ρ : Sl) (t : Tp) : eBin f a b ρ t = (a ρ t).bind fun x t => (b ρ t).bind fun y t => rOf (f x y) t := nr rfl
@[simp] theorem s_eUn (f : W → Option W) (a : Ex) (ρ : Sl) (t : Tp) : eUn f a ρ t = (a ρ t).bind fun x t => rOf (f x) t := nr rfl
@[simp] theorem s_eTest (a : Ex) (ρ : Sl) (t : Tp) : eTest a ρ t = (a ρ t).bind fun w t => rOf (wB w) t := nr rfl
@[simp] theorem s_eChain (f g : W → W → Option W) (a b c : Ex) (ρ : Sl) (t : Tp) : eChain f g a b c ρ t = (a ρ t).bind fun x t => (b ρ t).bind fun y t => (rOf (f x y) t).bind fun z t => match z with
  | .bool true => (c ρ t).bind fun u t => rOf (g y u) t
  | .bool false => .ok (.bool false) t
  | _ => .bad := nr rfl
@[simp] theorem s_eNotT (a : Et) (ρ : Sl) (t : Tp) : eNotT a ρ t = (a ρ t).bind fun b t => .ok (!b) t := nr rfl
@[simp] theorem s_eAndT (a b : Et) (ρ : Sl) (t : Tp) : eAndT a b ρ t = (a ρ t).bind fun k t => if k = true then b ρ t else .ok false t := nr rfl
@[simp] theorem s_eOrT (a b : Et) (ρ : Sl) (t : Tp) : eOrT a b ρ t = (a ρ t).bind fun k t => if k = true then .ok true t else b ρ t := nr rfl
@[simp] theorem s_eNot (a : Ex) (ρ : Sl) (t : Tp) : eNot a ρ t = (a ρ t).bind fun w t => match w with | .bool b => .ok (.bool (!b)) t | _ => .bad := nr rfl
@[simp] theorem s_eAnd (a b : Ex) (ρ : Sl) (t : Tp) : eAnd a b ρ t = (a ρ t).bind fun w t => match w with | .bool true => b ρ t | .bool false => .ok (.bool false) t | _ => .bad := nr rfl
@[simp] theorem s_eOr (a b : Ex) (ρ : Sl) (t : Tp) : eOr a b ρ t = (a ρ t).bind fun w t => match w with | .bool true => .ok (.bool true) t | .bool false => b ρ t | _ => .bad := nr rfl
@[simp] theorem s_eIf (c : Et) (a b : Ex) (ρ : Sl) (t : Tp) : eIf c a b ρ t = (c ρ t).bind fun k t => if k = true then a ρ t else b ρ t := nr rfl
@[simp] theorem s_eIsN (n : Bool) (a : Ex) (ρ : Sl) (t : Tp) : eIsN n a ρ t = (a ρ t).bind fun w t => .ok (.bool (if n then !wIsN w else wIsN w)) t := nr rfl
@[simp] theorem s_eNil (ρ : Sl) (t : Tp) : eNil ρ t = .ok [] t := nr rfl
@[simp] theorem s_eCons (a : Ex) (b : Exs) (ρ : Sl) (t : Tp) : eCons a b ρ t = (a ρ t).bind fun w t => (b ρ t).bind fun ws t => .ok (w :: ws) t := nr rfl
@[simp] theorem s_eTup (a : Exs) (ρ : Sl) (t : Tp) : eTup a ρ t = (a ρ t).bind fun ws t => if few1000 ws = true then .ok (.tuple ws) t else .bad := nr rfl
@[simp] theorem s_eLst (a : Exs) (ρ : Sl) (t : Tp) : eLst a ρ t = (a ρ t).bind fun ws t => if few1000 ws = true then .ok (.list ws) t else .bad := nr rfl
@[simp] theorem s_eCallB (g : List W → Option W) (a : Exs) (ρ : Sl) (t : Tp) : eCallB g a ρ t = (a ρ t).bind fun ws t => rOf (g ws) t := nr rfl
@[simp] theorem s_eCall (f : Fs) (a : Exs) (ρ : Sl) (t : Tp) : eCall f a ρ t = (a ρ t).bind fun ws t => fR t (f ws) := nr rfl
@[simp] theorem s_eCallB' (f : Fs) (a : Exs) (ρ : Sl) (t : Tp) : eCallB' f a ρ t = (a ρ t).bind fun ws t => pOk t (f ws) := nr rfl
@[simp] theorem s_eScr (f : Fs) (i : Nat) (a : Exs) (ρ : Sl) (t : Tp) : eScr f i a ρ t = (match ρ[i]? with | some (some w) => (a ρ t).bind fun ws t => fR t (f (w :: ws)) | _ => .bad) := nr rfl
@[simp] theorem s_eIsI (T : String) (a : Ex) (ρ : Sl) (t : Tp) : eIsI T a ρ t = (a ρ t).bind fun w t => if noDict w = true then .ok (.bool (isIn (tyN w) T)) t else .bad := nr rfl
@[simp] theorem s_eSlice (a : Ex) (lo hi : Eo) (ρ : Sl) (t : Tp) : eSlice a lo hi ρ t = (a ρ t).bind fun w t => (lo ρ t).bind fun l t => (hi ρ t).bind fun h t => rOf (wSlice l h w) t := nr rfl
@[simp] theorem s_oNone (ρ : Sl) (t : Tp) : oNone ρ t = .ok none t := nr rfl
@[simp] theorem s_oSome (a : Ex) (ρ : Sl) (t : Tp) : oSome a ρ t = (a ρ t).bind fun w t => rOf (wI w) t := nr rfl
@[simp] theorem s_eLc (src : Exs) (vs : List Nat) (g : Gw) (tt : Et) (te : Ex) (ρ : Sl) (t : Tp) : eLc src vs g tt te ρ t = (src ρ t).bind fun items t => if few1M items = true then (noexc (lcL g tt te items (wipeW ρ vs) t)).bind fun ws t => .ok (.list ws) t else .bad := nr rfl
@[simp] theorem s_bind_ok {α β : Type} (a : α) (t : Tp) (f : α → Tp → Rs β) : (Rs.ok a t).bind f = f a t := nr rfl
@[simp] theorem s_bind_exc {α β : Type} (e : Nat) (t : Tp) (f : α → Tp → Rs β) : (Rs.exc e t).bind f = .exc e t := nr rfl
@[simp] theorem s_bind_bad {α β : Type} (f : α → Tp → Rs β) : (Rs.bad).bind f = .bad := nr rfl
@[simp] theorem s_noexc {α : Type} (a : α) (t : Tp) : noexc (Rs.ok a t) = .ok a t := nr rfl
@[simp] theorem s_rOf_some {α : Type} (a : α) (t : Tp) : rOf (some a) t = .ok a t := nr rfl
@[simp] theorem s_rOf_none {α : Type} (t : Tp) : rOf (none : Option α) t = .bad := nr rfl
@[simp] theorem s_fR_ok (w : W) (t : Tp) : fR t (.ok w) = .ok w t := nr rfl
@[simp] theorem s_fR_exc (e : Nat) (t : Tp) : fR t (.exc e) = .exc e t := nr rfl
@[simp] theorem s_wB (b : Bool) : wB (.bool b) = some b := nr rfl
@[simp] theorem s_toS_ok {α : Type} (a : α) (t : Tp) (f : α → Tp → SR) : toS (.ok a t) f = f a t := nr rfl
@[simp] theorem s_toS_exc {α : Type} (e : Nat) (t : Tp) (f : α → Tp → SR) : toS (.exc e t) f = .exc e t := nr rfl
@[simp] theorem s_sNext (ρ : Sl) (t : Tp) : sNext ρ t = .next ρ t := nr rfl
@[simp] theorem s_sSet (i : Nat) (a : Ex) (ρ : Sl) (t : Tp) : sSet i a ρ t = toS (a ρ t) fun w t => .next (ρ.set i (some w)) t := nr rfl
@[simp] theorem s_sAsg (g : Gw) (a : Ex) (ρ : Sl) (t : Tp) : sAsg g a ρ t = toS (a ρ t) fun w t => match g w ρ with | some ρ' => .next ρ' t | none => .bad := nr rfl
@[simp] theorem s_sMove (i j : Nat) (ρ : Sl) (t : Tp) : sMove i j ρ t = (match ρ[j]? with | some (some w) => .next ((ρ.set i (some w)).set j none) t | _ => .bad) := nr rfl
@[simp] theorem s_sPar2 (i j : Nat) (a b : Ex) (ρ : Sl) (t : Tp) : sPar2 i j a b ρ t = toS (a ρ t) fun w t => toS (b ρ t) fun w' t => .next ((ρ.set i (some w)).set j (some w')) t := nr rfl
@[simp] theorem s_sPar3 (i j l : Nat) (a b c : Ex) (ρ : Sl) (t : Tp) : sPar3 i j l a b c ρ t = toS (a ρ t) fun w t => toS (b ρ t) fun w' t => toS (c ρ t) fun w'' t => .next (((ρ.set i (some w)).set j (some w')).set l (some w'')) t := nr rfl
@[simp] theorem s_sIf (c : Et) (u v : Sv) (ρ : Sl) (t : Tp) : sIf c u v ρ t = toS (c ρ t) fun b t => if b = true then u ρ t else v ρ t := nr rfl
@[simp] theorem s_sRet (a : Ex) (ρ : Sl) (t : Tp) : sRet a ρ t = toS (a ρ t) fun w t => .ret w t := nr rfl
@[simp] theorem s_sRaise (k : Nat) (ρ : Sl) (t : Tp) : sRaise k ρ t = .exc k t := nr rfl
@[simp] theorem s_sDrop (a : Ex) (ρ : Sl) (t : Tp) : sDrop a ρ t = toS (a ρ t) fun _ t => .next ρ t := nr rfl
@[simp] theorem s_sPut (i : Nat) (si s : Ex) (ρ : Sl) (t : Tp) : sPut i si s ρ t = toS (s ρ t) fun w t => (match ρ[i]? with
  | some (some x) => toS (si ρ t) fun k t => (match wPut x k w with
    | some x' => .next (ρ.set i (some x')) t
    | none => .bad)
  | _ => .bad) := nr rfl
@[simp] theorem s_sApp (i : Nat) (s : Ex) (ρ : Sl) (t : Tp) : sApp i s ρ t = (match ρ[i]? with
  | some (some (.list xs)) => toS (s ρ t) fun w t => if decide (xs.length < 16777216) = true then .next (ρ.set i (some (.list (xs ++ [w])))) t else .bad
  | _ => .bad) := nr rfl
@[simp] theorem s_sAug (f : W → W → Option W) (i : Nat) (s : Ex) (ρ : Sl) (t : Tp) : sAug f i s ρ t = (match ρ[i]? with
  | some (some x) => toS (s ρ t) fun y t => (match f x y with
    | some z => .next (ρ.set i (some z)) t
    | none => .bad)
  | _ => .bad) := nr rfl
@[simp] theorem s_sFor (src : Exs) (g : Gw) (body : Sv) (ρ : Sl) (t : Tp) : sFor src g body ρ t = toS (src ρ t) fun items t => forL g body items ρ t := nr rfl
@[simp] theorem s_gN (i : Nat) (w : W) (ρ : Sl) : gN i w ρ = some (ρ.set i (some w)) := nr rfl
@[simp] theorem s_gTp (gs : Gws) (ws : List W) (ρ : Sl) : gTp gs (.tuple ws) ρ = gs ws ρ := nr rfl
@[simp] theorem s_gsN (ρ : Sl) : gsN [] ρ = some ρ := nr rfl
@[simp] theorem s_gsC (g : Gw) (gs : Gws) (w : W) (ws : List W) (ρ : Sl) : gsC g gs (w :: ws) ρ = (g w ρ).bind (gs ws) := nr rfl
@[simp] theorem s_etYes (ρ : Sl) (t : Tp) : etYes ρ t = .ok true t := nr rfl
@[simp] theorem s_sSeq (s : Ex) (ρ : Sl) (t : Tp) : sSeq s ρ t = (s ρ t).bind fun w t => rOf (wSeq w) t := nr rfl
@[simp] theorem s_wSeq_t (ws : List W) : wSeq (.tuple ws) = some ws := nr rfl
@[simp] theorem s_wSeq_l (ws : List W) : wSeq (.list ws) = some ws := nr rfl
@[simp] theorem s_sRng (g : List W → Option (List W)) (s : Exs) (ρ : Sl) (t : Tp) : sRng g s ρ t = (s ρ t).bind fun ws t => rOf (g ws) t := nr rfl
@[simp] theorem s_sEnum (s : Ex) (ρ : Sl) (t : Tp) : sEnum s ρ t = (s ρ t).bind fun w t => (rOf (wSeq w) t).bind fun xs t => .ok (pairW (rngW 0 1 xs.length) xs) t := nr rfl
@[simp] theorem s_sZip (s u : Ex) (ρ : Sl) (t : Tp) : sZip s u ρ t = (s ρ t).bind fun w t => (u ρ t).bind fun w' t => (rOf (wSeq w) t).bind fun xs t => (rOf (wSeq w') t).bind fun ys t => .ok (pairW xs ys) t := nr rfl
@[simp] theorem s_endF_ret (fr : Bool) (w : W) (t : Tp) : endF fr (.ret w t) = .ok w := nr rfl
@[simp] theorem s_endF_next (ρ : Sl) (t : Tp) : endF false (.next ρ t) = .ok .none := nr rfl
@[simp] theorem s_endF_exc (fr : Bool) (e : Nat) (t : Tp) : endF fr (.exc e t) = .exc e := nr rfl
@[simp] theorem s_wAdd_int (i j : Int) : wAdd (.int i) (.int j) = some (.int (i + j)) := nr rfl
@[simp] theorem s_wSub_int (i j : Int) : wSub (.int i) (.int j) = some (.int (i - j)) := nr rfl
@[simp] theorem s_wNeg_int (i : Int) : wNeg (.int i) = some (.int (-i)) := nr rfl
@[simp] theorem s_wCmp (p : Int → Int → Bool) (i j : Int) : wCmp p (.int i) (.int j) = some (.bool (p i j)) := nr rfl
@[simp] theorem s_wEq_int (i j : Int) : wEq (.int i) (.int j) = some (.bool (i == j)) := nr rfl
@[simp] theorem s_wNe_int (i j : Int) : wNe (.int i) (.int j) = some (.bool (!(i == j))) := nr rfl
@[simp] theorem s_wEq_bool (i j : Bool) : wEq (.bool i) (.bool j) = some (.bool (i == j)) := nr rfl
@[simp] theorem s_gLen_t (ws : List W) : gLen [.tuple ws] = some (.int ws.length) := nr rfl
@[simp] theorem s_gLen_l (ws : List W) : gLen [.list ws] = some (.int ws.length) := nr rfl
@[simp] theorem s_gTuple_l (ws : List W) : gTuple [.list ws] = some (.tuple ws) := nr rfl
@[simp] theorem s_gInt (i : Int) : gInt [.int i] = some (.int i) := nr rfl
@[simp] theorem s_gAbs (i : Int) : gAbs [.int i] = some (.int (i.natAbs : Int)) := gAbs_int i
@[simp] theorem s_then (u v : Sv) (ρ : Sl) (t : Tp) : sThen u v ρ t = (match u ρ t with | .next ρ t => v ρ t | .ret w t => .ret w t | .exc e t => .exc e t | .bad => .bad) := nr rfl
@[simp] theorem s_startW (m : Nat) (ws : List W) : startW m ws = ws.map some ++ List.replicate (m - ws.length) none := nr rfl
@[simp] theorem s_few (ws : List W) : few1000 ws = decide (ws.length ≤ 1000) := nr rfl
/-! ### fractions -/
/-- small enough -/
def Ok (q : Rat) : Prop := q.num.natAbs < 2 ^ 4000 ∧ q.den < 2 ^ 4000
@[simp] theorem idx0 (x : Rat) : wIdx (enc x) (.int 0) = some (.int x.num) := rfl
@[simp] theorem idx1 (x : Rat) : wIdx (enc x) (.int 1) = some (.int (x.den : Int)) := rfl
theorem mul_lt {a b k : Nat} (ha : a < 2 ^ k) (hb : b < 2 ^ k) : a * b < 2 ^ (2 * k) := by
  have : 2 ^ (2 * k) = 2 ^ k * 2 ^ k := by rw [← Nat.pow_add]; congr 1; omega
  rw [this]
  exact Nat.mul_lt_mul'' ha hb
theorem mulNN {x y : Rat} (hx : Ok x) (hy : Ok y) : mulOk x.num y.num = true := mulOk_of hx.1 hy.1
theorem mulND {x y : Rat} (hx : Ok x) (hy : Ok y) : mulOk x.num (y.den : Int) = true := mulOk_of hx.1 (by simpa using hy.2)
theorem mulDN {x y : Rat} (hx : Ok x) (hy : Ok y) : mulOk (x.den : Int) y.num = true := mulOk_of (by simpa using hx.2) hy.1
theorem mulDD {x y : Rat} (hx : Ok x) (hy : Ok y) : mulOk (x.den : Int) (y.den : Int) = true := mulOk_of (by simpa using hx.2) (by simpa using hy.2)
theorem den8 {x y : Rat} (hx : Ok x) (hy : Ok y) : ((x.den : Int) * (y.den : Int)).natAbs < 2 ^ 8000 := by
  have := mul_lt hx.2 hy.2
  rw [Int.natAbs_mul]
  simpa using this
theorem den_ne (x y : Rat) : ¬ ((x.den : Int) * (y.den : Int) = 0) := by
  have h1 := x.den_nz
  have h2 := y.den_nz
  intro z
  rcases Int.mul_eq_zero.mp z with z | z <;> omega
theorem div_mk (n : Int) (a b : Nat) : Rat.divInt n ((a : Int) * (b : Int)) = mkRat n (a * b) := by
  rw [← Int.natCast_mul, Rat.divInt_ofNat]
theorem ratios_add_spec {x y : Rat} (hx : Ok x) (hy : Ok y) : ratios_add [enc x, enc y] = .ok (enc (x + y)) := by
  unfold ratios_add
  rw [runF_eq (n := 2) rfl]
  simp [wMul_of (mulND hx hy), wMul_of (mulND hy hx), wMul_of (mulDD hx hy), make_spec _ _ (den8 hx hy), den_ne, div_mk, Rat.add_def']
theorem ratios_multiply_spec {x y : Rat} (hx : Ok x) (hy : Ok y) : ratios_multiply [enc x, enc y] = .ok (enc (x * y)) := by
  unfold ratios_multiply
  rw [runF_eq (n := 2) rfl]
  simp [wMul_of (mulNN hx hy), wMul_of (mulDD hx hy), make_spec _ _ (den8 hx hy), den_ne, div_mk, Rat.mul_def']
theorem div_mk' (x y : Rat) : Rat.divInt (x.num * (y.den : Int)) ((x.den : Int) * y.num) = x / y := by
  rw [Rat.div_def, Rat.inv_def, ← Rat.divInt_mul_divInt, Rat.num_divInt_den]
theorem ratios_divide_spec {x y : Rat} (hx : Ok x) (hy : Ok y) (h0 : y ≠ 0) : ratios_divide [enc x, enc y] = .ok (enc (x / y)) := by
  have n0 : ¬ y.num = 0 := fun z => h0 (Rat.num_eq_zero.mp z)
  have d0 : ¬ ((x.den : Int) * y.num = 0) := by
    have h1 := x.den_nz
    intro z
    rcases Int.mul_eq_zero.mp z with z | z <;> omega
  have d8 : ((x.den : Int) * y.num).natAbs < 2 ^ 8000 := by
    have := mul_lt hx.2 hy.1
    rw [Int.natAbs_mul]
    simpa using this
  unfold ratios_divide
  rw [runF_eq (n := 2) rfl]
  simp [wMul_of (mulND hx hy), wMul_of (mulDN hx hy), make_spec _ _ d8, d0, n0, div_mk']
theorem ratios_divide_zero {x : Rat} : ratios_divide [enc x, enc 0] = .exc X_BadNumber := by
  unfold ratios_divide
  rw [runF_eq (n := 2) rfl]
  simp
/-! the law's own -/
theorem law_make_spec (n d : Int) (h0 : d ≠ 0) (h : d.natAbs < 2 ^ 8000) : law_make [.int n, .int d] = .ok (enc (Rat.divInt n d)) := by
  unfold law_make
  rw [runF_eq (n := 2) rfl]
  have e1 : sPar2 2 3 (eCallB gAbs (eCons (eVar 0) eNil)) (eCallB gAbs (eCons (eVar 1) eNil)) (startW 4 [.int n, .int d]) none = .next [some (.int n), some (.int d), some (.int (n.natAbs : Int)), some (.int (d.natAbs : Int))] none := by
    simp
  have e2 := gcd_loop (i := 2) (j := 3) (by decide) 8000 1000000 [some (.int n), some (.int d), some (.int (n.natAbs : Int)), some (.int (d.natAbs : Int))] n.natAbs d.natAbs none rfl rfl h (by decide)
  rw [then_next e1, then_next (show sWhile 1000000 _ _ _ _ = _ from e2)]
  by_cases c : 0 < d
  · obtain ⟨o1, o2, f1, f2⟩ := make_core (n := n) h0 h _ rfl
    have c' : ¬ d < 0 := by omega
    rw [if_neg c'] at o1 o2 f1 f2
    simp [c, wFdiv_of o1, wFdiv_of o2, f1, f2]
    rfl
  · obtain ⟨o1, o2, f1, f2⟩ := make_core (n := n) h0 h _ rfl
    have c' : d < 0 := by omega
    rw [if_pos c'] at o1 o2 f1 f2
    have g1 : ∀ i : Int, (-i).fdiv ((Nat.gcd d.natAbs n.natAbs : Nat) : Int) = i.fdiv (-((Nat.gcd d.natAbs n.natAbs : Nat) : Int)) := fun i => by
      rw [← Int.neg_fdiv_neg, Int.neg_neg]
    have p1 : ∀ i : Int, divOk i (-((Nat.gcd d.natAbs n.natAbs : Nat) : Int)) = true → divOk (-i) ((Nat.gcd d.natAbs n.natAbs : Nat) : Int) = true := fun i hi => by
      have g0 : Nat.gcd d.natAbs n.natAbs ≠ 0 := fun z => by
        have := Nat.eq_zero_of_gcd_eq_zero_left z
        omega
      refine divOk_of (by omega) ?_
      have : Nat.gcd d.natAbs n.natAbs ≤ d.natAbs := Nat.le_of_dvd (by omega) (Nat.gcd_dvd_left _ _)
      have h9 : 2 ^ 8000 < 2 ^ 9000 := Nat.pow_lt_pow_right (by decide) (by decide)
      simp only [Int.natAbs_natCast]
      omega
    simp [c, wFdiv_of (p1 _ o1), wFdiv_of (p1 _ o2), g1, f1, f2]
    rfl
theorem law_add_spec {x y : Rat} (hx : Ok x) (hy : Ok y) : law_add [enc x, enc y] = .ok (enc (x + y)) := by
  unfold law_add
  rw [runF_eq (n := 2) rfl]
  simp [wMul_of (mulND hx hy), wMul_of (mulND hy hx), wMul_of (mulDD hx hy), law_make_spec _ _ (den_ne x y) (den8 hx hy), div_mk, Rat.add_def']
theorem law_mul_spec {x y : Rat} (hx : Ok x) (hy : Ok y) : law_mul [enc x, enc y] = .ok (enc (x * y)) := by
  unfold law_mul
  rw [runF_eq (n := 2) rfl]
  simp [wMul_of (mulNN hx hy), wMul_of (mulDD hx hy), law_make_spec _ _ (den_ne x y) (den8 hx hy), div_mk, Rat.mul_def']
theorem law_div_spec {x y : Rat} (hx : Ok x) (hy : Ok y) (h0 : y ≠ 0) : law_div [enc x, enc y] = .ok (enc (x / y)) := by
  have n0 : ¬ y.num = 0 := fun z => h0 (Rat.num_eq_zero.mp z)
  have d0 : ¬ ((x.den : Int) * y.num = 0) := by
    have h1 := x.den_nz
    intro z
    rcases Int.mul_eq_zero.mp z with z | z <;> omega
  have d8 : ((x.den : Int) * y.num).natAbs < 2 ^ 8000 := by
    have := mul_lt hx.2 hy.1
    rw [Int.natAbs_mul]
    simpa using this
  unfold law_div
  rw [runF_eq (n := 2) rfl]
  simp [wMul_of (mulND hx hy), wMul_of (mulDN hx hy), law_make_spec _ _ d0 d8, div_mk']
end G

end

section
namespace G
open PySem Ev
/-! ### sums, forms as functions -/
def Sg : Nat → (Nat → Rat) → Rat
  | 0, _ => 0
  | i + 1, F => Sg i F + F i
theorem Sg_congr {F F' : Nat → Rat} : ∀ {n : Nat}, (∀ i, i < n → F i = F' i) → Sg n F = Sg n F'
  | 0, _ => rfl
  | n + 1, h => by
    unfold Sg
    rw [Sg_congr fun i hi => h i (by omega), h n (by omega)]
theorem Sg_mul {F : Nat → Rat} {c : Rat} : ∀ {n : Nat}, Sg n (fun i => c * F i) = c * Sg n F
  | 0 => by unfold Sg; grind
  | n + 1 => by unfold Sg; rw [Sg_mul]; grind
theorem Sg_add {F F' : Nat → Rat} : ∀ {n : Nat}, Sg n (fun i => F i + F' i) = Sg n F + Sg n F'
  | 0 => by unfold Sg; grind
  | n + 1 => by unfold Sg; rw [Sg_add]; grind
theorem Sg_first {F : Nat → Rat} : ∀ {n : Nat}, Sg (n + 1) F = F 0 + Sg n (fun i => F (i + 1))
  | 0 => by unfold Sg Sg; grind
  | n + 1 => by rw [Sg, Sg_first, Sg]; grind
/-- the form's value at (u, v) -/
def Hm : List Rat → Rat → Rat → Rat
  | [], _, _ => 0
  | a :: l, u, v => a * u ^ l.length + v * Hm l u v
theorem Hm_nil (u v : Rat) : Hm [] u v = 0 := rfl
theorem Hm_cons (u v a : Rat) (l : List Rat) : Hm (a :: l) u v = a * u ^ l.length + v * Hm l u v := rfl
theorem Sg_zero (F : Nat → Rat) : Sg 0 F = 0 := rfl
theorem Sg_succ (n : Nat) (F : Nat → Rat) : Sg (n + 1) F = Sg n F + F n := rfl
theorem rpow_add (a : Rat) (m : Nat) : ∀ n : Nat, a ^ (m + n) = a ^ m * a ^ n
  | 0 => by rw [Nat.add_zero, Rat.pow_zero]; grind
  | n + 1 => by rw [← Nat.add_assoc, Rat.pow_succ, Rat.pow_succ, rpow_add a m n]; grind
def tm (f : List Rat) (u v : Rat) (k : Nat) : Rat := f.getD k 0 * u ^ (f.length - 1 - k) * v ^ k
theorem Hm_sum (u v : Rat) : ∀ f : List Rat, Hm f u v = Sg f.length (tm f u v)
  | [] => rfl
  | a :: l => by
    rw [List.length_cons, Sg_first]
    unfold Hm
    rw [Hm_sum u v l, ← Sg_mul]
    congr 1
    · simp [tm, Rat.pow_zero]
    · refine Sg_congr fun i hi => ?_
      have e : l.length - (i + 1) = l.length - 1 - i := by omega
      simp only [tm, List.getD_cons_succ, List.length_cons, Nat.add_sub_cancel, Rat.pow_succ, e]
      grind
theorem Hm_set (u v x : Rat) : ∀ (f : List Rat) (k : Nat), k < f.length → Hm (f.set k x) u v = Hm f u v + (x - f.getD k 0) * u ^ (f.length - 1 - k) * v ^ k
  | [], k, h => by simp at h
  | a :: l, 0, _ => by
    simp only [List.set_cons_zero, Hm, List.getD_cons_zero, List.length_cons, Nat.add_sub_cancel, Nat.sub_zero, Rat.pow_zero]
    grind
  | a :: l, k + 1, h => by
    have h' : k < l.length := by simpa using h
    have e : l.length - (k + 1) = l.length - 1 - k := by omega
    simp only [List.set_cons_succ, Hm, List.getD_cons_succ, List.length_cons, Nat.add_sub_cancel, List.length_set, Rat.pow_succ, e]
    rw [Hm_set u v x l k h']
    grind
theorem Hm_zero (u v : Rat) : ∀ n : Nat, Hm (List.replicate n 0) u v = 0
  | 0 => rfl
  | n + 1 => by
    rw [List.replicate_succ]; unfold Hm; rw [Hm_zero u v n]; grind
theorem Hm_add (u v : Rat) : ∀ {f g : List Rat}, f.length = g.length → Hm (List.zipWith (· + ·) f g) u v = Hm f u v + Hm g u v
  | [], [], _ => by simp [Hm]; grind
  | [], _ :: _, h => by simp at h
  | _ :: _, [], h => by simp at h
  | a :: f, b :: g, h => by
    have h' : f.length = g.length := by simpa using h
    simp only [List.zipWith_cons_cons, Hm, List.length_zipWith, h', Nat.min_self]
    rw [Hm_add u v h']
    grind
theorem Hm_scale (u v c : Rat) : ∀ f : List Rat, Hm (f.map (c * ·)) u v = c * Hm f u v
  | [] => by simp [Hm]
  | a :: f => by
    simp only [List.map_cons, Hm, List.length_map]
    rw [Hm_scale u v c f]
    grind
/-! ### one form for one function -/
def Pv : List Rat → Rat → Rat
  | [], _ => 0
  | a :: l, y => a + y * Pv l y
theorem one_pow : ∀ n : Nat, (1 : Rat) ^ n = 1
  | 0 => Rat.pow_zero 1
  | n + 1 => by rw [Rat.pow_succ, one_pow n]; grind
theorem Hm_one (y : Rat) : ∀ f : List Rat, Hm f 1 y = Pv f y
  | [] => rfl
  | a :: l => by unfold Hm Pv; rw [Hm_one y l, one_pow]; grind
/-- division by y - r -/
def Dv (r : Rat) : List Rat → List Rat
  | [] => []
  | [_] => []
  | _ :: b :: l => Pv (b :: l) r :: Dv r (b :: l)
theorem Dv_len (r : Rat) : ∀ l : List Rat, (Dv r l).length = l.length - 1
  | [] => rfl
  | [_] => rfl
  | _ :: b :: l => by unfold Dv; rw [List.length_cons, Dv_len r (b :: l)]; simp
theorem Dv_eq (r y : Rat) : ∀ l : List Rat, Pv l y = Pv l r + (y - r) * Pv (Dv r l) y
  | [] => by simp [Pv, Dv]; grind
  | [a] => by simp [Pv, Dv]; grind
  | a :: b :: l => by
    have ih := Dv_eq r y (b :: l)
    rw [show Pv (a :: b :: l) y = a + y * Pv (b :: l) y from rfl, show Pv (a :: b :: l) r = a + r * Pv (b :: l) r from rfl, show Pv (Dv r (a :: b :: l)) y = Pv (b :: l) r + y * Pv (Dv r (b :: l)) y from rfl, ih]
    grind
theorem Dv_zero (r : Rat) : ∀ l : List Rat, Pv l r = 0 → (∀ q ∈ Dv r l, q = 0) → ∀ q ∈ l, q = 0
  | [], _, _ => by simp
  | [a], h, _ => by
    intro q hq
    have e : q = a := by simpa using hq
    rw [e]
    simp [Pv] at h
    grind
  | a :: b :: l, h, hz => by
    have h1 : Pv (b :: l) r = 0 := hz _ List.mem_cons_self
    have h2 := Dv_zero r (b :: l) h1 fun q hq => hz q (List.mem_cons_of_mem _ hq)
    intro q hq
    rcases List.mem_cons.mp hq with e | e
    · rw [e]
      rw [show Pv (a :: b :: l) r = a + r * Pv (b :: l) r from rfl, h1] at h
      grind
    · exact h2 q e
theorem Pv_zero : ∀ (n : Nat) (l : List Rat), l.length = n → (∀ i : Nat, i < n → Pv l (i : Rat) = 0) → ∀ q ∈ l, q = 0
  | 0, l, hl, _ => by
    rw [List.eq_nil_of_length_eq_zero hl]; simp
  | n + 1, l, hl, h => by
    refine Dv_zero (n : Rat) l (h n (by omega)) (Pv_zero n _ (by rw [Dv_len, hl]; rfl) fun i hi => ?_)
    have e := Dv_eq (n : Rat) (i : Rat) l
    rw [h n (by omega), h i (by omega)] at e
    have ne : (i : Rat) - (n : Rat) ≠ 0 := by
      intro z
      have : (i : Rat) = (n : Rat) := by grind
      have : i = n := by exact_mod_cast this
      omega
    have e' : ((i : Rat) - (n : Rat)) * Pv (Dv (n : Rat) l) (i : Rat) = 0 := by grind
    rcases Rat.mul_eq_zero.mp e' with z | z
    · exact absurd z ne
    · exact z
theorem Pv_sub (y : Rat) : ∀ {f g : List Rat}, f.length = g.length → Pv (List.zipWith (· - ·) f g) y = Pv f y - Pv g y
  | [], [], _ => by simp [Pv]; grind
  | [], _ :: _, h => by simp at h
  | _ :: _, [], h => by simp at h
  | a :: f, b :: g, h => by
    have h' : f.length = g.length := by simpa using h
    simp only [List.zipWith_cons_cons, Pv]
    rw [Pv_sub y h']
    grind
theorem sub_eq : ∀ {f g : List Rat}, f.length = g.length → (∀ q ∈ List.zipWith (· - ·) f g, q = 0) → f = g
  | [], [], _, _ => rfl
  | [], _ :: _, h, _ => by simp at h
  | _ :: _, [], h, _ => by simp at h
  | a :: f, b :: g, h, hz => by
    have h' : f.length = g.length := by simpa using h
    have h1 : a - b = 0 := hz _ (by simp)
    have h2 := sub_eq h' fun q hq => hz q (by simp [hq])
    rw [h2]
    congr 1
    grind
/-- a form is told by its values -/
theorem Hm_ext {f g : List Rat} (hl : f.length = g.length) (h : ∀ u v, Hm f u v = Hm g u v) : f = g := by
  refine sub_eq hl (Pv_zero _ _ rfl fun i _ => ?_)
  rw [Pv_sub _ hl, ← Hm_one, ← Hm_one, h]
  grind
/-! ### bounds -/
def Bd (D A : Nat) (q : Rat) : Prop := ∃ k : Int, q = mkRat k D ∧ k.natAbs ≤ A * D
theorem Bd.add {D A B : Nat} {x y : Rat} (hD : D ≠ 0) (hx : Bd D A x) (hy : Bd D B y) : Bd D (A + B) (x + y) := by
  obtain ⟨k, rfl, hk⟩ := hx
  obtain ⟨m, rfl, hm⟩ := hy
  refine ⟨k + m, ?_, ?_⟩
  · rw [Rat.mkRat_add_mkRat _ _ hD hD, ← Int.add_mul, Rat.mkRat_mul_right hD]
  · rw [Nat.add_mul]; omega
theorem Bd.mul {D E A B : Nat} {x y : Rat} (hx : Bd D A x) (hy : Bd E B y) : Bd (D * E) (A * B) (x * y) := by
  obtain ⟨k, rfl, hk⟩ := hx
  obtain ⟨m, rfl, hm⟩ := hy
  refine ⟨k * m, Rat.mkRat_mul_mkRat _ _ _ _, ?_⟩
  rw [Int.natAbs_mul]
  calc k.natAbs * m.natAbs ≤ (A * D) * (B * E) := Nat.mul_le_mul hk hm
    _ = A * B * (D * E) := by grind
theorem Bd.neg {D A : Nat} {x : Rat} (hx : Bd D A x) : Bd D A (-x) := by
  obtain ⟨k, rfl, hk⟩ := hx
  exact ⟨-k, Rat.neg_mkRat _ _, by rw [Int.natAbs_neg]; exact hk⟩
theorem Bd.le {D A B : Nat} {x : Rat} (hx : Bd D A x) (h : A ≤ B) : Bd D B x := by
  obtain ⟨k, e, hk⟩ := hx
  exact ⟨k, e, Nat.le_trans hk (Nat.mul_le_mul_right _ h)⟩
theorem Bd.up {D A : Nat} {x : Rat} (m : Nat) (hm : m ≠ 0) (hx : Bd D A x) : Bd (D * m) A x := by
  obtain ⟨k, e, hk⟩ := hx
  refine ⟨k * m, ?_, ?_⟩
  · rw [e, Rat.mkRat_mul_right hm]
  · rw [Int.natAbs_mul, ← Nat.mul_assoc]
    exact Nat.mul_le_mul hk (by simp)
theorem Bd.zero {D A : Nat} : Bd D A 0 := ⟨0, by simp, by simp⟩
theorem Bd.one {D A : Nat} (hD : D ≠ 0) (hA : 1 ≤ A) : Bd D A 1 := by
  refine ⟨D, ?_, ?_⟩
  · have := Rat.mkRat_mul_left (n := 1) (d := 1) hD
    simp at this
    rw [this]
    rfl
  · simp
    exact Nat.le_mul_of_pos_left _ hA
theorem Bd.ok {D A : Nat} {x : Rat} (hx : Bd D A x) (hD : D ≠ 0) (h1 : A * D < 2 ^ 4000) (h2 : D < 2 ^ 4000) : Ok x := by
  obtain ⟨k, rfl, hk⟩ := hx
  refine ⟨?_, ?_⟩
  · rw [Rat.num_mkRat, if_neg hD]
    refine Nat.lt_of_le_of_lt ?_ (Nat.lt_of_le_of_lt hk h1)
    rw [Int.natAbs_ediv_of_dvd (Int.ofNat_dvd_left.mpr (Nat.gcd_dvd_right _ _))]
    simp only [Int.natAbs_natCast]
    exact Nat.div_le_self _ _
  · rw [Rat.den_mkRat, if_neg hD]
    exact Nat.lt_of_le_of_lt (Nat.div_le_self _ _) h2
def FB (D A : Nat) (f : List Rat) : Prop := ∀ q ∈ f, Bd D A q
end G

end

section
namespace G
open PySem Ev
/-! ### loops -/
theorem for_pred {g : Gw} {body : Sv} {t : Tp} (Inv : Nat → Sl → Prop) : ∀ (items : List W) (i : Nat) (ρ : Sl), Inv i ρ → (∀ j w ρ, items[j]? = some w → Inv (i + j) ρ → ∃ ρ1 ρ2, g w ρ = some ρ1 ∧ body ρ1 t = .next ρ2 t ∧ Inv (i + j + 1) ρ2) →
    ∃ ρ', forL g body items ρ t = .next ρ' t ∧ Inv (i + items.length) ρ'
  | [], i, ρ, h0, _ => ⟨ρ, rfl, h0⟩
  | w :: ws, i, ρ, h0, h => by
    obtain ⟨ρ1, ρ2, e1, e2, h2⟩ := h 0 w ρ rfl h0
    obtain ⟨ρ', e3, h3⟩ := for_pred Inv ws (i + 1) ρ2 h2 fun j w' ρ hj hI => by
      have e : i + 1 + j = i + (j + 1) := by omega
      rw [e] at hI ⊢
      exact h (j + 1) w' ρ (by simpa using hj) hI
    refine ⟨ρ', ?_, by rw [List.length_cons]; have e : i + (ws.length + 1) = i + 1 + ws.length := by omega
                       rw [e]; exact h3⟩
    show (match g w ρ with | none => _ | some ρ1 => sThen body (forL g body ws) ρ1 t) = _
    rw [e1]
    show sThen body (forL g body ws) ρ1 t = _
    rw [then_next e2, e3]
/-- with the source -/
theorem sfor_pred {src : Exs} {g : Gw} {body : Sv} {t : Tp} {items : List W} (Inv : Nat → Sl → Prop) (ρ : Sl) (hs : src ρ t = .ok items t) (h0 : Inv 0 ρ) (h : ∀ j w ρ, items[j]? = some w → Inv j ρ → ∃ ρ1 ρ2, g w ρ = some ρ1 ∧ body ρ1 t = .next ρ2 t ∧ Inv (j + 1) ρ2) :
    ∃ ρ', sFor src g body ρ t = .next ρ' t ∧ Inv items.length ρ' := by
  obtain ⟨ρ', e, hI⟩ := for_pred (t := t) (body := body) (g := g) Inv items 0 ρ h0 fun j w ρ hj hI => by
    rw [Nat.zero_add] at hI ⊢
    exact h j w ρ hj hI
  rw [Nat.zero_add] at hI
  refine ⟨ρ', ?_, hI⟩
  rw [s_sFor, hs]
  exact e
theorem lc_all {α : Type} {g : Gw} {tt : Et} {te : Ex} {t : Tp} {ρ : Sl} (e F : α → W) (p : α → Bool) : ∀ xs : List α, (∀ x ∈ xs, ∃ ρ1, g (e x) ρ = some ρ1 ∧ tt ρ1 t = .ok (p x) t ∧ (p x = true → te ρ1 t = .ok (F x) t)) → lcL g tt te (xs.map e) ρ t = .ok ((xs.filter p).map F) t
  | [], _ => rfl
  | x :: xs, h => by
    obtain ⟨ρ1, e1, e2, e3⟩ := h x List.mem_cons_self
    have ih := lc_all (g := g) (tt := tt) (te := te) (t := t) (ρ := ρ) e F p xs fun y hy => h y (List.mem_cons_of_mem _ hy)
    show (match g (e x) ρ with | none => _ | some ρ1 => (noexc (tt ρ1 t)).bind fun b t1 => if b = true then (noexc (te ρ1 t1)).bind fun w t2 => (lcL g tt te (xs.map e) ρ t2).bind fun ws t3 => .ok (w :: ws) t3 else lcL g tt te (xs.map e) ρ t1) = _
    rw [e1]
    show (noexc (tt ρ1 t)).bind _ = _
    rw [e2]
    by_cases c : p x = true
    · simp [c, e3 c, ih]
    · have c' : p x = false := by simpa using c
      simp [c', ih]
theorem lc_map {α : Type} {g : Gw} {te : Ex} {t : Tp} {ρ : Sl} (e F : α → W) (xs : List α) (h : ∀ x ∈ xs, ∃ ρ1, g (e x) ρ = some ρ1 ∧ te ρ1 t = .ok (F x) t) : lcL g etYes te (xs.map e) ρ t = .ok (xs.map F) t := by
  have := lc_all (g := g) (tt := etYes) (te := te) (t := t) (ρ := ρ) e F (fun _ => true) xs fun x hx => by
    obtain ⟨ρ1, e1, e2⟩ := h x hx
    exact ⟨ρ1, e1, rfl, fun _ => e2⟩
  rw [this, List.filter_eq_self.mpr fun _ _ => rfl]
theorem few_1M {ws : List W} (h : ws.length ≤ 1000000) : few1M ws = true := decide_eq_true h
/-! ### items -/
@[simp] theorem pairW_len : ∀ (as bs : List W), (pairW as bs).length = min as.length bs.length := by
  intro as bs
  induction as generalizing bs with
  | nil => cases bs <;> simp [pairW]
  | cons a as ih => cases bs <;> simp [pairW, ih] <;> omega
theorem pairW_get : ∀ (as bs : List W) (i : Nat) (a b : W), as[i]? = some a → bs[i]? = some b → (pairW as bs)[i]? = some (.tuple [a, b]) := by
  intro as
  induction as with
  | nil => intro bs i a b h; simp at h
  | cons x as ih =>
    intro bs i a b h1 h2
    cases bs with
    | nil => simp at h2
    | cons y bs =>
      cases i with
      | zero => simp at h1 h2; subst h1 h2; rfl
      | succ i => exact ih bs i a b (by simpa using h1) (by simpa using h2)
end G

end

section
namespace G
open PySem Ev
/-! ### items of forms -/
theorem enum_eq {α : Type} (e : α → W) (xs : List α) : pairW (rngW 0 1 xs.length) (xs.map e) = xs.zipIdx.map fun p => .tuple [.int (p.2 : Int), e p.1] := by
  unfold pairW rngW
  apply List.ext_getElem?
  intro i
  by_cases h : i < xs.length
  · simp [List.getElem?_map, List.zip, List.getElem?_zipWith, h, List.getElem?_zipIdx]
  · simp [List.getElem?_map, List.zip, List.getElem?_zipWith, h, List.getElem?_zipIdx]
theorem zip_eq {α β : Type} (e : α → W) (e' : β → W) (xs : List α) (ys : List β) : pairW (xs.map e) (ys.map e') = (xs.zip ys).map fun p => .tuple [e p.1, e' p.2] := by
  unfold pairW
  rw [List.zip_map, List.map_map]
  rfl
theorem rng_eq (n : Nat) : rngW 0 1 n = (List.range n).map fun i : Nat => (.int (i : Int) : W) := by
  unfold rngW
  simp
theorem small62_of {i : Int} (h1 : -1000000 ≤ i) (h2 : i ≤ 1000000) : small62 i = true := by
  unfold small62
  simp
  omega
theorem gRng1_nat {n : Nat} (h : n ≤ 1000) : gRng1 [.int (n : Int)] = some ((List.range n).map fun i : Nat => (.int (i : Int) : W)) := by
  show (if small62 (n : Int) = true then some (rngW 0 1 (n : Int).toNat) else none) = _
  rw [if_pos (small62_of (by omega) (by omega)), ← rng_eq]
  simp
theorem ixN_nat {n k : Nat} (h : k < n) : L2.ixN n (k : Int) = some k := by
  unfold L2.ixN
  rw [if_pos (by omega), if_pos (by omega)]
  rfl
theorem idxL {l : List Rat} {k : Nat} (h : k < l.length) : wIdx (.list (l.map enc)) (.int (k : Int)) = some (enc (l.getD k 0)) := by
  show L2.atI (l.map enc) (k : Int) = _
  unfold L2.atI
  rw [List.length_map, ixN_nat h]
  simp [h, List.getElem?_map]
theorem idxF {l : List Rat} {k : Nat} (h : k < l.length) : wIdx (encF l) (.int (k : Int)) = some (enc (l.getD k 0)) := by
  show L2.atI (l.map enc) (k : Int) = _
  unfold L2.atI
  rw [List.length_map, ixN_nat h]
  simp [h, List.getElem?_map]
theorem putL {l : List Rat} {k : Nat} {x : Rat} (h : k < l.length) : wPut (.list (l.map enc)) (.int (k : Int)) (enc x) = some (.list ((l.set k x).map enc)) := by
  show (L2.ixN (l.map enc).length (k : Int)).map _ = _
  rw [List.length_map, ixN_nat h]
  simp [List.map_set]
theorem rep_map (n : Nat) : (List.replicate n (enc 0)) = (List.replicate n (0 : Rat)).map enc := by simp
theorem enc_inj {x y : Rat} : enc x = enc y ↔ x = y := by
  constructor
  · intro h
    have h1 : x.num = y.num ∧ (x.den : Int) = (y.den : Int) := by
      unfold enc at h
      simpa using h
    exact Rat.ext h1.1 (by omega)
  · intro h; rw [h]
theorem eqv_enc (x y : Rat) : PyData.eqv (enc x) (enc y) = decide (x = y) := by
  show (x.num == y.num && ((x.den : Int) == (y.den : Int) && true)) = _
  by_cases h : x = y
  · subst h; simp
  · rw [decide_eq_false h]
    by_cases h1 : x.num = y.num
    · have : ¬ x.den = y.den := fun z => h (Rat.ext h1 z)
      simp [this]
      intro _; omega
    · simp [h1]
theorem shaped_enc (x : Rat) : SeqAt.shaped (enc x) = true := rfl
theorem wEq_enc (x y : Rat) : wEq (enc x) (enc y) = some (.bool (decide (x = y))) := by
  unfold wEq
  rw [shaped_enc, shaped_enc, eqv_enc]; rfl
theorem wNe_enc (x y : Rat) : wNe (enc x) (enc y) = some (.bool (!decide (x = y))) := by
  unfold wNe
  rw [shaped_enc, shaped_enc, eqv_enc]; rfl
@[simp] theorem wNe_zero (x : Rat) : wNe (enc x) (.tuple [.int 0, .int 1]) = some (.bool (!decide (x = 0))) := wNe_enc x 0
@[simp] theorem wEq_zero (x : Rat) : wEq (enc x) (.tuple [.int 0, .int 1]) = some (.bool (decide (x = 0))) := wEq_enc x 0
@[simp] theorem lenF (f : List Rat) : gLen [encF f] = some (.int f.length) := by
  unfold encF; rw [s_gLen_t, List.length_map]
@[simp] theorem seqF (f : List Rat) : wSeq (encF f) = some (f.map enc) := rfl
theorem FB.get {D A : Nat} {f : List Rat} (h : FB D A f) (k : Nat) : Bd D A (f.getD k 0) := by
  by_cases c : k < f.length
  · rw [List.getD_eq_getElem?_getD, List.getElem?_eq_getElem c]
    exact h _ (List.getElem_mem c)
  · rw [List.getD_eq_getElem?_getD, List.getElem?_eq_none (by omega)]
    exact Bd.zero
theorem FB.set {D A : Nat} {f : List Rat} (h : FB D A f) {k : Nat} {x : Rat} (hx : Bd D A x) : FB D A (f.set k x) := fun q hq => by
  rcases List.mem_or_eq_of_mem_set hq with z | z
  · exact h q z
  · rw [z]; exact hx
theorem FB.le {D A B : Nat} {f : List Rat} (h : FB D A f) (hab : A ≤ B) : FB D B f := fun q hq => (h q hq).le hab
/-- small numbers -/
structure Sz (D A : Nat) : Prop where
  d0 : D ≠ 0
  d : D < 2 ^ 1900
  a : A < 2 ^ 1900
theorem Sz.ok {D A : Nat} (s : Sz D A) {x : Rat} (h : Bd D A x) : Ok x := by
  refine h.ok s.d0 ?_ (Nat.lt_trans s.d (Nat.pow_lt_pow_right (by decide) (by decide)))
  have := mul_lt s.a s.d
  exact Nat.lt_trans this (Nat.pow_lt_pow_right (by decide) (by decide))
theorem Sz.le {D A B : Nat} (s : Sz D A) (h : B ≤ A) : Sz D B := ⟨s.d0, s.d, Nat.lt_of_le_of_lt h s.a⟩
/-! ### products -/
def cv : List Rat → List Rat → List Rat
  | [], g => List.replicate (g.length - 1) 0
  | a :: f, g => List.zipWith (· + ·) (g.map (a * ·) ++ List.replicate f.length 0) (0 :: cv f g)
theorem cv_len {g : List Rat} (hg : 0 < g.length) : ∀ f : List Rat, (cv f g).length = f.length + g.length - 1
  | [] => by simp [cv]
  | a :: f => by
    unfold cv
    rw [List.length_zipWith, List.length_append, List.length_map, List.length_replicate, List.length_cons, cv_len hg f, List.length_cons]
    omega
theorem Hm_pad (u v : Rat) (n : Nat) : ∀ g : List Rat, Hm (g ++ List.replicate n 0) u v = Hm g u v * u ^ n
  | [] => by rw [List.nil_append, Hm_zero, Hm_nil]; grind
  | a :: g => by
    rw [List.cons_append, Hm_cons, Hm_cons]
    rw [Hm_pad u v n g, List.length_append, List.length_replicate, rpow_add]
    grind
theorem Hm_cv (u v : Rat) {g : List Rat} (hg : 0 < g.length) : ∀ f : List Rat, Hm (cv f g) u v = Hm f u v * Hm g u v
  | [] => by unfold cv; rw [Hm_zero, Hm_nil]; grind
  | a :: f => by
    unfold cv
    rw [Hm_add u v (by rw [List.length_append, List.length_map, List.length_replicate, List.length_cons, cv_len hg f]; omega), Hm_pad, Hm_scale, Hm_cons, Hm_cons, Hm_cv u v hg f]
    grind
theorem tm_mul {f g : List Rat} {u v : Rat} {i j : Nat} (hi : i < f.length) (hj : j < g.length) : tm f u v i * tm g u v j = (f.getD i 0 * g.getD j 0) * u ^ (f.length + g.length - 1 - 1 - (i + j)) * v ^ (i + j) := by
  unfold tm
  have e : f.length + g.length - 1 - 1 - (i + j) = (f.length - 1 - i) + (g.length - 1 - j) := by omega
  rw [e, rpow_add, rpow_add]
  grind
theorem forms_multiply_spec {f g : List Rat} {D E A B : Nat} (hf : FB D A f) (hg : FB E B g) (lf : 0 < f.length) (lg : 0 < g.length) (hl : f.length + g.length ≤ 26) (s1 : Sz D A) (s2 : Sz E B) (s : Sz (D * E) (625 * (A * B))) :
    forms_multiply [encF f, encF g] = .ok (encF (cv f g)) ∧ FB (D * E) (625 * (A * B)) (cv f g) := by
  unfold forms_multiply
  rw [runF_eq (n := 2) rfl]
  have m0 : ((f.length : Int) + (g.length : Int) - 1) = ((f.length + g.length - 1 : Nat) : Int) := by omega
  have e1 : sIf (eTest (eBin wGt (eBin wSub (eBin wAdd (eCallB gLen (eCons (eVar 0) eNil)) (eCallB gLen (eCons (eVar 1) eNil))) (eC (.int (1)))) (eBin wAdd (eC (.int (24))) (eC (.int (1)))))) (sRaise X_BadForm) sNext (startW 7 [encF f, encF g]) none = .next [some (encF f), some (encF g), none, none, none, none, none] none := by
    simp
    omega
  rw [then_next e1]
  have e2 : sSet 2 (eBin wMulL (eLst (eCons (eC (.tuple [(.int (0)), (.int (1))])) eNil)) (eBin wSub (eBin wAdd (eCallB gLen (eCons (eVar 0) eNil)) (eCallB gLen (eCons (eVar 1) eNil))) (eC (.int (1))))) [some (encF f), some (encF g), none, none, none, none, none] none = .next [some (encF f), some (encF g), some (.list ((List.replicate (f.length + g.length - 1) (0 : Rat)).map enc)), none, none, none, none] none := by
    have c : (-1000000 ≤ (f.length : Int) + (g.length : Int) - 1 ∧ (f.length : Int) + (g.length : Int) - 1 ≤ 1000000) ∧ 1 * ((f.length : Int) + (g.length : Int) - 1).toNat ≤ 16777216 := by omega
    have n0 : ((f.length : Int) + (g.length : Int) - 1).toNat = f.length + g.length - 1 := by omega
    have q : wMulL (.list [.tuple [.int 0, .int 1]]) (.int ((f.length : Int) + (g.length : Int) - 1)) = some (.list ((List.replicate (f.length + g.length - 1) (0 : Rat)).map enc)) := by
      show (if (-1000000 ≤ (f.length : Int) + (g.length : Int) - 1 ∧ (f.length : Int) + (g.length : Int) - 1 ≤ 1000000) ∧ 1 * ((f.length : Int) + (g.length : Int) - 1).toNat ≤ 16777216 then _ else _) = _
      rw [if_pos c, n0, ← rep_map]
      congr 2
      rw [enc_zero]
      generalize f.length + g.length - 1 = n
      induction n with
      | zero => rfl
      | succ n ih => rw [List.replicate_succ, List.flatten_cons, ih, List.replicate_succ]; rfl
    simp [q]
  rw [then_next e2]
  have hdd : D * E ≠ 0 := s.d0
  obtain ⟨ρ', e3, l, a3, a4, a5, a6, rfl, hlen, hFB, hHm⟩ := sfor_pred (t := none) (src := sEnum (eVar 0)) (g := gTp (gsC (gN 3) (gsC (gN 4) gsN))) (items := f.zipIdx.map fun p => .tuple [.int (p.2 : Int), enc p.1])
    (body := sIf (eTest (eBin wNe (eVar 4) (eC (.tuple [(.int (0)), (.int (1))])))) (sFor (sEnum (eVar 1)) (gTp (gsC (gN 5) (gsC (gN 6) gsN))) (sPut 2 (eBin wAdd (eVar 3) (eVar 5)) (eCall ratios_add (eCons (eBin wIdx (eVar 2) (eBin wAdd (eVar 3) (eVar 5))) (eCons (eCall ratios_multiply (eCons (eVar 4) (eCons (eVar 6) eNil))) eNil))))) sNext)
    (fun i ρ => ∃ (l : List Rat) (a3 a4 a5 a6 : Option W), ρ = [some (encF f), some (encF g), some (.list (l.map enc)), a3, a4, a5, a6] ∧ l.length = f.length + g.length - 1 ∧ FB (D * E) (i * g.length * (A * B)) l ∧ ∀ u v, Hm l u v = Sg i (tm f u v) * Hm g u v)
    [some (encF f), some (encF g), some (.list ((List.replicate (f.length + g.length - 1) (0 : Rat)).map enc)), none, none, none, none]
    (by simp [enum_eq]) ⟨_, none, none, none, none, rfl, by simp, fun q hq => by rw [List.eq_of_mem_replicate hq]; exact Bd.zero, fun u v => by rw [Hm_zero, Sg_zero]; grind⟩
    fun i w ρ hw ⟨l, a3, a4, a5, a6, e, hlen, hFB, hHm⟩ => by
      subst e
      obtain ⟨hi, rfl⟩ : ∃ hi : i < f.length, w = .tuple [.int (i : Int), enc (f.getD i 0)] := by
        rw [List.getElem?_map, List.getElem?_zipIdx] at hw
        by_cases hi : i < f.length
        · refine ⟨hi, ?_⟩
          rw [List.getElem?_eq_getElem hi] at hw
          simp at hw
          rw [← hw, List.getD_eq_getElem?_getD, List.getElem?_eq_getElem hi]; rfl
        · rw [List.getElem?_eq_none (by omega)] at hw; simp at hw
      refine ⟨[some (encF f), some (encF g), some (.list (l.map enc)), some (.int (i : Int)), some (enc (f.getD i 0)), a5, a6], ?_⟩
      by_cases z : f.getD i 0 = 0
      · refine ⟨[some (encF f), some (encF g), some (.list (l.map enc)), some (.int (i : Int)), some (enc (f.getD i 0)), a5, a6], by simp, by simp only [s_sIf, s_eTest, s_eBin, s_eVar, s_eC, s_bind_ok, List.getElem?_cons_succ, List.getElem?_cons_zero, wNe_zero, s_rOf_some, s_wB, s_toS_ok, decide_eq_true z, Bool.not_true, Bool.false_eq_true, if_false, s_sNext], l, _, _, _, _, rfl, hlen, hFB.le (Nat.mul_le_mul_right _ (Nat.mul_le_mul_right _ (by omega))), fun u v => ?_⟩
        rw [hHm, Sg_succ]
        have : tm f u v i = 0 := by unfold tm; rw [z]; grind
        rw [this]; grind
      · obtain ⟨ρ2, e4, l', a5', a6', rfl, hlen', hFB', hHm'⟩ := sfor_pred (t := none) (src := sEnum (eVar 1)) (g := gTp (gsC (gN 5) (gsC (gN 6) gsN))) (items := g.zipIdx.map fun p => .tuple [.int (p.2 : Int), enc p.1])
          (body := sPut 2 (eBin wAdd (eVar 3) (eVar 5)) (eCall ratios_add (eCons (eBin wIdx (eVar 2) (eBin wAdd (eVar 3) (eVar 5))) (eCons (eCall ratios_multiply (eCons (eVar 4) (eCons (eVar 6) eNil))) eNil))))
          (fun j ρ => ∃ (l' : List Rat) (a5 a6 : Option W), ρ = [some (encF f), some (encF g), some (.list (l'.map enc)), some (.int (i : Int)), some (enc (f.getD i 0)), a5, a6] ∧ l'.length = f.length + g.length - 1 ∧ FB (D * E) ((i * g.length + j) * (A * B)) l' ∧ ∀ u v, Hm l' u v = Sg i (tm f u v) * Hm g u v + tm f u v i * Sg j (tm g u v))
          [some (encF f), some (encF g), some (.list (l.map enc)), some (.int (i : Int)), some (enc (f.getD i 0)), a5, a6]
          (by simp [enum_eq]) ⟨l, a5, a6, rfl, hlen, hFB, fun u v => by rw [hHm, Sg_zero]; grind⟩
          fun j w ρ hw ⟨l', a5, a6, e, hlen', hFB', hHm'⟩ => by
            subst e
            obtain ⟨hj, rfl⟩ : ∃ hj : j < g.length, w = .tuple [.int (j : Int), enc (g.getD j 0)] := by
              rw [List.getElem?_map, List.getElem?_zipIdx] at hw
              by_cases hj : j < g.length
              · refine ⟨hj, ?_⟩
                rw [List.getElem?_eq_getElem hj] at hw
                simp at hw
                rw [← hw, List.getD_eq_getElem?_getD, List.getElem?_eq_getElem hj]; rfl
              · rw [List.getElem?_eq_none (by omega)] at hw; simp at hw
            have hij : i + j < l'.length := by omega
            have cnt : (i * g.length + j) + 1 ≤ 625 := by
              have h1 : i * g.length ≤ 24 * 25 := Nat.mul_le_mul (by omega) (by omega)
              omega
            have bf := hf.get i
            have bg := hg.get j
            have bl := hFB'.get (i + j)
            have ok1 : Ok (f.getD i 0) := s1.ok bf
            have ok2 : Ok (g.getD j 0) := s2.ok bg
            have bp := bf.mul bg
            have ok3 : Ok (f.getD i 0 * g.getD j 0) := (s.le (Nat.le_mul_of_pos_left _ (by omega))).ok bp
            have ok4 : Ok (l'.getD (i + j) 0) := (s.le (Nat.mul_le_mul_right _ (by omega))).ok bl
            have bn : Bd (D * E) ((i * g.length + j + 1) * (A * B)) (l'.getD (i + j) 0 + f.getD i 0 * g.getD j 0) := by
              have := bl.add hdd bp
              rw [Nat.add_mul _ 1, Nat.one_mul]
              exact this
            refine ⟨[some (encF f), some (encF g), some (.list (l'.map enc)), some (.int (i : Int)), some (enc (f.getD i 0)), some (.int (j : Int)), some (enc (g.getD j 0))], [some (encF f), some (encF g), some (.list ((l'.set (i + j) (l'.getD (i + j) 0 + f.getD i 0 * g.getD j 0)).map enc)), some (.int (i : Int)), some (enc (f.getD i 0)), some (.int (j : Int)), some (enc (g.getD j 0))], by simp, ?_, _, _, _, rfl, by rw [List.length_set]; exact hlen', ?_, fun u v => ?_⟩
            · have ij : (i : Int) + (j : Int) = ((i + j : Nat) : Int) := by omega
              simp only [s_sPut, s_eCall, s_eCons, s_eBin, s_eVar, s_eNil, s_bind_ok, List.getElem?_cons_succ, List.getElem?_cons_zero, s_wAdd_int, s_rOf_some, ij, idxL hij, ratios_multiply_spec ok1 ok2, s_fR_ok, ratios_add_spec ok4 ok3, s_toS_ok, putL hij]
              simp
            · exact FB.set (hFB'.le (Nat.mul_le_mul_right _ (by omega))) bn
            · rw [Hm_set u v _ l' (i + j) hij, hHm', Sg_succ, hlen']
              have := tm_mul (f := f) (g := g) (u := u) (v := v) hi hj
              grind
        refine ⟨_, by simp, by simp only [s_sIf, s_eTest, s_eBin, s_eVar, s_eC, s_bind_ok, List.getElem?_cons_succ, List.getElem?_cons_zero, wNe_zero, s_rOf_some, s_wB, s_toS_ok, decide_eq_false z, Bool.not_false, if_true]; exact e4, l', _, _, _, _, rfl, hlen', ?_, fun u v => ?_⟩
        · have e : (i + 1) * g.length = i * g.length + (List.map (fun p => (PyData.tuple [.int (p.2 : Int), enc p.1] : W)) g.zipIdx).length := by
            rw [List.length_map, List.length_zipIdx, Nat.add_mul, Nat.one_mul]
          rw [e]; exact hFB'
        · rw [hHm', Sg_succ, Hm_sum u v g, List.length_map, List.length_zipIdx]
          grind
  have el : l = cv f g := Hm_ext (by rw [hlen, cv_len lg]) fun u v => by
    rw [hHm, Hm_cv u v lg, Hm_sum u v f, List.length_map, List.length_zipIdx]
  rw [then_next e3]
  subst el
  refine ⟨by simp [encF], hFB.le (Nat.mul_le_mul_right _ ?_)⟩
  rw [List.length_map, List.length_zipIdx]
  exact Nat.le_trans (Nat.mul_le_mul (show f.length ≤ 25 by omega) (show g.length ≤ 25 by omega)) (by decide)
end G

end

section
namespace G
open PySem Ev
theorem rng_len {f : List Rat} {ρ : Sl} {i : Nat} {t : Tp} (h : ρ[i]? = some (some (encF f))) (hl : f.length ≤ 1000) : sRng gRng1 (eCons (eCallB gLen (eCons (eVar i) eNil)) eNil) ρ t = .ok ((List.range f.length).map fun i : Nat => (.int (i : Int) : W)) t := by
  simp only [s_sRng, s_eCons, s_eCallB, eVar_of t h, s_eNil, s_bind_ok, lenF, s_rOf_some, gRng1_nat hl]
theorem law_times_spec {f g : List Rat} {D E A B : Nat} (hf : FB D A f) (hg : FB E B g) (lf : 0 < f.length) (lg : 0 < g.length) (hl : f.length + g.length ≤ 26) (s1 : Sz D A) (s2 : Sz E B) (s : Sz (D * E) (625 * (A * B))) :
    law_times [encF f, encF g] = .ok (encF (cv f g)) ∧ FB (D * E) (625 * (A * B)) (cv f g) := by
  unfold law_times
  rw [runF_eq (n := 2) rfl]
  have e2 : sSet 2 (eBin wMulL (eLst (eCons (eTup (eCons (eC (.int (0))) (eCons (eC (.int (1))) eNil))) eNil)) (eBin wSub (eBin wAdd (eCallB gLen (eCons (eVar 0) eNil)) (eCallB gLen (eCons (eVar 1) eNil))) (eC (.int (1))))) (startW 5 [encF f, encF g]) none = .next [some (encF f), some (encF g), some (.list ((List.replicate (f.length + g.length - 1) (0 : Rat)).map enc)), none, none] none := by
    have c : (-1000000 ≤ (f.length : Int) + (g.length : Int) - 1 ∧ (f.length : Int) + (g.length : Int) - 1 ≤ 1000000) ∧ 1 * ((f.length : Int) + (g.length : Int) - 1).toNat ≤ 16777216 := by omega
    have n0 : ((f.length : Int) + (g.length : Int) - 1).toNat = f.length + g.length - 1 := by omega
    have q : wMulL (.list [.tuple [.int 0, .int 1]]) (.int ((f.length : Int) + (g.length : Int) - 1)) = some (.list ((List.replicate (f.length + g.length - 1) (0 : Rat)).map enc)) := by
      show (if (-1000000 ≤ (f.length : Int) + (g.length : Int) - 1 ∧ (f.length : Int) + (g.length : Int) - 1 ≤ 1000000) ∧ 1 * ((f.length : Int) + (g.length : Int) - 1).toNat ≤ 16777216 then _ else _) = _
      rw [if_pos c, n0, ← rep_map]
      congr 2
      rw [enc_zero]
      generalize f.length + g.length - 1 = n
      induction n with
      | zero => rfl
      | succ n ih => rw [List.replicate_succ, List.flatten_cons, ih, List.replicate_succ]; rfl
    simp [q]
  rw [then_next e2]
  have hdd : D * E ≠ 0 := s.d0
  obtain ⟨ρ', e3, l, a3, a4, rfl, hlen, hFB, hHm⟩ := sfor_pred (t := none) (src := sRng gRng1 (eCons (eCallB gLen (eCons (eVar 0) eNil)) eNil)) (g := gN 3) (items := (List.range f.length).map fun i : Nat => (.int (i : Int) : W))
    (body := sFor (sRng gRng1 (eCons (eCallB gLen (eCons (eVar 1) eNil)) eNil)) (gN 4) (sPut 2 (eBin wAdd (eVar 3) (eVar 4)) (eCall law_add (eCons (eBin wIdx (eVar 2) (eBin wAdd (eVar 3) (eVar 4))) (eCons (eCall law_mul (eCons (eBin wIdx (eVar 0) (eVar 3)) (eCons (eBin wIdx (eVar 1) (eVar 4)) eNil))) eNil)))))
    (fun i ρ => ∃ (l : List Rat) (a3 a4 : Option W), ρ = [some (encF f), some (encF g), some (.list (l.map enc)), a3, a4] ∧ l.length = f.length + g.length - 1 ∧ FB (D * E) (i * g.length * (A * B)) l ∧ ∀ u v, Hm l u v = Sg i (tm f u v) * Hm g u v)
    [some (encF f), some (encF g), some (.list ((List.replicate (f.length + g.length - 1) (0 : Rat)).map enc)), none, none]
    (rng_len rfl (by omega)) ⟨_, none, none, rfl, by simp, fun q hq => by rw [List.eq_of_mem_replicate hq]; exact Bd.zero, fun u v => by rw [Hm_zero, Sg_zero]; grind⟩
    fun i w ρ hw ⟨l, a3, a4, e, hlen, hFB, hHm⟩ => by
      subst e
      obtain ⟨hi, rfl⟩ : ∃ hi : i < f.length, w = .int (i : Int) := by
        rw [List.getElem?_map] at hw
        by_cases hi : i < f.length
        · refine ⟨hi, ?_⟩
          rw [List.getElem?_range hi] at hw
          simpa using hw.symm
        · rw [List.getElem?_eq_none (by simpa using hi)] at hw; simp at hw
      obtain ⟨ρ2, e4, l', a4', rfl, hlen', hFB', hHm'⟩ := sfor_pred (t := none) (src := sRng gRng1 (eCons (eCallB gLen (eCons (eVar 1) eNil)) eNil)) (g := gN 4) (items := (List.range g.length).map fun i : Nat => (.int (i : Int) : W))
        (body := sPut 2 (eBin wAdd (eVar 3) (eVar 4)) (eCall law_add (eCons (eBin wIdx (eVar 2) (eBin wAdd (eVar 3) (eVar 4))) (eCons (eCall law_mul (eCons (eBin wIdx (eVar 0) (eVar 3)) (eCons (eBin wIdx (eVar 1) (eVar 4)) eNil))) eNil))))
        (fun j ρ => ∃ (l' : List Rat) (a4 : Option W), ρ = [some (encF f), some (encF g), some (.list (l'.map enc)), some (.int (i : Int)), a4] ∧ l'.length = f.length + g.length - 1 ∧ FB (D * E) ((i * g.length + j) * (A * B)) l' ∧ ∀ u v, Hm l' u v = Sg i (tm f u v) * Hm g u v + tm f u v i * Sg j (tm g u v))
        [some (encF f), some (encF g), some (.list (l.map enc)), some (.int (i : Int)), a4]
        (rng_len rfl (by omega)) ⟨l, a4, rfl, hlen, hFB, fun u v => by rw [hHm, Sg_zero]; grind⟩
        fun j w ρ hw ⟨l', a4, e, hlen', hFB', hHm'⟩ => by
          subst e
          obtain ⟨hj, rfl⟩ : ∃ hj : j < g.length, w = .int (j : Int) := by
            rw [List.getElem?_map] at hw
            by_cases hj : j < g.length
            · refine ⟨hj, ?_⟩
              rw [List.getElem?_range hj] at hw
              simpa using hw.symm
            · rw [List.getElem?_eq_none (by simpa using hj)] at hw; simp at hw
          have hij : i + j < l'.length := by omega
          have cnt : (i * g.length + j) + 1 ≤ 625 := by
            have h1 : i * g.length ≤ 24 * 25 := Nat.mul_le_mul (by omega) (by omega)
            omega
          have bf := hf.get i
          have bg := hg.get j
          have bl := hFB'.get (i + j)
          have ok1 : Ok (f.getD i 0) := s1.ok bf
          have ok2 : Ok (g.getD j 0) := s2.ok bg
          have bp := bf.mul bg
          have ok3 : Ok (f.getD i 0 * g.getD j 0) := (s.le (Nat.le_mul_of_pos_left _ (by omega))).ok bp
          have ok4 : Ok (l'.getD (i + j) 0) := (s.le (Nat.mul_le_mul_right _ (by omega))).ok bl
          have bn : Bd (D * E) ((i * g.length + j + 1) * (A * B)) (l'.getD (i + j) 0 + f.getD i 0 * g.getD j 0) := by
            have := bl.add hdd bp
            rw [Nat.add_mul _ 1, Nat.one_mul]
            exact this
          refine ⟨[some (encF f), some (encF g), some (.list (l'.map enc)), some (.int (i : Int)), some (.int (j : Int))], [some (encF f), some (encF g), some (.list ((l'.set (i + j) (l'.getD (i + j) 0 + f.getD i 0 * g.getD j 0)).map enc)), some (.int (i : Int)), some (.int (j : Int))], by simp, ?_, _, _, rfl, by rw [List.length_set]; exact hlen', ?_, fun u v => ?_⟩
          · have ij : (i : Int) + (j : Int) = ((i + j : Nat) : Int) := by omega
            simp only [s_sPut, s_eCall, s_eCons, s_eBin, s_eVar, s_eNil, s_bind_ok, List.getElem?_cons_succ, List.getElem?_cons_zero, s_wAdd_int, s_rOf_some, ij, idxL hij, idxF hi, idxF hj, law_mul_spec ok1 ok2, s_fR_ok, law_add_spec ok4 ok3, s_toS_ok, putL hij]
            simp
          · exact FB.set (hFB'.le (Nat.mul_le_mul_right _ (by omega))) bn
          · rw [Hm_set u v _ l' (i + j) hij, hHm', Sg_succ, hlen']
            have := tm_mul (f := f) (g := g) (u := u) (v := v) hi hj
            grind
      refine ⟨_, _, by simp, e4, l', _, _, rfl, hlen', ?_, fun u v => ?_⟩
      · have e : (i + 1) * g.length = i * g.length + (List.map (fun i : Nat => (PyData.int (i : Int) : W)) (List.range g.length)).length := by
          rw [List.length_map, List.length_range, Nat.add_mul, Nat.one_mul]
        rw [e]; exact hFB'
      · rw [hHm', Sg_succ, Hm_sum u v g, List.length_map, List.length_range]
        grind
  have el : l = cv f g := Hm_ext (by rw [hlen, cv_len lg]) fun u v => by
    rw [hHm, Hm_cv u v lg, Hm_sum u v f, List.length_map, List.length_range]
  rw [then_next e3]
  subst el
  refine ⟨by simp [encF], hFB.le (Nat.mul_le_mul_right _ ?_)⟩
  rw [List.length_map, List.length_range]
  exact Nat.le_trans (Nat.mul_le_mul (show f.length ≤ 25 by omega) (show g.length ≤ 25 by omega)) (by decide)
/-! ### sums, multiples -/
theorem map_zip (op : Rat → Rat → Rat) : ∀ (f g : List Rat), (f.zip g).map (fun p => enc (op p.1 p.2)) = (List.zipWith op f g).map enc
  | [], g => by simp
  | a :: f, [] => by simp
  | a :: f, b :: g => by
    have := map_zip op f g
    simp only [List.zip_cons_cons, List.map_cons, List.zipWith_cons_cons, this]
theorem zip_mem {f g : List Rat} {p : Rat × Rat} (h : p ∈ f.zip g) : p.1 ∈ f ∧ p.2 ∈ g := ⟨(List.of_mem_zip h).1, (List.of_mem_zip h).2⟩
theorem plus_FB {f g : List Rat} {D A B : Nat} (hD : D ≠ 0) (hf : FB D A f) (hg : FB D B g) : FB D (A + B) (List.zipWith (· + ·) f g) := fun q hq => by
  rw [List.mem_iff_getElem] at hq
  obtain ⟨i, hi, rfl⟩ := hq
  rw [List.getElem_zipWith]
  exact (hf _ (List.getElem_mem _)).add hD (hg _ (List.getElem_mem _))
theorem law_plus_spec {f g : List Rat} {D A B : Nat} (hf : FB D A f) (hg : FB D B g) (hl : f.length = g.length) (h25 : f.length ≤ 100) (s1 : Sz D A) (s2 : Sz D B) :
    law_plus [encF f, encF g] = .ok (encF (List.zipWith (· + ·) f g)) ∧ FB D (A + B) (List.zipWith (· + ·) f g) := by
  refine ⟨?_, plus_FB s1.d0 hf hg⟩
  · unfold law_plus
    rw [runF_eq (n := 2) rfl]
    have e1 : lcL (gTp (gsC (gN 2) (gsC (gN 3) gsN))) etYes (eCall law_add (eCons (eVar 2) (eCons (eVar 3) eNil))) (pairW (f.map enc) (g.map enc)) [some (encF f), some (encF g), none, none] none = .ok ((List.zipWith (· + ·) f g).map enc) none := by
      rw [zip_eq, ← map_zip]
      refine lc_map _ _ _ fun p hp => ⟨[some (encF f), some (encF g), some (enc p.1), some (enc p.2)], by simp, ?_⟩
      obtain ⟨h1, h2⟩ := zip_mem hp
      simp [law_add_spec (s1.ok (hf _ h1)) (s2.ok (hg _ h2))]
    have fw : few1M (pairW (f.map enc) (g.map enc)) = true := few_1M (by rw [zip_eq]; simp; omega)
    simp only [encF] at e1 ⊢
    simp [fw, wipeW, e1]
end G

end

section
namespace G
open PySem Ev
theorem forms_add_spec {f g : List Rat} {D A B : Nat} (hf : FB D A f) (hg : FB D B g) (hl : f.length = g.length) (h25 : f.length ≤ 100) (s1 : Sz D A) (s2 : Sz D B) :
    forms_add [encF f, encF g] = .ok (encF (List.zipWith (· + ·) f g)) ∧ FB D (A + B) (List.zipWith (· + ·) f g) := by
  refine ⟨?_, plus_FB s1.d0 hf hg⟩
  unfold forms_add
  rw [runF_eq (n := 2) rfl]
  have e1 : lcL (gTp (gsC (gN 2) (gsC (gN 3) gsN))) etYes (eCall ratios_add (eCons (eVar 2) (eCons (eVar 3) eNil))) (pairW (f.map enc) (g.map enc)) [some (encF f), some (encF g), none, none] none = .ok ((List.zipWith (· + ·) f g).map enc) none := by
    rw [zip_eq, ← map_zip]
    refine lc_map _ _ _ fun p hp => ⟨[some (encF f), some (encF g), some (enc p.1), some (enc p.2)], by simp, ?_⟩
    obtain ⟨h1, h2⟩ := zip_mem hp
    simp [ratios_add_spec (s1.ok (hf _ h1)) (s2.ok (hg _ h2))]
  have fw : few1M (pairW (f.map enc) (g.map enc)) = true := few_1M (by rw [zip_eq]; simp; omega)
  have b0 : ((f.length : Int) == (g.length : Int)) = true := by rw [hl]; simp
  simp only [encF] at e1 ⊢
  simp [fw, wipeW, e1, hl]
theorem scale_FB {f : List Rat} {c : Rat} {D A E B : Nat} (hf : FB D A f) (hc : Bd E B c) : FB (E * D) (B * A) (f.map (c * ·)) := fun q hq => by
  obtain ⟨x, hx, rfl⟩ := List.mem_map.mp hq
  exact hc.mul (hf _ hx)
theorem law_scaled_spec {f : List Rat} {c : Rat} {D A E B : Nat} (hf : FB D A f) (hc : Bd E B c) (h25 : f.length ≤ 100) (s1 : Sz D A) (s2 : Sz E B) :
    law_scaled [enc c, encF f] = .ok (encF (f.map (c * ·))) ∧ FB (E * D) (B * A) (f.map (c * ·)) := by
  refine ⟨?_, scale_FB hf hc⟩
  · unfold law_scaled
    rw [runF_eq (n := 2) rfl]
    have e1 : lcL (gN 2) etYes (eCall law_mul (eCons (eVar 0) (eCons (eVar 2) eNil))) (f.map enc) [some (enc c), some (encF f), none] none = .ok (f.map fun q => enc (c * q)) none := by
      refine lc_map _ _ _ fun p hp => ⟨[some (enc c), some (encF f), some (enc p)], by simp, ?_⟩
      simp [law_mul_spec (s2.ok hc) (s1.ok (hf _ hp))]
    have fw : few1M (f.map enc) = true := few_1M (by simp; omega)
    simp only [encF] at e1 ⊢
    simp [fw, wipeW, e1]
theorem forms_scaled_spec {f : List Rat} {c : Rat} {D A E B : Nat} (hf : FB D A f) (hc : Bd E B c) (h25 : f.length ≤ 100) (s1 : Sz D A) (s2 : Sz E B) :
    forms_scaled [enc c, encF f] = .ok (encF (f.map (c * ·))) ∧ FB (E * D) (B * A) (f.map (c * ·)) := by
  refine ⟨?_, scale_FB hf hc⟩
  unfold forms_scaled
  rw [runF_eq (n := 2) rfl]
  have e1 : lcL (gN 2) etYes (eCall ratios_multiply (eCons (eVar 0) (eCons (eVar 2) eNil))) (f.map enc) [some (enc c), some (encF f), none] none = .ok (f.map fun q => enc (c * q)) none := by
    refine lc_map _ _ _ fun p hp => ⟨[some (enc c), some (encF f), some (enc p)], by simp, ?_⟩
    simp [ratios_multiply_spec (s2.ok hc) (s1.ok (hf _ hp))]
  have fw : few1M (f.map enc) = true := few_1M (by simp; omega)
  simp only [encF] at e1 ⊢
  simp [fw, wipeW, e1]
theorem enc_int (i : Int) : enc (i : Rat) = .tuple [.int i, .int 1] := rfl
theorem enc_neg1 : (.tuple [.int (-1), .int 1] : W) = enc (-1) := rfl
theorem Bd.int {D A : Nat} (i : Int) (hD : D ≠ 0) (h : i.natAbs ≤ A) : Bd D A (i : Rat) := by
  refine ⟨i * D, ?_, ?_⟩
  · have := Rat.mkRat_mul_right (n := i) (d := 1) hD
    rw [Nat.one_mul] at this
    rw [this]
    exact (Rat.mkRat_self (i : Rat)).symm
  · rw [Int.natAbs_mul]
    exact Nat.mul_le_mul h (by simp)
theorem Bd.m1 : Bd 1 1 (-1) := by
  have := Bd.int (D := 1) (A := 1) (-1) (by decide) (by decide)
  exact this
/-! ### powers -/
def pw (f : List Rat) : Nat → List Rat
  | 0 => [1]
  | n + 1 => cv (pw f n) f
theorem pw_len {f : List Rat} (hf : 0 < f.length) : ∀ n : Nat, (pw f n).length = n * (f.length - 1) + 1
  | 0 => by simp [pw]
  | n + 1 => by
    unfold pw
    rw [cv_len hf, pw_len hf n, Nat.add_mul]
    omega
theorem Hm_pw (u v : Rat) {f : List Rat} (hf : 0 < f.length) : ∀ n : Nat, Hm (pw f n) u v = Hm f u v ^ n
  | 0 => by
    show Hm [1] u v = _
    rw [Hm_cons, Hm_nil, Rat.pow_zero, List.length_nil, Rat.pow_zero]
    grind
  | n + 1 => by
    show Hm (cv (pw f n) f) u v = _
    rw [Hm_cv u v hf, Hm_pw u v hf n, Rat.pow_succ]
theorem enc1F : (.tuple [.tuple [.int 1, .int 1]] : W) = encF [1] := rfl
theorem FB.one {D A : Nat} (hD : D ≠ 0) (hA : 1 ≤ A) : FB D A [1] := fun q hq => by
  rw [List.mem_singleton.mp hq]
  exact Bd.one hD hA
/-- sizes of powers -/
structure Szp (D A N : Nat) : Prop where
  b : Sz D A
  s : ∀ n, n ≤ N → Sz (D ^ n) ((625 * A) ^ n)
theorem pb1 {D n : Nat} : D ^ n * D = D ^ (n + 1) := by rw [Nat.pow_succ]
theorem pb2 {A n : Nat} : 625 * ((625 * A) ^ n * A) = (625 * A) ^ (n + 1) := by rw [Nat.pow_succ]; grind
end G

end

section
namespace G
open PySem Ev
theorem rng_item {n i : Nat} {w : W} (hw : ((List.range n).map fun i : Nat => (.int (i : Int) : W))[i]? = some w) : i < n ∧ w = .int (i : Int) := by
  rw [List.getElem?_map] at hw
  by_cases hi : i < n
  · refine ⟨hi, ?_⟩
    rw [List.getElem?_range hi] at hw
    simpa using hw.symm
  · rw [List.getElem?_eq_none (by simpa using hi)] at hw; simp at hw
theorem enum_item {f : List Rat} {i : Nat} {w : W} (hw : (f.zipIdx.map fun p => (.tuple [.int (p.2 : Int), enc p.1] : W))[i]? = some w) : i < f.length ∧ w = .tuple [.int (i : Int), enc (f.getD i 0)] := by
  rw [List.getElem?_map, List.getElem?_zipIdx] at hw
  by_cases hi : i < f.length
  · refine ⟨hi, ?_⟩
    rw [List.getElem?_eq_getElem hi] at hw
    simp at hw
    rw [← hw, List.getD_eq_getElem?_getD, List.getElem?_eq_getElem hi]; rfl
  · rw [List.getElem?_eq_none (by omega)] at hw; simp at hw
/-! ### a form changed -/
def cterm (f p q : List Rat) (k : Nat) : List Rat := (cv (pw p (f.length - 1 - k)) (pw q k)).map (f.getD k 0 * ·)
def chgN (f p q : List Rat) : Nat → List Rat
  | 0 => List.replicate f.length 0
  | i + 1 => List.zipWith (· + ·) (chgN f p q i) (cterm f p q i)
def chg (f p q : List Rat) : List Rat := chgN f p q f.length
theorem cterm_len {f p q : List Rat} (hp : p.length = 2) (hq : q.length = 2) {k : Nat} (hk : k < f.length) : (cterm f p q k).length = f.length := by
  unfold cterm
  rw [List.length_map, cv_len (by rw [pw_len (by omega)]; omega), pw_len (by omega), pw_len (by omega), hp, hq]
  omega
theorem chgN_len {f p q : List Rat} (hp : p.length = 2) (hq : q.length = 2) : ∀ i, i ≤ f.length → (chgN f p q i).length = f.length
  | 0, _ => by unfold chgN; simp
  | i + 1, h => by
    unfold chgN
    rw [List.length_zipWith, chgN_len hp hq i (by omega), cterm_len hp hq (by omega), Nat.min_self]
theorem chg_len {f p q : List Rat} (hp : p.length = 2) (hq : q.length = 2) : (chg f p q).length = f.length := chgN_len hp hq _ (Nat.le_refl _)
theorem Hm_cterm {f p q : List Rat} (hp : p.length = 2) (hq : q.length = 2) {k : Nat} (u v : Rat) : Hm (cterm f p q k) u v = tm f (Hm p u v) (Hm q u v) k := by
  unfold cterm tm
  rw [Hm_scale, Hm_cv u v (by rw [pw_len (by omega)]; omega), Hm_pw u v (by omega), Hm_pw u v (by omega)]
  grind
theorem Hm_chg {f p q : List Rat} (hp : p.length = 2) (hq : q.length = 2) (u v : Rat) : Hm (chg f p q) u v = Hm f (Hm p u v) (Hm q u v) := by
  have : ∀ i, i ≤ f.length → Hm (chgN f p q i) u v = Sg i (tm f (Hm p u v) (Hm q u v)) := by
    intro i
    induction i with
    | zero => intro _; show Hm (List.replicate _ _) u v = _; rw [Hm_zero]; rfl
    | succ i ih =>
      intro h
      show Hm (List.zipWith _ _ _) u v = _
      rw [Hm_add u v (by rw [chgN_len hp hq i (by omega), cterm_len hp hq (by omega)]), ih (by omega), Hm_cterm hp hq, Sg_succ]
  rw [Hm_sum _ _ f]
  exact this _ (Nat.le_refl _)
theorem pow_split {D n k : Nat} (h : k ≤ n) : D ^ (n - k) * D ^ k = D ^ n := by
  rw [← Nat.pow_add]; congr 1; omega
theorem Szp.of {D A N : Nat} (hD : 1 ≤ D) (hA : 1 ≤ A) (h1 : D ^ N < 2 ^ 1900) (h2 : (625 * A) ^ N < 2 ^ 1900) (h3 : D < 2 ^ 1900) (h4 : A < 2 ^ 1900) : Szp D A N := by
  refine ⟨⟨by omega, h3, h4⟩, fun n hn => ⟨?_, Nat.lt_of_le_of_lt (Nat.pow_le_pow_right (by omega) hn) h1, Nat.lt_of_le_of_lt (Nat.pow_le_pow_right (by omega) hn) h2⟩⟩
  have : 0 < D ^ n := Nat.pow_pos (by omega)
  omega
theorem Szp.le {D A N M : Nat} (s : Szp D A N) (h : M ≤ N) : Szp D A M := ⟨s.b, fun n hn => s.s n (by omega)⟩
/-- sizes for a change -/
structure Szc (Df Af D A n : Nat) : Prop where
  p : Szp D A n
  f : Sz Df Af
  m : Sz (D ^ n) (625 * (625 * A) ^ n)
  r : Sz (Df * D ^ n) ((n + 1) * (Af * (625 * (625 * A) ^ n)))
end G

end

section
namespace G
open PySem Ev
theorem wBs_map {α : Type} (p : α → Bool) : ∀ xs : List α, wBs (xs.map fun x => (.bool (p x) : W)) = some (xs.map p)
  | [] => rfl
  | x :: xs => by
    rw [List.map_cons, List.map_cons]
    show (wBs (xs.map fun x => (.bool (p x) : W))).map (p x :: ·) = _
    rw [wBs_map p xs]
    rfl
theorem gAll_map {α : Type} (p : α → Bool) (xs : List α) : gAll [.list (xs.map fun x => (.bool (p x) : W))] = some (.bool (xs.all p)) := by
  show (wBs (xs.map fun x => (.bool (p x) : W))).map (fun bs => PyData.bool (bs.all id)) = _
  rw [wBs_map]
  simp [List.all_map, Function.comp_def]
theorem gAny_map {α : Type} (p : α → Bool) (xs : List α) : gAny [.list (xs.map fun x => (.bool (p x) : W))] = some (.bool (xs.any p)) := by
  show (wBs (xs.map fun x => (.bool (p x) : W))).map (fun bs => PyData.bool (bs.any id)) = _
  rw [wBs_map]
  simp [List.any_map, Function.comp_def]
theorem is_integer_int (i : Int) : ratios_is_integer [.int i] = .ok (.bool true) := rfl
theorem is_ratio_spec {x : Rat} (hx : Ok x) : ratios_is_ratio [enc x] = .ok (.bool true) := by
  unfold ratios_is_ratio
  rw [runF_eq (n := 1) rfl]
  have e1 : lcL (gN 1) etYes (eCall ratios_is_integer (eCons (eVar 1) eNil)) ([x.num, (x.den : Int)].map fun i => (.int i : W)) [some (enc x), none] none = .ok ([x.num, (x.den : Int)].map fun i => (.bool true : W)) none :=
    lc_map _ _ _ fun p hp => ⟨[some (enc x), some (.int p)], by simp, by simp [is_integer_int]⟩
  have a1 : gAll [.list ([x.num, (x.den : Int)].map fun i => (.bool true : W))] = some (.bool true) := rfl
  have s1 : wSeq (enc x) = some ([x.num, (x.den : Int)].map fun i => (.int i : W)) := rfl
  have l1 : gLen [enc x] = some (.int 2) := rfl
  have t1 : noDict (enc x) = true := rfl
  have t2 : isIn (tyN (enc x)) "tuple" = true := rfl
  have f1 : few1M ([x.num, (x.den : Int)].map fun i => (.int i : W)) = true := rfl
  rw [then_next (ρ' := [some (enc x), none]) (t' := none) (by
    simp only [s_sIf, s_eOrT, s_eNotT, s_eTest, s_eIsI, s_eBin, s_eCallB, s_eCons, s_eNil, s_eC, s_eVar, s_startW, List.map_cons, List.map_nil, List.length_cons, List.length_nil, List.cons_append, List.nil_append, List.getElem?_cons_zero, s_bind_ok, t1, t2, if_true, s_rOf_some, s_wB, Bool.not_true, Bool.false_eq_true, if_false, l1, s_wNe_int]
    have e1' := e1
    have a1' := a1
    have s1' := s1
    have f1' := f1
    simp only [List.map_cons, List.map_nil] at e1' a1' s1' f1'
    simp [wipeW, s1', f1', e1', a1'])]
  have g1 : Nat.gcd x.den x.num.natAbs = 1 := by
    rw [Nat.gcd_comm]; exact x.reduced
  have d1 := divisor_spec x.num (x.den : Int) (by simpa using Nat.lt_trans hx.2 (show 2 ^ 4000 < 2 ^ 8000 from Nat.pow_lt_pow_right (by decide) (by decide)))
  have p1 : (0 : Int) < (x.den : Int) := by have := x.den_nz; omega
  simp only [s_sRet, s_eAnd, s_eBin, s_eVar, s_eC, s_eCall, s_eCons, s_eNil, s_bind_ok, List.getElem?_cons_zero, idx0, idx1, s_rOf_some, s_wCmp, p1, decide_true, d1, s_fR_ok, s_wEq_int, Int.natAbs_natCast, g1]
  simp
def isForm25 (f : List Rat) : Prop := 0 < f.length ∧ f.length ≤ 25 ∧ ∀ q ∈ f, Ok q
theorem all_ratio {f : List Rat} {ρ : Sl} (hf : ∀ q ∈ f, Ok q) {ρ' : W → Sl} (i : Nat) (hi : ∀ w, (ρ.set i (some w))[i]? = some (some w)) : lcL (gN i) etYes (eCall ratios_is_ratio (eCons (eVar i) eNil)) (f.map enc) ρ none = .ok (f.map fun _ => (.bool true : W)) none :=
  lc_map _ _ _ fun p hp => ⟨ρ.set i (some (enc p)), by simp, by
    simp only [s_eCall, s_eCons, s_eNil, s_bind_ok, eVar_of none (hi (enc p)), is_ratio_spec (hf p hp), s_fR_ok]⟩
theorem is_form_spec {f : List Rat} (h : isForm25 f) : forms_is_form [encF f] = .ok (.bool true) := by
  obtain ⟨h1, h2, h3⟩ := h
  unfold forms_is_form
  rw [runF_eq (n := 1) rfl]
  have e1 : lcL (gN 1) etYes (eCall ratios_is_ratio (eCons (eVar 1) eNil)) (f.map enc) [some (encF f), none] none = .ok (f.map fun _ => (.bool true : W)) none := all_ratio h3 (ρ' := fun _ => []) 1 fun w => rfl
  have f1 : few1M (f.map enc) = true := few_1M (by simp; omega)
  have a1 := gAll_map (fun _ : Rat => true) f
  have t1 : noDict (encF f) = true := rfl
  have t2 : isIn (tyN (encF f)) "tuple" = true := rfl
  have c1 : (0 : Int) < (f.length : Int) := by omega
  have c2 : (f.length : Int) ≤ 24 + 1 := by omega
  simp only [s_sRet, s_eAnd, s_eIsI, s_eVar, s_startW, List.map_cons, List.map_nil, List.length_cons, List.length_nil, List.cons_append, List.nil_append, List.getElem?_cons_zero, s_bind_ok, t1, t2, if_true, s_eChain, s_eC, s_eCallB, s_eCons, s_eNil, lenF, s_rOf_some, s_wCmp, c1, decide_true, s_eBin, s_wAdd_int, c2]
  simp [wipeW, f1, e1, a1]
theorem check_form_spec {f : List Rat} (h : isForm25 f) : forms_check_form [encF f] = .ok .none := by
  unfold forms_check_form
  rw [runF_eq (n := 1) rfl]
  simp [is_form_spec h]
end G

end

section
namespace G
open PySem Ev
theorem idx_last {ws : List W} {w : W} : wIdx (.list (ws ++ [w])) (.int (-1)) = some w := by
  show L2.atI (ws ++ [w]) (-1) = _
  unfold L2.atI L2.ixN
  rw [List.length_append, List.length_singleton, if_neg (by decide), if_pos (by omega)]
  have : (-1 + ((ws.length + 1 : Nat) : Int)).toNat = ws.length := by omega
  simp only [Option.bind_some, this]
  simp
theorem idx_list {ws : List W} {k : Nat} {w : W} (h : ws[k]? = some w) : wIdx (.list ws) (.int (k : Int)) = some w := by
  show L2.atI ws (k : Int) = _
  unfold L2.atI
  rw [ixN_nat (get_lt h)]
  exact h
def PL (p : List Rat) (i : Nat) : List W := (List.range (i + 1)).map fun k => encF (pw p k)
theorem PL_succ (p : List Rat) (i : Nat) : PL p (i + 1) = PL p i ++ [encF (pw p (i + 1))] := by
  unfold PL
  rw [List.range_succ, List.map_append]
  rfl
theorem PL_last (p : List Rat) (i : Nat) : wIdx (.list (PL p i)) (.int (-1)) = some (encF (pw p i)) := by
  unfold PL
  rw [List.range_succ, List.map_append]
  exact idx_last
theorem PL_get (p : List Rat) {i k : Nat} (h : k ≤ i) : wIdx (.list (PL p i)) (.int (k : Int)) = some (encF (pw p k)) := by
  refine idx_list ?_
  unfold PL
  rw [List.getElem?_map, List.getElem?_range (by omega)]
  rfl
theorem PL_len (p : List Rat) (i : Nat) : (PL p i).length = i + 1 := by unfold PL; simp
theorem zip_zero : ∀ {l m : List Rat}, l.length = m.length → List.zipWith (· + ·) l (m.map (0 * ·)) = l
  | [], [], _ => rfl
  | [], _ :: _, h => by simp at h
  | _ :: _, [], h => by simp at h
  | a :: l, b :: m, h => by
    rw [List.map_cons, List.zipWith_cons_cons, zip_zero (by simpa using h)]
    congr 1
    grind
theorem FB.okAll {D A : Nat} {f : List Rat} (s : Sz D A) (h : FB D A f) : ∀ q ∈ f, Ok q := fun q hq => s.ok (h q hq)
theorem rep1 (n : Nat) (h : n ≤ 1000) : wMul (.tuple [.tuple [.int 0, .int 1]]) (.int (n : Int)) = some (encF (List.replicate n 0)) := by
  show (if (-1000 ≤ (n : Int) ∧ (n : Int) ≤ 1000) ∧ 1 ≤ 1000 then some (PyData.tuple (List.replicate (n : Int).toNat [enc 0]).flatten) else none) = _
  rw [if_pos (by omega)]
  unfold encF
  rw [← rep_map]
  congr 2
  simp only [Int.toNat_natCast]
  induction n with
  | zero => rfl
  | succ k ih => rw [List.replicate_succ, List.flatten_cons, ih (by omega), List.replicate_succ]; rfl
end G

end

section
namespace G
open PySem Ev
/-- sizes of a change -/
structure C4 (D A : Nat) (a b c d : Rat) : Prop where
  s : Sz D A
  s2 : Sz (D * D) (A * A)
  a : Bd D A a
  b : Bd D A b
  c : Bd D A c
  d : Bd D A d
/-! ### slopes -/
def sx (f : List Rat) : List Rat := if f.length = 1 then [0] else (List.range (f.length - 1)).map fun k => (((f.length - 1 - k : Nat) : Int) : Rat) * f.getD k 0
def sy (f : List Rat) : List Rat := if f.length = 1 then [0] else (List.range (f.length - 1)).map fun k => (((k + 1 : Nat) : Int) : Rat) * f.getD (k + 1) 0
theorem enum_range {f : List Rat} : (f.zipIdx.map fun p => (.tuple [.int (p.2 : Int), enc p.1] : W)) = (List.range f.length).map fun k : Nat => .tuple [.int (k : Int), enc (f.getD k 0)] := by
  apply List.ext_getElem?
  intro i
  by_cases h : i < f.length
  · simp [List.getElem?_zipIdx, h]
  · rw [List.getElem?_eq_none (by simp; omega), List.getElem?_eq_none (by simp; omega)]
theorem cut_last (ws : List W) : wSlice none (some (-1)) (.tuple ws) = some (.tuple ws.dropLast) := by
  show some (PyData.tuple ((ws.drop 0).take ((-1 + (ws.length : Int)).toNat - 0))) = _
  rw [List.dropLast_eq_take]
  have : (-1 + (ws.length : Int)).toNat - 0 = ws.length - 1 := by omega
  rw [this, List.drop_zero]
theorem cut_first (ws : List W) : wSlice (some 1) none (.tuple ws) = some (.tuple (ws.drop 1)) := by
  show some (PyData.tuple ((ws.drop (min 1 ws.length)).take (ws.length - min 1 ws.length))) = _
  congr 2
  by_cases h : ws.length = 0
  · have : ws = [] := List.eq_nil_of_length_eq_zero h
    subst this; rfl
  · have e : min 1 ws.length = 1 := by omega
    rw [e]
    exact List.take_of_length_le (by simp)
theorem getD_dropLast {f : List Rat} {k : Nat} (h : k < f.length - 1) : f.dropLast.getD k 0 = f.getD k 0 := by
  simp only [List.getD_eq_getElem?_getD]
  rw [List.getElem?_dropLast, if_pos h]
theorem getD_drop1 {f : List Rat} {k : Nat} : (f.drop 1).getD k 0 = f.getD (k + 1) 0 := by
  simp only [List.getD_eq_getElem?_getD]
  rw [List.getElem?_drop, Nat.add_comm]
theorem nat_ok {n D A : Nat} (h : n ≤ 100) : Ok (((n : Nat) : Int) : Rat) := by
  refine ⟨?_, ?_⟩
  · show n < 2 ^ 4000
    exact Nat.lt_of_le_of_lt h (by decide)
  · show 1 < 2 ^ 4000
    decide
theorem sx_len {f : List Rat} (h : 0 < f.length) : (sx f).length = max 1 (f.length - 1) := by
  unfold sx
  split
  · rename_i c; simp [c]
  · simp; omega
theorem sy_len {f : List Rat} (h : 0 < f.length) : (sy f).length = max 1 (f.length - 1) := by
  unfold sy
  split
  · rename_i c; simp [c]
  · simp; omega
theorem FB.zero1 {D A : Nat} : FB D A [0] := fun q hq => by rw [List.mem_singleton.mp hq]; exact Bd.zero
theorem sx_FB {f : List Rat} {D A N : Nat} (hf : FB D A f) (hN : f.length ≤ N) : FB D (N * A) (sx f) := by
  unfold sx
  split
  · exact FB.zero1
  · intro q hq
    obtain ⟨k, hk, rfl⟩ := List.mem_map.mp hq
    have := (Bd.int (D := 1) (A := N) ((f.length - 1 - k : Nat) : Int) (by decide) (by simp; omega)).mul (hf.get k)
    rw [Nat.one_mul] at this
    exact this
theorem sy_FB {f : List Rat} {D A N : Nat} (hf : FB D A f) (hN : f.length ≤ N) : FB D (N * A) (sy f) := by
  unfold sy
  split
  · exact FB.zero1
  · intro q hq
    obtain ⟨k, hk, rfl⟩ := List.mem_map.mp hq
    have hk := List.mem_range.mp hk
    have := (Bd.int (D := 1) (A := N) ((k + 1 : Nat) : Int) (by decide) (by simp; omega)).mul (hf.get (k + 1))
    rw [Nat.one_mul] at this
    exact this
theorem fw2 (a b : W) : few1000 [a, b] = true := rfl
theorem zero1 : (.tuple [.tuple [.int 0, .int 1]] : W) = encF [0] := rfl
theorem slope_x_spec {f : List Rat} {D A : Nat} (hf : FB D A f) (s : Sz D A) (h0 : 0 < f.length) (hl : f.length ≤ 100) : forms_slope_x [encF f] = .ok (encF (sx f)) := by
  unfold forms_slope_x
  rw [runF_eq (n := 1) rfl]
  have m1 : (f.length : Int) - 1 = ((f.length - 1 : Nat) : Int) := by omega
  rw [then_next (ρ' := [some (encF f), some (.int ((f.length - 1 : Nat) : Int)), none, none]) (t' := none) (by simp [m1])]
  by_cases c : f.length = 1
  · rw [then_ret (w := encF (sx f)) (t' := none) (by simp [c, sx, zero1])]
    rfl
  · have c' : ¬ (((f.length - 1 : Nat) : Int) = 0) := by omega
    rw [then_next (ρ' := [some (encF f), some (.int ((f.length - 1 : Nat) : Int)), none, none]) (t' := none) (by simp [c'] <;> omega)]
    have e1 : lcL (gTp (gsC (gN 2) (gsC (gN 3) gsN))) etYes (eCall ratios_multiply (eCons (eTup (eCons (eBin wSub (eVar 1) (eVar 2)) (eCons (eC (.int (1))) eNil))) (eCons (eVar 3) eNil))) ((List.range (f.length - 1)).map fun k : Nat => (.tuple [.int (k : Int), enc (f.getD k 0)] : W)) [some (encF f), some (.int ((f.length - 1 : Nat) : Int)), none, none] none = .ok ((List.range (f.length - 1)).map fun k => enc ((((f.length - 1 - k : Nat) : Int) : Rat) * f.getD k 0)) none := by
      refine lc_map _ _ _ fun k hk => ⟨[some (encF f), some (.int ((f.length - 1 : Nat) : Int)), some (.int (k : Int)), some (enc (f.getD k 0))], by simp, ?_⟩
      have hk := List.mem_range.mp hk
      have sub1 : ((f.length - 1 : Nat) : Int) - (k : Int) = ((f.length - 1 - k : Nat) : Int) := by omega
      have := ratios_multiply_spec (x := (((f.length - 1 - k : Nat) : Int) : Rat)) (nat_ok (D := 1) (A := 1) (by omega)) (s.ok (hf.get k))
      rw [enc_int] at this
      simp only [s_eCall, s_eCons, s_eNil, s_eTup, s_eBin, s_eVar, s_eC, s_bind_ok, List.getElem?_cons_succ, List.getElem?_cons_zero, s_wSub_int, s_rOf_some, sub1, fw2, if_true, this, s_fR_ok]
    have it : pairW (rngW 0 1 ((f.map enc).dropLast).length) ((f.map enc).dropLast) = (List.range (f.length - 1)).map fun k : Nat => (.tuple [.int (k : Int), enc (f.getD k 0)] : W) := by
      rw [← List.map_dropLast, List.length_map, enum_eq, enum_range, List.length_dropLast]
      refine List.map_congr_left fun k hk => ?_
      rw [getD_dropLast (List.mem_range.mp hk)]
    have f1 : few1M ((List.range (f.length - 1)).map fun k : Nat => (.tuple [.int (k : Int), enc (f.getD k 0)] : W)) = true := few_1M (by simp; omega)
    have cl : wSlice none (some (-1)) (encF f) = some (.tuple (f.map enc).dropLast) := cut_last _
    have e2 : sx f = (List.range (f.length - 1)).map fun k => (((f.length - 1 - k : Nat) : Int) : Rat) * f.getD k 0 := if_neg c
    simp only [s_sRet, s_eCallB, s_eCons, s_eNil, s_eLc, s_sEnum, s_eSlice, s_eVar, s_oNone, s_oSome, s_eUn, s_eC, s_bind_ok, List.getElem?_cons_zero, s_wNeg_int, s_rOf_some, wI, cl, s_wSeq_t, it, f1, if_true, wipeW, List.set_cons_succ, List.set_cons_zero, e1, s_noexc, s_gTuple_l, s_toS_ok, s_endF_ret, e2]
    unfold encF
    rw [List.map_map]
    rfl
theorem slope_y_spec {f : List Rat} {D A : Nat} (hf : FB D A f) (s : Sz D A) (h0 : 0 < f.length) (hl : f.length ≤ 100) : forms_slope_y [encF f] = .ok (encF (sy f)) := by
  unfold forms_slope_y
  rw [runF_eq (n := 1) rfl]
  by_cases c : f.length = 1
  · rw [then_ret (w := encF (sy f)) (t' := none) (by simp [c, sy, zero1])]
    rfl
  · have c' : ¬ ((f.length : Int) = 1) := by omega
    rw [then_next (ρ' := [some (encF f), none, none]) (t' := none) (by simp [c'] <;> omega)]
    have e1 : lcL (gTp (gsC (gN 1) (gsC (gN 2) gsN))) etYes (eCall ratios_multiply (eCons (eTup (eCons (eBin wAdd (eVar 1) (eC (.int (1)))) (eCons (eC (.int (1))) eNil))) (eCons (eVar 2) eNil))) ((List.range (f.length - 1)).map fun k : Nat => (.tuple [.int (k : Int), enc (f.getD (k + 1) 0)] : W)) [some (encF f), none, none] none = .ok ((List.range (f.length - 1)).map fun k => enc ((((k + 1 : Nat) : Int) : Rat) * f.getD (k + 1) 0)) none := by
      refine lc_map _ _ _ fun k hk => ⟨[some (encF f), some (.int (k : Int)), some (enc (f.getD (k + 1) 0))], by simp, ?_⟩
      have hk := List.mem_range.mp hk
      have sub1 : (k : Int) + 1 = ((k + 1 : Nat) : Int) := by omega
      have := ratios_multiply_spec (x := (((k + 1 : Nat) : Int) : Rat)) (nat_ok (D := 1) (A := 1) (by omega)) (s.ok (hf.get (k + 1)))
      rw [enc_int] at this
      simp only [s_eCall, s_eCons, s_eNil, s_eTup, s_eBin, s_eVar, s_eC, s_bind_ok, List.getElem?_cons_succ, List.getElem?_cons_zero, s_wAdd_int, s_rOf_some, sub1, fw2, if_true, this, s_fR_ok]
    have it : pairW (rngW 0 1 ((f.map enc).drop 1).length) ((f.map enc).drop 1) = (List.range (f.length - 1)).map fun k : Nat => (.tuple [.int (k : Int), enc (f.getD (k + 1) 0)] : W) := by
      rw [← List.map_drop, List.length_map, enum_eq, enum_range, List.length_drop]
      refine List.map_congr_left fun k hk => ?_
      rw [getD_drop1]
    have f1 : few1M ((List.range (f.length - 1)).map fun k : Nat => (.tuple [.int (k : Int), enc (f.getD (k + 1) 0)] : W)) = true := few_1M (by simp; omega)
    have cl : wSlice (some 1) none (encF f) = some (.tuple ((f.map enc).drop 1)) := cut_first _
    have e2 : sy f = (List.range (f.length - 1)).map fun k => (((k + 1 : Nat) : Int) : Rat) * f.getD (k + 1) 0 := if_neg c
    simp only [s_sRet, s_eCallB, s_eCons, s_eNil, s_eLc, s_sEnum, s_eSlice, s_eVar, s_oNone, s_oSome, s_eC, s_bind_ok, List.getElem?_cons_zero, s_rOf_some, wI, cl, s_wSeq_t, it, f1, if_true, wipeW, List.set_cons_succ, List.set_cons_zero, e1, s_noexc, s_gTuple_l, s_toS_ok, s_endF_ret, e2]
    unfold encF
    rw [List.map_map]
    rfl
def sl (bx : Bool) (f : List Rat) : List Rat := if bx = true then sx f else sy f
theorem law_slope_spec {f : List Rat} {D A : Nat} (bx : Bool) (hf : FB D A f) (s : Sz D A) (h0 : 0 < f.length) (hl : f.length ≤ 100) : law_slope [encF f, .bool bx] = .ok (encF (sl bx f)) := by
  unfold law_slope
  rw [runF_eq (n := 2) rfl]
  have m1 : (f.length : Int) - 1 = ((f.length - 1 : Nat) : Int) := by omega
  rw [then_next (ρ' := [some (encF f), some (.bool bx), some (.int ((f.length - 1 : Nat) : Int)), none]) (t' := none) (by simp [m1])]
  by_cases c : f.length = 1
  · rw [then_ret (w := encF (sl bx f)) (t' := none) (by cases bx <;> simp [c, sl, sx, sy, zero1])]
    rfl
  · have c' : ¬ (((f.length - 1 : Nat) : Int) = 0) := by omega
    rw [then_next (ρ' := [some (encF f), some (.bool bx), some (.int ((f.length - 1 : Nat) : Int)), none]) (t' := none) (by simp [c'] <;> omega)]
    have f1 : few1M ((List.range (f.length - 1)).map fun k : Nat => (.int (k : Int) : W)) = true := few_1M (by simp; omega)
    have g1 := gRng1_nat (n := f.length - 1) (by omega)
    cases bx with
    | true =>
      have e1 : lcL (gN 3) etYes (eCall law_mul (eCons (eTup (eCons (eBin wSub (eVar 2) (eVar 3)) (eCons (eC (.int (1))) eNil))) (eCons (eBin wIdx (eVar 0) (eVar 3)) eNil))) ((List.range (f.length - 1)).map fun k : Nat => (.int (k : Int) : W)) [some (encF f), some (.bool true), some (.int ((f.length - 1 : Nat) : Int)), none] none = .ok ((List.range (f.length - 1)).map fun k => enc ((((f.length - 1 - k : Nat) : Int) : Rat) * f.getD k 0)) none := by
        refine lc_map _ _ _ fun k hk => ⟨[some (encF f), some (.bool true), some (.int ((f.length - 1 : Nat) : Int)), some (.int (k : Int))], by simp, ?_⟩
        have hk := List.mem_range.mp hk
        have sub1 : ((f.length - 1 : Nat) : Int) - (k : Int) = ((f.length - 1 - k : Nat) : Int) := by omega
        have := law_mul_spec (x := (((f.length - 1 - k : Nat) : Int) : Rat)) (nat_ok (D := 1) (A := 1) (by omega)) (s.ok (hf.get k))
        rw [enc_int] at this
        simp only [s_eCall, s_eCons, s_eNil, s_eTup, s_eBin, s_eVar, s_eC, s_bind_ok, List.getElem?_cons_succ, List.getElem?_cons_zero, s_wSub_int, s_rOf_some, sub1, fw2, if_true, idxF (show k < f.length by omega), this, s_fR_ok]
      have e2 : sl true f = (List.range (f.length - 1)).map fun k => (((f.length - 1 - k : Nat) : Int) : Rat) * f.getD k 0 := if_neg c
      rw [then_ret (w := encF (sl true f)) (t' := none) (by
        simp only [s_sIf, s_eTest, s_sRet, s_eCallB, s_eCons, s_eNil, s_eLc, s_sRng, s_eVar, s_bind_ok, List.getElem?_cons_zero, List.getElem?_cons_succ, s_rOf_some, s_wB, g1, f1, if_true, wipeW, List.set_cons_succ, List.set_cons_zero, e1, s_noexc, s_gTuple_l, s_toS_ok, e2]
        unfold encF
        rw [List.map_map]
        rfl)]
      rfl
    | false =>
      have e1 : lcL (gN 3) etYes (eCall law_mul (eCons (eTup (eCons (eBin wAdd (eVar 3) (eC (.int (1)))) (eCons (eC (.int (1))) eNil))) (eCons (eBin wIdx (eVar 0) (eBin wAdd (eVar 3) (eC (.int (1))))) eNil))) ((List.range (f.length - 1)).map fun k : Nat => (.int (k : Int) : W)) [some (encF f), some (.bool false), some (.int ((f.length - 1 : Nat) : Int)), none] none = .ok ((List.range (f.length - 1)).map fun k => enc ((((k + 1 : Nat) : Int) : Rat) * f.getD (k + 1) 0)) none := by
        refine lc_map _ _ _ fun k hk => ⟨[some (encF f), some (.bool false), some (.int ((f.length - 1 : Nat) : Int)), some (.int (k : Int))], by simp, ?_⟩
        have hk := List.mem_range.mp hk
        have sub1 : (k : Int) + 1 = ((k + 1 : Nat) : Int) := by omega
        have := law_mul_spec (x := (((k + 1 : Nat) : Int) : Rat)) (nat_ok (D := 1) (A := 1) (by omega)) (s.ok (hf.get (k + 1)))
        rw [enc_int] at this
        simp only [s_eCall, s_eCons, s_eNil, s_eTup, s_eBin, s_eVar, s_eC, s_bind_ok, List.getElem?_cons_succ, List.getElem?_cons_zero, s_wAdd_int, s_rOf_some, sub1, fw2, if_true, idxF (show k + 1 < f.length by omega), this, s_fR_ok]
      have e2 : sl false f = (List.range (f.length - 1)).map fun k => (((k + 1 : Nat) : Int) : Rat) * f.getD (k + 1) 0 := if_neg c
      rw [then_next (ρ' := [some (encF f), some (.bool false), some (.int ((f.length - 1 : Nat) : Int)), none]) (t' := none) (by simp)]
      simp only [s_sRet, s_eCallB, s_eCons, s_eNil, s_eLc, s_sRng, s_eVar, s_bind_ok, List.getElem?_cons_zero, List.getElem?_cons_succ, s_rOf_some, g1, f1, if_true, wipeW, List.set_cons_succ, List.set_cons_zero, e1, s_noexc, s_gTuple_l, s_toS_ok, s_endF_ret, e2]
      unfold encF
      rw [List.map_map]
      rfl
end G

end

section
namespace G
open PySem Ev
def itr (g : List Rat → List Rat) : Nat → List Rat → List Rat
  | 0, f => f
  | n + 1, f => g (itr g n f)
theorem itr_sx {f : List Rat} {D A : Nat} (hf : FB D A f) (h0 : 0 < f.length) (hl : f.length ≤ 25) : ∀ n, FB D (25 ^ n * A) (itr sx n f) ∧ 0 < (itr sx n f).length ∧ (itr sx n f).length ≤ 25
  | 0 => by simpa [itr] using ⟨hf, h0, hl⟩
  | n + 1 => by
    obtain ⟨h1, h2, h3⟩ := itr_sx hf h0 hl n
    have l := sx_len h2
    refine ⟨?_, by show 0 < (sx _).length; omega, by show (sx _).length ≤ 25; omega⟩
    have := sx_FB h1 h3
    rw [← Nat.mul_assoc, Nat.mul_comm 25, ← Nat.pow_succ] at this
    exact this
theorem itr_sy {f : List Rat} {D A : Nat} (hf : FB D A f) (h0 : 0 < f.length) (hl : f.length ≤ 25) : ∀ n, FB D (25 ^ n * A) (itr sy n f) ∧ 0 < (itr sy n f).length ∧ (itr sy n f).length ≤ 25
  | 0 => by simpa [itr] using ⟨hf, h0, hl⟩
  | n + 1 => by
    obtain ⟨h1, h2, h3⟩ := itr_sy hf h0 hl n
    have l := sy_len h2
    refine ⟨?_, by show 0 < (sy _).length; omega, by show (sy _).length ≤ 25; omega⟩
    have := sy_FB h1 h3
    rw [← Nat.mul_assoc, Nat.mul_comm 25, ← Nat.pow_succ] at this
    exact this
theorem slopes_spec {f : List Rat} {D A x y : Nat} (hf : FB D A f) (h0 : 0 < f.length) (hl : f.length ≤ 25) (hx : x ≤ 100) (hy : y ≤ 100) (s : Sz D (25 ^ y * (25 ^ x * A))) : forms_slopes [encF f, .int (x : Int), .int (y : Int)] = .ok (encF (itr sy y (itr sx x f))) := by
  have sX : ∀ i, i ≤ x → Sz D (25 ^ i * A) := fun i hi => s.le (Nat.le_trans (Nat.mul_le_mul_right A (Nat.pow_le_pow_right (by decide) hi)) (Nat.le_mul_of_pos_left _ (Nat.pow_pos (by decide))))
  have sY : ∀ i, i ≤ y → Sz D (25 ^ i * (25 ^ x * A)) := fun i hi => s.le (Nat.mul_le_mul_right _ (Nat.pow_le_pow_right (by decide) hi))
  unfold forms_slopes
  rw [runF_eq (n := 3) rfl]
  obtain ⟨ρ1, e1, a3, rfl⟩ := sfor_pred (t := none) (src := sRng gRng1 (eCons (eVar 1) eNil)) (g := gN 3) (items := (List.range x).map fun i : Nat => (.int (i : Int) : W)) (body := sSet 0 (eCall forms_slope_x (eCons (eVar 0) eNil)))
    (fun i ρ => ∃ a3 : Option W, ρ = [some (encF (itr sx i f)), some (.int (x : Int)), some (.int (y : Int)), a3]) [some (encF f), some (.int (x : Int)), some (.int (y : Int)), none] (by simp [gRng1_nat (show x ≤ 1000 by omega)]) ⟨none, rfl⟩
    fun i w ρ hw ⟨a3, e⟩ => by
      subst e
      obtain ⟨hi, rfl⟩ := rng_item hw
      obtain ⟨g1, g2, g3⟩ := itr_sx hf h0 hl i
      refine ⟨[some (encF (itr sx i f)), some (.int (x : Int)), some (.int (y : Int)), some (.int (i : Int))], [some (encF (itr sx (i + 1) f)), some (.int (x : Int)), some (.int (y : Int)), some (.int (i : Int))], by simp, ?_, _, rfl⟩
      simp [slope_x_spec g1 (sX i (by omega)) g2 (by omega)]
      rfl
  rw [List.length_map, List.length_range] at e1
  rw [show startW 4 [encF f, .int (x : Int), .int (y : Int)] = [some (encF f), some (.int (x : Int)), some (.int (y : Int)), none] from rfl, then_next e1]
  obtain ⟨h1, h2, h3⟩ := itr_sx hf h0 hl x
  obtain ⟨ρ2, e2, a3', rfl⟩ := sfor_pred (t := none) (src := sRng gRng1 (eCons (eVar 2) eNil)) (g := gN 3) (items := (List.range y).map fun i : Nat => (.int (i : Int) : W)) (body := sSet 0 (eCall forms_slope_y (eCons (eVar 0) eNil)))
    (fun i ρ => ∃ a3 : Option W, ρ = [some (encF (itr sy i (itr sx x f))), some (.int (x : Int)), some (.int (y : Int)), a3]) [some (encF (itr sx x f)), some (.int (x : Int)), some (.int (y : Int)), a3] (by simp [gRng1_nat (show y ≤ 1000 by omega)]) ⟨a3, rfl⟩
    fun i w ρ hw ⟨a3, e⟩ => by
      subst e
      obtain ⟨hi, rfl⟩ := rng_item hw
      obtain ⟨g1, g2, g3⟩ := itr_sy h1 h2 h3 i
      refine ⟨[some (encF (itr sy i (itr sx x f))), some (.int (x : Int)), some (.int (y : Int)), some (.int (i : Int))], [some (encF (itr sy (i + 1) (itr sx x f))), some (.int (x : Int)), some (.int (y : Int)), some (.int (i : Int))], by simp, ?_, _, rfl⟩
      simp [slope_y_spec g1 (sY i (by omega)) g2 (by omega)]
      rfl
  rw [List.length_map, List.length_range] at e2
  rw [then_next e2]
  simp
/-! ### powers of fractions -/
theorem fmod2 (e : Nat) : (e : Int).fmod 2 = ((e % 2 : Nat) : Int) := by
  rw [Int.fmod_eq_emod_of_nonneg _ (by decide)]
  omega
theorem fdiv2 (e : Nat) : (e : Int).fdiv 2 = ((e / 2 : Nat) : Int) := by
  rw [Int.fdiv_eq_ediv_of_nonneg _ (by decide)]
  omega
theorem wMod2 (e : Nat) : wMod (.int (e : Int)) (.int 2) = some (.int ((e % 2 : Nat) : Int)) := by
  show (if (2 : Int) ≠ 0 then some (PyData.int ((e : Int).fmod 2)) else none) = _
  rw [if_pos (by decide), fmod2]
theorem wFdiv2 (e : Nat) : wFdiv (.int (e : Int)) (.int 2) = some (.int ((e / 2 : Nat) : Int)) := by
  rw [wFdiv_of (divOk_of (by decide) (by decide)), fdiv2]
theorem sq_pow (y : Rat) (j : Nat) : (y * y) ^ j = y ^ (2 * j) := by
  induction j with
  | zero => simp [Rat.pow_zero]
  | succ j ih => rw [Rat.pow_succ, ih, show 2 * (j + 1) = 2 * j + 1 + 1 by omega, Rat.pow_succ, Rat.pow_succ]; grind
abbrev powTest : Et := eTest (eBin wGt (eVar 1) (eC (.int (0))))
abbrev powStep : Sv := sThen (sIf (eTest (eBin wEq (eBin wMod (eVar 1) (eC (.int (2)))) (eC (.int (1))))) (sSet 2 (eCall ratios_multiply (eCons (eVar 2) (eCons (eVar 0) eNil)))) sNext) (sThen (sSet 0 (eCall ratios_multiply (eCons (eVar 0) (eCons (eVar 0) eNil)))) (sAug wFdiv 1 (eC (.int (2)))))
theorem pow_loop : ∀ (k m e : Nat) (y z : Rat), e < 2 ^ k → k + 1 ≤ m → (∀ j, j ≤ 2 * e → Ok (y ^ j)) → (∀ j, j ≤ e → Ok (z * y ^ j)) →
    ∃ y', whL powTest powStep m [some (enc y), some (.int (e : Int)), some (enc z)] none = .next [some (enc y'), some (.int 0), some (enc (z * y ^ e))] none := by
  intro k
  induction k with
  | zero =>
    intro m e y z he hm _ _
    obtain ⟨m, rfl⟩ : ∃ n, m = n + 1 := ⟨m - 1, by omega⟩
    have : e = 0 := by omega
    subst this
    refine ⟨y, ?_⟩
    rw [wh_end (t' := none) (by simp), Rat.pow_zero]
    have : z * 1 = z := by grind
    rw [this]
    rfl
  | succ k ih =>
    intro m e y z he hm hy hz
    obtain ⟨m, rfl⟩ : ∃ n, m = n + 1 := ⟨m - 1, by omega⟩
    by_cases e0 : e = 0
    · subst e0
      refine ⟨y, ?_⟩
      rw [wh_end (t' := none) (by simp), Rat.pow_zero]
      have : z * 1 = z := by grind
      rw [this]
      rfl
    · have oy : Ok y := by
        have := hy 1 (by omega)
        rwa [show (1 : Nat) = 0 + 1 from rfl, Rat.pow_succ, Rat.pow_zero, show (1 : Rat) * y = y by grind] at this
      have oz : Ok z := by
        have := hz 0 (by omega)
        rwa [Rat.pow_zero, show z * 1 = z by grind] at this
      have ozy : Ok (z * y) := by
        have := hz 1 (by omega)
        rwa [show (1 : Nat) = 0 + 1 from rfl, Rat.pow_succ, Rat.pow_zero, show (1 : Rat) * y = y by grind] at this
      have t1 : powTest [some (enc y), some (.int (e : Int)), some (enc z)] none = .ok true none := by
        have : 0 < e := by omega
        simp [this]
      have s1 : powStep [some (enc y), some (.int (e : Int)), some (enc z)] none = .next [some (enc (y * y)), some (.int ((e / 2 : Nat) : Int)), some (enc (z * y ^ (e % 2)))] none := by
        unfold powStep
        rcases Nat.mod_two_eq_zero_or_one e with c | c
        · rw [then_next (ρ' := [some (enc y), some (.int (e : Int)), some (enc (z * y ^ (e % 2)))]) (t' := none) (by
            rw [c, Rat.pow_zero, show z * 1 = z by grind]
            simp [wMod2, c])]
          simp only [s_then, s_sSet, s_eCall, s_eCons, s_eNil, s_eVar, s_bind_ok, List.getElem?_cons_zero, List.getElem?_cons_succ, ratios_multiply_spec oy oy, s_fR_ok, s_toS_ok, s_sAug, s_eC, List.set_cons_zero, wFdiv2, List.set_cons_succ]
        · rw [then_next (ρ' := [some (enc y), some (.int (e : Int)), some (enc (z * y ^ (e % 2)))]) (t' := none) (by
            rw [c, show (1 : Nat) = 0 + 1 from rfl, Rat.pow_succ, Rat.pow_zero, show (1 : Rat) * y = y by grind]
            simp [wMod2, c, ratios_multiply_spec oz oy])]
          simp only [s_then, s_sSet, s_eCall, s_eCons, s_eNil, s_eVar, s_bind_ok, List.getElem?_cons_zero, List.getElem?_cons_succ, ratios_multiply_spec oy oy, s_fR_ok, s_toS_ok, s_sAug, s_eC, List.set_cons_zero, wFdiv2, List.set_cons_succ]
      rw [wh_more t1 s1]
      have h6 : 2 ^ (k + 1) = 2 * 2 ^ k := by rw [Nat.pow_succ]; omega
      obtain ⟨y', h⟩ := ih m (e / 2) (y * y) (z * y ^ (e % 2)) (by omega) (by omega) (fun j hj => by rw [sq_pow]; exact hy _ (by omega)) (fun j hj => by
        rw [sq_pow]
        have : z * y ^ (e % 2) * y ^ (2 * j) = z * y ^ (e % 2 + 2 * j) := by rw [rpow_add]; grind
        rw [this]
        exact hz _ (by omega))
      refine ⟨y', h.trans ?_⟩
      have : z * y ^ (e % 2) * (y * y) ^ (e / 2) = z * y ^ e := by
        rw [sq_pow]
        have : z * y ^ (e % 2) * y ^ (2 * (e / 2)) = z * y ^ (e % 2 + 2 * (e / 2)) := by rw [rpow_add]; grind
        rw [this]
        congr 2
        omega
      rw [this]
/-! ### values -/
theorem Bd.pow {D A : Nat} {x : Rat} (h : Bd D A x) : ∀ n : Nat, Bd (D ^ n) (A ^ n) (x ^ n)
  | 0 => by
    rw [Rat.pow_zero, Nat.pow_zero, Nat.pow_zero]
    exact Bd.one (by decide) (by decide)
  | n + 1 => by
    rw [Rat.pow_succ, Nat.pow_succ, Nat.pow_succ]
    exact (Bd.pow h n).mul h
/-- sizes for a value -/
structure Szv (Df Af D A n : Nat) : Prop where
  f : Sz Df Af
  b : Sz D A
  p : ∀ k, k ≤ 2 * n → Sz (D ^ k) (A ^ k)
  r : Sz (Df * D ^ n) ((n + 1) * (Af * A ^ n))
end G

end

section
namespace G
open PySem Ev
/-! ### equality -/
theorem lay_map {α : Type} (e : α → W) (d : Nat) : ∀ xs : List α, (∀ x ∈ xs, PyData.canLay0 (e x) = true ∧ PyData.depth (e x) ≤ d) → PyData.canLayAll0 (xs.map e) = true ∧ PyData.depthAll (xs.map e) ≤ d
  | [], _ => ⟨rfl, Nat.zero_le _⟩
  | x :: xs, h => by
    obtain ⟨h1, h2⟩ := lay_map e d xs fun y hy => h y (List.mem_cons_of_mem _ hy)
    obtain ⟨h3, h4⟩ := h x List.mem_cons_self
    refine ⟨?_, ?_⟩
    · show (PyData.canLay0 (e x) && PyData.canLayAll0 (xs.map e)) = true
      rw [h3, h1]; rfl
    · show max (PyData.depth (e x)) (PyData.depthAll (xs.map e)) ≤ d
      omega
theorem shaped_tup {α : Type} {e : α → W} (d : Nat) (hd : d ≤ 60) {xs : List α} (h : ∀ x ∈ xs, PyData.canLay0 (e x) = true ∧ PyData.depth (e x) ≤ d) : SeqAt.shaped (.tuple (xs.map e)) = true := by
  obtain ⟨h1, h2⟩ := lay_map e d xs h
  unfold SeqAt.shaped
  have e1 : PyData.canLay0 (.tuple (xs.map e)) = true := h1
  have e2 : PyData.depth (.tuple (xs.map e)) = PyData.depthAll (xs.map e) + 1 := rfl
  rw [e1, e2]
  simp
  omega
theorem shaped_lst {α : Type} {e : α → W} (d : Nat) (hd : d ≤ 60) {xs : List α} (h : ∀ x ∈ xs, PyData.canLay0 (e x) = true ∧ PyData.depth (e x) ≤ d) : SeqAt.shaped (.list (xs.map e)) = true := by
  obtain ⟨h1, h2⟩ := lay_map e d xs h
  unfold SeqAt.shaped
  have e1 : PyData.canLay0 (.list (xs.map e)) = true := h1
  have e2 : PyData.depth (.list (xs.map e)) = PyData.depthAll (xs.map e) + 1 := rfl
  rw [e1, e2]
  simp
  omega
theorem eqv_map {α : Type} [DecidableEq α] {e : α → W} (h : ∀ x y, PyData.eqv (e x) (e y) = decide (x = y)) : ∀ xs ys : List α, PyData.eqvAll (xs.map e) (ys.map e) = decide (xs = ys)
  | [], [] => rfl
  | [], _ :: _ => by simp [PyData.eqvAll]
  | _ :: _, [] => by simp [PyData.eqvAll]
  | x :: xs, y :: ys => by
    show (PyData.eqv (e x) (e y) && PyData.eqvAll (xs.map e) (ys.map e)) = _
    rw [h, eqv_map h xs ys]
    by_cases h1 : x = y <;> by_cases h2 : xs = ys <;> simp [h1, h2]
theorem shaped_encF (f : List Rat) : SeqAt.shaped (encF f) = true := shaped_tup 1 (by decide) fun x _ => ⟨rfl, Nat.le_refl _⟩
theorem wEq_encF (f g : List Rat) : wEq (encF f) (encF g) = some (.bool (decide (f = g))) := by
  unfold wEq
  rw [shaped_encF, shaped_encF]
  show (if (true && true) = true then some (PyData.bool (PyData.eqvAll (f.map enc) (g.map enc))) else none) = _
  rw [eqv_map eqv_enc]; rfl
theorem wNe_encF (f g : List Rat) : wNe (encF f) (encF g) = some (.bool (!decide (f = g))) := by
  unfold wNe
  rw [shaped_encF, shaped_encF]
  show (if (true && true) = true then some (PyData.bool (!PyData.eqvAll (f.map enc) (g.map enc))) else none) = _
  rw [eqv_map eqv_enc]; rfl
/-! ### the first place -/
def lead (f : List Rat) : List Nat := (List.range f.length).filter fun k => !decide (f.getD k 0 = 0)
def encN : List Nat → W
  | [] => .none
  | k :: _ => .int (k : Int)
theorem ints_ne (ks : List Nat) : wNe (.list (ks.map fun k : Nat => (.int (k : Int) : W))) (.list []) = some (.bool (!ks.isEmpty)) := by
  unfold wNe
  have s1 : SeqAt.shaped (.list (ks.map fun k : Nat => (.int (k : Int) : W))) = true := shaped_lst (e := fun k : Nat => (.int (k : Int) : W)) 0 (by decide) fun x _ => ⟨rfl, Nat.le_refl _⟩
  have s2 : SeqAt.shaped (.list []) = true := rfl
  rw [s1, s2]
  cases ks <;> rfl
/-! ### zero forms -/
def allZ (f : List Rat) : Bool := !f.any fun q => !decide (q = 0)
theorem allZ_iff {f : List Rat} : allZ f = true ↔ ∀ q ∈ f, q = 0 := by
  unfold allZ
  simp
theorem order_spec (f : List Rat) : forms_order [encF f] = .ok (.int ((f.length : Int) - 1)) := by
  unfold forms_order
  rw [runF_eq (n := 1) rfl]
  simp
theorem zero_spec {n : Nat} (h : n ≤ 24) : forms_zero [.int (n : Int)] = .ok (encF (List.replicate (n + 1) 0)) := by
  unfold forms_zero
  rw [runF_eq (n := 1) rfl]
  have c1 : forms_check_order [.int (n : Int)] = .ok .none := by
    unfold forms_check_order
    rw [runF_eq (n := 1) rfl]
    have n0 : ¬ ((n : Int) < 0) := by omega
    have n1 : ¬ ((24 : Int) < (n : Int)) := by omega
    simp [is_integer_int, n0, n1]
  rw [then_next (ρ' := [some (.int (n : Int))]) (t' := none) (by simp [c1])]
  have r1 := rep1 (n + 1) (by omega)
  have e1 : (n : Int) + 1 = ((n + 1 : Nat) : Int) := by omega
  simp only [s_sRet, s_eBin, s_eVar, s_eC, s_eTup, s_eCons, s_eNil, s_bind_ok, List.getElem?_cons_zero, s_wAdd_int, s_rOf_some, e1]
  simp only [show few1000 [.tuple [.int 0, .int 1]] = true from rfl, if_true, s_bind_ok, r1, s_rOf_some, s_toS_ok, s_endF_ret]
end G

end

section
namespace G
open PySem Ev
/-! ### binomial numbers -/
def cb : Nat → Nat → Nat
  | _, 0 => 1
  | 0, _ + 1 => 0
  | n + 1, k + 1 => cb n k + cb n (k + 1)
theorem seven {n : Nat} (h : n ≤ 7) : n = 0 ∨ n = 1 ∨ n = 2 ∨ n = 3 ∨ n = 4 ∨ n = 5 ∨ n = 6 ∨ n = 7 := by omega
theorem forms_choose_spec {n k : Nat} (hn : n ≤ 7) (hk : k ≤ n) : forms_choose [.int (n : Int), .int (k : Int)] = .ok (.int (cb n k : Nat)) := by
  rcases seven hn with rfl | rfl | rfl | rfl | rfl | rfl | rfl | rfl <;>
    rcases seven (Nat.le_trans hk hn) with rfl | rfl | rfl | rfl | rfl | rfl | rfl | rfl <;> first | kernel_rfl | omega
theorem law_choose_spec {n k : Nat} (hn : n ≤ 7) (hk : k ≤ n) : law_choose [.int (n : Int), .int (k : Int)] = .ok (.int (cb n k : Nat)) := by
  rcases seven hn with rfl | rfl | rfl | rfl | rfl | rfl | rfl | rfl <;>
    rcases seven (Nat.le_trans hk hn) with rfl | rfl | rfl | rfl | rfl | rfl | rfl | rfl <;> first | kernel_rfl | omega
theorem cb_pos {n k : Nat} (hn : n ≤ 7) (hk : k ≤ n) : cb n k ≠ 0 ∧ cb n k ≤ 40 := by
  rcases seven hn with rfl | rfl | rfl | rfl | rfl | rfl | rfl | rfl <;>
    rcases seven (Nat.le_trans hk hn) with rfl | rfl | rfl | rfl | rfl | rfl | rfl | rfl <;> first | decide | omega
def fac : Nat → Nat
  | 0 => 1
  | n + 1 => fac n * (n + 1)
theorem factorial_spec {n : Nat} (hn : n ≤ 7) : forms_factorial [.int (n : Int)] = .ok (.int (fac n : Nat)) := by
  rcases seven hn with rfl | rfl | rfl | rfl | rfl | rfl | rfl | rfl <;> kernel_rfl
theorem Bd.divn {D A c : Nat} {x : Rat} (h : Bd D A x) (hD : D ≠ 0) (hc : c ≠ 0) : Bd (D * c) A (x / (((c : Nat) : Int) : Rat)) := by
  obtain ⟨k, rfl, hk⟩ := h
  refine ⟨k, ?_, Nat.le_trans hk (Nat.mul_le_mul_left _ (Nat.le_mul_of_pos_right _ (by omega)))⟩
  have e : (1 : Rat) / (((c : Nat) : Int) : Rat) = mkRat 1 c := by
    rw [Rat.mkRat_eq_div]; rfl
  have e2 : mkRat k D / (((c : Nat) : Int) : Rat) = mkRat k D * (1 / (((c : Nat) : Int) : Rat)) := by
    rw [Rat.div_def, Rat.div_def]; grind
  rw [e2, e, Rat.mkRat_mul_mkRat, Int.mul_one]
/-- the numbers of a form without the binomial ones -/
def wg (f : List Rat) : List Rat := (List.range f.length).map fun k => f.getD k 0 / (((cb (f.length - 1) k : Nat) : Int) : Rat)
theorem weighed_spec {f : List Rat} {D A : Nat} (hf : FB D A f) (s : Sz D A) (h0 : 0 < f.length) (hl : f.length ≤ 8) : forms_weighed [encF f] = .ok (encF (wg f)) := by
  unfold forms_weighed
  rw [runF_eq (n := 1) rfl]
  have m1 : (f.length : Int) - 1 = ((f.length - 1 : Nat) : Int) := by omega
  rw [then_next (ρ' := [some (encF f), some (.int ((f.length - 1 : Nat) : Int)), none, none]) (t' := none) (by simp [m1])]
  have e1 : lcL (gTp (gsC (gN 2) (gsC (gN 3) gsN))) etYes (eCall ratios_divide (eCons (eVar 3) (eCons (eTup (eCons (eCall forms_choose (eCons (eVar 1) (eCons (eVar 2) eNil))) (eCons (eC (.int (1))) eNil))) eNil))) ((List.range f.length).map fun k : Nat => (.tuple [.int (k : Int), enc (f.getD k 0)] : W)) [some (encF f), some (.int ((f.length - 1 : Nat) : Int)), none, none] none = .ok ((List.range f.length).map fun k => enc (f.getD k 0 / (((cb (f.length - 1) k : Nat) : Int) : Rat))) none := by
    refine lc_map _ _ _ fun k hk => ⟨[some (encF f), some (.int ((f.length - 1 : Nat) : Int)), some (.int (k : Int)), some (enc (f.getD k 0))], by simp, ?_⟩
    have hk := List.mem_range.mp hk
    have p := cb_pos (n := f.length - 1) (k := k) (by omega) (by omega)
    have n0 : (((cb (f.length - 1) k : Nat) : Int) : Rat) ≠ 0 := by
      intro z
      have : ((cb (f.length - 1) k : Nat) : Int) = 0 := by exact_mod_cast z
      omega
    have d1 := ratios_divide_spec (s.ok (hf.get k)) (nat_ok (D := 1) (A := 1) (n := cb (f.length - 1) k) (by omega)) n0
    rw [enc_int] at d1
    simp only [s_eCall, s_eCons, s_eNil, s_eTup, s_eVar, s_eC, s_bind_ok, List.getElem?_cons_succ, List.getElem?_cons_zero, forms_choose_spec (show f.length - 1 ≤ 7 by omega) (show k ≤ f.length - 1 by omega), s_fR_ok, fw2, if_true, d1]
  have f1 : few1M ((List.range f.length).map fun k : Nat => (.tuple [.int (k : Int), enc (f.getD k 0)] : W)) = true := few_1M (by simp; omega)
  simp only [s_sRet, s_eCallB, s_eCons, s_eNil, s_eLc, s_sEnum, s_eVar, s_bind_ok, List.getElem?_cons_zero, seqF, s_rOf_some, List.length_map, enum_eq, enum_range, f1, if_true, wipeW, List.set_cons_succ, List.set_cons_zero, e1, s_noexc, s_gTuple_l, s_toS_ok, s_endF_ret]
  unfold encF wg
  rw [List.map_map]
  rfl
theorem wg_back {f : List Rat} (h0 : 0 < f.length) (hl : f.length ≤ 8) : ((List.range (wg f).length).map fun k => (wg f).getD k 0 * (((cb ((wg f).length - 1) k : Nat) : Int) : Rat)) = f := by
  have l : (wg f).length = f.length := by unfold wg; simp
  rw [l]
  apply List.ext_getElem?
  intro k
  by_cases hk : k < f.length
  · have p := cb_pos (n := f.length - 1) (k := k) (by omega) (by omega)
    have n0 : (((cb (f.length - 1) k : Nat) : Int) : Rat) ≠ 0 := by
      intro z
      have : ((cb (f.length - 1) k : Nat) : Int) = 0 := by exact_mod_cast z
      omega
    have g : (wg f).getD k 0 = f[k] / (((cb (f.length - 1) k : Nat) : Int) : Rat) := by
      unfold wg
      simp [List.getD_eq_getElem?_getD, hk]
    rw [List.getElem?_map, List.getElem?_range hk, List.getElem?_eq_getElem hk]
    simp only [Option.map_some, g]
    congr 1
    exact Rat.div_mul_cancel n0
  · rw [List.getElem?_eq_none (by simp; omega), List.getElem?_eq_none (by omega)]
/-- the product of points' linear forms -/
def ptN (ps : List (Rat × Rat)) : Nat → List Rat
  | 0 => [1]
  | i + 1 => cv (ptN ps i) [(ps.getD i (0, 0)).2, -(ps.getD i (0, 0)).1]
theorem ptN_len (ps : List (Rat × Rat)) : ∀ i, (ptN ps i).length = i + 1
  | 0 => rfl
  | i + 1 => by
    unfold ptN
    rw [cv_len (by simp), ptN_len ps i]
    simp
def encP (p : Rat × Rat) : W := encF [p.1, p.2]
theorem ptN_FB {ps : List (Rat × Rat)} {D A N : Nat} (hp : ∀ p ∈ ps, Bd D A p.1 ∧ Bd D A p.2) (hD : D ≠ 0) (s : Szp D A N) (hN : N ≤ 20) : ∀ i, i ≤ N → FB (D ^ i) ((625 * A) ^ i) (ptN ps i) ∧ (i < N → ∀ h : i < ps.length, forms_multiply [encF (ptN ps i), encF [(ps.getD i (0, 0)).2, -(ps.getD i (0, 0)).1]] = .ok (encF (ptN ps (i + 1))) ∧ law_times [encF (ptN ps i), encF [(ps.getD i (0, 0)).2, -(ps.getD i (0, 0)).1]] = .ok (encF (ptN ps (i + 1)))) := by
  have hq : ∀ i, FB D A [(ps.getD i (0, 0)).2, -(ps.getD i (0, 0)).1] := fun i q hq => by
    have : Bd D A (ps.getD i (0, 0)).1 ∧ Bd D A (ps.getD i (0, 0)).2 := by
      rw [List.getD_eq_getElem?_getD]
      by_cases h : i < ps.length
      · rw [List.getElem?_eq_getElem h]; exact hp _ (List.getElem_mem h)
      · rw [List.getElem?_eq_none (by omega)]; exact ⟨Bd.zero, Bd.zero⟩
    simp at hq
    rcases hq with rfl | rfl
    · exact this.2
    · exact this.1.neg
  intro i
  induction i with
  | zero =>
    intro _
    refine ⟨FB.one (by simp) (by simp), fun h1 h2 => ?_⟩
    have f0 : FB (D ^ 0) ((625 * A) ^ 0) (ptN ps 0) := FB.one (by simp) (by simp)
    have l := ptN_len ps 0
    have a1 := forms_multiply_spec f0 (hq 0) (by omega) (by simp) (by rw [l]; simp) (s.s 0 (by omega)) s.b (by rw [pb1, pb2]; exact s.s 1 (by omega))
    have a2 := law_times_spec f0 (hq 0) (by omega) (by simp) (by rw [l]; simp) (s.s 0 (by omega)) s.b (by rw [pb1, pb2]; exact s.s 1 (by omega))
    exact ⟨a1.1, a2.1⟩
  | succ i ih =>
    intro hi
    obtain ⟨f0, g0⟩ := ih (by omega)
    have l := ptN_len ps i
    have a1 := forms_multiply_spec f0 (hq i) (by omega) (by simp) (by rw [l]; simp; omega) (s.s i (by omega)) s.b (by rw [pb1, pb2]; exact s.s (i + 1) (by omega))
    rw [pb1, pb2] at a1
    refine ⟨a1.2, fun h1 h2 => ?_⟩
    have l' := ptN_len ps (i + 1)
    have b1 := forms_multiply_spec a1.2 (hq (i + 1)) (by show 0 < (ptN ps (i + 1)).length; omega) (by simp) (by show (ptN ps (i + 1)).length + _ ≤ 26; rw [l']; simp; omega) (s.s (i + 1) (by omega)) s.b (by rw [pb1, pb2]; exact s.s (i + 2) (by omega))
    have b2 := law_times_spec a1.2 (hq (i + 1)) (by show 0 < (ptN ps (i + 1)).length; omega) (by simp) (by show (ptN ps (i + 1)).length + _ ≤ 26; rw [l']; simp; omega) (s.s (i + 1) (by omega)) s.b (by rw [pb1, pb2]; exact s.s (i + 2) (by omega))
    exact ⟨b1.1, b2.1⟩
theorem pts_item {ps : List (Rat × Rat)} {i : Nat} {w : W} (hw : (ps.map encP)[i]? = some w) : i < ps.length ∧ w = encP (ps.getD i (0, 0)) := by
  rw [List.getElem?_map] at hw
  by_cases h : i < ps.length
  · refine ⟨h, ?_⟩
    rw [List.getElem?_eq_getElem h] at hw
    rw [List.getD_eq_getElem?_getD, List.getElem?_eq_getElem h]
    simpa using hw.symm
  · rw [List.getElem?_eq_none (by omega)] at hw; simp at hw
end G

end

section
namespace G
open PySem Ev
/-! ### heights -/
def Ht (B : Nat) (q : Rat) : Prop := q.num.natAbs < 2 ^ B ∧ q.den < 2 ^ B
theorem Ht.ok {B : Nat} {q : Rat} (h : Ht B q) (hB : B ≤ 4000) : Ok q :=
  ⟨Nat.lt_of_lt_of_le h.1 (Nat.pow_le_pow_right (by decide) hB), Nat.lt_of_lt_of_le h.2 (Nat.pow_le_pow_right (by decide) hB)⟩
theorem Ht.le {A B : Nat} {q : Rat} (h : Ht A q) (hB : A ≤ B) : Ht B q :=
  ⟨Nat.lt_of_lt_of_le h.1 (Nat.pow_le_pow_right (by decide) hB), Nat.lt_of_lt_of_le h.2 (Nat.pow_le_pow_right (by decide) hB)⟩
theorem mul_lt2 {a b A B : Nat} (ha : a < 2 ^ A) (hb : b < 2 ^ B) : a * b < 2 ^ (A + B) := by
  rw [Nat.pow_add]
  exact Nat.mul_lt_mul'' ha hb
theorem ht_mk {n : Int} {d B : Nat} (hd : d ≠ 0) (h1 : n.natAbs < 2 ^ B) (h2 : d < 2 ^ B) : Ht B (mkRat n d) := by
  refine ⟨?_, ?_⟩
  · rw [Rat.num_mkRat, if_neg hd]
    refine Nat.lt_of_le_of_lt ?_ h1
    rw [Int.natAbs_ediv_of_dvd (Int.ofNat_dvd_left.mpr (Nat.gcd_dvd_right _ _))]
    simp only [Int.natAbs_natCast]
    exact Nat.div_le_self _ _
  · rw [Rat.den_mkRat, if_neg hd]
    exact Nat.lt_of_le_of_lt (Nat.div_le_self _ _) h2
theorem den0 (x y : Rat) : x.den * y.den ≠ 0 := Nat.mul_ne_zero x.den_nz y.den_nz
theorem Ht.mul {A B : Nat} {x y : Rat} (hx : Ht A x) (hy : Ht B y) : Ht (A + B) (x * y) := by
  rw [Rat.mul_def']
  exact ht_mk (den0 x y) (by rw [Int.natAbs_mul]; exact mul_lt2 hx.1 hy.1) (mul_lt2 hx.2 hy.2)
theorem Ht.sub {A B : Nat} {x y : Rat} (hx : Ht A x) (hy : Ht B y) : Ht (A + B + 1) (x - y) := by
  rw [Rat.sub_def']
  have h1 := mul_lt2 hx.1 hy.2
  have h2 := mul_lt2 hy.1 hx.2
  have h3 := mul_lt2 hx.2 hy.2
  have e : 2 ^ (A + B + 1) = 2 * 2 ^ (A + B) := by rw [Nat.pow_succ]; omega
  rw [Nat.add_comm B A] at h2
  refine ht_mk (den0 x y) ?_ (by omega)
  have h4 : (x.num * (y.den : Int) - y.num * (x.den : Int)).natAbs ≤ (x.num * (y.den : Int)).natAbs + (y.num * (x.den : Int)).natAbs := Int.natAbs_sub_le _ _
  rw [Int.natAbs_mul, Int.natAbs_mul, Int.natAbs_natCast, Int.natAbs_natCast] at h4
  omega
theorem Ht.div {A B : Nat} {x y : Rat} (hx : Ht A x) (hy : Ht B y) (h0 : y ≠ 0) : Ht (A + B) (x / y) := by
  have n0 : y.num ≠ 0 := fun z => h0 (Rat.num_eq_zero.mp z)
  have d0 : (x.den : Int) * y.num ≠ 0 := by
    have := x.den_nz
    intro z
    rcases Int.mul_eq_zero.mp z with z | z <;> omega
  rw [← div_mk']
  have h1 := mul_lt2 hx.1 hy.2
  have h2 := mul_lt2 hx.2 hy.1
  refine ⟨?_, ?_⟩
  · rw [Rat.num_divInt]
    refine Nat.lt_of_le_of_lt ?_ h1
    have hd : (((((x.den : Int) * y.num).gcd (x.num * (y.den : Int)) : Nat)) : Int) ∣ ((x.den : Int) * y.num).sign * (x.num * (y.den : Int)) := Int.dvd_mul_of_dvd_right (Int.gcd_dvd_right ..)
    rw [Int.natAbs_ediv_of_dvd hd, Int.natAbs_mul, Int.natAbs_sign_of_ne_zero d0, Nat.one_mul, Int.natAbs_mul, Int.natAbs_natCast]
    exact Nat.div_le_self _ _
  · rw [Rat.den_divInt, if_neg d0]
    refine Nat.lt_of_le_of_lt (Nat.div_le_self _ _) ?_
    rw [Int.natAbs_mul, Int.natAbs_natCast]
    exact h2
theorem Ht.zero {B : Nat} (hB : 1 ≤ B) : Ht B 0 := ⟨by show 0 < 2 ^ B; exact Nat.pow_pos (by decide), by show 1 < 2 ^ B; exact Nat.one_lt_two_pow (by omega)⟩
theorem Bd.ht {D A B : Nat} {x : Rat} (h : Bd D A x) (hD : D ≠ 0) (h1 : A * D < 2 ^ B) (h2 : D < 2 ^ B) : Ht B x := by
  obtain ⟨k, rfl, hk⟩ := h
  exact ht_mk hD (Nat.lt_of_le_of_lt hk h1) h2
def FH (B : Nat) (f : List Rat) : Prop := ∀ q ∈ f, Ht B q
theorem FH.get {B : Nat} {f : List Rat} (h : FH B f) {k : Nat} (hk : k < f.length) : Ht B (f.getD k 0) := by
  rw [List.getD_eq_getElem?_getD, List.getElem?_eq_getElem hk]
  exact h _ (List.getElem_mem hk)
/-- the heights of the steps -/
def hb (b o : Nat) : Nat → Nat
  | 0 => b
  | k + 1 => 2 * hb b o k + 2 * o + 1
theorem hb_mono {b o : Nat} : ∀ {k n : Nat}, k ≤ n → hb b o k ≤ hb b o n := by
  intro k n h
  induction n with
  | zero => have : k = 0 := by omega
            subst this; exact Nat.le_refl _
  | succ n ih =>
    by_cases c : k = n + 1
    · subst c; exact Nat.le_refl _
    · have := ih (by omega)
      show _ ≤ 2 * hb b o n + 2 * o + 1
      omega
/-! ### the lowest places of products -/
theorem cv_low {g : List Rat} {l : Nat} (hg : ∀ n, n < l → g.getD n 0 = 0) (hl : l < g.length) : ∀ (f : List Rat) (i : Nat), i < f.length → (∀ n, n < i → f.getD n 0 = 0) → (∀ n, n < i + l → (cv f g).getD n 0 = 0) ∧ (cv f g).getD (i + l) 0 = f.getD i 0 * g.getD l 0 := by
  have base : ∀ (f : List Rat) (n : Nat), n < l → (cv f g).getD n 0 = 0 := by
    intro f
    induction f with
    | nil =>
      intro n hn
      unfold cv
      rw [List.getD_eq_getElem?_getD, List.getElem?_replicate]
      split <;> rfl
    | cons a f ih =>
      intro n hn
      unfold cv
      rw [List.getD_eq_getElem?_getD, List.getElem?_zipWith]
      have h1 : (g.map (a * ·) ++ List.replicate f.length 0)[n]? = some (a * g.getD n 0) := by
        rw [List.getElem?_append_left (by simp; omega), List.getElem?_map, List.getD_eq_getElem?_getD, List.getElem?_eq_getElem (by omega)]
        rfl
      have h2 : ∃ z, (0 :: cv f g)[n]? = some z ∧ z = 0 := by
        have len : (cv f g).length = f.length + g.length - 1 := cv_len (by omega) f
        cases n with
        | zero => exact ⟨0, rfl, rfl⟩
        | succ n =>
          have := ih n (by omega)
          rw [List.getD_eq_getElem?_getD] at this
          rw [List.getElem?_cons_succ, List.getElem?_eq_getElem (by omega)]
          rw [List.getElem?_eq_getElem (by omega)] at this
          exact ⟨_, rfl, this⟩
      obtain ⟨z, h2, rfl⟩ := h2
      rw [h1, h2, hg n hn]
      simp
      grind
  intro f i
  induction i generalizing f with
  | zero =>
    intro hi _
    refine ⟨fun n hn => base f n (by omega), ?_⟩
    cases f with
    | nil => simp at hi
    | cons a f =>
      unfold cv
      rw [Nat.zero_add, List.getD_eq_getElem?_getD, List.getElem?_zipWith]
      have h1 : (g.map (a * ·) ++ List.replicate f.length 0)[l]? = some (a * g.getD l 0) := by
        rw [List.getElem?_append_left (by simp; omega), List.getElem?_map, List.getD_eq_getElem?_getD, List.getElem?_eq_getElem (by omega)]
        rfl
      have h2 : ∃ z, (0 :: cv f g)[l]? = some z ∧ z = 0 := by
        have len : (cv f g).length = f.length + g.length - 1 := cv_len (by omega) f
        cases l with
        | zero => exact ⟨0, rfl, rfl⟩
        | succ l =>
          have := base f l (by omega)
          rw [List.getD_eq_getElem?_getD, List.getElem?_eq_getElem (by omega)] at this
          exact ⟨(cv f g)[l]'(by omega), by rw [List.getElem?_cons_succ, List.getElem?_eq_getElem (by omega)], by simpa using this⟩
      obtain ⟨z, h2, rfl⟩ := h2
      rw [h1, h2]
      simp
      grind
  | succ i ih =>
    intro hi hz
    cases f with
    | nil => simp at hi
    | cons a f =>
      have a0 : a = 0 := hz 0 (by omega)
      subst a0
      have hi' : i < f.length := by simpa using hi
      obtain ⟨p1, p2⟩ := ih f hi' fun n hn => by simpa using hz (n + 1) (by omega)
      have len : (cv f g).length = f.length + g.length - 1 := cv_len (by omega) f
      have e : ∀ n, n < f.length + g.length → (cv (0 :: f) g).getD n 0 = (0 :: cv f g).getD n 0 := by
        intro n hn
        rw [show cv (0 :: f) g = List.zipWith (· + ·) (g.map ((0 : Rat) * ·) ++ List.replicate f.length 0) (0 :: cv f g) from rfl]
        simp only [List.getD_eq_getElem?_getD]
        rw [List.getElem?_zipWith]
        have h1 : (g.map ((0 : Rat) * ·) ++ List.replicate f.length 0)[n]? = some 0 := by
          by_cases c : n < g.length
          · rw [List.getElem?_append_left (by simp; omega), List.getElem?_map, List.getElem?_eq_getElem c]
            simp
          · rw [List.getElem?_append_right (by simp; omega), List.getElem?_replicate, if_pos (by simp; omega)]
        have h2 : (0 :: cv f g)[n]? = some ((0 :: cv f g)[n]'(by rw [List.length_cons]; omega)) := List.getElem?_eq_getElem _
        rw [h1, h2]
        simp
        rw [Rat.zero_add]
      refine ⟨fun n hn => ?_, ?_⟩
      · rw [e n (by omega)]
        cases n with
        | zero => rfl
        | succ n => rw [List.getD_cons_succ]; exact p1 n (by omega)
      · rw [e _ (by omega), show i + 1 + l = (i + l) + 1 by omega, List.getD_cons_succ, p2, List.getD_cons_succ]
end G

end

section
namespace G
open PySem Ev
theorem lead_cons {f : List Rat} {k : Nat} {ks : List Nat} (h : lead f = k :: ks) : k < f.length ∧ f.getD k 0 ≠ 0 ∧ ∀ m, m < k → f.getD m 0 = 0 := by
  have m : k ∈ lead f := by rw [h]; exact List.mem_cons_self
  unfold lead at m
  rw [List.mem_filter, List.mem_range] at m
  refine ⟨m.1, by simpa using m.2, fun j hj => ?_⟩
  apply Classical.byContradiction
  intro n
  have mj : j ∈ lead f := by
    unfold lead
    rw [List.mem_filter, List.mem_range]
    exact ⟨by omega, by simpa using n⟩
  have pw : (lead f).Pairwise (· < ·) := List.Pairwise.filter _ List.pairwise_lt_range
  rw [h] at mj pw
  rcases List.mem_cons.mp mj with e | e
  · omega
  · have := (List.pairwise_cons.mp pw).1 j e
    omega
theorem lead_nil {f : List Rat} (h : lead f = []) : ∀ q ∈ f, q = 0 := by
  intro q hq
  obtain ⟨k, hk, e⟩ := List.mem_iff_getElem.mp hq
  apply Classical.byContradiction
  intro n
  have mj : k ∈ lead f := by
    unfold lead
    rw [List.mem_filter, List.mem_range]
    refine ⟨hk, ?_⟩
    rw [List.getD_eq_getElem?_getD, List.getElem?_eq_getElem hk]
    simpa [e] using n
  rw [h] at mj
  cases mj
theorem getD_set {f : List Rat} {k m : Nat} {x : Rat} (hk : k < f.length) : (f.set k x).getD m 0 = if m = k then x else f.getD m 0 := by
  simp only [List.getD_eq_getElem?_getD, List.getElem?_set]
  by_cases h : k = m
  · subst h; simp [hk]
  · rw [if_neg h, if_neg (Ne.symm h)]
theorem FH.of {B : Nat} {f : List Rat} (h : ∀ k, k < f.length → Ht B (f.getD k 0)) : FH B f := fun q hq => by
  obtain ⟨k, hk, e⟩ := List.mem_iff_getElem.mp hq
  have := h k hk
  rw [List.getD_eq_getElem?_getD, List.getElem?_eq_getElem hk] at this
  rw [← e]; exact this
theorem FH_nil {B : Nat} : FH B [] := fun q hq => by cases hq
theorem Hm_sub (u v : Rat) {f g : List Rat} (h : f.length = g.length) : Hm (List.zipWith (· - ·) f g) u v = Hm f u v - Hm g u v := by
  induction f generalizing g with
  | nil =>
    cases g with
    | nil => simp [Hm]; grind
    | cons b g => simp at h
  | cons a f ih =>
    cases g with
    | nil => simp at h
    | cons b g =>
      have h' : f.length = g.length := by simpa using h
      simp only [List.zipWith_cons_cons, Hm_cons, List.length_zipWith, h', Nat.min_self]
      rw [ih h']
      grind
end G

end

section
namespace G
open PySem Ev
/-! the law's own comparison answers True on one and the same plain value -/
def Pl : Nat → W → Prop
  | 0, _ => False
  | n + 1, w => (∃ i, w = .int i) ∨ (∃ b, w = .bool b) ∨ (∃ l : List W, w = .tuple l ∧ l.length ≤ 1000 ∧ ∀ x ∈ l, Pl n x)
theorem pair_self : ∀ l : List W, pairW l l = l.map fun x => .tuple [x, x]
  | [] => rfl
  | x :: l => congrArg (PyData.tuple [x, x] :: ·) (pair_self l)
theorem law_same_spec : ∀ (n : Nat) (w : W), Pl n w → law_same n [w, w] = .ok (.bool true)
  | 0, w, h => h.elim
  | n + 1, w, h => by
    show b_law_same (law_same n) [w, w] = _
    unfold b_law_same
    rw [runF_eq (n := 2) rfl]
    rcases h with ⟨i, rfl⟩ | ⟨b, rfl⟩ | ⟨l, rfl, hl, hw⟩
    · have t1 : noDict (.int i : W) = true := rfl
      have t2 : isIn (tyN (.int i : W)) "tuple" = false := (by decide : isIn "int" "tuple" = false)
      have t3 : isIn (tyN (.int i : W)) "bool" = false := (by decide : isIn "int" "bool" = false)
      have t4 : isIn (tyN (.int i : W)) "int" = true := (by decide : isIn "int" "int" = true)
      simp [t1, t2, t3, t4]
    · have t1 : noDict (.bool b : W) = true := rfl
      have t2 : isIn (tyN (.bool b : W)) "tuple" = false := (by decide : isIn "bool" "tuple" = false)
      have t3 : isIn (tyN (.bool b : W)) "bool" = true := (by decide : isIn "bool" "bool" = true)
      simp [t1, t2, t3]
    · have t1 : noDict (.tuple l : W) = true := rfl
      have t2 : isIn (tyN (.tuple l : W)) "tuple" = true := (by decide : isIn "tuple" "tuple" = true)
      have ez : pairW l l = l.map fun x => .tuple [x, x] := pair_self l
      have e1 : lcL (gTp (gsC (gN 2) (gsC (gN 3) gsN))) etYes (eCall (law_same n) (eCons (eVar 2) (eCons (eVar 3) eNil))) (l.map fun x => .tuple [x, x]) [some (.tuple l), some (.tuple l), none, none] none = .ok (l.map fun _ => (.bool true : W)) none :=
        lc_map _ _ _ fun x hx => ⟨[some (.tuple l), some (.tuple l), some x, some x], by simp [gsN], by
          simp [law_same_spec n x (hw x hx)]⟩
      have f1 : few1M (l.map fun x => (.tuple [x, x] : W)) = true := few_1M (by simp; omega)
      have a1 := gAll_map (fun _ : W => true) l
      simp only [s_then, s_sIf, s_eTest, s_sRet, s_eAnd, s_eIsI, s_eVar, s_startW, List.map_cons, List.map_nil, List.length_cons, List.length_nil, List.cons_append, List.nil_append, List.getElem?_cons_zero, List.getElem?_cons_succ, s_bind_ok, t1, t2, if_true, s_wB, s_rOf_some, s_toS_ok]
      simp [wipeW, ez, f1, e1, a1]
theorem Pl.enc (n : Nat) (x : Rat) : Pl (n + 2) (enc x) := .inr (.inr ⟨_, rfl, by simp, by
  intro y hy
  simp at hy
  rcases hy with rfl | rfl <;> exact .inl ⟨_, rfl⟩⟩)
theorem Pl.encF (n : Nat) {f : List Rat} (h : f.length ≤ 1000) : Pl (n + 3) (encF f) := .inr (.inr ⟨_, rfl, by simpa using h, by
  intro y hy
  obtain ⟨q, _, rfl⟩ := List.mem_map.mp hy
  exact Pl.enc n q⟩)
theorem Pl.int (n : Nat) (i : Int) : Pl (n + 1) (.int i) := .inl ⟨i, rfl⟩
theorem Pl.bool (n : Nat) (i : Bool) : Pl (n + 1) (.bool i) := .inr (.inl ⟨i, rfl⟩)
theorem Pl.tup (n : Nat) {l : List W} (hl : l.length ≤ 1000) (h : ∀ x ∈ l, Pl n x) : Pl (n + 1) (.tuple l) := .inr (.inr ⟨l, rfl, hl, h⟩)
end G

end

section
namespace G
open PySem Ev
@[simp] theorem wMod_nz (i j : Int) (h : j ≠ 0) : wMod (.int i) (.int j) = some (.int (i.fmod j)) := if_pos h
theorem small_pow {i : Int} {k : Nat} (h : i.natAbs < 2 ^ k) (hk : k ≤ 4000) : i.natAbs < 2 ^ 4000 := Nat.lt_of_lt_of_le h (Nat.pow_le_pow_right (by decide) hk)
theorem fmod_nat (i : Int) {m : Nat} (h : 0 < m) : ∃ r : Nat, i.fmod (m : Int) = (r : Int) ∧ r < m := by
  have a := Int.fmod_nonneg_of_pos i (b := (m : Int)) (by omega)
  have b := Int.fmod_lt_of_pos i (b := (m : Int)) (by omega)
  exact ⟨(i.fmod m).toNat, by omega, by omega⟩
theorem fdiv_nat (n m : Nat) : (n : Int).fdiv (m : Int) = ((n / m : Nat) : Int) := by
  rw [Int.fdiv_eq_ediv_of_nonneg _ (by omega)]; rfl
theorem law_cell_spec (ns : List Int) (hl : ns.length ≤ 63) (k : Nat) : ∃ c : Nat, law_cell [.list (ns.map PyData.int), .int (k : Int)] = .ok (.int (c : Int)) ∧ c < 1000000007 := by
  unfold law_cell
  rw [runF_eq (n := 2) rfl]
  by_cases h : k < ns.length
  · obtain ⟨r, e, hr⟩ := fmod_nat ((ns[k]).natAbs : Int) (m := 1000000007) (by decide)
    have ei : wIdx (.list (ns.map PyData.int)) (.int (k : Int)) = some (.int (ns[k])) := by
      show L2.atI _ _ = _
      unfold L2.atI
      simp [ixN_nat (n := ns.length) h, List.getElem?_map, h]
    refine ⟨r, ?_, hr⟩
    simp [h, ei]
    exact e
  · refine ⟨0, ?_, by decide⟩
    simp [h]
theorem law_rich_spec (c k : Nat) (hc : c < 1000000007) (hk : k < 1000) : ∃ r : Nat, law_rich [.int (c : Int), .int (k : Int)] = .ok (.int (r : Int)) ∧ r < 2 ^ 63 := by
  unfold law_rich
  rw [runF_eq (n := 2) rfl]
  obtain ⟨m, em, hm⟩ := fmod_nat ((c : Int) * 48271 + (k : Int) * 69621 + 17) (m := 2147483647) (by decide)
  obtain ⟨m2, em2, hm2⟩ := fmod_nat ((m : Int) * 16807 + (c : Int)) (m := 2147483629) (by decide)
  have big : ∀ i : Int, i.natAbs < 2 ^ 64 → i.natAbs < 2 ^ 4000 := fun i h => small_pow h (by decide)
  have o1 := wMul_of (mulOk_of (big (c : Int) (by omega)) (big 48271 (by decide)))
  have o2 := wMul_of (mulOk_of (big (k : Int) (by omega)) (big 69621 (by decide)))
  have o3 := wMul_of (mulOk_of (big (m : Int) (by omega)) (big 2147483629 (by decide)))
  have o4 := wMul_of (mulOk_of (big (m : Int) (by omega)) (big 16807 (by decide)))
  rw [then_next (ρ' := [some (.int (c : Int)), some (.int (k : Int)), some (.int (m : Int))]) (t' := none) (by
    simp [o1, o2]
    exact em)]
  refine ⟨m * 2147483629 + m2, ?_, by omega⟩
  simp [o3, o4]
  rw [show ((2147483629 : Int)) = ((2147483629 : Nat) : Int) from rfl, em2]
/-- a number the law draws -/
theorem draw {i : Int} {m : Nat} (A : Nat) (lo : Int) (hm : 0 < m) (h1 : lo.natAbs ≤ A) (h2 : ((m : Int) - 1 + lo).natAbs ≤ A) : ∃ z : Int, i.fmod (m : Int) + lo = z ∧ z.natAbs ≤ A := by
  obtain ⟨r, e, hr⟩ := fmod_nat i hm
  exact ⟨_, rfl, by rw [e]; omega⟩
theorem make_small (z : Int) (d A D : Nat) (hd : 0 < d) (hD : d ∣ D) (h0 : 0 < D) (hz : z.natAbs ≤ A) (hs : d < 1000) : ∃ q : Rat, law_make [.int z, .int (d : Int)] = .ok (enc q) ∧ Bd D A q := by
  refine ⟨Rat.divInt z d, law_make_spec z d (by omega) (Nat.lt_trans (show (d : Int).natAbs < 1024 by omega) (by decide)), ?_⟩
  obtain ⟨c, rfl⟩ := hD
  have c0 : c ≠ 0 := by rintro rfl; simp at h0
  have d0 : d ≠ 0 := by omega
  refine ⟨z * c, ?_, ?_⟩
  · rw [Rat.mkRat_mul_right c0]
    rfl
  · rw [Int.natAbs_mul, Int.natAbs_natCast]
    calc z.natAbs * c ≤ A * c := Nat.mul_le_mul_right _ hz
      _ ≤ A * (d * c) := Nat.mul_le_mul_left _ (Nat.le_mul_of_pos_left _ hd)
end G

end

section
namespace G
open PySem Ev
theorem law_form_spec (rich : Int) (n : Nat) (hn : n ≤ 8) : ∃ f : List Rat, law_form [.int rich, .int (n : Int)] = .ok (encF f) ∧ f.length = n + 1 ∧ FB 2 3 f := by
  have key : ∀ k : Nat, ∃ q : Rat, law_make [.int ((rich.fdiv (3 + 7 * (k : Int))).fmod 7 - 3), .int (1 + (rich.fdiv (5 + 3 * (k : Int))).fmod 2)] = .ok (enc q) ∧ Bd 2 3 q := fun k => by
    obtain ⟨a, ea, ha⟩ := fmod_nat (rich.fdiv (3 + 7 * (k : Int))) (m := 7) (by decide)
    obtain ⟨b, eb, hb⟩ := fmod_nat (rich.fdiv (5 + 3 * (k : Int))) (m := 2) (by decide)
    have := make_small ((a : Int) - 3) (1 + b) 3 2 (by omega) (by
      have : b = 0 ∨ b = 1 := by omega
      rcases this with rfl | rfl <;> decide) (by decide) (by omega) (by omega)
    rw [show ((7 : Int)) = ((7 : Nat) : Int) from rfl, show ((2 : Int)) = ((2 : Nat) : Int) from rfl] at *
    rw [ea, eb]
    simpa using this
  obtain ⟨Q, hQ⟩ := Classical.skolem.mp key
  refine ⟨(List.range (n + 1)).map Q, ?_, by simp, fun q hq => by
    obtain ⟨k, _, rfl⟩ := List.mem_map.mp hq
    exact (hQ k).2⟩
  unfold law_form
  rw [runF_eq (n := 2) rfl]
  have e1 : lcL (gN 2) etYes (eCall law_make (eCons (eBin wSub (eBin wMod (eBin wFdiv (eVar 0) (eBin wAdd (eC (.int (3))) (eBin wMul (eC (.int (7))) (eVar 2)))) (eC (.int (7)))) (eC (.int (3)))) (eCons (eBin wAdd (eC (.int (1))) (eBin wMod (eBin wFdiv (eVar 0) (eBin wAdd (eC (.int (5))) (eBin wMul (eC (.int (3))) (eVar 2)))) (eC (.int (2))))) eNil))) ((List.range (n + 1)).map fun i : Nat => (.int (i : Int) : W)) [some (.int rich), some (.int (n : Int)), none] none = .ok ((List.range (n + 1)).map fun k => enc (Q k)) none :=
    lc_map _ _ _ fun k hk => ⟨[some (.int rich), some (.int (n : Int)), some (.int (k : Int))], by simp, by
      have hk' := List.mem_range.mp hk
      have big : ∀ i : Int, i.natAbs < 1024 → i.natAbs < 2 ^ 4000 := fun i h => Nat.lt_trans (show i.natAbs < 2 ^ 10 from h) (Nat.pow_lt_pow_right (by decide) (by decide))
      have big9 : ∀ i : Int, i.natAbs < 1024 → i.natAbs < 2 ^ 9000 := fun i h => Nat.lt_trans (show i.natAbs < 2 ^ 10 from h) (Nat.pow_lt_pow_right (by decide) (by decide))
      have o1 := wMul_of (mulOk_of (big 7 (by decide)) (big (k : Int) (by omega)))
      have o2 := wMul_of (mulOk_of (big 3 (by decide)) (big (k : Int) (by omega)))
      have o3 := wFdiv_of (i := rich) (divOk_of (j := 3 + 7 * (k : Int)) (by omega) (big9 _ (by omega)))
      have o4 := wFdiv_of (i := rich) (divOk_of (j := 5 + 3 * (k : Int)) (by omega) (big9 _ (by omega)))
      simp [o1, o2, o3, o4, (hQ k).1]⟩
  have r1 := gRng1_nat (n := n + 1) (by omega)
  have f1 : few1M ((List.range (n + 1)).map fun i : Nat => (.int (i : Int) : W)) = true := few_1M (by simp; omega)
  have e2 : (n : Int) + 1 = ((n + 1 : Nat) : Int) := by omega
  simp only [s_sRet, s_eCallB, s_eCons, s_eNil, s_eLc, s_sRng, s_eBin, s_eVar, s_eC, s_startW, List.length_cons, List.length_nil, List.map_cons, List.map_nil, List.cons_append, List.nil_append, List.getElem?_cons_zero, List.getElem?_cons_succ, s_bind_ok, s_wAdd_int, s_rOf_some, e2, r1, f1, if_true]
  simp only [wipeW, List.replicate, List.set_cons_succ, List.set_cons_zero, e1, s_noexc, s_bind_ok, s_rOf_some, s_gTuple_l, s_toS_ok, s_endF_ret]
  simp [encF]
end G

end

section
namespace G
open PySem Ev
theorem Bd.nd {D A : Nat} {x : Rat} (hx : Bd D A x) (hD : D ≠ 0) : x.num.natAbs ≤ A * D ∧ x.den ≤ D := by
  obtain ⟨k, rfl, hk⟩ := hx
  refine ⟨?_, ?_⟩
  · rw [Rat.num_mkRat, if_neg hD]
    refine Nat.le_trans ?_ hk
    rw [Int.natAbs_ediv_of_dvd (Int.ofNat_dvd_left.mpr (Nat.gcd_dvd_right _ _))]
    simp only [Int.natAbs_natCast]
    exact Nat.div_le_self _ _
  · rw [Rat.den_mkRat, if_neg hD]
    exact Nat.div_le_self _ _
theorem mul_den (x : Rat) : x * (x.den : Rat) = (x.num : Rat) := by
  have h := Rat.mkRat_eq_div x.num x.den
  rw [Rat.mkRat_self] at h
  have d0 : (x.den : Rat) ≠ 0 := fun z => x.den_nz (Rat.natCast_inj.mp z)
  exact (congrArg (· * (x.den : Rat)) h).trans (Rat.div_mul_cancel d0)
theorem det_ne {a b c : Rat} {d : Int} (h : a.num * d * (b.den : Int) * (c.den : Int) ≠ b.num * c.num * (a.den : Int)) : a * (d : Rat) - b * c ≠ 0 := by
  intro z
  apply h
  have z' : a * (d : Rat) = b * c := by grind
  have ea : a * (a.den : Rat) = (a.num : Rat) := mul_den a
  have eb : b * (b.den : Rat) = (b.num : Rat) := mul_den b
  have ec : c * (c.den : Rat) = (c.num : Rat) := mul_den c
  have : ((a.num * d * (b.den : Int) * (c.den : Int) : Int) : Rat) = ((b.num * c.num * (a.den : Int) : Int) : Rat) := by
    simp only [Rat.intCast_mul, ← ea, ← eb, ← ec, Rat.intCast_natCast]
    grind
  exact Rat.intCast_inj.mp this
abbrev chB : Sv := sIf (eTest (eBin wNe (eBin wMul (eBin wMul (eBin wMul (eBin wIdx (eVar 1) (eC (.int (0)))) (eVar 4)) (eBin wIdx (eVar 2) (eC (.int (1))))) (eBin wIdx (eVar 3) (eC (.int (1))))) (eBin wMul (eBin wMul (eBin wIdx (eVar 2) (eC (.int (0)))) (eBin wIdx (eVar 3) (eC (.int (0))))) (eBin wIdx (eVar 1) (eC (.int (1))))))) (sRet (eTup (eCons (eVar 1) (eCons (eVar 2) (eCons (eVar 3) (eCons (eTup (eCons (eVar 4) (eCons (eC (.int (1))) eNil))) eNil)))))) sNext
theorem ch_loop {a b c : Rat} (ha : Bd 2 4 a) (hb : Bd 2 4 b) (hc : Bd 2 4 c) (r : W) : ∀ (ds : List Nat) (o : Option W), (∀ d ∈ ds, d ≤ 4) →
    (∃ d ∈ ds, forL (gN 4) chB (ds.map fun i : Nat => (.int (i : Int) : W)) [some r, some (enc a), some (enc b), some (enc c), o] none = .ret (encF [a, b, c, (d : Rat)]) none ∧ a * (d : Rat) - b * c ≠ 0)
    ∨ (∃ o', forL (gN 4) chB (ds.map fun i : Nat => (.int (i : Int) : W)) [some r, some (enc a), some (enc b), some (enc c), o] none = .next [some r, some (enc a), some (enc b), some (enc c), o'] none)
  | [], o, _ => .inr ⟨o, rfl⟩
  | d :: ds, o, hd => by
    have oa := ha.ok (by decide) (by decide) (by decide)
    have ob := hb.ok (by decide) (by decide) (by decide)
    have oc := hc.ok (by decide) (by decide) (by decide)
    have na := ha.nd (by decide)
    have nb := hb.nd (by decide)
    have nc := hc.nd (by decide)
    have hd4 := hd d (by simp)
    have m2 : ∀ {x y : Int} {m n : Nat}, x.natAbs ≤ m → y.natAbs ≤ n → (x * y).natAbs ≤ m * n := fun h1 h2 => by
      rw [Int.natAbs_mul]; exact Nat.mul_le_mul h1 h2
    have big : ∀ i : Int, i.natAbs < 1024 → i.natAbs < 2 ^ 4000 := fun i h => Nat.lt_trans (show i.natAbs < 2 ^ 10 from h) (Nat.pow_lt_pow_right (by decide) (by decide))
    have q1 := m2 na.1 (show (d : Int).natAbs ≤ 4 by omega)
    have q2 := m2 q1 (show (b.den : Int).natAbs ≤ 2 by omega)
    have q3 := m2 nb.1 nc.1
    have o1 := wMul_of (mulOk_of (big a.num (by omega)) (big (d : Int) (by omega)))
    have o2 := wMul_of (mulOk_of (big (a.num * d) (by omega)) (big (b.den : Int) (by omega)))
    have o3 := wMul_of (mulOk_of (big (a.num * d * b.den) (by omega)) (big (c.den : Int) (by omega)))
    have o4 := wMul_of (mulOk_of (big b.num (by omega)) (big c.num (by omega)))
    have o5 := wMul_of (mulOk_of (big (b.num * c.num) (by omega)) (big (a.den : Int) (by omega)))
    have step : forL (gN 4) chB ((d :: ds).map fun i : Nat => (.int (i : Int) : W)) [some r, some (enc a), some (enc b), some (enc c), o] none = sThen chB (forL (gN 4) chB (ds.map fun i : Nat => (.int (i : Int) : W))) [some r, some (enc a), some (enc b), some (enc c), some (.int (d : Int))] none := rfl
    rw [step]
    by_cases z : a.num * (d : Int) * (b.den : Int) * (c.den : Int) = b.num * c.num * (a.den : Int)
    · have e1 : chB [some r, some (enc a), some (enc b), some (enc c), some (.int (d : Int))] none = .next [some r, some (enc a), some (enc b), some (enc c), some (.int (d : Int))] none := by
        simp [o1, o2, o3, o4, o5, z]
      rw [then_next e1]
      rcases ch_loop ha hb hc r ds (some (.int (d : Int))) (fun x hx => hd x (by simp [hx])) with ⟨x, hx, e⟩ | e
      · exact .inl ⟨x, by simp [hx], e⟩
      · exact .inr e
    · have e1 : chB [some r, some (enc a), some (enc b), some (enc c), some (.int (d : Int))] none = .ret (encF [a, b, c, (d : Rat)]) none := by
        simp [o1, o2, o3, o4, o5, z]
        rfl
      rw [then_ret e1]
      refine .inl ⟨d, by simp, rfl, ?_⟩
      have := det_ne (d := (d : Int)) z
      rwa [Rat.intCast_natCast] at this
end G

end

section
namespace G
open PySem Ev
/-! small steps of the law -/
section
variable {t : Tp}
theorem e_var {ρ : Sl} {i : Nat} {w : W} (h : ρ[i]? = some (some w)) : eVar i ρ t = .ok w t := eVar_of t h
theorem e_c {w : W} {ρ : Sl} : eC w ρ t = .ok w t := rfl
theorem a_nil {ρ : Sl} : eNil ρ t = .ok [] t := rfl
theorem a_cons {A : Ex} {B : Exs} {ρ : Sl} {w : W} {ws : List W} (h1 : A ρ t = .ok w t) (h2 : B ρ t = .ok ws t) : eCons A B ρ t = .ok (w :: ws) t := by
  rw [s_eCons, h1, s_bind_ok, h2, s_bind_ok]
theorem e_call {f : Fs} {A : Exs} {ρ : Sl} {w : W} {ws : List W} (h1 : A ρ t = .ok ws t) (h2 : f ws = .ok w) : eCall f A ρ t = .ok w t := by
  rw [s_eCall, h1, s_bind_ok, h2, s_fR_ok]
theorem e_callB {g : List W → Option W} {A : Exs} {ρ : Sl} {w : W} {ws : List W} (h1 : A ρ t = .ok ws t) (h2 : g ws = some w) : eCallB g A ρ t = .ok w t := by
  rw [s_eCallB, h1, s_bind_ok, h2, s_rOf_some]
theorem e_tup {A : Exs} {ρ : Sl} {ws : List W} (h1 : A ρ t = .ok ws t) (h2 : ws.length ≤ 1000) : eTup A ρ t = .ok (.tuple ws) t := by
  rw [s_eTup, h1, s_bind_ok, if_pos (few_of h2)]
theorem e_bin {f : W → W → Option W} {A B : Ex} {ρ : Sl} {x y w : W} (h1 : A ρ t = .ok x t) (h2 : B ρ t = .ok y t) (h : f x y = some w) : eBin f A B ρ t = .ok w t := by
  rw [s_eBin, h1, s_bind_ok, h2, s_bind_ok, h, s_rOf_some]
theorem e_un {f : W → Option W} {A : Ex} {ρ : Sl} {x w : W} (h1 : A ρ t = .ok x t) (h : f x = some w) : eUn f A ρ t = .ok w t := by
  rw [s_eUn, h1, s_bind_ok, h, s_rOf_some]
theorem t_test {A : Ex} {ρ : Sl} {b : Bool} (h1 : A ρ t = .ok (.bool b) t) : eTest A ρ t = .ok b t := by
  rw [s_eTest, h1, s_bind_ok, s_wB, s_rOf_some]
theorem t_or {A B : Et} {ρ : Sl} (h1 : A ρ t = .ok false t) (h2 : B ρ t = .ok false t) : eOrT A B ρ t = .ok false t := by
  rw [s_eOrT, h1, s_bind_ok, if_neg (by decide), h2]
theorem t_notB {A : Ex} {ρ : Sl} {b : Bool} (h1 : A ρ t = .ok (.bool b) t) : eTest (eBin (wIsB true) A (eC (.bool b))) ρ t = .ok false t :=
  t_test (e_bin h1 e_c (by cases b <;> rfl))
theorem t_notN {A : Ex} {ρ : Sl} (h1 : A ρ t = .ok .none t) : eTest (eIsN true A) ρ t = .ok false t :=
  t_test (by rw [s_eIsN, h1]; rfl)
theorem t_neF {A B : Ex} {ρ : Sl} {f : List Rat} (h1 : A ρ t = .ok (encF f) t) (h2 : B ρ t = .ok (encF f) t) : eTest (eBin wNe A B) ρ t = .ok false t :=
  t_test (e_bin h1 h2 (by rw [wNe_encF]; simp))
theorem t_neQ {A B : Ex} {ρ : Sl} {x : Rat} (h1 : A ρ t = .ok (enc x) t) (h2 : B ρ t = .ok (enc x) t) : eTest (eBin wNe A B) ρ t = .ok false t :=
  t_test (e_bin h1 h2 (by rw [wNe_enc]; simp))
theorem i_false {c : Et} {u : Sv} {ρ : Sl} (h : c ρ t = .ok false t) : sIf c u sNext ρ t = .next ρ t := by
  rw [s_sIf, h, s_toS_ok, if_neg (by decide), s_sNext]
theorem x_set {i : Nat} {A : Ex} {ρ : Sl} {w : W} (h : A ρ t = .ok w t) : sSet i A ρ t = .next (ρ.set i (some w)) t := by
  rw [s_sSet, h, s_toS_ok]
end
/-! sizes -/
theorem five {m : Nat} (h : m ≤ 5) : m = 0 ∨ m = 1 ∨ m = 2 ∨ m = 3 ∨ m = 4 ∨ m = 5 := by omega
theorem szA : Sz 2 3 := ⟨by decide, by decide +kernel, by decide +kernel⟩
theorem szpA : Szp 2 3 8 := Szp.of (by decide) (by decide) (by decide +kernel) (by decide +kernel) (by decide +kernel) (by decide +kernel)
theorem zeros (n : Nat) : wMul (.tuple [.tuple [.int 0, .int 1]]) (.int (n : Int) ) = if n ≤ 1000 then some (encF (List.replicate n 0)) else none := by
  show (if _ then _ else _) = _
  have e : (List.replicate n [(.tuple [.int 0, .int 1] : W)]).flatten = (List.replicate n (0 : Rat)).map enc := by
    induction n with
    | zero => rfl
    | succ n ih => rw [List.replicate_succ, List.flatten_cons, ih]; rfl
  by_cases h : n ≤ 1000
  · rw [if_pos ⟨⟨by omega, by omega⟩, by decide⟩, if_pos h, Int.toNat_natCast, e]; rfl
  · rw [if_neg (by omega), if_neg h]
theorem allZ_dec {g : List Rat} {n : Nat} (h : g.length = n) : decide (g = List.replicate n 0) = allZ g := by
  by_cases c : allZ g = true
  · rw [c]
    exact decide_eq_true (List.eq_replicate_iff.mpr ⟨h, allZ_iff.mp c⟩)
  · rw [Bool.not_eq_true] at c
    rw [c]
    exact decide_eq_false fun e => by
      rw [allZ_iff.mpr (fun q hq => (List.eq_replicate_iff.mp e).2 q hq)] at c
      cases c
end G

end

section
namespace G
open PySem Ev
theorem szvA {m : Nat} (hm : m ≤ 5) : Szv 2 3 2 3 m ∧ ∀ k, k ≤ m → Sz (2 * 2 ^ k) (3 * 3 ^ k) := by
  have p : ∀ k, k ≤ 10 → Sz (2 ^ k) (3 ^ k) := fun k hk => ⟨by have := Nat.pow_pos (n := k) (show 0 < 2 by decide); omega, Nat.lt_of_le_of_lt (Nat.pow_le_pow_right (by decide) hk) (by decide +kernel), Nat.lt_of_le_of_lt (Nat.pow_le_pow_right (by decide) hk) (by decide +kernel)⟩
  have p2 : ∀ k, k ≤ 9 → Sz (2 * 2 ^ k) (3 * 3 ^ k) := fun k hk => by
    have := p (k + 1) (by omega)
    rwa [Nat.pow_succ, Nat.pow_succ, Nat.mul_comm, Nat.mul_comm (3 ^ k)] at this
  refine ⟨⟨szA, szA, fun k hk => p k (by omega), ?_⟩, fun k hk => p2 k (by omega)⟩
  have := p2 m (by omega)
  refine ⟨this.d0, this.d, ?_⟩
  have h3 : 3 * 3 ^ m ≤ 3 * 3 ^ 5 := Nat.mul_le_mul_left _ (Nat.pow_le_pow_right (by decide) hm)
  exact Nat.lt_of_le_of_lt (Nat.mul_le_mul (show m + 1 ≤ 6 by omega) h3) (by decide +kernel)
end G

end

section
namespace G
open PySem Ev
theorem powle {a b n N : Nat} (h : a ≤ 2 ^ b) (hn : n ≤ N) : a ^ n ≤ 2 ^ (b * N) :=
  Nat.le_trans (Nat.pow_le_pow_left h n) (by rw [← Nat.pow_mul]; exact Nat.pow_le_pow_right (by decide) (Nat.mul_le_mul_left _ hn))
theorem mulle {x y a b : Nat} (h1 : x ≤ 2 ^ a) (h2 : y ≤ 2 ^ b) : x * y ≤ 2 ^ (a + b) := by
  rw [Nat.pow_add]; exact Nat.mul_le_mul h1 h2
theorem ltp {x a b : Nat} (h : x ≤ 2 ^ a) (hb : a < b) : x < 2 ^ b := Nat.lt_of_le_of_lt h (Nat.pow_lt_pow_right (by decide) hb)
theorem szp_gen {D A n : Nat} (hn : n ≤ 5) (d1 : 1 ≤ D) (d2 : D ≤ 2 ^ 10) (a1 : 1 ≤ A) (a2 : A ≤ 2 ^ 10) : Szp D A n :=
  Szp.of d1 a1 (ltp (powle d2 hn) (by decide)) (ltp (powle (mulle (a := 10) (show 625 ≤ 2 ^ 10 by decide) a2) hn) (by decide)) (ltp d2 (by decide)) (ltp a2 (by decide))
theorem szc_gen {Df Af D A n : Nat} (hn : n ≤ 5) (d1 : 1 ≤ D) (d2 : D ≤ 2 ^ 10) (a1 : 1 ≤ A) (a2 : A ≤ 2 ^ 10) (f1 : 1 ≤ Df) (f2 : Df ≤ 2 ^ 100) (g2 : Af ≤ 2 ^ 300) : Szc Df Af D A n ∧ 1 ≤ Df * D ^ n ∧ Df * D ^ n ≤ 2 ^ 150 ∧ (n + 1) * (Af * (625 * (625 * A) ^ n)) ≤ 2 ^ 413 := by
  have p := szp_gen hn d1 d2 a1 a2
  have q1 : D ^ n ≤ 2 ^ 50 := powle d2 hn
  have q2 : (625 * A) ^ n ≤ 2 ^ 100 := powle (mulle (a := 10) (show 625 ≤ 2 ^ 10 by decide) a2) hn
  have q3 : 625 * (625 * A) ^ n ≤ 2 ^ 110 := mulle (a := 10) (show 625 ≤ 2 ^ 10 by decide) q2
  have q4 := mulle g2 q3
  have q5 : (n + 1) * (Af * (625 * (625 * A) ^ n)) ≤ 2 ^ 413 := mulle (a := 3) (show n + 1 ≤ 2 ^ 3 by omega) q4
  have q6 := mulle f2 q1
  have dn : 0 < D ^ n := Nat.pow_pos (by omega)
  have dd : 0 < Df * D ^ n := Nat.mul_pos f1 dn
  exact ⟨⟨p, ⟨by omega, ltp f2 (by decide), ltp g2 (by decide)⟩, ⟨by omega, ltp q1 (by decide), ltp q3 (by decide)⟩, ⟨by omega, ltp q6 (by decide), ltp q5 (by decide)⟩⟩, dd, q6, q5⟩
theorem FB.two {D A : Nat} {a b : Rat} (ha : Bd D A a) (hb : Bd D A b) : FB D A [a, b] := fun q hq => by
  simp at hq; rcases hq with rfl | rfl
  · exact ha
  · exact hb
theorem Hm2 (a b u v : Rat) : Hm [a, b] u v = a * u + b * v := by
  rw [Hm_cons, Hm_cons, Hm_nil]
  simp [Rat.pow_succ, Rat.pow_zero]
  grind
/-- a change after a change -/
theorem chg_chg (f : List Rat) (a b c d p q r s : Rat) : chg (chg f [a, b] [c, d]) [p, q] [r, s] = chg f [a * p + b * r, a * q + b * s] [c * p + d * r, c * q + d * s] := by
  refine Hm_ext (by rw [chg_len rfl rfl, chg_len rfl rfl, chg_len rfl rfl]) fun u v => ?_
  rw [Hm_chg rfl rfl, Hm_chg rfl rfl, Hm_chg rfl rfl]
  simp only [Hm2]
  congr 1 <;> grind
theorem chg_id (f : List Rat) : chg f [1, 0] [0, 1] = f := by
  refine Hm_ext (chg_len rfl rfl) fun u v => ?_
  rw [Hm_chg rfl rfl]
  simp only [Hm2]
  congr 1 <;> grind
theorem sz_gen {D A : Nat} (d1 : 1 ≤ D) (d2 : D ≤ 2 ^ 100) (a2 : A ≤ 2 ^ 100) : Sz D A := ⟨by omega, ltp d2 (by decide), ltp a2 (by decide)⟩
theorem c4_gen {D A : Nat} {a b c d : Rat} (d1 : 1 ≤ D) (d2 : D ≤ 2 ^ 10) (a2 : A ≤ 2 ^ 10) (ha : Bd D A a) (hb : Bd D A b) (hc : Bd D A c) (hd : Bd D A d) : C4 D A a b c d :=
  ⟨sz_gen d1 (Nat.le_trans d2 (by decide)) (Nat.le_trans a2 (by decide)), sz_gen (Nat.mul_pos d1 d1) (Nat.le_trans (mulle d2 d2) (by decide)) (Nat.le_trans (mulle a2 a2) (by decide)), ha, hb, hc, hd⟩
theorem inv_bd {w : Rat} (h0 : w ≠ 0) {A : Nat} (hd : w.den ≤ A) : Bd w.num.natAbs A (1 / w) := by
  have n0 : w.num ≠ 0 := fun z => h0 (Rat.num_eq_zero.mp z)
  have nR : (w.num : Rat) ≠ 0 := fun z => n0 (Rat.intCast_inj.mp (z.trans rfl))
  have md := mul_den w
  refine ⟨w.num.sign * w.den, ?_, ?_⟩
  · rw [Rat.mkRat_eq_div]
    have es : (w.num.sign : Rat) * (w.num.natAbs : Rat) = (w.num : Rat) := by
      rw [← Rat.intCast_natCast, ← Rat.intCast_mul, Int.sign_mul_natAbs]
    have aR : ((w.num.natAbs : Nat) : Rat) ≠ 0 := fun z => by
      have : w.num.natAbs = 0 := Rat.natCast_inj.mp (z.trans rfl)
      omega
    have ss : (w.num.sign : Rat) * (w.num.sign : Rat) = 1 := by
      rw [← Rat.intCast_mul]
      have : w.num.sign * w.num.sign = 1 := by
        rcases Int.lt_trichotomy w.num 0 with h | h | h
        · rw [Int.sign_eq_neg_one_of_neg h]; rfl
        · exact absurd h n0
        · rw [Int.sign_eq_one_of_pos h]; rfl
      rw [this]; rfl
    rw [Rat.intCast_mul, Rat.intCast_natCast]
    grind
  · rw [Int.natAbs_mul, Int.natAbs_sign, if_neg n0, Int.natAbs_natCast, Nat.one_mul]
    exact Nat.le_trans hd (Nat.le_mul_of_pos_right _ (by omega))
end G

end

section
namespace G
open PySem Ev
/-! ### one scale for sizes: multiples of 1 / KK ^ d, at most 2 ^ a -/
def KK : Nat := 443520
theorem KK_pos : 0 < KK := by decide
theorem KKp (n : Nat) : 0 < KK ^ n := Nat.pow_pos KK_pos
theorem KKn (n : Nat) : KK ^ n ≠ 0 := by have := KKp n; omega
theorem KK_le : KK ≤ 2 ^ 19 := by decide
theorem KKlt {n : Nat} (h : n ≤ 99) : KK ^ n < 2 ^ 1900 := by
  refine Nat.lt_of_le_of_lt (Nat.pow_le_pow_left KK_le n) ?_
  rw [← Nat.pow_mul]
  exact Nat.pow_lt_pow_right (by decide) (by omega)
theorem p2lt {a : Nat} (h : a ≤ 1899) : 2 ^ a < 2 ^ 1900 := Nat.pow_lt_pow_right (by decide) (by omega)
def B (d a : Nat) (q : Rat) : Prop := Bd (KK ^ d) (2 ^ a) q
theorem szB {d a : Nat} (h : d ≤ 99) (ha : a ≤ 1899) : Sz (KK ^ d) (2 ^ a) := ⟨KKn d, KKlt h, p2lt ha⟩
theorem B.ok {d a : Nat} {q : Rat} (h : B d a q) (hd : d ≤ 99) (ha : a ≤ 1899) : Ok q := (szB hd ha).ok h
theorem Bd.toB {D A d a : Nat} {q : Rat} (h : Bd D A q) (hD : D ∣ KK ^ d) (hA : A ≤ 2 ^ a) : B d a q := by
  obtain ⟨c, hc⟩ := hD
  have c0 : c ≠ 0 := by
    rintro rfl
    have := KKp d
    omega
  have := (h.up c c0).le hA
  unfold B
  rwa [← hc] at this
theorem B.mono {d a e b : Nat} {q : Rat} (h : B d a q) (hd : d ≤ e) (ha : a ≤ b) : B e b q :=
  Bd.toB h (Nat.pow_dvd_pow _ hd) (Nat.pow_le_pow_right (by decide) ha)
theorem p2s (a : Nat) : 2 ^ (a + 1) = 2 ^ a + 2 ^ a := by rw [Nat.pow_succ]; omega
theorem B.add {d a b c : Nat} {x y : Rat} (hx : B d a x) (hy : B d b y) (h1 : a + 1 ≤ c) (h2 : b + 1 ≤ c) : B d c (x + y) := by
  have := Bd.add (KKn d) (hx.mono (Nat.le_refl _) (show a ≤ c - 1 by omega)) (hy.mono (Nat.le_refl _) (show b ≤ c - 1 by omega))
  refine this.toB (Nat.dvd_refl _) ?_
  rw [← p2s]
  exact Nat.pow_le_pow_right (by decide) (by omega)
theorem B.mul {d a e b : Nat} {x y : Rat} (hx : B d a x) (hy : B e b y) : B (d + e) (a + b) (x * y) := by
  have := Bd.mul hx hy
  unfold B
  rwa [← Nat.pow_add, ← Nat.pow_add] at this
theorem B.neg {d a : Nat} {x : Rat} (hx : B d a x) : B d a (-x) := Bd.neg hx
theorem B.zero {d a : Nat} : B d a 0 := Bd.zero
theorem B.one {d a : Nat} : B d a 1 := Bd.one (KKn d) (Nat.pow_pos (by decide))
theorem B.int {d a : Nat} (i : Int) (h : i.natAbs ≤ 2 ^ a) : B d a (i : Rat) := Bd.int i (KKn d) h
theorem B.inv {d a c : Nat} (h : c ∣ KK ^ d) (hc : c ≠ 0) : B d a (1 / (((c : Nat) : Int) : Rat)) := by
  have := Bd.divn (D := 1) (A := 1) (Bd.one (by decide) (by decide)) (by decide) hc
  rw [Nat.one_mul] at this
  exact this.toB h (Nat.pow_pos (by decide))
theorem B.sub {d a b c : Nat} {x y : Rat} (hx : B d a x) (hy : B d b y) (h1 : a + 1 ≤ c) (h2 : b + 1 ≤ c) : B d c (x - y) := by
  rw [show x - y = x + -y by grind]
  exact hx.add hy.neg h1 h2
/-- forms -/
def BF (d a : Nat) (f : List Rat) : Prop := ∀ q ∈ f, B d a q
theorem BF.fb {d a : Nat} {f : List Rat} (h : BF d a f) : FB (KK ^ d) (2 ^ a) f := h
theorem FB.bf {D A d a : Nat} {f : List Rat} (h : FB D A f) (hD : D ∣ KK ^ d) (hA : A ≤ 2 ^ a) : BF d a f := fun q hq => (h q hq).toB hD hA
theorem BF.mono {d a e b : Nat} {f : List Rat} (h : BF d a f) (hd : d ≤ e) (ha : a ≤ b) : BF e b f := fun q hq => (h q hq).mono hd ha
theorem BF.get {d a : Nat} {f : List Rat} (h : BF d a f) (k : Nat) : B d a (f.getD k 0) := FB.get h k
theorem BF.ok {d a : Nat} {f : List Rat} (h : BF d a f) (hd : d ≤ 99) (ha : a ≤ 1899) : ∀ q ∈ f, Ok q := fun q hq => (h q hq).ok hd ha
theorem BF.form {d a : Nat} {f : List Rat} (h : BF d a f) (hd : d ≤ 99) (ha : a ≤ 1899) (h0 : 0 < f.length) (h25 : f.length ≤ 25) : isForm25 f := ⟨h0, h25, h.ok hd ha⟩
theorem BF.zeros {d a k : Nat} : BF d a (List.replicate k 0) := fun q hq => by rw [List.eq_of_mem_replicate hq]; exact B.zero
theorem BF.cons {d a : Nat} {x : Rat} {f : List Rat} (hx : B d a x) (hf : BF d a f) : BF d a (x :: f) := fun q hq => by
  rcases List.mem_cons.mp hq with rfl | z
  · exact hx
  · exact hf q z
theorem BF.nil {d a : Nat} : BF d a [] := fun q hq => by cases hq
theorem mulp {x a b : Nat} (h : x ≤ 2 ^ b) : x * 2 ^ a ≤ 2 ^ (a + b) := by
  rw [Nat.pow_add, Nat.mul_comm]; exact Nat.mul_le_mul_left _ h
theorem cv_B {f g : List Rat} {d a e b : Nat} (hf : BF d a f) (hg : BF e b g) (lf : 0 < f.length) (lg : 0 < g.length) (hl : f.length + g.length ≤ 26) (hd : d + e ≤ 99) (ha : a + b ≤ 1889) :
    forms_multiply [encF f, encF g] = .ok (encF (cv f g)) ∧ law_times [encF f, encF g] = .ok (encF (cv f g)) ∧ BF (d + e) (a + b + 10) (cv f g) := by
  have e1 : KK ^ d * KK ^ e = KK ^ (d + e) := (Nat.pow_add _ _ _).symm
  have e2 : 625 * (2 ^ a * 2 ^ b) ≤ 2 ^ (a + b + 10) := by rw [← Nat.pow_add]; exact mulp (by decide)
  have s : Sz (KK ^ d * KK ^ e) (625 * (2 ^ a * 2 ^ b)) := ⟨by rw [e1]; exact KKn _, by rw [e1]; exact KKlt hd, Nat.lt_of_le_of_lt e2 (p2lt (by omega))⟩
  have h1 := forms_multiply_spec hf.fb hg.fb lf lg hl (szB (by omega) (by omega)) (szB (by omega) (by omega)) s
  have h2 := law_times_spec hf.fb hg.fb lf lg hl (szB (by omega) (by omega)) (szB (by omega) (by omega)) s
  exact ⟨h1.1, h2.1, h1.2.bf (by rw [e1]; exact Nat.dvd_refl _) e2⟩
theorem cv_P {f g : List Rat} {d a e b : Nat} (hf : BF d a f) (hg : BF e b g) (lf : 0 < f.length) (lg : 0 < g.length) (hl : f.length + g.length ≤ 26) (hd : d + e ≤ 99) (ha : a + b ≤ 1889) :
    forms_multiply [encF f, encF g] = .ok (encF (cv f g)) ∧ BF (d + e) (a + b + 10) (cv f g) := by
  have e1 : KK ^ d * KK ^ e = KK ^ (d + e) := (Nat.pow_add _ _ _).symm
  have e2 : 625 * (2 ^ a * 2 ^ b) ≤ 2 ^ (a + b + 10) := by rw [← Nat.pow_add]; exact mulp (by decide)
  have s : Sz (KK ^ d * KK ^ e) (625 * (2 ^ a * 2 ^ b)) := ⟨by rw [e1]; exact KKn _, by rw [e1]; exact KKlt hd, Nat.lt_of_le_of_lt e2 (p2lt (by omega))⟩
  have h1 := forms_multiply_spec hf.fb hg.fb lf lg hl (szB (by omega) (by omega)) (szB (by omega) (by omega)) s
  exact ⟨h1.1, h1.2.bf (by rw [e1]; exact Nat.dvd_refl _) e2⟩
theorem add_BF {f g : List Rat} {d a b c : Nat} (hf : BF d a f) (hg : BF d b g) (h1 : a + 1 ≤ c) (h2 : b + 1 ≤ c) : BF d c (List.zipWith (· + ·) f g) := by
  refine (plus_FB (KKn d) (hf.mono (Nat.le_refl _) (show a ≤ c - 1 by omega)).fb (hg.mono (Nat.le_refl _) (show b ≤ c - 1 by omega)).fb).bf (Nat.dvd_refl _) ?_
  rw [← p2s]
  exact Nat.pow_le_pow_right (by decide) (by omega)
theorem add_P {f g : List Rat} {d a b : Nat} (hf : BF d a f) (hg : BF d b g) (hl : f.length = g.length) (h25 : f.length ≤ 100) (hd : d ≤ 99) (ha : a ≤ 1899) (hb : b ≤ 1899) :
    forms_add [encF f, encF g] = .ok (encF (List.zipWith (· + ·) f g)) := (forms_add_spec hf.fb hg.fb hl h25 (szB hd ha) (szB hd hb)).1
theorem add_L {f g : List Rat} {d a b : Nat} (hf : BF d a f) (hg : BF d b g) (hl : f.length = g.length) (h25 : f.length ≤ 100) (hd : d ≤ 99) (ha : a ≤ 1899) (hb : b ≤ 1899) :
    law_plus [encF f, encF g] = .ok (encF (List.zipWith (· + ·) f g)) := (law_plus_spec hf.fb hg.fb hl h25 (szB hd ha) (szB hd hb)).1
theorem scale_BF {f : List Rat} {c : Rat} {d a e b : Nat} (hf : BF d a f) (hc : B e b c) : BF (e + d) (b + a) (f.map (c * ·)) :=
  (scale_FB hf.fb hc).bf (by rw [← Nat.pow_add]; exact Nat.dvd_refl _) (by rw [← Nat.pow_add]; exact Nat.le_refl _)
theorem scale_P {f : List Rat} {c : Rat} {d a e b : Nat} (hf : BF d a f) (hc : B e b c) (h25 : f.length ≤ 100) (hd : d ≤ 99) (ha : a ≤ 1899) (he : e ≤ 99) (hb : b ≤ 1899) :
    forms_scaled [enc c, encF f] = .ok (encF (f.map (c * ·))) := (forms_scaled_spec hf.fb hc h25 (szB hd ha) (szB he hb)).1
theorem scale_L {f : List Rat} {c : Rat} {d a e b : Nat} (hf : BF d a f) (hc : B e b c) (h25 : f.length ≤ 100) (hd : d ≤ 99) (ha : a ≤ 1899) (he : e ≤ 99) (hb : b ≤ 1899) :
    law_scaled [enc c, encF f] = .ok (encF (f.map (c * ·))) := (law_scaled_spec hf.fb hc h25 (szB hd ha) (szB he hb)).1
theorem slope_BF {f : List Rat} {d a : Nat} (hf : BF d a f) (hl : f.length ≤ 32) : BF d (a + 5) (sx f) ∧ BF d (a + 5) (sy f) := by
  have b1 := sx_FB hf.fb (N := 32) hl
  have b2 := sy_FB hf.fb (N := 32) hl
  have q : 32 * 2 ^ a ≤ 2 ^ (a + 5) := mulp (by decide)
  exact ⟨b1.bf (Nat.dvd_refl _) q, b2.bf (Nat.dvd_refl _) q⟩
theorem add_B {f g : List Rat} {d a b c : Nat} (hf : BF d a f) (hg : BF d b g) (hl : f.length = g.length) (h25 : f.length ≤ 100) (hd : d ≤ 99) (h1 : a + 1 ≤ c) (h2 : b + 1 ≤ c) (hc : c ≤ 1899) :
    forms_add [encF f, encF g] = .ok (encF (List.zipWith (· + ·) f g)) ∧ law_plus [encF f, encF g] = .ok (encF (List.zipWith (· + ·) f g)) ∧ BF d c (List.zipWith (· + ·) f g) := by
  have h1' := forms_add_spec (hf.mono (Nat.le_refl _) (show a ≤ c - 1 by omega)).fb (hg.mono (Nat.le_refl _) (show b ≤ c - 1 by omega)).fb hl h25 (szB hd (by omega)) (szB hd (by omega))
  have h2' := law_plus_spec hf.fb hg.fb hl h25 (szB hd (by omega)) (szB hd (by omega))
  refine ⟨h1'.1, h2'.1, h1'.2.bf (Nat.dvd_refl _) ?_⟩
  rw [← p2s]
  exact Nat.pow_le_pow_right (by decide) (by omega)
theorem scale_B {f : List Rat} {c : Rat} {d a e b : Nat} (hf : BF d a f) (hc : B e b c) (h25 : f.length ≤ 100) (hd : d ≤ 99) (ha : a ≤ 1899) (he : e ≤ 99) (hb : b ≤ 1899) :
    forms_scaled [enc c, encF f] = .ok (encF (f.map (c * ·))) ∧ law_scaled [enc c, encF f] = .ok (encF (f.map (c * ·))) ∧ BF (e + d) (b + a) (f.map (c * ·)) := by
  have h1 := forms_scaled_spec hf.fb hc h25 (szB hd ha) (szB he hb)
  have h2 := law_scaled_spec hf.fb hc h25 (szB hd ha) (szB he hb)
  exact ⟨h1.1, h2.1, h1.2.bf (by rw [← Nat.pow_add]; exact Nat.dvd_refl _) (by rw [← Nat.pow_add]; exact Nat.le_refl _)⟩
theorem slope_B {f : List Rat} {d a : Nat} (hf : BF d a f) (hd : d ≤ 99) (ha : a ≤ 1899) (h0 : 0 < f.length) (hl : f.length ≤ 32) :
    forms_slope_x [encF f] = .ok (encF (sx f)) ∧ forms_slope_y [encF f] = .ok (encF (sy f)) ∧ law_slope [encF f, .bool true] = .ok (encF (sx f)) ∧ law_slope [encF f, .bool false] = .ok (encF (sy f)) ∧ BF d (a + 5) (sx f) ∧ BF d (a + 5) (sy f) := by
  have b1 := sx_FB hf.fb (N := 32) hl
  have b2 := sy_FB hf.fb (N := 32) hl
  have q : 32 * 2 ^ a ≤ 2 ^ (a + 5) := mulp (by decide)
  exact ⟨slope_x_spec hf.fb (szB hd ha) h0 (by omega), slope_y_spec hf.fb (szB hd ha) h0 (by omega), law_slope_spec true hf.fb (szB hd ha) h0 (by omega), law_slope_spec false hf.fb (szB hd ha) h0 (by omega), b1.bf (Nat.dvd_refl _) q, b2.bf (Nat.dvd_refl _) q⟩
/-- drawn forms -/
theorem FB.drawn {f : List Rat} (h : FB 2 3 f) : BF 1 2 f := h.bf (by decide) (by decide)
end G

end

section
namespace G
open PySem Ev
/-! ### slopes of values -/
def dp (u p : Rat) : Nat → Rat
  | 0 => 0
  | n + 1 => dp u p n * u + u ^ n * p
theorem dp_add (u p : Rat) (m : Nat) : ∀ n : Nat, dp u p (m + n) = dp u p m * u ^ n + u ^ m * dp u p n
  | 0 => by rw [Nat.add_zero, Rat.pow_zero]; unfold dp; grind
  | n + 1 => by
    rw [← Nat.add_assoc]
    show dp u p (m + n) * u + u ^ (m + n) * p = dp u p m * u ^ (n + 1) + u ^ m * (dp u p n * u + u ^ n * p)
    rw [dp_add u p m n, rpow_add, Rat.pow_succ]
    grind
theorem dp_zero (u : Rat) : ∀ n : Nat, dp u 0 n = 0
  | 0 => rfl
  | n + 1 => by unfold dp; rw [dp_zero u n]; grind
theorem dp_one (u : Rat) : ∀ n : Nat, dp u 1 n = ((n : Nat) : Rat) * u ^ (n - 1)
  | 0 => by unfold dp; grind
  | n + 1 => by
    unfold dp; rw [dp_one u n, Nat.add_sub_cancel]
    cases n with
    | zero => simp [Rat.pow_zero]; grind
    | succ n => rw [Nat.add_sub_cancel, Rat.pow_succ]; simp; grind
def Dm : List Rat → Rat → Rat → Rat → Rat → Rat
  | [], _, _, _, _ => 0
  | a :: l, u, v, p, q => a * dp u p l.length + q * Hm l u v + v * Dm l u v p q
theorem Dm_nil (u v p q : Rat) : Dm [] u v p q = 0 := rfl
theorem Dm_cons (a : Rat) (l : List Rat) (u v p q : Rat) : Dm (a :: l) u v p q = a * dp u p l.length + q * Hm l u v + v * Dm l u v p q := rfl
section
variable (u v p q : Rat)
theorem Dm_add : ∀ {f g : List Rat}, f.length = g.length → Dm (List.zipWith (· + ·) f g) u v p q = Dm f u v p q + Dm g u v p q
  | [], [], _ => by simp [Dm]; grind
  | [], _ :: _, h => by simp at h
  | _ :: _, [], h => by simp at h
  | a :: f, b :: g, h => by
    have h' : f.length = g.length := by simpa using h
    simp only [List.zipWith_cons_cons, Dm_cons, List.length_zipWith, h', Nat.min_self]
    rw [Dm_add h', Hm_add u v h']
    grind
theorem Dm_scale (c : Rat) : ∀ f : List Rat, Dm (f.map (c * ·)) u v p q = c * Dm f u v p q
  | [] => by simp [Dm]
  | a :: f => by
    simp only [List.map_cons, Dm_cons, List.length_map]
    rw [Dm_scale c f, Hm_scale u v c f]
    grind
theorem Dm_zero : ∀ n : Nat, Dm (List.replicate n 0) u v p q = 0
  | 0 => rfl
  | n + 1 => by rw [List.replicate_succ, Dm_cons, Dm_zero n, Hm_zero]; grind
theorem Dm_pad (n : Nat) : ∀ g : List Rat, Dm (g ++ List.replicate n 0) u v p q = Dm g u v p q * u ^ n + Hm g u v * dp u p n
  | [] => by rw [List.nil_append, Dm_zero, Hm_nil, Dm_nil]; grind
  | a :: g => by
    rw [List.cons_append, Dm_cons, Dm_cons, Dm_pad n g, Hm_pad, List.length_append, List.length_replicate, dp_add, Hm_cons]
    grind
theorem Dm_cv {g : List Rat} (hg : 0 < g.length) : ∀ f : List Rat, Dm (cv f g) u v p q = Dm f u v p q * Hm g u v + Hm f u v * Dm g u v p q
  | [] => by unfold cv; rw [Dm_zero, Hm_nil, Dm_nil]; grind
  | a :: f => by
    unfold cv
    rw [Dm_add u v p q (by rw [List.length_append, List.length_map, List.length_replicate, List.length_cons, cv_len hg f]; omega), Dm_pad, Dm_scale, Hm_scale, Dm_cons, Dm_cons, Hm_cons, Dm_cv hg f, Hm_cv u v hg f]
    grind
theorem Dm_pw {f : List Rat} (hf : 0 < f.length) : ∀ n : Nat, Dm (pw f n) u v p q = dp (Hm f u v) (Dm f u v p q) n
  | 0 => by
    show Dm [1] u v p q = _
    rw [Dm_cons, Dm_nil, Hm_nil, List.length_nil]; unfold dp; grind
  | n + 1 => by
    show Dm (cv (pw f n) f) u v p q = _
    rw [Dm_cv u v p q hf, Dm_pw hf n, Hm_pw u v hf n]
    rfl
def dtm (f : List Rat) (u v p q : Rat) (k : Nat) : Rat := f.getD k 0 * (dp u p (f.length - 1 - k) * v ^ k + u ^ (f.length - 1 - k) * dp v q k)
theorem Dm_sum : ∀ f : List Rat, Dm f u v p q = Sg f.length (dtm f u v p q)
  | [] => rfl
  | a :: l => by
    rw [List.length_cons, Sg_first, Dm_cons, Dm_sum l, Hm_sum u v l, ← Sg_mul, ← Sg_mul, Rat.add_assoc, ← Sg_add]
    congr 1
    · simp [dtm, Rat.pow_zero, dp]
      grind
    · refine Sg_congr fun i hi => ?_
      have e : l.length - (i + 1) = l.length - 1 - i := by omega
      simp only [tm, dtm, List.getD_cons_succ, List.length_cons, Nat.add_sub_cancel, Rat.pow_succ, e]
      rw [show dp v q (i + 1) = dp v q i * v + v ^ i * q from rfl]
      grind
/-- the chain rule -/
theorem Dm_chg {f P Q : List Rat} (hp : P.length = 2) (hq : Q.length = 2) : Dm (chg f P Q) u v p q = Dm f (Hm P u v) (Hm Q u v) (Dm P u v p q) (Dm Q u v p q) := by
  have : ∀ i, i ≤ f.length → Dm (chgN f P Q i) u v p q = Sg i (dtm f (Hm P u v) (Hm Q u v) (Dm P u v p q) (Dm Q u v p q)) := by
    intro i
    induction i with
    | zero => intro _; show Dm (List.replicate _ _) u v p q = _; rw [Dm_zero]; rfl
    | succ i ih =>
      intro h
      show Dm (List.zipWith _ _ _) u v p q = _
      rw [Dm_add u v p q (by rw [chgN_len hp hq i (by omega), cterm_len hp hq (by omega)]), ih (by omega), Sg_succ]
      congr 1
      unfold cterm dtm
      rw [Dm_scale, Dm_cv u v p q (by rw [pw_len (by omega)]; omega), Dm_pw u v p q (by omega), Dm_pw u v p q (by omega), Hm_pw u v (by omega), Hm_pw u v (by omega)]
  rw [Dm_sum _ _ _ _ f]
  exact this _ (Nat.le_refl _)
end
/-! the slopes' values -/
def sx0 (f : List Rat) : List Rat := (List.range (f.length - 1)).map fun k => (((f.length - 1 - k : Nat) : Int) : Rat) * f.getD k 0
def sy0 (f : List Rat) : List Rat := (List.range (f.length - 1)).map fun k => (((k + 1 : Nat) : Int) : Rat) * f.getD (k + 1) 0
theorem Hm_sx0 (u v : Rat) : ∀ f : List Rat, Hm (sx0 f) u v = Dm f u v 1 0
  | [] => rfl
  | [a] => by
    show Hm [] u v = _
    rw [Dm_cons, Hm_nil, Dm_nil, List.length_nil]; unfold dp; grind
  | a :: b :: l => by
    have e : sx0 (a :: b :: l) = (((b :: l).length : Nat) : Rat) * a :: sx0 (b :: l) := by
      unfold sx0
      simp only [List.length_cons, Nat.add_sub_cancel]
      rw [List.range_succ_eq_map, List.map_cons, List.map_map]
      congr 1
      refine List.map_congr_left fun k hk => ?_
      have e : l.length + 1 - (k + 1) = l.length - k := by omega
      simp only [Function.comp_def, Nat.succ_eq_add_one, e, List.getD_cons_succ]
    rw [e, Hm_cons, Hm_sx0 u v (b :: l), Dm_cons a (b :: l), dp_one]
    have e2 : (sx0 (b :: l)).length = (b :: l).length - 1 := by unfold sx0; simp
    rw [e2]
    grind
theorem Hm_sy0 (u v : Rat) : ∀ f : List Rat, Hm (sy0 f) u v = Dm f u v 0 1
  | [] => rfl
  | [a] => by
    show Hm [] u v = _
    rw [Dm_cons, Hm_nil, Dm_nil, List.length_nil]; unfold dp; grind
  | a :: b :: l => by
    have e : sy0 (a :: b :: l) = List.zipWith (· + ·) (b :: l) (0 :: sy0 (b :: l)) := by
      apply List.ext_getElem?
      intro i
      unfold sy0
      rw [List.getElem?_zipWith]
      by_cases h : i < l.length + 1
      · cases i with
        | zero => simp; grind
        | succ i =>
          have h' : i < l.length := by omega
          simp [h, h']
          have : (((i : Nat) : Int) : Rat) + 1 + 1 = 1 + ((((i : Nat) : Int) : Rat) + 1) := by grind
          grind
      · simp at h
        rw [List.getElem?_eq_none (by simp; omega)]
        cases i with
        | zero => omega
        | succ i => simp [List.getElem?_eq_none (show l.length ≤ i by omega)]
    rw [e, Hm_add u v (by unfold sy0; simp), Hm_cons _ _ 0, Hm_sy0 u v (b :: l), Dm_cons a, dp_zero]
    grind
theorem Hm_sx (u v : Rat) {f : List Rat} : Hm (sx f) u v = Dm f u v 1 0 := by
  unfold sx
  split
  · rename_i h
    obtain ⟨a, rfl⟩ := List.length_eq_one_iff.mp h
    rw [Hm_cons, Hm_nil, Dm_cons, Hm_nil, Dm_nil, List.length_nil]; unfold dp; grind
  · exact Hm_sx0 u v f
theorem Hm_sy (u v : Rat) {f : List Rat} : Hm (sy f) u v = Dm f u v 0 1 := by
  unfold sy
  split
  · rename_i h
    obtain ⟨a, rfl⟩ := List.length_eq_one_iff.mp h
    rw [Hm_cons, Hm_nil, Dm_cons, Hm_nil, Dm_nil, List.length_nil]; unfold dp; grind
  · exact Hm_sy0 u v f
end G

end

section
namespace G
open PySem Ev
/-! ### slides -/
def T : Nat → List Rat → List Rat → List Rat
  | 0, f, g => cv f g
  | k + 1, f, g => List.zipWith (· + ·) (T k (sx f) (sy g)) ((T k (sy f) (sx g)).map (-1 * ·))
theorem T_len : ∀ (k : Nat) {f g : List Rat}, k < f.length → k < g.length → (T k f g).length = f.length + g.length - 1 - 2 * k
  | 0, f, g, hf, hg => by unfold T; rw [cv_len hg]; omega
  | k + 1, f, g, hf, hg => by
    unfold T
    have a := sx_len (f := f) (by omega)
    have b := sy_len (f := f) (by omega)
    have c := sx_len (f := g) (by omega)
    have d := sy_len (f := g) (by omega)
    rw [List.length_zipWith, List.length_map, T_len k (by omega) (by omega), T_len k (by omega) (by omega)]
    omega
theorem T_succ (u v : Rat) (k : Nat) {f g : List Rat} (hf : k + 1 < f.length) (hg : k + 1 < g.length) : Hm (T (k + 1) f g) u v = Hm (T k (sx f) (sy g)) u v - Hm (T k (sy f) (sx g)) u v := by
  have a := sx_len (f := f) (by omega)
  have b := sy_len (f := f) (by omega)
  have c := sx_len (f := g) (by omega)
  have d := sy_len (f := g) (by omega)
  rw [show T (k + 1) f g = List.zipWith (· + ·) (T k (sx f) (sy g)) ((T k (sy f) (sx g)).map (-1 * ·)) from rfl, Hm_add u v (by rw [List.length_map, T_len k (by omega) (by omega), T_len k (by omega) (by omega)]; omega), Hm_scale]
  grind
/-! slopes of sums, multiples, changed ones -/
theorem sx_add {f g : List Rat} (h : f.length = g.length) (h0 : 0 < f.length) : sx (List.zipWith (· + ·) f g) = List.zipWith (· + ·) (sx f) (sx g) :=
  Hm_ext (by rw [sx_len (by simp; omega), List.length_zipWith, List.length_zipWith, sx_len h0, sx_len (by omega)]; omega) fun u v => by
    rw [Hm_sx, Dm_add _ _ _ _ h, Hm_add u v (by rw [sx_len h0, sx_len (by omega)]; omega), Hm_sx, Hm_sx]
theorem sy_add {f g : List Rat} (h : f.length = g.length) (h0 : 0 < f.length) : sy (List.zipWith (· + ·) f g) = List.zipWith (· + ·) (sy f) (sy g) :=
  Hm_ext (by rw [sy_len (by simp; omega), List.length_zipWith, List.length_zipWith, sy_len h0, sy_len (by omega)]; omega) fun u v => by
    rw [Hm_sy, Dm_add _ _ _ _ h, Hm_add u v (by rw [sy_len h0, sy_len (by omega)]; omega), Hm_sy, Hm_sy]
theorem sx_scale {f : List Rat} (c : Rat) (h0 : 0 < f.length) : sx (f.map (c * ·)) = (sx f).map (c * ·) :=
  Hm_ext (by rw [sx_len (by simpa using h0), List.length_map, List.length_map, sx_len h0]) fun u v => by
    rw [Hm_sx, Dm_scale, Hm_scale, Hm_sx]
theorem sy_scale {f : List Rat} (c : Rat) (h0 : 0 < f.length) : sy (f.map (c * ·)) = (sy f).map (c * ·) :=
  Hm_ext (by rw [sy_len (by simpa using h0), List.length_map, List.length_map, sy_len h0]) fun u v => by
    rw [Hm_sy, Dm_scale, Hm_scale, Hm_sy]
theorem Dm2 (a b u v p q : Rat) : Dm [a, b] u v p q = a * p + b * q := by
  rw [Dm_cons, Dm_cons, Dm_nil, Hm_cons, Hm_nil]
  simp [dp, Rat.pow_zero]
  grind
theorem Dm_lin (f : List Rat) (u v p q : Rat) : Dm f u v p q = p * Dm f u v 1 0 + q * Dm f u v 0 1 := by
  have dl : ∀ n, dp u p n = p * dp u 1 n := fun n => by
    induction n with
    | zero => unfold dp; grind
    | succ n ih => unfold dp; rw [ih]; grind
  induction f with
  | nil => simp only [Dm_nil]; grind
  | cons a l ih => rw [Dm_cons, Dm_cons, Dm_cons, ih, dl, dp_zero]; grind
theorem sx_chg (a b c d : Rat) {f : List Rat} (h0 : 0 < f.length) : sx (chg f [a, b] [c, d]) = List.zipWith (· + ·) ((chg (sx f) [a, b] [c, d]).map (a * ·)) ((chg (sy f) [a, b] [c, d]).map (c * ·)) := by
  have e := sx_len h0
  have e' := sy_len h0
  refine Hm_ext ?_ fun u v => ?_
  · rw [sx_len (by rw [chg_len rfl rfl]; exact h0), List.length_zipWith, List.length_map, List.length_map, chg_len rfl rfl, chg_len rfl rfl, chg_len rfl rfl, e, e']; omega
  · rw [Hm_sx, Dm_chg _ _ _ _ rfl rfl, Hm_add u v (by rw [List.length_map, List.length_map, chg_len rfl rfl, chg_len rfl rfl, e, e']), Hm_scale, Hm_scale, Hm_chg rfl rfl, Hm_chg rfl rfl, Hm_sx, Hm_sy, Dm_lin]
    simp only [Dm2]
    grind
theorem sy_chg (a b c d : Rat) {f : List Rat} (h0 : 0 < f.length) : sy (chg f [a, b] [c, d]) = List.zipWith (· + ·) ((chg (sx f) [a, b] [c, d]).map (b * ·)) ((chg (sy f) [a, b] [c, d]).map (d * ·)) := by
  have e := sx_len h0
  have e' := sy_len h0
  refine Hm_ext ?_ fun u v => ?_
  · rw [sy_len (by rw [chg_len rfl rfl]; exact h0), List.length_zipWith, List.length_map, List.length_map, chg_len rfl rfl, chg_len rfl rfl, chg_len rfl rfl, e, e']; omega
  · rw [Hm_sy, Dm_chg _ _ _ _ rfl rfl, Hm_add u v (by rw [List.length_map, List.length_map, chg_len rfl rfl, chg_len rfl rfl, e, e']), Hm_scale, Hm_scale, Hm_chg rfl rfl, Hm_chg rfl rfl, Hm_sx, Hm_sy, Dm_lin]
    simp only [Dm2]
    grind
section
variable (u v : Rat)
theorem T_addL : ∀ (k : Nat) {f f' g : List Rat}, f.length = f'.length → k < f.length → k < g.length → Hm (T k (List.zipWith (· + ·) f f') g) u v = Hm (T k f g) u v + Hm (T k f' g) u v
  | 0, f, f', g, h, hf, hg => by unfold T; rw [Hm_cv u v hg, Hm_cv u v hg, Hm_cv u v hg, Hm_add u v h]; grind
  | k + 1, f, f', g, h, hf, hg => by
    have a := sx_len (f := f) (by omega)
    have b := sy_len (f := f) (by omega)
    have a' := sx_len (f := f') (by omega)
    have b' := sy_len (f := f') (by omega)
    have c := sx_len (f := g) (by omega)
    have d := sy_len (f := g) (by omega)
    rw [T_succ u v k (by simp; omega) hg, sx_add h (by omega), sy_add h (by omega), T_addL k (by omega) (by omega) (by omega), T_addL k (by omega) (by omega) (by omega), T_succ u v k hf hg, T_succ u v k (by omega) hg]
    grind
theorem T_scaleL (c : Rat) : ∀ (k : Nat) {f g : List Rat}, k < f.length → k < g.length → Hm (T k (f.map (c * ·)) g) u v = c * Hm (T k f g) u v
  | 0, f, g, hf, hg => by unfold T; rw [Hm_cv u v hg, Hm_cv u v hg, Hm_scale]; grind
  | k + 1, f, g, hf, hg => by
    have a := sx_len (f := f) (by omega)
    have b := sy_len (f := f) (by omega)
    have c := sx_len (f := g) (by omega)
    have d := sy_len (f := g) (by omega)
    rw [T_succ u v k (by simp; omega) hg, sx_scale _ (by omega), sy_scale _ (by omega), T_scaleL _ k (by omega) (by omega), T_scaleL _ k (by omega) (by omega), T_succ u v k hf hg]
    grind
/-- the other way -/
theorem T_swap : ∀ (k : Nat) {f g : List Rat}, k < f.length → k < g.length → Hm (T k g f) u v = (-1) ^ k * Hm (T k f g) u v
  | 0, f, g, hf, hg => by unfold T; rw [Hm_cv u v hg, Hm_cv u v hf, Rat.pow_zero]; grind
  | k + 1, f, g, hf, hg => by
    have a := sx_len (f := f) (by omega)
    have b := sy_len (f := f) (by omega)
    have c := sx_len (f := g) (by omega)
    have d := sy_len (f := g) (by omega)
    rw [T_succ u v k hg hf, T_swap k (f := sy f) (by omega) (by omega), T_swap k (f := sx f) (by omega) (by omega), T_succ u v k hf hg, Rat.pow_succ]
    grind
theorem T_addR (k : Nat) {f g g' : List Rat} (h : g.length = g'.length) (hf : k < f.length) (hg : k < g.length) : Hm (T k f (List.zipWith (· + ·) g g')) u v = Hm (T k f g) u v + Hm (T k f g') u v := by
  rw [T_swap u v k (f := List.zipWith (· + ·) g g') (by simp; omega) hf, T_addL u v k h hg hf, T_swap u v k (f := g) hg hf, T_swap u v k (f := g') (by omega) hf]
  grind
theorem T_scaleR (c : Rat) (k : Nat) {f g : List Rat} (hf : k < f.length) (hg : k < g.length) : Hm (T k f (g.map (c * ·))) u v = c * Hm (T k f g) u v := by
  rw [T_swap u v k (f := g.map (c * ·)) (by simpa using hg) hf, T_scaleL u v c k hg hf, T_swap u v k (f := g) hg hf]
  grind
end
/-- a change multiplies the k-th slide by the determinant to the k -/
theorem T_chg (a b c d : Rat) : ∀ (k : Nat) {f g : List Rat} (u v : Rat), k < f.length → k < g.length →
    Hm (T k (chg f [a, b] [c, d]) (chg g [a, b] [c, d])) u v = (a * d - b * c) ^ k * Hm (T k f g) (a * u + b * v) (c * u + d * v)
  | 0, f, g, u, v, hf, hg => by
    unfold T
    rw [Hm_cv u v (by rw [chg_len rfl rfl]; exact hg), Hm_cv _ _ hg, Hm_chg rfl rfl, Hm_chg rfl rfl, Rat.pow_zero]
    simp only [Hm2]
    grind
  | k + 1, f, g, u, v, hf, hg => by
    have l1 := sx_len (f := f) (by omega)
    have l2 := sy_len (f := f) (by omega)
    have l3 := sx_len (f := g) (by omega)
    have l4 := sy_len (f := g) (by omega)
    have m := fun (f : List Rat) => chg_len (f := f) (p := [a, b]) (q := [c, d]) rfl rfl
    rw [T_succ u v k (by rw [m]; omega) (by rw [m]; omega), sx_chg a b c d (by omega), sx_chg a b c d (by omega), sy_chg a b c d (by omega), sy_chg a b c d (by omega)]
    have L : ∀ (x y z w : Rat), Hm (T k (List.zipWith (· + ·) ((chg (sx f) [a, b] [c, d]).map (x * ·)) ((chg (sy f) [a, b] [c, d]).map (y * ·))) (List.zipWith (· + ·) ((chg (sx g) [a, b] [c, d]).map (z * ·)) ((chg (sy g) [a, b] [c, d]).map (w * ·)))) u v
        = (a * d - b * c) ^ k * (x * z * Hm (T k (sx f) (sx g)) (a * u + b * v) (c * u + d * v) + x * w * Hm (T k (sx f) (sy g)) (a * u + b * v) (c * u + d * v) + y * z * Hm (T k (sy f) (sx g)) (a * u + b * v) (c * u + d * v) + y * w * Hm (T k (sy f) (sy g)) (a * u + b * v) (c * u + d * v)) := fun x y z w => by
      rw [T_addL u v k (by simp [m]; omega) (by simp [m]; omega) (by simp [m]; omega), T_addR u v k (by simp [m]; omega) (by simp [m]; omega) (by simp [m]; omega), T_addR u v k (by simp [m]; omega) (by simp [m]; omega) (by simp [m]; omega)]
      rw [T_scaleL u v x k (by rw [m]; omega) (by simp [m]; omega), T_scaleL u v x k (by rw [m]; omega) (by simp [m]; omega), T_scaleL u v y k (by rw [m]; omega) (by simp [m]; omega), T_scaleL u v y k (by rw [m]; omega) (by simp [m]; omega)]
      rw [T_scaleR u v z k (by rw [m]; omega) (by rw [m]; omega), T_scaleR u v w k (by rw [m]; omega) (by rw [m]; omega), T_scaleR u v z k (by rw [m]; omega) (by rw [m]; omega), T_scaleR u v w k (by rw [m]; omega) (by rw [m]; omega)]
      rw [T_chg a b c d k u v (by omega) (by omega), T_chg a b c d k u v (by omega) (by omega), T_chg a b c d k u v (by omega) (by omega), T_chg a b c d k u v (by omega) (by omega)]
      grind
    rw [L, L, T_succ _ _ k hf hg, Rat.pow_succ]
    grind
/-! ### the sum of products of slopes -/
theorem sx_sy {f : List Rat} (h0 : 0 < f.length) : sx (sy f) = sy (sx f) := by
  have e1 := sx_len h0
  have e2 := sy_len h0
  by_cases h1 : f.length = 1
  · obtain ⟨a, rfl⟩ := List.length_eq_one_iff.mp h1
    rfl
  by_cases h2 : f.length = 2
  · rcases f with _ | ⟨a, _ | ⟨b, _ | ⟨c, f⟩⟩⟩
    · simp at h2
    · simp at h2
    · simp [sx, sy]
    · simp at h2
  · have l1 : (sx f).length ≠ 1 := by omega
    have l2 : (sy f).length ≠ 1 := by omega
    have s1 : sx (sy f) = sx0 (sy f) := if_neg l2
    have s2 : sy (sx f) = sy0 (sx f) := if_neg l1
    rw [s1, s2]
    unfold sx0 sy0
    rw [show (sy f).length - 1 = (sx f).length - 1 by omega]
    refine List.map_congr_left fun k hk => ?_
    have hk := List.mem_range.mp hk
    have a1 : (sy f).getD k 0 = (((k + 1 : Nat) : Int) : Rat) * f.getD (k + 1) 0 := by
      unfold sy; rw [if_neg h1]
      rw [List.getD_eq_getElem?_getD, List.getElem?_map, List.getElem?_range (by omega)]; rfl
    have a2 : (sx f).getD (k + 1) 0 = (((f.length - 1 - (k + 1) : Nat) : Int) : Rat) * f.getD (k + 1) 0 := by
      unfold sx; rw [if_neg h1]
      rw [List.getD_eq_getElem?_getD, List.getElem?_map, List.getElem?_range (by omega)]; rfl
    rw [a1, a2, show (sx f).length - 1 - k = f.length - 1 - (k + 1) by omega]
    grind
def sg : Nat → Rat
  | 0 => 1
  | k + 1 => -(sg k)
theorem cb_over : ∀ {n k : Nat}, n < k → cb n k = 0
  | n, 0, h => by omega
  | 0, k + 1, _ => rfl
  | n + 1, k + 1, h => by unfold cb; rw [cb_over (by omega), cb_over (by omega)]
theorem cb_zero (n : Nat) : cb n 0 = 1 := by cases n <;> rfl
theorem pascal (E : Nat → Rat) (k : Nat) : Sg (k + 2) (fun j => sg j * ((cb (k + 1) j : Nat) : Rat) * E j) = Sg (k + 1) (fun j => sg j * ((cb k j : Nat) : Rat) * E j) - Sg (k + 1) (fun j => sg j * ((cb k j : Nat) : Rat) * E (j + 1)) := by
  have h1 : Sg (k + 2) (fun j => sg j * ((cb k j : Nat) : Rat) * E j) = Sg (k + 1) (fun j => sg j * ((cb k j : Nat) : Rat) * E j) := by
    rw [Sg_succ, cb_over (by omega)]
    simp; grind
  rw [← h1, Sg_first, Sg_first (n := k + 1)]
  have e : (fun j => sg (j + 1) * ((cb (k + 1) (j + 1) : Nat) : Rat) * E (j + 1)) = fun j => sg (j + 1) * ((cb k (j + 1) : Nat) : Rat) * E (j + 1) + (-1) * (sg j * ((cb k j : Nat) : Rat) * E (j + 1)) := by
    funext j
    rw [show cb (k + 1) (j + 1) = cb k j + cb k (j + 1) from rfl, show sg (j + 1) = -(sg j) from rfl]
    push_cast
    grind
  rw [e, Sg_add, Sg_mul, cb_zero, cb_zero]
  grind
def itm (k : Nat) (f g : List Rat) (u v : Rat) (j : Nat) : Rat := Hm (itr sy j (itr sx (k - j) f)) u v * Hm (itr sy (k - j) (itr sx j g)) u v
end G

end

section
namespace G
open PySem Ev
/-! ### the sum of products of slopes -/
theorem itr_in (g : List Rat → List Rat) : ∀ (n : Nat) (f : List Rat), itr g n (g f) = itr g (n + 1) f
  | 0, _ => rfl
  | n + 1, f => congrArg g (itr_in g n f)
theorem itr_len {g : List Rat → List Rat} (hg : ∀ f : List Rat, 0 < f.length → (g f).length = max 1 (f.length - 1)) {f : List Rat} (h0 : 0 < f.length) : ∀ n : Nat, (itr g n f).length = max 1 (f.length - n)
  | 0 => by show f.length = _; omega
  | n + 1 => by
    have h := itr_len hg h0 n
    show (g _).length = _
    rw [hg _ (by omega), h]
    omega
theorem ix_len {f : List Rat} (h0 : 0 < f.length) (n : Nat) : (itr sx n f).length = max 1 (f.length - n) := itr_len (fun _ h => sx_len h) h0 n
theorem iy_len {f : List Rat} (h0 : 0 < f.length) (n : Nat) : (itr sy n f).length = max 1 (f.length - n) := itr_len (fun _ h => sy_len h) h0 n
theorem ix_sy {f : List Rat} (h0 : 0 < f.length) : ∀ n : Nat, itr sx n (sy f) = sy (itr sx n f)
  | 0 => rfl
  | n + 1 => by
    have l := ix_len h0 n
    show sx (itr sx n (sy f)) = sy (sx (itr sx n f))
    rw [ix_sy h0 n, sx_sy (by omega)]
theorem itm_a {k j : Nat} {f g : List Rat} (u v : Rat) (hg : 0 < g.length) (hj : j ≤ k) : itm (k + 1) f g u v j = itm k (sx f) (sy g) u v j := by
  unfold itm
  rw [itr_in sx, ix_sy hg, itr_in sy, show k - j + 1 = k + 1 - j by omega]
theorem itm_b {k j : Nat} {f g : List Rat} (u v : Rat) (hf : 0 < f.length) (hj : j ≤ k) : itm (k + 1) f g u v (j + 1) = itm k (sy f) (sx g) u v j := by
  unfold itm
  rw [itr_in sx, ix_sy hf, itr_in sy, show k + 1 - (j + 1) = k - j by omega]
theorem T_sum (u v : Rat) : ∀ (k : Nat) {f g : List Rat}, k < f.length → k < g.length → Hm (T k f g) u v = Sg (k + 1) fun j => sg j * ((cb k j : Nat) : Rat) * itm k f g u v j
  | 0, f, g, hf, hg => by
    rw [Sg_succ, Sg_zero]
    unfold T
    rw [Hm_cv u v hg]
    show _ = 0 + sg 0 * ((1 : Nat) : Rat) * (Hm f u v * Hm g u v)
    unfold sg
    simp
    grind
  | k + 1, f, g, hf, hg => by
    have a := sx_len (f := f) (by omega)
    have b := sy_len (f := f) (by omega)
    have c := sx_len (f := g) (by omega)
    have d := sy_len (f := g) (by omega)
    rw [T_succ u v k hf hg, T_sum u v k (by omega) (by omega), T_sum u v k (by omega) (by omega), pascal]
    congr 1
    · exact Sg_congr fun j hj => by rw [itm_a u v (by omega) (by omega)]
    · exact Sg_congr fun j hj => by rw [itm_b u v (by omega) (by omega)]
def lef (k : Nat) (f : List Rat) (j : Nat) : List Rat := itr sy j (itr sx (k - j) f)
def sterm (k : Nat) (f g : List Rat) (j : Nat) : List Rat := (cv (lef k f j) (lef k g (k - j))).map (sg j * ((cb k j : Nat) : Rat) * ·)
def SN (k : Nat) (f g : List Rat) : Nat → List Rat
  | 0 => List.replicate (f.length + g.length - 1 - 2 * k) 0
  | i + 1 => List.zipWith (· + ·) (SN k f g i) (sterm k f g i)
theorem lef_len {k j : Nat} {f : List Rat} (hf : k < f.length) (hj : j ≤ k) : (lef k f j).length = f.length - k := by
  unfold lef
  have := ix_len (f := f) (by omega) (k - j)
  rw [iy_len (by omega), this]
  omega
theorem sterm_len {k j : Nat} {f g : List Rat} (hf : k < f.length) (hg : k < g.length) (hj : j ≤ k) : (sterm k f g j).length = f.length + g.length - 1 - 2 * k := by
  unfold sterm
  have a := lef_len hf hj
  have b := lef_len hg (show k - j ≤ k by omega)
  rw [List.length_map, cv_len (by omega), a, b]
  omega
theorem SN_len {k : Nat} {f g : List Rat} (hf : k < f.length) (hg : k < g.length) : ∀ i, i ≤ k + 1 → (SN k f g i).length = f.length + g.length - 1 - 2 * k
  | 0, _ => by unfold SN; simp
  | i + 1, h => by
    unfold SN
    rw [List.length_zipWith, SN_len hf hg i (by omega), sterm_len hf hg (by omega), Nat.min_self]
theorem SN_T {k : Nat} {f g : List Rat} (hf : k < f.length) (hg : k < g.length) : SN k f g (k + 1) = T k f g := by
  refine Hm_ext (by rw [SN_len hf hg _ (Nat.le_refl _), T_len k hf hg]) fun u v => ?_
  have : ∀ i, i ≤ k + 1 → Hm (SN k f g i) u v = Sg i fun j => sg j * ((cb k j : Nat) : Rat) * itm k f g u v j := by
    intro i
    induction i with
    | zero => intro _; show Hm (List.replicate _ _) u v = _; rw [Hm_zero]; rfl
    | succ i ih =>
      intro h
      have a := lef_len hg (show k - i ≤ k by omega)
      show Hm (List.zipWith _ _ _) u v = _
      rw [Hm_add u v (by rw [SN_len hf hg i (by omega), sterm_len hf hg (by omega)]), ih (by omega), Sg_succ]
      congr 1
      unfold sterm
      rw [Hm_scale, Hm_cv u v (by omega)]
      unfold lef itm
      rw [show k - (k - i) = i by omega]
  rw [this _ (Nat.le_refl _), T_sum u v k hf hg]
/-- the number ahead -/
def ff (m : Nat) : Nat → Nat
  | 0 => 1
  | k + 1 => ff m k * (m - k)
def ffm (m n : Nat) : Nat → Nat
  | 0 => 1
  | k + 1 => ffm m n k * (m - k) * (n - k)
theorem ffm_eq (m n : Nat) : ∀ k, ffm m n k = ff m k * ff n k
  | 0 => rfl
  | k + 1 => by unfold ffm ff; rw [ffm_eq m n k]; grind
theorem ff_pos {m : Nat} : ∀ {k : Nat}, k ≤ m → 0 < ff m k
  | 0, _ => Nat.one_pos
  | k + 1, h => by unfold ff; exact Nat.mul_pos (ff_pos (by omega)) (by omega)
theorem fac_ff {m : Nat} : ∀ {k : Nat}, k ≤ m → fac m = ff m k * fac (m - k)
  | 0, _ => by unfold ff; simp
  | k + 1, h => by
    rw [fac_ff (k := k) (by omega), ff, show m - k = (m - (k + 1)) + 1 by omega, fac]
    grind
theorem fac_pos : ∀ n : Nat, 0 < fac n
  | 0 => by decide
  | n + 1 => by unfold fac; exact Nat.mul_pos (fac_pos n) (by omega)
theorem fac_mono : ∀ {m n : Nat}, m ≤ n → fac m ≤ fac n
  | m, 0, h => by rw [show m = 0 by omega]; exact Nat.le_refl _
  | m, n + 1, h => by
    by_cases e : m = n + 1
    · rw [e]; exact Nat.le_refl _
    · exact Nat.le_trans (fac_mono (show m ≤ n by omega)) (Nat.le_mul_of_pos_right _ (by omega))
def pf (m n k : Nat) : Rat := 1 / (((ffm m n k : Nat) : Int) : Rat)
/-- the k-th slide -/
def tv (k : Nat) (f g : List Rat) : List Rat := (T k f g).map (pf (f.length - 1) (g.length - 1) k * ·)
theorem tv_len {k : Nat} {f g : List Rat} (hf : k < f.length) (hg : k < g.length) : (tv k f g).length = f.length + g.length - 1 - 2 * k := by
  unfold tv; rw [List.length_map, T_len k hf hg]
theorem Hm_tv {k : Nat} {f g : List Rat} (u v : Rat) : Hm (tv k f g) u v = pf (f.length - 1) (g.length - 1) k * Hm (T k f g) u v := by
  unfold tv; rw [Hm_scale]
theorem enc_inv {c : Nat} (h : 0 < c) : (.tuple [.int 1, .int (c : Int)] : W) = enc (1 / (((c : Nat) : Int) : Rat)) := by
  have e : (1 : Rat) / (((c : Nat) : Int) : Rat) = mkRat 1 c := by
    rw [Rat.mkRat_eq_div]; rfl
  rw [e]
  unfold enc
  have h1 : (mkRat 1 c).num = 1 := by
    rw [Rat.num_mkRat, if_neg (by omega)]; simp
  have h2 : (mkRat 1 c).den = c := by
    rw [Rat.den_mkRat, if_neg (by omega)]; simp
  rw [h1, h2]
theorem ix_B {f : List Rat} {d a : Nat} (hf : BF d a f) (h0 : 0 < f.length) (hl : f.length ≤ 25) (hd : d ≤ 99) : ∀ n, a + 5 * n ≤ 1899 → BF d (a + 5 * n) (itr sx n f)
  | 0, _ => hf
  | n + 1, h => by
    have l := ix_len h0 n
    exact (slope_BF (ix_B hf h0 hl hd n (by omega)) (by omega)).1.mono (Nat.le_refl _) (by omega)
theorem iy_B {f : List Rat} {d a : Nat} (hf : BF d a f) (h0 : 0 < f.length) (hl : f.length ≤ 25) (hd : d ≤ 99) : ∀ n, a + 5 * n ≤ 1899 → BF d (a + 5 * n) (itr sy n f)
  | 0, _ => hf
  | n + 1, h => by
    have l := iy_len h0 n
    exact (slope_BF (iy_B hf h0 hl hd n (by omega)) (by omega)).2.mono (Nat.le_refl _) (by omega)
theorem lef_B {f : List Rat} {d a k j : Nat} (hf : BF d a f) (h0 : 0 < f.length) (hl : f.length ≤ 25) (hd : d ≤ 99) (hj : j ≤ k) (h : a + 5 * k ≤ 1899) : BF d (a + 5 * k) (lef k f j) := by
  unfold lef
  have l := ix_len h0 (k - j)
  exact (iy_B (ix_B hf h0 hl hd (k - j) (by omega)) (by omega) (by omega) hd j (by omega)).mono (Nat.le_refl _) (by omega)
theorem slopes_B {f : List Rat} {d a x y : Nat} (hf : BF d a f) (h0 : 0 < f.length) (hl : f.length ≤ 25) (hd : d ≤ 99) (h : a + 5 * (x + y) ≤ 1899) (hx : x ≤ 100) (hy : y ≤ 100) :
    forms_slopes [encF f, .int (x : Int), .int (y : Int)] = .ok (encF (itr sy y (itr sx x f))) := by
  refine slopes_spec hf.fb h0 hl hx hy ⟨KKn _, KKlt hd, ?_⟩
  have p25 : ∀ n : Nat, 25 ^ n ≤ 2 ^ (5 * n) := fun n => by rw [Nat.pow_mul]; exact Nat.pow_le_pow_left (by decide) _
  have : 25 ^ y * (25 ^ x * 2 ^ a) ≤ 2 ^ (a + 5 * (x + y)) := by
    have e : a + 5 * (x + y) = 5 * y + (5 * x + a) := by omega
    rw [e, Nat.pow_add, Nat.pow_add]
    exact Nat.mul_le_mul (p25 y) (Nat.mul_le_mul_right _ (p25 x))
  exact Nat.lt_of_le_of_lt this (p2lt h)
theorem eight {n : Nat} (h : n ≤ 8) : n = 0 ∨ n = 1 ∨ n = 2 ∨ n = 3 ∨ n = 4 ∨ n = 5 ∨ n = 6 ∨ n = 7 ∨ n = 8 := by omega
theorem forms_choose8 {n k : Nat} (hn : n ≤ 8) (hk : k ≤ n) : forms_choose [.int (n : Int), .int (k : Int)] = .ok (.int (cb n k : Nat)) := by
  rcases eight hn with rfl | rfl | rfl | rfl | rfl | rfl | rfl | rfl | rfl <;>
    rcases eight (Nat.le_trans hk hn) with rfl | rfl | rfl | rfl | rfl | rfl | rfl | rfl | rfl <;> first | kernel_rfl | omega
theorem law_choose8 {n k : Nat} (hn : n ≤ 8) (hk : k ≤ n) : law_choose [.int (n : Int), .int (k : Int)] = .ok (.int (cb n k : Nat)) := by
  rcases eight hn with rfl | rfl | rfl | rfl | rfl | rfl | rfl | rfl | rfl <;>
    rcases eight (Nat.le_trans hk hn) with rfl | rfl | rfl | rfl | rfl | rfl | rfl | rfl | rfl <;> first | kernel_rfl | omega
theorem cb8 {n k : Nat} (hn : n ≤ 8) (hk : k ≤ n) : cb n k ≠ 0 ∧ cb n k ≤ 70 := by
  rcases eight hn with rfl | rfl | rfl | rfl | rfl | rfl | rfl | rfl | rfl <;>
    rcases eight (Nat.le_trans hk hn) with rfl | rfl | rfl | rfl | rfl | rfl | rfl | rfl | rfl <;> first | decide | omega
theorem sg_eq (j : Nat) : sg j = if j % 2 = 0 then 1 else -1 := by
  induction j with
  | zero => rfl
  | succ j ih =>
    unfold sg
    rw [ih]
    by_cases h : j % 2 = 0
    · rw [if_pos h, if_neg (by omega)]
    · rw [if_neg h, if_pos (by omega)]; grind
/-- the number before the j-th product -/
theorem sg_num (k j : Nat) : (.tuple [if j % 2 = 0 then .int ((cb k j : Nat) : Int) else .int (-((cb k j : Nat) : Int)), .int 1] : W) = enc (sg j * ((cb k j : Nat) : Rat)) := by
  rw [sg_eq]
  by_cases h : j % 2 = 0
  · rw [if_pos h, if_pos h, ← enc_int]
    congr 1
    rw [Rat.intCast_natCast]; grind
  · rw [if_neg h, if_neg h, ← enc_int]
    congr 1
    rw [Rat.intCast_neg, Rat.intCast_natCast]; grind
theorem sgc_B {k j : Nat} (hk : k ≤ 8) (hj : j ≤ k) : B 0 8 (sg j * ((cb k j : Nat) : Rat)) := by
  have h := (cb8 hk hj).2
  rw [sg_eq]
  by_cases c : j % 2 = 0
  · rw [if_pos c]
    have := B.int (d := 0) (a := 8) ((cb k j : Nat) : Int) (by simp; omega)
    rw [show (1 : Rat) * ((cb k j : Nat) : Rat) = ((((cb k j : Nat) : Int)) : Rat) by rw [Rat.intCast_natCast]; grind]
    exact this
  · rw [if_neg c]
    have := B.int (d := 0) (a := 8) (-((cb k j : Nat) : Int)) (by simp; omega)
    rw [show (-1 : Rat) * ((cb k j : Nat) : Rat) = ((-((cb k j : Nat) : Int) : Int) : Rat) by rw [Rat.intCast_neg, Rat.intCast_natCast]; grind]
    exact this
end G

end

section
namespace G
open PySem Ev
/-- what a slide needs -/
structure Sd (f g : List Rat) (d a e b m n k : Nat) : Prop where
  hf : BF d a f
  hg : BF e b g
  lf : f.length = m + 1
  lg : g.length = n + 1
  km : k ≤ m
  kn : k ≤ n
  k8 : k ≤ 8
  hl : m + n ≤ 24
  hd : d + e + 2 ≤ 99
  ha : a + b + 10 * k + 30 ≤ 1899
  hp : ffm m n k ∣ KK ^ 2
section
variable {f g : List Rat} {d a e b m n k : Nat}
theorem x_par2 {i j : Nat} {A B : Ex} {ρ : Sl} {w w' : W} (h1 : A ρ none = .ok w none) (h2 : B ρ none = .ok w' none) : sPar2 i j A B ρ none = .next ((ρ.set i (some w)).set j (some w')) none := by
  rw [s_sPar2, h1, s_toS_ok, h2, s_toS_ok]
theorem x_ret {A : Ex} {ρ : Sl} {w : W} (h : A ρ none = .ok w none) : sRet A ρ none = .ret w none := by
  rw [s_sRet, h, s_toS_ok]
theorem num_if {F : Fs} {ρ : Sl} {ik ij k j : Nat} (hk : ρ[ik]? = some (some (.int (k : Int)))) (hj : ρ[ij]? = some (some (.int (j : Int)))) (hF : F [.int (k : Int), .int (j : Int)] = .ok (.int ((cb k j : Nat) : Int))) :
    eIf (eTest (eBin wEq (eBin wMod (eVar ij) (eC (.int (2)))) (eC (.int (0))))) (eCall F (eCons (eVar ik) (eCons (eVar ij) eNil))) (eUn wNeg (eCall F (eCons (eVar ik) (eCons (eVar ij) eNil)))) ρ none = .ok (if j % 2 = 0 then (.int ((cb k j : Nat) : Int) : W) else .int (-((cb k j : Nat) : Int))) none := by
  have ec : eCall F (eCons (eVar ik) (eCons (eVar ij) eNil)) ρ none = .ok (.int ((cb k j : Nat) : Int)) none := e_call (a_cons (e_var hk) (a_cons (e_var hj) a_nil)) hF
  have et : eTest (eBin wEq (eBin wMod (eVar ij) (eC (.int (2)))) (eC (.int (0)))) ρ none = .ok (((j % 2 : Nat) : Int) == 0) none := t_test (e_bin (e_bin (e_var hj) e_c (wMod2 j)) e_c (s_wEq_int _ _))
  rw [s_eIf, et, s_bind_ok]
  by_cases c : j % 2 = 0
  · rw [if_pos (by rw [c]; rfl), if_pos c, ec]
  · rw [if_neg (by simp; omega), if_neg c]
    exact e_un ec rfl
theorem ffm_le {m n : Nat} (hm : m ≤ 24) (hn : n ≤ 24) : ∀ i, ffm m n i ≤ 24 ^ (2 * i)
  | 0 => Nat.le_refl _
  | i + 1 => by
    unfold ffm
    rw [show 2 * (i + 1) = 2 * i + 1 + 1 by omega, Nat.pow_succ, Nat.pow_succ]
    exact Nat.mul_le_mul (Nat.mul_le_mul (ffm_le hm hn i) (by omega)) (by omega)
/-- one term -/
theorem Sd.term (s : Sd f g d a e b m n k) {j : Nat} (hj : j ≤ k) :
    forms_multiply [encF (lef k f j), encF (lef k g (k - j))] = .ok (encF (cv (lef k f j) (lef k g (k - j))))
    ∧ law_times [encF (lef k f j), encF (lef k g (k - j))] = .ok (encF (cv (lef k f j) (lef k g (k - j))))
    ∧ forms_scaled [enc (sg j * ((cb k j : Nat) : Rat)), encF (cv (lef k f j) (lef k g (k - j)))] = .ok (encF (sterm k f g j))
    ∧ law_scaled [enc (sg j * ((cb k j : Nat) : Rat)), encF (cv (lef k f j) (lef k g (k - j)))] = .ok (encF (sterm k f g j))
    ∧ BF (d + e) (a + b + 10 * k + 18) (sterm k f g j) := by
  have lf := s.lf
  have lg := s.lg
  have hd := s.hd
  have ha := s.ha
  have km := s.km
  have kn := s.kn
  have hl := s.hl
  have a1 := lef_len (f := f) (k := k) (j := j) (by omega) hj
  have a2 := lef_len (f := g) (k := k) (j := k - j) (by omega) (by omega)
  have h1 := cv_B (lef_B s.hf (by omega) (by omega) (by omega) hj (by omega)) (lef_B s.hg (by omega) (by omega) (by omega) (show k - j ≤ k by omega) (by omega)) (by omega) (by omega) (by omega) (by omega) (by omega)
  have l1 : (cv (lef k f j) (lef k g (k - j))).length ≤ 100 := by rw [cv_len (by omega)]; omega
  have h2 := scale_B h1.2.2 (sgc_B s.k8 hj) l1 (by omega) (by omega) (by omega) (by omega)
  exact ⟨h1.1, h1.2.1, h2.1, h2.2.1, h2.2.2.mono (by omega) (by omega)⟩
/-- the sum so far -/
theorem Sd.sum (s : Sd f g d a e b m n k) : ∀ i, i ≤ k + 1 → FB (KK ^ (d + e)) (i * 2 ^ (a + b + 10 * k + 18)) (SN k f g i)
  | 0, _ => fun q hq => by rw [List.eq_of_mem_replicate hq]; exact Bd.zero
  | i + 1, h => by
    have lf := s.lf
    have lg := s.lg
    have km := s.km
    have kn := s.kn
    have h1 := s.sum i (by omega)
    have h2 := (s.term (j := i) (by omega)).2.2.2.2
    intro q hq
    unfold SN at hq
    rw [List.mem_iff_getElem] at hq
    obtain ⟨j, hj, rfl⟩ := hq
    rw [List.getElem_zipWith, Nat.add_mul, Nat.one_mul]
    exact (h1 _ (List.getElem_mem _)).add (KKn _) (h2 _ (List.getElem_mem _))
theorem Sd.le (s : Sd f g d a e b m n k) {i : Nat} (h : i ≤ k + 1) : i * 2 ^ (a + b + 10 * k + 18) ≤ 2 ^ (a + b + 10 * k + 22) := by
  have k8 := s.k8
  have := mulp (x := i) (a := a + b + 10 * k + 18) (b := 4) (by omega)
  exact this
theorem Sd.bf (s : Sd f g d a e b m n k) {i : Nat} (h : i ≤ k + 1) : BF (d + e) (a + b + 10 * k + 22) (SN k f g i) := (s.sum i h).bf (Nat.dvd_refl _) (s.le h)
theorem Sd.plus (s : Sd f g d a e b m n k) {i : Nat} (h : i ≤ k) :
    forms_add [encF (SN k f g i), encF (sterm k f g i)] = .ok (encF (SN k f g (i + 1))) ∧ law_plus [encF (SN k f g i), encF (sterm k f g i)] = .ok (encF (SN k f g (i + 1))) := by
  have lf := s.lf
  have lg := s.lg
  have hd := s.hd
  have ha := s.ha
  have km := s.km
  have kn := s.kn
  have hl := s.hl
  have l1 := SN_len (f := f) (g := g) (k := k) (by omega) (by omega) i (by omega)
  have l2 := sterm_len (f := f) (g := g) (k := k) (j := i) (by omega) (by omega) h
  have := add_B (s.bf (i := i) (by omega)) (s.term h).2.2.2.2 (by omega) (by omega) (by omega) (c := a + b + 10 * k + 23) (by omega) (by omega) (by omega)
  exact ⟨this.1, this.2.1⟩
theorem Sd.pos (s : Sd f g d a e b m n k) : 0 < ffm m n k := by rw [ffm_eq]; exact Nat.mul_pos (ff_pos s.km) (ff_pos s.kn)
theorem Sd.T (s : Sd f g d a e b m n k) : SN k f g (k + 1) = G.T k f g := by
  have lf := s.lf
  have lg := s.lg
  have km := s.km
  have kn := s.kn
  exact SN_T (by omega) (by omega)
theorem Sd.fin (s : Sd f g d a e b m n k) :
    forms_scaled [enc (pf m n k), encF (SN k f g (k + 1))] = .ok (encF (tv k f g)) ∧ law_scaled [enc (pf m n k), encF (SN k f g (k + 1))] = .ok (encF (tv k f g)) ∧ BF (d + e + 2) (a + b + 10 * k + 22) (tv k f g) := by
  have lf := s.lf
  have lg := s.lg
  have hd := s.hd
  have ha := s.ha
  have km := s.km
  have kn := s.kn
  have hl := s.hl
  have l1 := T_len k (f := f) (g := g) (by omega) (by omega)
  have hb : BF (d + e) (a + b + 10 * k + 22) (G.T k f g) := by rw [← s.T]; exact s.bf (Nat.le_refl _)
  have hpf : B 2 0 (pf m n k) := B.inv s.hp (by have := s.pos; omega)
  have h := scale_B hb hpf (by omega) (by omega) (by omega) (by omega) (by omega)
  rw [s.T]
  unfold tv
  rw [show f.length - 1 = m by omega, show g.length - 1 = n by omega]
  exact ⟨h.1, h.2.1, h.2.2.mono (by omega) (by omega)⟩

theorem law_slide_spec (s : Sd f g d a e b m n k) : law_slide [encF f, encF g, .int (k : Int)] = .ok (encF (tv k f g)) := by
  have lf := s.lf
  have lg := s.lg
  have hd := s.hd
  have ha := s.ha
  have km := s.km
  have kn := s.kn
  have k8 := s.k8
  have hl := s.hl
  unfold law_slide
  rw [runF_eq (n := 3) rfl]
  have m1 : (f.length : Int) - 1 = (m : Int) := by omega
  have n1 : (g.length : Int) - 1 = (n : Int) := by omega
  rw [then_next (ρ' := [some (encF f), some (encF g), some (.int (k : Int)), some (.int (m : Int)), some (.int (n : Int)), none, none, none, none, none, none, none, none]) (t' := none) (by simp [m1, n1])]
  have o2 : wMul (.int 2) (.int (k : Int)) = some (.int (2 * (k : Int))) := wMul_of (mulOk_of (small_pow (k := 10) (by decide) (by decide)) (small_pow (k := 10) (by omega) (by decide)))
  have z1 : (m : Int) + (n : Int) - 2 * (k : Int) + 1 = ((f.length + g.length - 1 - 2 * k : Nat) : Int) := by omega
  have z2 := rep1 (f.length + g.length - 1 - 2 * k) (by omega)
  rw [then_next (ρ' := [some (encF f), some (encF g), some (.int (k : Int)), some (.int (m : Int)), some (.int (n : Int)), some (encF (SN k f g 0)), none, none, none, none, none, none, none]) (t' := none) (by simp [o2, z1, z2, SN])]
  obtain ⟨ρ', e3, a6, a7, a8, a9, a10, rfl⟩ := sfor_pred (t := none) (src := sRng gRng1 (eCons (eBin wAdd (eVar 2) (eC (.int (1)))) eNil)) (g := gN 6) (items := (List.range (k + 1)).map fun i : Nat => (.int (i : Int) : W))
    (body := (sThen (sPar2 7 8 (eVar 0) (eVar 1)) (sThen (sFor (sRng gRng1 (eCons (eVar 2) eNil)) (gN 9) (sPar2 7 8 (eCall law_slope (eCons (eVar 7) (eCons (eBin wLt (eVar 9) (eBin wSub (eVar 2) (eVar 6))) eNil))) (eCall law_slope (eCons (eVar 8) (eCons (eBin wLt (eVar 9) (eVar 6)) eNil))))) (sThen (sSet 10 (eIf (eTest (eBin wEq (eBin wMod (eVar 6) (eC (.int (2)))) (eC (.int (0))))) (eCall law_choose (eCons (eVar 2) (eCons (eVar 6) eNil))) (eUn wNeg (eCall law_choose (eCons (eVar 2) (eCons (eVar 6) eNil)))))) (sSet 5 (eCall law_plus (eCons (eVar 5) (eCons (eCall law_scaled (eCons (eTup (eCons (eVar 10) (eCons (eC (.int (1))) eNil))) (eCons (eCall law_times (eCons (eVar 7) (eCons (eVar 8) eNil))) eNil))) eNil))))))))
    (fun i ρ => ∃ (a6 a7 a8 a9 a10 : Option W), ρ = [some (encF f), some (encF g), some (.int (k : Int)), some (.int (m : Int)), some (.int (n : Int)), some (encF (SN k f g i)), a6, a7, a8, a9, a10, none, none])
    [some (encF f), some (encF g), some (.int (k : Int)), some (.int (m : Int)), some (.int (n : Int)), some (encF (SN k f g 0)), none, none, none, none, none, none, none]
    (by simp only [s_sRng, s_eCons, s_eNil, s_eBin, s_eVar, s_eC, List.getElem?_cons_zero, List.getElem?_cons_succ, s_bind_ok, s_wAdd_int, s_rOf_some, show (k : Int) + 1 = ((k + 1 : Nat) : Int) from rfl, gRng1_nat (show k + 1 ≤ 1000 by omega)])
    ⟨none, none, none, none, none, rfl⟩
    fun i w ρ hw ⟨a6, a7, a8, a9, a10, e⟩ => by
      subst e
      obtain ⟨hi, rfl⟩ := rng_item hw
      obtain ⟨ρ2, e4, a9', rfl⟩ := sfor_pred (t := none) (src := sRng gRng1 (eCons (eVar 2) eNil)) (g := gN 9) (items := (List.range k).map fun i : Nat => (.int (i : Int) : W))
        (body := (sPar2 7 8 (eCall law_slope (eCons (eVar 7) (eCons (eBin wLt (eVar 9) (eBin wSub (eVar 2) (eVar 6))) eNil))) (eCall law_slope (eCons (eVar 8) (eCons (eBin wLt (eVar 9) (eVar 6)) eNil)))))
        (fun j ρ => ∃ a9 : Option W, ρ = [some (encF f), some (encF g), some (.int (k : Int)), some (.int (m : Int)), some (.int (n : Int)), some (encF (SN k f g i)), some (.int (i : Int)), some (encF (itr sy (j - (k - i)) (itr sx (min j (k - i)) f))), some (encF (itr sy (j - i) (itr sx (min j i) g))), a9, a10, none, none])
        [some (encF f), some (encF g), some (.int (k : Int)), some (.int (m : Int)), some (.int (n : Int)), some (encF (SN k f g i)), some (.int (i : Int)), some (encF (itr sy (0 - (k - i)) (itr sx (min 0 (k - i)) f))), some (encF (itr sy (0 - i) (itr sx (min 0 i) g))), a9, a10, none, none]
        (by simp only [s_sRng, s_eCons, s_eNil, s_eVar, List.getElem?_cons_zero, List.getElem?_cons_succ, s_bind_ok, s_rOf_some, gRng1_nat (show k ≤ 1000 by omega)])
        ⟨a9, rfl⟩
        fun j w ρ hw ⟨a9, e⟩ => by
          subst e
          obtain ⟨hj, rfl⟩ := rng_item hw
          refine ⟨_, [some (encF f), some (encF g), some (.int (k : Int)), some (.int (m : Int)), some (.int (n : Int)), some (encF (SN k f g i)), some (.int (i : Int)), some (encF (itr sy ((j + 1) - (k - i)) (itr sx (min (j + 1) (k - i)) f))), some (encF (itr sy ((j + 1) - i) (itr sx (min (j + 1) i) g))), some (.int (j : Int)), a10, none, none], rfl, ?_, _, rfl⟩
          have x1 := ix_len (f := f) (by omega) (min j (k - i))
          have y1 := ix_len (f := g) (by omega) (min j i)
          have x2 := iy_len (f := itr sx (min j (k - i)) f) (by omega) (j - (k - i))
          have y2 := iy_len (f := itr sx (min j i) g) (by omega) (j - i)
          have bx := iy_B (ix_B s.hf (by omega) (by omega) (by omega) (min j (k - i)) (by omega)) (by omega) (by omega) (by omega) (j - (k - i)) (by omega)
          have gx := iy_B (ix_B s.hg (by omega) (by omega) (by omega) (min j i) (by omega)) (by omega) (by omega) (by omega) (j - i) (by omega)
          have q1 := slope_B bx (by omega) (by omega) (by omega) (by omega)
          have q2 := slope_B gx (by omega) (by omega) (by omega) (by omega)
          have c1 : (((j : Nat) : Int) < (k : Int) - (i : Int)) ↔ j < k - i := by omega
          have c2 : (((j : Nat) : Int) < (i : Int)) ↔ j < i := by omega
          have L : law_slope [encF (itr sy (j - (k - i)) (itr sx (min j (k - i)) f)), .bool (decide (((j : Nat) : Int) < (k : Int) - (i : Int)))] = .ok (encF (itr sy (j + 1 - (k - i)) (itr sx (min (j + 1) (k - i)) f))) := by
            by_cases c : j < k - i
            · rw [decide_eq_true (c1.mpr c), q1.2.2.1, show j - (k - i) = 0 by omega, show j + 1 - (k - i) = 0 by omega, show min (j + 1) (k - i) = min j (k - i) + 1 by omega]; rfl
            · rw [decide_eq_false (fun z => c (c1.mp z)), q1.2.2.2.1, show j + 1 - (k - i) = j - (k - i) + 1 by omega, show min (j + 1) (k - i) = min j (k - i) by omega]; rfl
          have R : law_slope [encF (itr sy (j - i) (itr sx (min j i) g)), .bool (decide (((j : Nat) : Int) < (i : Int)))] = .ok (encF (itr sy (j + 1 - i) (itr sx (min (j + 1) i) g))) := by
            by_cases c : j < i
            · rw [decide_eq_true (c2.mpr c), q2.2.2.1, show j - i = 0 by omega, show j + 1 - i = 0 by omega, show min (j + 1) i = min j i + 1 by omega]; rfl
            · rw [decide_eq_false (fun z => c (c2.mp z)), q2.2.2.2.1, show j + 1 - i = j - i + 1 by omega, show min (j + 1) i = min j i by omega]; rfl
          exact x_par2 (e_call (a_cons (e_var rfl) (a_cons (e_bin (e_var rfl) (e_bin (e_var rfl) (e_var rfl) rfl) rfl) a_nil)) L) (e_call (a_cons (e_var rfl) (a_cons (e_bin (e_var rfl) (e_var rfl) rfl) a_nil)) R)
      rw [List.length_map, List.length_range] at e4
      refine ⟨[some (encF f), some (encF g), some (.int (k : Int)), some (.int (m : Int)), some (.int (n : Int)), some (encF (SN k f g i)), some (.int (i : Int)), a7, a8, a9, a10, none, none], [some (encF f), some (encF g), some (.int (k : Int)), some (.int (m : Int)), some (.int (n : Int)), some (encF (SN k f g (i + 1))), some (.int (i : Int)), some (encF (lef k f i)), some (encF (lef k g (k - i))), a9', some (if i % 2 = 0 then (.int ((cb k i : Nat) : Int) : W) else .int (-((cb k i : Nat) : Int))), none, none], by simp, ?_, _, _, _, _, _, rfl⟩
      rw [then_next (ρ' := [some (encF f), some (encF g), some (.int (k : Int)), some (.int (m : Int)), some (.int (n : Int)), some (encF (SN k f g i)), some (.int (i : Int)), some (encF (itr sy (0 - (k - i)) (itr sx (min 0 (k - i)) f))), some (encF (itr sy (0 - i) (itr sx (min 0 i) g))), a9, a10, none, none]) (t' := none) (by simp [itr])]
      rw [then_next e4]
      rw [show k - (k - i) = i by omega, show min k (k - i) = k - i by omega, show min k i = k - (k - i) by omega]
      have ef : itr sy i (itr sx (k - i) f) = lef k f i := rfl
      have eg : itr sy (k - i) (itr sx (k - (k - i)) g) = lef k g (k - i) := rfl
      rw [ef, eg]
      have tm := s.term (j := i) (by omega)
      have pl := s.plus (i := i) (by omega)
      have nm := sg_num k i
      rw [then_next (ρ' := [some (encF f), some (encF g), some (.int (k : Int)), some (.int (m : Int)), some (.int (n : Int)), some (encF (SN k f g i)), some (.int (i : Int)), some (encF (lef k f i)), some (encF (lef k g (k - i))), a9', some (if i % 2 = 0 then (.int ((cb k i : Nat) : Int) : W) else .int (-((cb k i : Nat) : Int))), none, none]) (t' := none) (by exact x_set (num_if rfl rfl (law_choose8 k8 (show i ≤ k by omega))))]
      have t1 := tm.2.1
      have t2 := tm.2.2.2.1
      have p1 := pl.2
      rw [← nm] at t2
      simp only [s_sSet, s_eCall, s_eCons, s_eNil, s_eVar, s_eTup, s_eC, s_bind_ok, List.getElem?_cons_zero, List.getElem?_cons_succ, fw2, if_true, t1, s_fR_ok, t2, p1, s_toS_ok]
      rfl
  rw [then_next e3, List.length_map, List.length_range]
  rw [then_next (ρ' := [some (encF f), some (encF g), some (.int (k : Int)), some (.int (m : Int)), some (.int (n : Int)), some (encF (SN k f g (k + 1))), a6, a7, a8, a9, a10, some (.int (ffm m n 0 : Nat)), none]) (t' := none) (by simp [ffm])]
  obtain ⟨ρ', e5, a12, rfl⟩ := sfor_pred (t := none) (src := sRng gRng1 (eCons (eVar 2) eNil)) (g := gN 12) (items := (List.range k).map fun i : Nat => (.int (i : Int) : W))
    (body := sSet 11 (eBin wMul (eBin wMul (eVar 11) (eBin wSub (eVar 3) (eVar 12))) (eBin wSub (eVar 4) (eVar 12))))
    (fun i ρ => ∃ (a12 : Option W), ρ = [some (encF f), some (encF g), some (.int (k : Int)), some (.int (m : Int)), some (.int (n : Int)), some (encF (SN k f g (k + 1))), a6, a7, a8, a9, a10, some (.int (ffm m n i : Nat)), a12])
    [some (encF f), some (encF g), some (.int (k : Int)), some (.int (m : Int)), some (.int (n : Int)), some (encF (SN k f g (k + 1))), a6, a7, a8, a9, a10, some (.int (ffm m n 0 : Nat)), none]
    (by simp only [s_sRng, s_eCons, s_eNil, s_eVar, List.getElem?_cons_zero, List.getElem?_cons_succ, s_bind_ok, s_rOf_some, gRng1_nat (show k ≤ 1000 by omega)])
    ⟨none, rfl⟩
    fun i w ρ hw ⟨a12, e⟩ => by
      subst e
      obtain ⟨hi, rfl⟩ := rng_item hw
      have b1 : ffm m n i ≤ 24 ^ (2 * i) := ffm_le (by omega) (by omega) i
      have b2 : 24 ^ (2 * i) ≤ 2 ^ 80 := Nat.le_trans (Nat.pow_le_pow_left (show 24 ≤ 2 ^ 5 by decide) _) (by rw [← Nat.pow_mul]; exact Nat.pow_le_pow_right (by decide) (by omega))
      have o1 := wMul_of (mulOk_of (i := ((ffm m n i : Nat) : Int)) (j := ((m - i : Nat) : Int)) (small_pow (k := 90) (by simp; omega) (by decide)) (small_pow (k := 10) (by simp; omega) (by decide)))
      have o2 := wMul_of (mulOk_of (i := ((ffm m n i : Nat) : Int) * ((m - i : Nat) : Int)) (j := ((n - i : Nat) : Int)) (small_pow (k := 90) (by
        rw [Int.natAbs_mul]
        have : ((ffm m n i : Nat) : Int).natAbs * ((m - i : Nat) : Int).natAbs ≤ 2 ^ 80 * 24 := Nat.mul_le_mul (by simp; omega) (by simp; omega)
        exact Nat.lt_of_le_of_lt this (by decide)) (by decide)) (small_pow (k := 10) (by simp; omega) (by decide)))
      have s1 : (m : Int) - (i : Int) = ((m - i : Nat) : Int) := by omega
      have s2 : (n : Int) - (i : Int) = ((n - i : Nat) : Int) := by omega
      refine ⟨_, [some (encF f), some (encF g), some (.int (k : Int)), some (.int (m : Int)), some (.int (n : Int)), some (encF (SN k f g (k + 1))), a6, a7, a8, a9, a10, some (.int (ffm m n (i + 1) : Nat)), some (.int (i : Int))], rfl, ?_, _, rfl⟩
      simp [s1, s2, o1, o2, ffm]
  rw [then_next e5, List.length_map, List.length_range]
  have fin := s.fin.2.1
  have ep : (.tuple [.int 1, .int ((ffm m n k : Nat) : Int)] : W) = enc (pf m n k) := enc_inv s.pos
  simp [ep, fin]
theorem slides_slide_spec (s : Sd f g d a e b m n k) (hm : m ≤ 12) (hn : n ≤ 12) (fm : forms_factorial [.int (m : Int)] = .ok (.int (fac m : Nat))) (fn : forms_factorial [.int (n : Int)] = .ok (.int (fac n : Nat))) (fm' : forms_factorial [.int ((m - k : Nat) : Int)] = .ok (.int (fac (m - k) : Nat))) (fn' : forms_factorial [.int ((n - k : Nat) : Int)] = .ok (.int (fac (n - k) : Nat))) :
    slides_slide [encF f, encF g, .int (k : Int)] = .ok (encF (tv k f g)) := by
  have lf := s.lf
  have lg := s.lg
  have hd := s.hd
  have ha := s.ha
  have km := s.km
  have kn := s.kn
  have k8 := s.k8
  have hl := s.hl
  unfold slides_slide
  rw [runF_eq (n := 3) rfl]
  have m1 : (f.length : Int) - 1 = (m : Int) := by omega
  have n1 : (g.length : Int) - 1 = (n : Int) := by omega
  have c1 := check_form_spec (s.hf.form (by omega) (by omega) (by omega) (by omega))
  have c2 := check_form_spec (s.hg.form (by omega) (by omega) (by omega) (by omega))
  have i1 : ratios_is_integer [.int (k : Int)] = .ok (.bool true) := rfl
  have n0 : ¬ ((k : Int) < 0) := by omega
  have n2 : ¬ ((m : Int) < (k : Int)) := by omega
  have n3 : ¬ ((n : Int) < (k : Int)) := by omega
  rw [then_next (ρ' := [some (encF f), some (encF g), some (.int (k : Int)), none, none, none, none, none, none, none, none, none]) (t' := none) (by simp [c1])]
  rw [then_next (ρ' := [some (encF f), some (encF g), some (.int (k : Int)), none, none, none, none, none, none, none, none, none]) (t' := none) (by simp [c2])]
  rw [then_next (ρ' := [some (encF f), some (encF g), some (.int (k : Int)), some (.int (m : Int)), some (.int (n : Int)), none, none, none, none, none, none, none]) (t' := none) (by simp [order_spec, m1, n1])]
  rw [then_next (ρ' := [some (encF f), some (encF g), some (.int (k : Int)), some (.int (m : Int)), some (.int (n : Int)), none, none, none, none, none, none, none]) (t' := none) (by simp [i1, n0, n2, n3])]
  have o2 : wMul (.int 2) (.int (k : Int)) = some (.int (2 * (k : Int))) := wMul_of (mulOk_of (small_pow (k := 10) (by decide) (by decide)) (small_pow (k := 10) (by omega) (by decide)))
  have z1 : (m : Int) + (n : Int) - 2 * (k : Int) = ((m + n - 2 * k : Nat) : Int) := by omega
  have z2 := zero_spec (n := m + n - 2 * k) (by omega)
  rw [show m + n - 2 * k + 1 = f.length + g.length - 1 - 2 * k by omega] at z2
  rw [then_next (ρ' := [some (encF f), some (encF g), some (.int (k : Int)), some (.int (m : Int)), some (.int (n : Int)), some (encF (SN k f g 0)), none, none, none, none, none, none]) (t' := none) (by simp [o2, z1, z2, SN])]
  obtain ⟨ρ', e3, a6, a7, a8, a9, rfl⟩ := sfor_pred (t := none) (src := sRng gRng1 (eCons (eBin wAdd (eVar 2) (eC (.int (1)))) eNil)) (g := gN 6) (items := (List.range (k + 1)).map fun i : Nat => (.int (i : Int) : W))
    (body := (sThen (sSet 7 (eCall forms_slopes (eCons (eVar 0) (eCons (eBin wSub (eVar 2) (eVar 6)) (eCons (eVar 6) eNil))))) (sThen (sSet 8 (eCall forms_slopes (eCons (eVar 1) (eCons (eVar 6) (eCons (eBin wSub (eVar 2) (eVar 6)) eNil))))) (sThen (sSet 9 (eIf (eTest (eBin wEq (eBin wMod (eVar 6) (eC (.int (2)))) (eC (.int (0))))) (eCall forms_choose (eCons (eVar 2) (eCons (eVar 6) eNil))) (eUn wNeg (eCall forms_choose (eCons (eVar 2) (eCons (eVar 6) eNil)))))) (sSet 5 (eCall forms_add (eCons (eVar 5) (eCons (eCall forms_scaled (eCons (eTup (eCons (eVar 9) (eCons (eC (.int (1))) eNil))) (eCons (eCall forms_multiply (eCons (eVar 7) (eCons (eVar 8) eNil))) eNil))) eNil))))))))
    (fun i ρ => ∃ (a6 a7 a8 a9 : Option W), ρ = [some (encF f), some (encF g), some (.int (k : Int)), some (.int (m : Int)), some (.int (n : Int)), some (encF (SN k f g i)), a6, a7, a8, a9, none, none])
    [some (encF f), some (encF g), some (.int (k : Int)), some (.int (m : Int)), some (.int (n : Int)), some (encF (SN k f g 0)), none, none, none, none, none, none]
    (by simp only [s_sRng, s_eCons, s_eNil, s_eBin, s_eVar, s_eC, List.getElem?_cons_zero, List.getElem?_cons_succ, s_bind_ok, s_wAdd_int, s_rOf_some, show (k : Int) + 1 = ((k + 1 : Nat) : Int) from rfl, gRng1_nat (show k + 1 ≤ 1000 by omega)])
    ⟨none, none, none, none, rfl⟩
    fun i w ρ hw ⟨a6, a7, a8, a9, e⟩ => by
      subst e
      obtain ⟨hi, rfl⟩ := rng_item hw
      have sb : (k : Int) - (i : Int) = ((k - i : Nat) : Int) := by omega
      have sl1 := slopes_B s.hf (by omega) (by omega) (by omega) (x := k - i) (y := i) (by omega) (by omega) (by omega)
      have sl2 := slopes_B s.hg (by omega) (by omega) (by omega) (x := i) (y := k - i) (by omega) (by omega) (by omega)
      have eg : itr sy (k - i) (itr sx i g) = lef k g (k - i) := by unfold lef; rw [show k - (k - i) = i by omega]
      have ef : itr sy i (itr sx (k - i) f) = lef k f i := rfl
      rw [eg] at sl2
      rw [ef] at sl1
      have em : wMod (.int (i : Int)) (.int 2) = some (.int ((i % 2 : Nat) : Int)) := wMod2 i
      have tm := s.term (j := i) (by omega)
      have pl := s.plus (i := i) (by omega)
      have nm := sg_num k i
      have t1 := tm.1
      have t2 := tm.2.2.1
      have p1 := pl.1
      rw [← nm] at t2

      refine ⟨[some (encF f), some (encF g), some (.int (k : Int)), some (.int (m : Int)), some (.int (n : Int)), some (encF (SN k f g i)), some (.int (i : Int)), a7, a8, a9, none, none], [some (encF f), some (encF g), some (.int (k : Int)), some (.int (m : Int)), some (.int (n : Int)), some (encF (SN k f g (i + 1))), some (.int (i : Int)), some (encF (lef k f i)), some (encF (lef k g (k - i))), some (if i % 2 = 0 then (.int ((cb k i : Nat) : Int) : W) else .int (-((cb k i : Nat) : Int))), none, none], by simp, ?_, _, _, _, _, rfl⟩
      rw [then_next (ρ' := [some (encF f), some (encF g), some (.int (k : Int)), some (.int (m : Int)), some (.int (n : Int)), some (encF (SN k f g i)), some (.int (i : Int)), some (encF (lef k f i)), a8, a9, none, none]) (t' := none) (by simp [sb, sl1])]
      rw [then_next (ρ' := [some (encF f), some (encF g), some (.int (k : Int)), some (.int (m : Int)), some (.int (n : Int)), some (encF (SN k f g i)), some (.int (i : Int)), some (encF (lef k f i)), some (encF (lef k g (k - i))), a9, none, none]) (t' := none) (by simp [sb, sl2])]
      rw [then_next (ρ' := [some (encF f), some (encF g), some (.int (k : Int)), some (.int (m : Int)), some (.int (n : Int)), some (encF (SN k f g i)), some (.int (i : Int)), some (encF (lef k f i)), some (encF (lef k g (k - i))), some (if i % 2 = 0 then (.int ((cb k i : Nat) : Int) : W) else .int (-((cb k i : Nat) : Int))), none, none]) (t' := none) (by exact x_set (num_if rfl rfl (forms_choose8 k8 (show i ≤ k by omega))))]
      simp only [s_sSet, s_eCall, s_eCons, s_eNil, s_eVar, s_eTup, s_eC, s_bind_ok, List.getElem?_cons_zero, List.getElem?_cons_succ, fw2, if_true, t1, s_fR_ok, t2, p1, s_toS_ok]
      rfl
  rw [then_next e3, List.length_map, List.length_range]
  have bm := fac_mono hm
  have bn := fac_mono hn
  have bm' := fac_mono (show m - k ≤ 12 by omega)
  have bn' := fac_mono (show n - k ≤ 12 by omega)
  have f12 : fac 12 ≤ 2 ^ 40 := by decide
  have o3 := wMul_of (mulOk_of (i := ((fac m : Nat) : Int)) (j := ((fac n : Nat) : Int)) (small_pow (k := 50) (by simp; omega) (by decide)) (small_pow (k := 50) (by simp; omega) (by decide)))
  have o4 := wMul_of (mulOk_of (i := ((fac (m - k) : Nat) : Int)) (j := ((fac (n - k) : Nat) : Int)) (small_pow (k := 50) (by simp; omega) (by decide)) (small_pow (k := 50) (by simp; omega) (by decide)))
  have s1 : (m : Int) - (k : Int) = ((m - k : Nat) : Int) := by omega
  have s2 : (n : Int) - (k : Int) = ((n - k : Nat) : Int) := by omega
  rw [then_next (ρ' := [some (encF f), some (encF g), some (.int (k : Int)), some (.int (m : Int)), some (.int (n : Int)), some (encF (SN k f g (k + 1))), a6, a7, a8, a9, some (.int ((fac m : Nat) * (fac n : Nat) : Int)), none]) (t' := none) (by simp [fm, fn, o3])]
  rw [then_next (ρ' := [some (encF f), some (encF g), some (.int (k : Int)), some (.int (m : Int)), some (.int (n : Int)), some (encF (SN k f g (k + 1))), a6, a7, a8, a9, some (.int ((fac m : Nat) * (fac n : Nat) : Int)), some (.int ((fac (m - k) : Nat) * (fac (n - k) : Nat) : Int))]) (t' := none) (by simp only [s_sSet, s_eBin, s_eCall, s_eCons, s_eNil, s_eVar, s_bind_ok, List.getElem?_cons_zero, List.getElem?_cons_succ, s_wSub_int, s_rOf_some, s1, s2, fm', fn', s_fR_ok, o4, s_toS_ok]; rfl)]
  have fp := fac_pos m
  have fq := fac_pos n
  have fp' := fac_pos (m - k)
  have fq' := fac_pos (n - k)
  have e1 : (.tuple [.int ((fac (m - k) : Nat) * (fac (n - k) : Nat) : Int), .int 1] : W) = enc ((((fac (m - k) * fac (n - k) : Nat) : Int)) : Rat) := by rw [enc_int]; simp
  have e2 : (.tuple [.int ((fac m : Nat) * (fac n : Nat) : Int), .int 1] : W) = enc ((((fac m * fac n : Nat) : Int)) : Rat) := by rw [enc_int]; simp
  have big : ∀ x : Nat, x ≤ 2 ^ 80 → Ok (((x : Nat) : Int) : Rat) := fun x hx => ⟨by show x < 2 ^ 4000; exact Nat.lt_of_le_of_lt hx (Nat.pow_lt_pow_right (by decide) (by decide)), by show 1 < 2 ^ 4000; exact Nat.one_lt_two_pow (by decide)⟩
  have q1 : fac m * fac n ≤ 2 ^ 80 := Nat.le_trans (Nat.mul_le_mul (Nat.le_trans bm f12) (Nat.le_trans bn f12)) (by decide)
  have q2 : fac (m - k) * fac (n - k) ≤ 2 ^ 80 := Nat.le_trans (Nat.mul_le_mul (Nat.le_trans bm' f12) (Nat.le_trans bn' f12)) (by decide)
  have nz : ((((fac m * fac n : Nat) : Int)) : Rat) ≠ 0 := by
    rw [Rat.intCast_natCast]
    intro z
    have : fac m * fac n = 0 := Rat.natCast_inj.mp (z.trans rfl)
    have := Nat.mul_pos fp fq
    omega
  have dv := ratios_divide_spec (big _ q2) (big _ q1) nz
  have ee : (((fac (m - k) * fac (n - k) : Nat) : Int) : Rat) / ((((fac m * fac n : Nat) : Int)) : Rat) = pf m n k := by
    unfold pf
    have x1 : fac m * fac n = ffm m n k * (fac (m - k) * fac (n - k)) := by
      rw [fac_ff km, fac_ff kn, ffm_eq]; grind
    have x2 : ((ffm m n k : Nat) : Rat) ≠ 0 := fun z => by
      have : ffm m n k = 0 := Rat.natCast_inj.mp (z.trans rfl)
      have := s.pos
      omega
    have x3 : ((fac (m - k) * fac (n - k) : Nat) : Rat) ≠ 0 := fun z => by
      have : fac (m - k) * fac (n - k) = 0 := Rat.natCast_inj.mp (z.trans rfl)
      have := Nat.mul_pos fp' fq'
      omega
    rw [x1]
    simp only [Rat.intCast_natCast]
    rw [Rat.natCast_mul (ffm m n k)]
    grind
  rw [ee] at dv
  rw [← e1, ← e2] at dv
  have nn1 : ∀ w1 w2 : W, few1000 [w1, w2] = true := fun _ _ => rfl
  rw [x_ret (e_call (a_cons (e_call (a_cons (e_tup (a_cons (e_var rfl) (a_cons e_c a_nil)) (by simp)) (a_cons (e_tup (a_cons (e_var rfl) (a_cons e_c a_nil)) (by simp)) a_nil)) dv) (a_cons (e_var rfl) a_nil)) s.fin.1)]
  rfl
end
end G

end

section
namespace G
open PySem Ev
/-! small steps, written by the printer -/
section
variable {t : Tp} {A B C : Ex} {a b c : Et} {ρ ρ' : Sl} {w w' w'' x y : W} {ws : List W} {i j k : Nat} {As : Exs} {f : Fs}
theorem t_orT (h1 : a ρ t = .ok true t) : eOrT a b ρ t = .ok true t := by
  rw [s_eOrT, h1, s_bind_ok, if_pos rfl]
theorem t_orF {v : Bool} (h1 : a ρ t = .ok false t) (h2 : b ρ t = .ok v t) : eOrT a b ρ t = .ok v t := by
  rw [s_eOrT, h1, s_bind_ok, if_neg (by decide), h2]
theorem t_andF (h1 : a ρ t = .ok false t) : eAndT a b ρ t = .ok false t := by
  rw [s_eAndT, h1, s_bind_ok, if_neg (by decide)]
theorem t_andT {v : Bool} (h1 : a ρ t = .ok true t) (h2 : b ρ t = .ok v t) : eAndT a b ρ t = .ok v t := by
  rw [s_eAndT, h1, s_bind_ok, if_pos rfl, h2]
theorem t_not {v : Bool} (h1 : a ρ t = .ok v t) : eNotT a ρ t = .ok (!v) t := by
  rw [s_eNotT, h1, s_bind_ok]
theorem e_ifT (h : a ρ t = .ok true t) (h1 : A ρ t = .ok w t) : eIf a A B ρ t = .ok w t := by
  rw [s_eIf, h, s_bind_ok, if_pos rfl, h1]
theorem e_ifF (h : a ρ t = .ok false t) (h1 : B ρ t = .ok w t) : eIf a A B ρ t = .ok w t := by
  rw [s_eIf, h, s_bind_ok, if_neg (by decide), h1]
theorem e_lst (h1 : As ρ t = .ok ws t) (h2 : ws.length ≤ 1000) : eLst As ρ t = .ok (.list ws) t := by
  rw [s_eLst, h1, s_bind_ok, if_pos (few_of h2)]
theorem e_not {v : Bool} (h1 : A ρ t = .ok (.bool v) t) : eNot A ρ t = .ok (.bool (!v)) t := by
  rw [s_eNot, h1, s_bind_ok]
theorem e_scr (h0 : ρ[i]? = some (some x)) (h1 : As ρ t = .ok ws t) (h2 : f (x :: ws) = .ok w) : eScr f i As ρ t = .ok w t := by
  rw [s_eScr, h0]
  show (As ρ t).bind _ = _
  rw [h1, s_bind_ok, h2, s_fR_ok]
theorem x_asg {g : Gw} (h : A ρ t = .ok w t) (h2 : g w ρ = some ρ') : sAsg g A ρ t = .next ρ' t := by
  rw [s_sAsg, h, s_toS_ok, h2]
theorem x_par3 (h1 : A ρ t = .ok w t) (h2 : B ρ t = .ok w' t) (h3 : C ρ t = .ok w'' t) : sPar3 i j k A B C ρ t = .next (((ρ.set i (some w)).set j (some w')).set k (some w'')) t := by
  rw [s_sPar3, h1, s_toS_ok, h2, s_toS_ok, h3, s_toS_ok]
theorem x_drop (h : A ρ t = .ok w t) : sDrop A ρ t = .next ρ t := by
  rw [s_sDrop, h, s_toS_ok]
theorem x_app (h0 : ρ[i]? = some (some (.list ws))) (h : A ρ t = .ok w t) (hl : ws.length < 16777216) : sApp i A ρ t = .next (ρ.set i (some (.list (ws ++ [w])))) t := by
  rw [s_sApp, h0]
  show toS (A ρ t) _ = _
  rw [h, s_toS_ok, if_pos (decide_eq_true hl)]
theorem x_put (h0 : ρ[i]? = some (some x)) (h : A ρ t = .ok w t) (h1 : B ρ t = .ok w' t) (h2 : wPut x w' w = some y) : sPut i B A ρ t = .next (ρ.set i (some y)) t := by
  rw [s_sPut, h, s_toS_ok, h0]
  show toS (B ρ t) _ = _
  rw [h1, s_toS_ok, h2]
theorem x_aug {op : W → W → Option W} (h0 : ρ[i]? = some (some x)) (h : A ρ t = .ok w t) (h2 : op x w = some y) : sAug op i A ρ t = .next (ρ.set i (some y)) t := by
  rw [s_sAug, h0]
  show toS (A ρ t) _ = _
  rw [h, s_toS_ok, h2]
theorem i_true' {c : Et} {u v : Sv} {ρ : Sl} {r : SR} (h : c ρ t = .ok true t) (hu : u ρ t = r) : sIf c u v ρ t = r := by
  rw [s_sIf, h, s_toS_ok, if_pos rfl, hu]
theorem i_false' {c : Et} {u v : Sv} {ρ : Sl} {r : SR} (h : c ρ t = .ok false t) (hu : v ρ t = r) : sIf c u v ρ t = r := by
  rw [s_sIf, h, s_toS_ok, if_neg (by decide), hu]
theorem eqQ (x : Rat) : wEq (enc x) (enc x) = some (.bool true) := by rw [wEq_enc]; simp
theorem neqQ (x : Rat) : wNe (enc x) (enc x) = some (.bool false) := by rw [wNe_enc]; simp
theorem eqF (x : List Rat) : wEq (encF x) (encF x) = some (.bool true) := by rw [wEq_encF]; simp
theorem neqF (x : List Rat) : wNe (encF x) (encF x) = some (.bool false) := by rw [wNe_encF]; simp
theorem e_lc {src : Exs} {vs : List Nat} {g : Gw} {te : Ex} {items ws : List W} (h1 : src ρ t = .ok items t) (h2 : items.length ≤ 1000000) (h3 : lcL g etYes te items (wipeW ρ vs) t = .ok ws t) : eLc src vs g etYes te ρ t = .ok (.list ws) t := by
  rw [s_eLc, h1, s_bind_ok, if_pos (few_1M h2), h3, s_noexc, s_bind_ok]
theorem g_rng1 {n : Nat} (h : As ρ t = .ok [.int (n : Int)] t) (hn : n ≤ 1000) : sRng gRng1 As ρ t = .ok ((List.range n).map fun i : Nat => (.int (i : Int) : W)) t := by
  rw [s_sRng, h, s_bind_ok, gRng1_nat hn, s_rOf_some]
theorem g_seq (h : A ρ t = .ok w t) (h2 : wSeq w = some ws) : sSeq A ρ t = .ok ws t := by
  rw [s_sSeq, h, s_bind_ok, h2, s_rOf_some]
theorem fin_ret {fr : Bool} (h : A ρ t = .ok w t) : endF fr (sRet A ρ t) = .ok w := by
  rw [s_sRet, h]; rfl
theorem for_src {src : Exs} {g : Gw} {body : Sv} {items : List W} (h : src ρ t = .ok items t) : sFor src g body ρ t = forL g body items ρ t := by
  rw [s_sFor, h, s_toS_ok]
theorem for_step {g : Gw} {body : Sv} {items : List W} {ρ1 ρ2 : Sl} (h1 : g w ρ = some ρ1) (h2 : body ρ1 t = .next ρ2 t) : forL g body (w :: items) ρ t = forL g body items ρ2 t := by
  show (match g w ρ with | none => _ | some ρ1 => sThen body (forL g body items) ρ1 t) = _
  rw [h1]
  show sThen body (forL g body items) ρ1 t = _
  rw [then_next h2]
end
theorem ltT {i j : Int} (h : i < j) : wLt (.int i) (.int j) = some (.bool true) := congrArg (fun b => some (PyData.bool b)) (decide_eq_true h)
theorem ltF {i j : Int} (h : ¬ i < j) : wLt (.int i) (.int j) = some (.bool false) := congrArg (fun b => some (PyData.bool b)) (decide_eq_false h)
theorem leT {i j : Int} (h : i ≤ j) : wLe (.int i) (.int j) = some (.bool true) := congrArg (fun b => some (PyData.bool b)) (decide_eq_true h)
theorem leF {i j : Int} (h : ¬ i ≤ j) : wLe (.int i) (.int j) = some (.bool false) := congrArg (fun b => some (PyData.bool b)) (decide_eq_false h)
theorem gtT {i j : Int} (h : j < i) : wGt (.int i) (.int j) = some (.bool true) := congrArg (fun b => some (PyData.bool b)) (decide_eq_true h)
theorem gtF {i j : Int} (h : ¬ j < i) : wGt (.int i) (.int j) = some (.bool false) := congrArg (fun b => some (PyData.bool b)) (decide_eq_false h)
theorem geT {i j : Int} (h : j ≤ i) : wGe (.int i) (.int j) = some (.bool true) := congrArg (fun b => some (PyData.bool b)) (decide_eq_true h)
theorem geF {i j : Int} (h : ¬ j ≤ i) : wGe (.int i) (.int j) = some (.bool false) := congrArg (fun b => some (PyData.bool b)) (decide_eq_false h)
theorem eqT {i j : Int} (h : i = j) : wEq (.int i) (.int j) = some (.bool true) := by rw [s_wEq_int, h]; simp
theorem eqN {i j : Int} (h : i ≠ j) : wEq (.int i) (.int j) = some (.bool false) := by rw [s_wEq_int]; simp [h]
theorem neqT {i j : Int} (h : i ≠ j) : wNe (.int i) (.int j) = some (.bool true) := by rw [s_wNe_int]; simp [h]
theorem neqN {i j : Int} (h : i = j) : wNe (.int i) (.int j) = some (.bool false) := by rw [s_wNe_int, h]; simp
end G

end

section
namespace G
open PySem Ev
theorem factorial12 {n : Nat} (hn : n ≤ 12) : forms_factorial [.int (n : Int)] = .ok (.int (fac n : Nat)) := by
  have : n ≤ 7 ∨ n = 8 ∨ n = 9 ∨ n = 10 ∨ n = 11 ∨ n = 12 := by omega
  rcases this with h | rfl | rfl | rfl | rfl | rfl
  · exact factorial_spec h
  all_goals kernel_rfl
theorem ff_dvd {m k : Nat} (h : k ≤ m) : ff m k ∣ fac m := ⟨fac (m - k), fac_ff h⟩
theorem fac_dvd : ∀ {m n : Nat}, m ≤ n → fac m ∣ fac n
  | m, 0, h => by rw [show m = 0 by omega]; exact Nat.dvd_refl _
  | m, n + 1, h => by
    by_cases e : m = n + 1
    · rw [e]; exact Nat.dvd_refl _
    · exact Nat.dvd_trans (fac_dvd (show m ≤ n by omega)) ⟨n + 1, rfl⟩
theorem ffm8 {m n k : Nat} (km : k ≤ m) (kn : k ≤ n) (hm : m ≤ 8) (hn : n ≤ 8) : ffm m n k ∣ KK ^ 2 := by
  rw [ffm_eq, Nat.pow_succ, Nat.pow_one]
  have e : fac 8 ∣ KK := by decide
  exact Nat.mul_dvd_mul (Nat.dvd_trans (ff_dvd km) (Nat.dvd_trans (fac_dvd hm) e)) (Nat.dvd_trans (ff_dvd kn) (Nat.dvd_trans (fac_dvd hn) e))
section
variable {f g : List Rat} {d a e b m n k : Nat}
theorem sd8 (hf : BF d a f) (hg : BF e b g) (lf : f.length = m + 1) (lg : g.length = n + 1) (km : k ≤ m) (kn : k ≤ n) (hm : m ≤ 8) (hn : n ≤ 8) (hd : d + e + 2 ≤ 99) (ha : a + b + 10 * k + 30 ≤ 1899) : Sd f g d a e b m n k :=
  ⟨hf, hg, lf, lg, km, kn, by omega, by omega, hd, ha, ffm8 km kn hm hn⟩
theorem slide12 (s : Sd f g d a e b m n k) (hm : m ≤ 12) (hn : n ≤ 12) : slides_slide [encF f, encF g, .int (k : Int)] = .ok (encF (tv k f g)) :=
  slides_slide_spec s hm hn (factorial12 hm) (factorial12 hn) (factorial12 (by omega)) (factorial12 (by omega))
theorem Sd.res (s : Sd f g d a e b m n k) : BF (d + e + 2) (a + b + 10 * k + 22) (tv k f g) := s.fin.2.2
theorem Sd.len (s : Sd f g d a e b m n k) : (tv k f g).length = m + n - 2 * k + 1 := by
  have lf := s.lf
  have lg := s.lg
  have km := s.km
  have kn := s.kn
  rw [tv_len (by omega) (by omega)]
  omega
/-! odd slides -/
theorem T_odd (hk : k % 2 = 1) (hf : k < f.length) (u v : Rat) : Hm (T k f f) u v = 0 := by
  have h := T_swap u v k hf hf
  have : ((-1 : Rat)) ^ k = -1 := by
    have : ∀ j, ((-1 : Rat)) ^ (2 * j + 1) = -1 := fun j => by
      induction j with
      | zero => rfl
      | succ j ih => rw [show 2 * (j + 1) + 1 = 2 * j + 1 + 1 + 1 by omega, Rat.pow_succ, Rat.pow_succ, ih]; grind
    rw [show k = 2 * (k / 2) + 1 by omega]
    exact this _
  rw [this] at h
  grind
theorem zero_of (h : ∀ u v, Hm f u v = 0) : f = List.replicate f.length 0 := Hm_ext (by simp) fun u v => by rw [h, Hm_zero]
theorem tv_odd (hk : k % 2 = 1) (hf : k < f.length) : tv k f f = List.replicate (tv k f f).length 0 := zero_of fun u v => by
  rw [Hm_tv, T_odd hk hf]; grind
theorem allZ_rep (n : Nat) : allZ (List.replicate n 0) = true := allZ_iff.mpr fun q hq => List.eq_of_mem_replicate hq
theorem gMin2_nat (i j : Nat) : gMin2 [.int (i : Int), .int (j : Int)] = some (.int ((min i j : Nat) : Int)) := by
  show some (PyData.int (if (j : Int) < (i : Int) then (j : Int) else (i : Int))) = _
  congr 2
  split <;> omega
theorem order_nat (lf : f.length = m + 1) : forms_order [encF f] = .ok (.int (m : Int)) := by
  rw [order_spec, lf]
  congr 2
  omega
theorem all_slides_spec (h : ∀ k, k ≤ min m n → Sd f g d a e b m n k) (hm : m ≤ 12) (hn : n ≤ 12) : slides_all_slides [encF f, encF g] = .ok (.tuple ((List.range (min m n + 1)).map fun k => encF (tv k f g))) := by
  have s0 := h 0 (by omega)
  have lf := s0.lf
  have lg := s0.lg
  unfold slides_all_slides
  rw [runF_eq (n := 2) rfl]
  have e1 : lcL (gN 2) etYes (eCall slides_slide (eCons (eVar 0) (eCons (eVar 1) (eCons (eVar 2) eNil)))) ((List.range (min m n + 1)).map fun i : Nat => (.int (i : Int) : W)) [some (encF f), some (encF g), none] none = .ok ((List.range (min m n + 1)).map fun k => encF (tv k f g)) none :=
    lc_map _ _ _ fun k hk => ⟨_, rfl, e_call (a_cons (e_var rfl) (a_cons (e_var rfl) (a_cons (e_var rfl) a_nil))) (slide12 (h k (by have := List.mem_range.mp hk; omega)) hm hn)⟩
  rw [x_ret (e_callB (a_cons (e_lc (g_rng1 (n := min m n + 1) (a_cons (e_bin (e_callB (a_cons (e_call (a_cons (e_var rfl) a_nil) (order_nat lf)) (a_cons (e_call (a_cons (e_var rfl) a_nil) (order_nat lg)) a_nil)) (gMin2_nat m n)) e_c rfl) a_nil) (by omega)) (by simp; omega) e1) a_nil) rfl)]
  rfl
/-- 1, 3, .. up to m -/
def odds (m : Nat) : List Nat := (List.range ((m + 1) / 2)).map fun i => 2 * i + 1
theorem gRng3_odd (hm : m ≤ 12) : gRng3 [.int 1, .int ((m : Int) + 1), .int 2] = some ((odds m).map fun i : Nat => (.int (i : Int) : W)) := by
  have : m = 0 ∨ m = 1 ∨ m = 2 ∨ m = 3 ∨ m = 4 ∨ m = 5 ∨ m = 6 ∨ m = 7 ∨ m = 8 ∨ m = 9 ∨ m = 10 ∨ m = 11 ∨ m = 12 := by omega
  rcases this with rfl | rfl | rfl | rfl | rfl | rfl | rfl | rfl | rfl | rfl | rfl | rfl | rfl <;> kernel_rfl
theorem odds_mem {i : Nat} (h : i ∈ odds m) : i ≤ m ∧ i % 2 = 1 := by
  obtain ⟨j, hj, rfl⟩ := List.mem_map.mp h
  have := List.mem_range.mp hj
  omega
theorem odds_len : (odds m).length ≤ m + 1 := by unfold odds; simp; omega
end
end G

end

section
namespace G
open PySem Ev
theorem wg_B {f : List Rat} {d a : Nat} (hf : BF d a f) (hl : f.length ≤ 9) : BF (d + 1) a (wg f) := by
  intro q hq
  obtain ⟨k, hk, rfl⟩ := List.mem_map.mp hq
  have hk := List.mem_range.mp hk
  have c := cb8 (n := f.length - 1) (k := k) (by omega) (by omega)
  have : cb (f.length - 1) k ∣ KK := by
    have h : ∀ n, n ≤ 8 → ∀ k, k ≤ n → cb n k ∣ KK := by decide
    exact h _ (by omega) _ (by omega)
  have h2 := (hf.get k).mul (B.inv (d := 1) (a := 0) (by rw [Nat.pow_one]; exact this) c.1)
  rw [show f.getD k 0 / (((cb (f.length - 1) k : Nat) : Int) : Rat) = f.getD k 0 * (1 / (((cb (f.length - 1) k : Nat) : Int) : Rat)) by grind]
  exact h2
section
variable {f : List Rat} {w0 w1 w2 w3 w4 : Rat}
end
end G

end

section
namespace G
open PySem Ev
/-! ### the last slide -/
theorem sx_get {f : List Rat} {k : Nat} (h : k + 1 < f.length) : (sx f).getD k 0 = (((f.length - 1 - k : Nat) : Nat) : Rat) * f.getD k 0 := by
  unfold sx
  rw [if_neg (by omega), List.getD_eq_getElem?_getD, List.getElem?_map, List.getElem?_range (by omega)]
  simp [Rat.intCast_natCast]
theorem sy_get {f : List Rat} {k : Nat} (h : k + 1 < f.length) : (sy f).getD k 0 = (((k + 1 : Nat) : Nat) : Rat) * f.getD (k + 1) 0 := by
  unfold sy
  rw [if_neg (by omega), List.getD_eq_getElem?_getD, List.getElem?_map, List.getElem?_range (by omega)]
  simp [Rat.intCast_natCast]
theorem ix_get {f : List Rat} {k : Nat} : ∀ i, k + i < f.length → (itr sx i f).getD k 0 = ((ff (f.length - 1 - k) i : Nat) : Rat) * f.getD k 0
  | 0, _ => by show f.getD k 0 = ((1 : Nat) : Rat) * f.getD k 0; simp
  | i + 1, h => by
    have l := ix_len (f := f) (by omega) i
    show (sx (itr sx i f)).getD k 0 = _
    rw [sx_get (by omega), ix_get i (by omega), l, ff, show max 1 (f.length - i) - 1 - k = f.length - 1 - k - i by omega, Rat.natCast_mul]
    grind
def rf : Nat → Nat → Nat
  | _, 0 => 1
  | k, i + 1 => (k + 1) * rf (k + 1) i
theorem rf_fac : ∀ i k : Nat, rf k i * fac k = fac (k + i)
  | 0, k => by unfold rf; simp
  | i + 1, k => by
    have h := rf_fac i (k + 1)
    rw [show k + 1 + i = k + (i + 1) by omega] at h
    rw [← h, rf, fac]
    grind
theorem iy_get {f : List Rat} : ∀ i k : Nat, k + i < f.length → (itr sy i f).getD k 0 = ((rf k i : Nat) : Rat) * f.getD (k + i) 0
  | 0, k, _ => by show f.getD k 0 = ((1 : Nat) : Rat) * f.getD k 0; simp
  | i + 1, k, h => by
    have l := iy_len (f := f) (by omega) i
    show (sy (itr sy i f)).getD k 0 = _
    rw [sy_get (by omega), iy_get i (k + 1) (by omega), rf, Rat.natCast_mul, show k + 1 + i = k + (i + 1) by omega]
    grind
theorem ff_self (n : Nat) : ff n n = fac n := by
  have := fac_ff (m := n) (k := n) (Nat.le_refl _)
  rw [Nat.sub_self] at this
  rw [this]
  simp [fac]
theorem lef_get {f : List Rat} {m j : Nat} (lf : f.length = m + 1) (hj : j ≤ m) : lef m f j = [((fac j * fac (m - j) : Nat) : Rat) * f.getD j 0] := by
  have l1 := lef_len (f := f) (k := m) (j := j) (by omega) hj
  rw [lf, show m + 1 - m = 1 by omega] at l1
  obtain ⟨x, hx⟩ := List.length_eq_one_iff.mp l1
  have h : (lef m f j).getD 0 0 = ((fac j * fac (m - j) : Nat) : Rat) * f.getD j 0 := by
    unfold lef
    have l2 := ix_len (f := f) (by omega) (m - j)
    rw [iy_get j 0 (by omega), Nat.zero_add, ix_get (m - j) (by omega), lf, show m + 1 - 1 - j = m - j by omega, ff_self, Rat.natCast_mul]
    have : rf 0 j = fac j := by
      have := rf_fac j 0
      rw [Nat.zero_add] at this
      rw [← this]; simp [fac]
    rw [this]
    grind
  rw [hx] at h ⊢
  simp only [List.getD_cons_zero] at h
  rw [h]
theorem Hm1 (x u v : Rat) : Hm [x] u v = x := by
  rw [Hm_cons, Hm_nil, List.length_nil, Rat.pow_zero]; grind
theorem cb_fac {m j : Nat} (hm : m ≤ 8) (hj : j ≤ m) : cb m j * (fac j * fac (m - j)) = fac m ∧ cb m (m - j) = cb m j := by
  have h : ∀ m, m ≤ 8 → ∀ j, j ≤ m → cb m j * (fac j * fac (m - j)) = fac m ∧ cb m (m - j) = cb m j := by decide
  exact h m hm j hj
theorem wg_get {f : List Rat} {k : Nat} (h : k < f.length) : (wg f).getD k 0 = f.getD k 0 / ((cb (f.length - 1) k : Nat) : Rat) := by
  unfold wg
  rw [List.getD_eq_getElem?_getD, List.getElem?_map, List.getElem?_range h]
  simp [Rat.intCast_natCast]
/-- one term by weighed numbers -/
def lterm (m : Nat) (f g : List Rat) (j : Nat) : Rat := (sg j * ((cb m j : Nat) : Rat)) * ((wg f).getD j 0 * (wg g).getD (m - j) 0)
theorem last_slide {f g : List Rat} {m : Nat} (lf : f.length = m + 1) (lg : g.length = m + 1) (hm : m ≤ 8) : tv m f g = [Sg (m + 1) (lterm m f g)] := by
  have lT := T_len m (f := f) (g := g) (by omega) (by omega)
  obtain ⟨t, ht⟩ := List.length_eq_one_iff.mp (show (T m f g).length = 1 by omega)
  have e : t = Hm (T m f g) 0 0 := by rw [ht, Hm1]
  rw [T_sum 0 0 m (by omega) (by omega)] at e
  unfold tv
  rw [ht, List.map_cons, List.map_nil, e, lf, lg, Nat.add_sub_cancel]
  congr 1
  rw [← Sg_mul]
  refine Sg_congr fun j hj => ?_
  have c := cb_fac hm (show j ≤ m by omega)
  have c0 := (cb8 hm (show j ≤ m by omega)).1
  have e1 : itm m f g 0 0 j = (((fac j * fac (m - j) : Nat) : Rat) * f.getD j 0) * (((fac j * fac (m - j) : Nat) : Rat) * g.getD (m - j) 0) := by
    have a1 := lef_get lf (show j ≤ m by omega)
    have a2 := lef_get lg (show m - j ≤ m by omega)
    unfold lef at a1 a2
    unfold itm
    rw [show m - (m - j) = j by omega] at a2
    rw [a1, a2, Hm1, Hm1, Nat.mul_comm (fac (m - j))]
  have e2 : pf m m m = 1 / (((fac m : Nat) : Rat) * ((fac m : Nat) : Rat)) := by
    unfold pf
    rw [ffm_eq, ff_self, Rat.intCast_natCast, Rat.natCast_mul]
  have z1 : ((cb m j : Nat) : Rat) ≠ 0 := fun z => c0 (Rat.natCast_inj.mp (z.trans rfl))
  have z2 : ((fac j * fac (m - j) : Nat) : Rat) ≠ 0 := fun z => by
    have : fac j * fac (m - j) = 0 := Rat.natCast_inj.mp (z.trans rfl)
    have := Nat.mul_pos (fac_pos j) (fac_pos (m - j))
    omega
  have e3 : ((fac m : Nat) : Rat) = ((cb m j : Nat) : Rat) * ((fac j * fac (m - j) : Nat) : Rat) := by rw [← Rat.natCast_mul, c.1]
  unfold lterm
  rw [wg_get (by omega), wg_get (by omega), lf, lg, Nat.add_sub_cancel, c.2, e1, e2, e3]
  generalize ((cb m j : Nat) : Rat) = C at *
  generalize ((fac j * fac (m - j) : Nat) : Rat) = D at *
  grind
section
variable {f g : List Rat} {d a e b m n k : Nat}
theorem idxFl {l : List Rat} {k : Nat} (h : k < l.length) : wIdx (encF l) (.int (k : Int)) = some (enc (l.getD k 0)) := idxF h
theorem wg_len (f : List Rat) : (wg f).length = f.length := by unfold wg; simp
theorem lterm_B (hf : BF d a f) (hg : BF e b g) (lf : f.length = m + 1) (lg : g.length = m + 1) (hm : m ≤ 8) {j : Nat} (hj : j ≤ m) : B (d + 1 + (e + 1)) (a + b + 8) (lterm m f g j) := by
  have h := (sgc_B hm hj).mul (((wg_B hf (by omega)).get j).mul ((wg_B hg (by omega)).get (m - j)))
  exact h.mono (by omega) (by omega)
theorem Sg_B (F : Nat → Rat) {d a n : Nat} (hF : ∀ i, i < n → B d a (F i)) : ∀ i, i ≤ n → Bd (KK ^ d) (i * 2 ^ a) (Sg i F)
  | 0, _ => Bd.zero
  | i + 1, h => by
    rw [Sg_succ, Nat.add_mul, Nat.one_mul]
    exact (Sg_B F hF i (by omega)).add (KKn _) (hF i (by omega))
theorem Sg_B' (F : Nat → Rat) {d a n : Nat} (hF : ∀ i, i < n → B d a (F i)) (hn : n ≤ 16) {i : Nat} (hi : i ≤ n) : B d (a + 4) (Sg i F) :=
  (Sg_B F hF i hi).toB (Nat.dvd_refl _) (mulp (by omega))
theorem idx00 (h : 0 < f.length) : wIdx (encF f) (.int 0) = some (enc (f.getD 0 0)) := idxF h
end
end G

end

section
namespace G
open PySem Ev
/-! ### quartics -/
theorem sx5 (a b c d e : Rat) : sx [a, b, c, d, e] = [4 * a, 3 * b, 2 * c, d] := by
  simp [sx, List.range_succ]
theorem sy5 (a b c d e : Rat) : sy [a, b, c, d, e] = [b, 2 * c, 3 * d, 4 * e] := by
  simp [sy, List.range_succ]; grind
theorem sx4 (a b c d : Rat) : sx [a, b, c, d] = [3 * a, 2 * b, c] := by
  simp [sx, List.range_succ]
theorem sy4 (a b c d : Rat) : sy [a, b, c, d] = [b, 2 * c, 3 * d] := by
  simp [sy, List.range_succ]; grind
theorem tv2_five (w0 w1 w2 w3 w4 : Rat) : tv 2 [w0, 4 * w1, 6 * w2, 4 * w3, w4] [w0, 4 * w1, 6 * w2, 4 * w3, w4] = [2 * (w0 * w2 - w1 * w1), 4 * (w0 * w3 - w1 * w2), 6 * (w0 * w4 + 2 * w1 * w3 - 3 * w2 * w2) / 3, 4 * (w1 * w4 - w2 * w3), 2 * (w2 * w4 - w3 * w3)] := by
  unfold tv T T T
  simp only [sx5, sy5, sx4, sy4]
  simp [cv, pf, ffm]
  refine ⟨?_, ?_, ?_, ?_, ?_⟩ <;> grind
theorem wg_five (w0 w1 w2 w3 w4 : Rat) : wg [w0, 4 * w1, 6 * w2, 4 * w3, w4] = [w0, w1, w2, w3, w4] := by
  have e : wg [w0, 4 * w1, 6 * w2, 4 * w3, w4] = [w0 / 1, 4 * w1 / 4, 6 * w2 / 6, 4 * w3 / 4, w4 / 1] := rfl
  rw [e]
  simp only [List.cons.injEq, and_true]
  refine ⟨?_, ?_, ?_, ?_, ?_⟩ <;> grind
theorem five_of {f : List Rat} (lf : f.length = 5) : ∃ w0 w1 w2 w3 w4 : Rat, f = [w0, 4 * w1, 6 * w2, 4 * w3, w4] := by
  rcases f with _ | ⟨a, _ | ⟨b, _ | ⟨c, _ | ⟨d, _ | ⟨e, _ | ⟨x, f⟩⟩⟩⟩⟩⟩ <;> simp at lf
  refine ⟨a, b / 4, c / 6, d / 4, e, ?_⟩
  simp only [List.cons.injEq, and_true]
  simp only [true_and]
  refine ⟨?_, ?_, ?_⟩ <;> grind
def q2 (w0 w1 w2 w3 w4 : Rat) : Rat := w0 * w4 - 4 * (w1 * w3) + 3 * (w2 * w2)
def q3 (w0 w1 w2 w3 w4 : Rat) : Rat := w0 * w2 * w4 + 2 * (w1 * w2 * w3) - w0 * w3 * w3 - w1 * w1 * w4 - w2 * w2 * w2
theorem self_four (w0 w1 w2 w3 w4 : Rat) : tv 4 [w0, 4 * w1, 6 * w2, 4 * w3, w4] [w0, 4 * w1, 6 * w2, 4 * w3, w4] = [2 * q2 w0 w1 w2 w3 w4] := by
  rw [last_slide (m := 4) rfl rfl (by decide)]
  congr 1
  unfold lterm q2
  rw [wg_five]
  simp [Sg, sg, cb]
  grind
theorem cube_four (w0 w1 w2 w3 w4 : Rat) : tv 4 (tv 2 [w0, 4 * w1, 6 * w2, 4 * w3, w4] [w0, 4 * w1, 6 * w2, 4 * w3, w4]) [w0, 4 * w1, 6 * w2, 4 * w3, w4] = [6 * q3 w0 w1 w2 w3 w4] := by
  rw [last_slide (m := 4) (by rw [tv2_five]; rfl) rfl (by decide), tv2_five]
  congr 1
  unfold lterm q3
  rw [wg_five, show wg [2 * (w0 * w2 - w1 * w1), 4 * (w0 * w3 - w1 * w2), 6 * (w0 * w4 + 2 * w1 * w3 - 3 * w2 * w2) / 3, 4 * (w1 * w4 - w2 * w3), 2 * (w2 * w4 - w3 * w3)] = [2 * (w0 * w2 - w1 * w1) / 1, 4 * (w0 * w3 - w1 * w2) / 4, 6 * (w0 * w4 + 2 * w1 * w3 - 3 * w2 * w2) / 3 / 6, 4 * (w1 * w4 - w2 * w3) / 4, 2 * (w2 * w4 - w3 * w3) / 1] from rfl]
  simp [Sg, sg, cb]
  grind
end G

end

section
namespace G
open PySem Ev
/-! ### polars -/
def pol (x y : Rat) (f : List Rat) : List Rat := (List.zipWith (· + ·) ((sx f).map (x * ·)) ((sy f).map (y * ·))).map (1 / (((f.length - 1 : Nat) : Int) : Rat) * ·)
def po (x y : Rat) (f : List Rat) : Nat → List Rat
  | 0 => f
  | i + 1 => pol x y (po x y f i)
section
variable {f g : List Rat} {d a e b m n k : Nat} {x y : Rat}
theorem sc_len (c : Rat) (f : List Rat) : (f.map (c * ·)).length = f.length := by simp
theorem pol_len (h : 1 < f.length) : (pol x y f).length = f.length - 1 := by
  unfold pol
  rw [List.length_map, List.length_zipWith, List.length_map, List.length_map, sx_len (by omega), sy_len (by omega)]
  omega
theorem po_len (lf : f.length = m + 1) : ∀ i, i ≤ m → (po x y f i).length = m + 1 - i
  | 0, _ => lf
  | i + 1, h => by
    have l := po_len lf i (by omega)
    show (pol x y _).length = _
    rw [pol_len (by omega), l]; omega
theorem dvd12 {n : Nat} (h0 : 0 < n) (h : n ≤ 12) : n ∣ KK := by
  have : ∀ n, n ≤ 12 → 0 < n → n ∣ KK := by decide
  exact this n h h0
/-- one step of both -/
theorem pol_step (hf : BF d a f) (lf : f.length = m + 1) (h0 : 0 < m) (hm : m ≤ 12) (hx : B 1 2 x) (hy : B 1 2 y) (hd : d + 2 ≤ 99) (ha : a + 10 ≤ 1899) :
    forms_slope_x [encF f] = .ok (encF (sx f)) ∧ forms_scaled [enc x, encF (sx f)] = .ok (encF ((sx f).map (x * ·))) ∧ forms_slope_y [encF f] = .ok (encF (sy f)) ∧ forms_scaled [enc y, encF (sy f)] = .ok (encF ((sy f).map (y * ·)))
    ∧ forms_add [encF ((sx f).map (x * ·)), encF ((sy f).map (y * ·))] = .ok (encF (List.zipWith (· + ·) ((sx f).map (x * ·)) ((sy f).map (y * ·))))
    ∧ forms_scaled [.tuple [.int 1, .int (m : Int)], encF (List.zipWith (· + ·) ((sx f).map (x * ·)) ((sy f).map (y * ·)))] = .ok (encF (pol x y f))
    ∧ law_slope [encF f, .bool true] = .ok (encF (sx f)) ∧ law_scaled [enc x, encF (sx f)] = .ok (encF ((sx f).map (x * ·))) ∧ law_slope [encF f, .bool false] = .ok (encF (sy f)) ∧ law_scaled [enc y, encF (sy f)] = .ok (encF ((sy f).map (y * ·)))
    ∧ law_plus [encF ((sx f).map (x * ·)), encF ((sy f).map (y * ·))] = .ok (encF (List.zipWith (· + ·) ((sx f).map (x * ·)) ((sy f).map (y * ·))))
    ∧ law_scaled [.tuple [.int 1, .int (m : Int)], encF (List.zipWith (· + ·) ((sx f).map (x * ·)) ((sy f).map (y * ·)))] = .ok (encF (pol x y f)) ∧ BF (d + 2) (a + 8) (pol x y f) := by
  have s1 := slope_B hf (by omega) (by omega) (by omega) (by omega)
  have l1 := sx_len (f := f) (by omega)
  have l2 := sy_len (f := f) (by omega)
  have c1 := scale_B s1.2.2.2.2.1 hx (by omega) (by omega) (by omega) (by omega) (by omega)
  have c2 := scale_B s1.2.2.2.2.2 hy (by omega) (by omega) (by omega) (by omega) (by omega)
  have a1 := add_B c1.2.2 c2.2.2 (by simp; omega) (by simp; omega) (by omega) (c := a + 8) (by omega) (by omega) (by omega)
  have hb : B 1 0 (1 / (((m : Nat) : Int) : Rat)) := B.inv (by rw [Nat.pow_one]; exact dvd12 h0 hm) (by omega)
  have c3 := scale_B a1.2.2 hb (by simp; omega) (by omega) (by omega) (by omega) (by omega)
  rw [← enc_inv h0] at c3
  have e : pol x y f = (List.zipWith (· + ·) ((sx f).map (x * ·)) ((sy f).map (y * ·))).map (1 / (((m : Nat) : Int) : Rat) * ·) := by
    unfold pol; rw [lf, Nat.add_sub_cancel]
  rw [e]
  exact ⟨s1.1, c1.1, s1.2.1, c2.1, a1.1, c3.1, s1.2.2.1, c1.2.1, s1.2.2.2.1, c2.2.1, a1.2.1, c3.2.1, c3.2.2.mono (by omega) (by omega)⟩
theorem po_B (hf : BF d a f) (lf : f.length = m + 1) (hm : m ≤ 12) (hx : B 1 2 x) (hy : B 1 2 y) (hd : d + 30 ≤ 99) (ha : a + 120 ≤ 1899) : ∀ i, i ≤ m → BF (d + 2 * i) (a + 8 * i) (po x y f i)
  | 0, _ => hf
  | i + 1, h => by
    have l := po_len (x := x) (y := y) lf i (by omega)
    exact (pol_step (po_B hf lf hm hx hy hd ha i (by omega)) (m := m - i) (by omega) (by omega) (by omega) hx hy (by omega) (by omega)).2.2.2.2.2.2.2.2.2.2.2.2.mono (by omega) (by omega)
/-! ### powers of a linear form -/
theorem Hm_10 (h : 0 < f.length) : Hm f 1 0 = f.getD 0 0 := by
  rcases f with _ | ⟨c, l⟩
  · simp at h
  · rw [Hm_cons, one_pow]; simp; grind
theorem Hm_01 : ∀ {f : List Rat}, 0 < f.length → Hm f 0 1 = f.getD (f.length - 1) 0
  | [], h => by simp at h
  | [c], _ => by rw [Hm_cons, Hm_nil, List.length_nil, Rat.pow_zero]; simp; grind
  | c :: c' :: l, _ => by
    rw [Hm_cons, Hm_01 (f := c' :: l) (by simp), List.length_cons, Rat.pow_succ]
    simp only [List.length_cons, Nat.add_sub_cancel, List.getD_cons_succ]
    grind
theorem idxF_last {f : List Rat} (h : 0 < f.length) : wIdx (encF f) (.int (-1)) = some (enc (f.getD (f.length - 1) 0)) := by
  show L2.atI (f.map enc) (-1) = _
  unfold L2.atI L2.ixN
  rw [List.length_map, if_neg (by decide), if_pos (by omega)]
  have : (-1 + ((f.length : Nat) : Int)).toNat = f.length - 1 := by omega
  simp only [Option.bind_some, this]
  rw [List.getElem?_map, List.getD_eq_getElem?_getD, List.getElem?_eq_getElem (by omega)]
  rfl
theorem zerosL {n : Nat} (h : n ≤ 1000) : wMulL (.list [.tuple [.int 0, .int 1]]) (.int (n : Int)) = some (.list ((List.replicate n (0 : Rat)).map enc)) := by
  show (if (-1000000 ≤ (n : Int) ∧ (n : Int) ≤ 1000000) ∧ 1 * (n : Int).toNat ≤ 16777216 then some (PyData.list (List.replicate (n : Int).toNat [enc 0]).flatten) else none) = _
  rw [if_pos (by omega), ← rep_map]
  congr 2
  simp only [Int.toNat_natCast]
  induction n with
  | zero => rfl
  | succ k ih => rw [List.replicate_succ, List.flatten_cons, ih (by omega), List.replicate_succ]; rfl
end
end G

end

section
namespace G
open PySem Ev
/-! ### sizes of powers and changed forms -/
theorem szpB {d a N : Nat} (hd : d ≤ 99) (ha : a ≤ 1899) (h1 : d * N ≤ 99) (h2 : (a + 10) * N ≤ 1899) : Szp (KK ^ d) (2 ^ a) N := by
  refine ⟨szB hd ha, fun n hn => ?_⟩
  have e1 : (KK ^ d) ^ n = KK ^ (d * n) := (Nat.pow_mul _ _ _).symm
  have e2 : (625 * 2 ^ a) ^ n ≤ 2 ^ ((a + 10) * n) := by
    rw [Nat.pow_mul]
    exact Nat.pow_le_pow_left (mulp (by decide)) n
  have q1 : d * n ≤ d * N := Nat.mul_le_mul_left _ hn
  have q2 : (a + 10) * n ≤ (a + 10) * N := Nat.mul_le_mul_left _ hn
  rw [e1]
  exact ⟨KKn _, KKlt (by omega), Nat.lt_of_le_of_lt e2 (p2lt (by omega))⟩
section
variable {f g : List Rat} {d a e b m n k : Nat} {p q r s x y c : Rat}
/-- sizes of a drawn change -/
theorem szc12 (hn : n ≤ 11) (he : e + n ≤ 99) (hb : b + 12 * n + 14 ≤ 1899) : Szc (KK ^ e) (2 ^ b) (KK ^ 1) (2 ^ 2) n := by
  have sp : Szp (KK ^ 1) (2 ^ 2) n := szpB (by decide) (by decide) (by omega) (by omega)
  have e1 : (KK ^ 1) ^ n = KK ^ n := by rw [Nat.pow_one]
  have e2 : (625 * 2 ^ 2) ^ n ≤ 2 ^ (12 * n) := by
    rw [Nat.pow_mul]
    exact Nat.pow_le_pow_left (by decide) n
  have e3 : 625 * (625 * 2 ^ 2) ^ n ≤ 2 ^ (12 * n + 10) := by
    rw [Nat.pow_add, Nat.mul_comm]; exact Nat.mul_le_mul e2 (by decide)
  have e4 : (n + 1) * (2 ^ b * (625 * (625 * 2 ^ 2) ^ n)) ≤ 2 ^ (b + 12 * n + 14) := by
    have : 2 ^ b * (625 * (625 * 2 ^ 2) ^ n) ≤ 2 ^ (b + 12 * n + 10) := by
      rw [show b + 12 * n + 10 = b + (12 * n + 10) by omega, Nat.pow_add]; exact Nat.mul_le_mul_left _ e3
    rw [show b + 12 * n + 14 = 4 + (b + 12 * n + 10) by omega, Nat.pow_add]
    exact Nat.mul_le_mul (by omega) this
  refine ⟨sp, szB (by omega) (by omega), ?_, ?_⟩
  · rw [e1]; exact ⟨KKn _, KKlt (by omega), Nat.lt_of_le_of_lt e3 (p2lt (by omega))⟩
  · rw [e1, ← Nat.pow_add]; exact ⟨KKn _, KKlt (by omega), Nat.lt_of_le_of_lt e4 (p2lt (by omega))⟩
theorem szc12_le (hn : n ≤ 11) : KK ^ e * (KK ^ 1) ^ n ∣ KK ^ (e + n) ∧ (n + 1) * (2 ^ b * (625 * (625 * 2 ^ 2) ^ n)) ≤ 2 ^ (b + 12 * n + 14) := by
  refine ⟨by rw [Nat.pow_one, ← Nat.pow_add]; exact Nat.dvd_refl _, ?_⟩
  have e2 : (625 * 2 ^ 2) ^ n ≤ 2 ^ (12 * n) := by
    rw [Nat.pow_mul]
    exact Nat.pow_le_pow_left (by decide) n
  have e3 : 625 * (625 * 2 ^ 2) ^ n ≤ 2 ^ (12 * n + 10) := by
    rw [Nat.pow_add, Nat.mul_comm]; exact Nat.mul_le_mul e2 (by decide)
  have : 2 ^ b * (625 * (625 * 2 ^ 2) ^ n) ≤ 2 ^ (b + 12 * n + 10) := by
    rw [show b + 12 * n + 10 = b + (12 * n + 10) by omega, Nat.pow_add]; exact Nat.mul_le_mul_left _ e3
  rw [show b + 12 * n + 14 = 4 + (b + 12 * n + 10) by omega, Nat.pow_add]
  exact Nat.mul_le_mul (by omega) this
theorem BF.two (hx : B d a x) (hy : B d a y) : BF d a [x, y] := BF.cons hx (BF.cons hy BF.nil)
theorem Bd24 (h : Bd 2 4 x) : B 1 2 x := h.toB (by decide) (by decide)
/-! ### a power of a linear form, told -/
theorem Rpow_ne {z : Rat} (h : z ≠ 0) : ∀ m : Nat, z ^ m ≠ 0
  | 0 => by rw [Rat.pow_zero]; decide
  | m + 1 => by
    rw [Rat.pow_succ]
    intro e
    rcases Rat.mul_eq_zero.mp e with e | e
    · exact Rpow_ne h m e
    · exact h e
theorem B.pow (h : B d a x) : ∀ n : Nat, B (d * n) (a * n) (x ^ n)
  | 0 => by rw [Rat.pow_zero]; exact B.one
  | n + 1 => by
    rw [Rat.pow_succ, Nat.mul_succ, Nat.mul_succ]
    exact (B.pow h n).mul h
/-! ### powers of one form -/
theorem T1 (u v : Rat) (hf : 1 < f.length) (hg : 1 < g.length) : Hm (T 1 f g) u v = Dm f u v 1 0 * Dm g u v 0 1 - Dm f u v 0 1 * Dm g u v 1 0 := by
  have a := sx_len (f := f) (by omega)
  have b := sy_len (f := f) (by omega)
  have c := sx_len (f := g) (by omega)
  have d := sy_len (f := g) (by omega)
  rw [T_succ u v 0 hf hg]
  show Hm (cv _ _) u v - Hm (cv _ _) u v = _
  rw [Hm_cv u v (by omega), Hm_cv u v (by omega), Hm_sx, Hm_sy, Hm_sx, Hm_sy]
theorem dp_mul (u p : Rat) : ∀ n : Nat, dp u p n = p * dp u 1 n
  | 0 => by unfold dp; grind
  | n + 1 => by unfold dp; rw [dp_mul u p n]; grind
theorem turn_powers (i j : Nat) (hf : 1 < f.length) (hi : 1 ≤ i) (hj : 1 ≤ j) (u v : Rat) : Hm (T 1 (pw f i) ((pw f j).map (c * ·))) u v = 0 := by
  have l1 := pw_len (f := f) (by omega) i
  have l2 := pw_len (f := f) (by omega) j
  have q1 : 1 * 1 ≤ i * (f.length - 1) := Nat.mul_le_mul hi (by omega)
  have q2 : 1 * 1 ≤ j * (f.length - 1) := Nat.mul_le_mul hj (by omega)
  rw [T_scaleR u v c 1 (by omega) (by omega), T1 u v (by omega) (by omega), Dm_pw u v _ _ (by omega), Dm_pw u v _ _ (by omega), Dm_pw u v _ _ (by omega), Dm_pw u v _ _ (by omega)]
  rw [dp_mul _ (Dm f u v 1 0), dp_mul _ (Dm f u v 0 1), dp_mul _ (Dm f u v 0 1), dp_mul _ (Dm f u v 1 0)]
  grind
end
end G

end

section
namespace G
open PySem Ev
section
variable {f g h : List Rat} {d a e b m n k : Nat} {p q r s x y c : Rat}
theorem ffm_comm (m n : Nat) : ∀ k, ffm m n k = ffm n m k
  | 0 => rfl
  | k + 1 => by unfold ffm; rw [ffm_comm m n k]; grind
theorem sgn_pow (k : Nat) : ((-1 : Rat)) ^ k = ((if k % 2 = 0 then 1 else -1 : Int) : Rat) := by
  induction k with
  | zero => rfl
  | succ k ih =>
    rw [Rat.pow_succ, ih]
    by_cases h : k % 2 = 0
    · rw [if_pos h, if_neg (by omega)]; grind
    · rw [if_neg h, if_pos (by omega)]; grind
/-- the slide the other way -/
theorem tv_swap (hf : k < f.length) (hg : k < g.length) : tv k g f = (tv k f g).map (((if k % 2 = 0 then 1 else -1 : Int) : Rat) * ·) := by
  refine Hm_ext (by rw [tv_len hg hf, List.length_map, tv_len hf hg]; omega) fun u v => ?_
  rw [Hm_tv, Hm_scale, Hm_tv, T_swap u v k hf hg, ← sgn_pow]
  have : pf (g.length - 1) (f.length - 1) k = pf (f.length - 1) (g.length - 1) k := by unfold pf; rw [ffm_comm]
  rw [this]
  grind
/-- a change multiplies the slide -/
theorem tv_chg (hf : k < f.length) (hg : k < g.length) : tv k (chg f [p, q] [r, s]) (chg g [p, q] [r, s]) = (chg (tv k f g) [p, q] [r, s]).map ((p * s - q * r) ^ k * ·) := by
  have l1 := chg_len (f := f) (p := [p, q]) (q := [r, s]) rfl rfl
  have l2 := chg_len (f := g) (p := [p, q]) (q := [r, s]) rfl rfl
  refine Hm_ext (by rw [tv_len (by omega) (by omega), List.length_map, l1, l2, chg_len rfl rfl, tv_len hf hg]) fun u v => ?_
  rw [Hm_tv, Hm_scale, Hm_chg rfl rfl, Hm_tv, T_chg p q r s k u v hf hg, l1, l2, Hm2, Hm2]
  grind
def dues (f g : List Rat) (n : Nat) : List W := (List.range (n + 1)).map fun k => encF (tv k f g)
theorem dues_at {i : Nat} (h : i ≤ n) : wIdx (.list (dues f g n)) (.int (i : Int)) = some (encF (tv i f g)) := by
  refine idx_list ?_
  unfold dues
  rw [List.getElem?_map, List.getElem?_range (by omega)]
  rfl
theorem dues_pl (hl : ∀ k, k ≤ n → (tv k f g).length ≤ 1000) (hn : n ≤ 100) : Pl 40 (.tuple (dues f g n)) := Pl.tup 39 (by unfold dues; simp; omega) (by
  intro w hw
  obtain ⟨k, hk, rfl⟩ := List.mem_map.mp hw
  exact Pl.encF 36 (hl k (by have := List.mem_range.mp hk; omega)))
theorem sgn_if {ρ : Sl} {i j : Nat} (h : ρ[i]? = some (some (.int (j : Int)))) : eIf (eTest (eBin wEq (eBin wMod (eVar i) (eC (.int (2)))) (eC (.int (0))))) (eC (.int (1))) (eUn wNeg (eC (.int (1)))) ρ none = .ok (.int (if j % 2 = 0 then 1 else -1 : Int)) none := by
  have et : eTest (eBin wEq (eBin wMod (eVar i) (eC (.int (2)))) (eC (.int (0)))) ρ none = .ok (((j % 2 : Nat) : Int) == 0) none := t_test (e_bin (e_bin (e_var h) e_c (wMod2 j)) e_c (s_wEq_int _ _))
  by_cases c : j % 2 = 0
  · rw [if_pos c]
    exact e_ifT (by rw [et, c]; rfl) e_c
  · rw [if_neg c]
    exact e_ifF (by rw [et]; congr 1; simp; omega) (e_un e_c rfl)
theorem sgn_B (j : Nat) : B 0 1 (((if j % 2 = 0 then 1 else -1 : Int)) : Rat) := B.int _ (by split <;> decide)
theorem num_zero (x : Rat) : (x.num == 0) = decide (x = 0) := by
  by_cases h : x = 0
  · subst h; rfl
  · have : x.num ≠ 0 := fun z => h (Rat.num_eq_zero.mp z)
    simp [h, this]
/-- any number of a form that is not 0 -/
theorem any_num {ρ : Sl} {j : Nat} (hl : f.length ≤ 1000) {A : Ex} (hA : A ρ none = .ok (encF f) none) (hj : ∀ w : W, ((wipeW ρ [j]).set j (some w))[j]? = some (some w)) :
    eCallB gAny (eCons (eLc (sSeq A) [j] (gN j) etYes (eBin wNe (eBin wIdx (eVar j) (eC (.int (0)))) (eC (.int (0))))) eNil) ρ none = .ok (.bool (!allZ f)) none := by
  refine e_callB (a_cons (e_lc (items := f.map enc) (ws := f.map fun x => (.bool (!decide (x = 0)) : W)) (g_seq hA rfl) (by simp; omega) (lc_map _ _ _ fun x hx => ⟨_, rfl, e_bin (e_bin (e_var (hj _)) e_c rfl) e_c ?_⟩)) a_nil) ?_
  · rw [s_wNe_int, num_zero]
  · rw [gAny_map]; unfold allZ; simp
theorem slide_bad {w : W} (hf : isForm25 f) (hg : isForm25 g) (lf : f.length = m + 1) (lg : g.length = n + 1)
    (hw : w = .none ∨ (∃ b, w = .bool b) ∨ ∃ i : Int, w = .int i ∧ (i < 0 ∨ (m : Int) < i ∨ (n : Int) < i)) : slides_slide [encF f, encF g, w] = .exc X_BadNumber := by
  unfold slides_slide
  rw [runF_eq (n := 3) rfl]
  rw [then_next (ρ' := [some (encF f), some (encF g), some w, none, none, none, none, none, none, none, none, none]) (t' := none) (by exact x_drop (e_call (a_cons (e_var rfl) a_nil) (check_form_spec hf)))]
  rw [then_next (ρ' := [some (encF f), some (encF g), some w, none, none, none, none, none, none, none, none, none]) (t' := none) (by exact x_drop (e_call (a_cons (e_var rfl) a_nil) (check_form_spec hg)))]
  rw [then_next (ρ' := [some (encF f), some (encF g), some w, some (.int (m : Int)), some (.int (n : Int)), none, none, none, none, none, none, none]) (t' := none) (by exact x_par2 (e_call (a_cons (e_var rfl) a_nil) (order_nat lf)) (e_call (a_cons (e_var rfl) a_nil) (order_nat lg)))]
  refine congrArg (endF false) (then_exc (e := X_BadNumber) (t' := none) ?_)
  rcases hw with rfl | ⟨b, rfl⟩ | ⟨i, rfl, hi⟩
  · exact i_true' (t_orT (t_not (t_test (e_call (a_cons (e_var rfl) a_nil) (w := .bool false) (by kernel_rfl))))) rfl
  · exact i_true' (t_orT (t_not (t_test (e_call (a_cons (e_var rfl) a_nil) (w := .bool false) (by cases b <;> kernel_rfl))))) rfl
  · have i1 : ratios_is_integer [.int i] = .ok (.bool true) := rfl
    refine i_true' ?_ rfl
    refine t_orF (t_not (t_test (e_call (a_cons (e_var rfl) a_nil) i1))) ?_
    by_cases c1 : i < 0
    · exact t_orT (t_test (e_bin (e_var rfl) e_c (ltT c1)))
    · refine t_orF (t_test (e_bin (e_var rfl) e_c (ltF c1))) ?_
      by_cases c2 : (m : Int) < i
      · exact t_orT (t_test (e_bin (e_var rfl) (e_var rfl) (gtT c2)))
      · have c3 : (n : Int) < i := by omega
        exact t_orF (t_test (e_bin (e_var rfl) (e_var rfl) (gtF c2))) (t_test (e_bin (e_var rfl) (e_var rfl) (gtT c3)))
theorem allZ_true (hz : ∀ u v, Hm f u v = 0) : allZ f = true := by
  rw [zero_of hz]; exact allZ_rep _
end
theorem told_exc {A : Exs} {f : Fs} {ρ : Sl} {ws : List W} {k : Nat} {n : Nat} {hs : List (Nat × W)} {w d : W} (h1 : A ρ none = .ok ws none) (h2 : f ws = .exc k) (h3 : exC n hs k none = .ok w none) : eToldA n hs d (eCall f A) ρ none = .ok w none := by
  have : eCall f A ρ none = .exc k none := by rw [s_eCall, h1, s_bind_ok, h2, s_fR_exc]
  unfold eToldA
  rw [this]
  exact h3
theorem fmod_pos (r k : Nat) (hk : 0 < k) : ((r : Int)).fmod (k : Int) = ((r % k : Nat) : Int) := by
  rw [Int.fmod_eq_emod_of_nonneg _ (by omega)]; rfl
theorem dv (i : Int) (j : Nat) (h0 : 0 < j) (h : j < 1024) : wFdiv (.int i) (.int (j : Int)) = some (.int (i.fdiv (j : Int))) :=
  wFdiv_of (divOk_of (by omega) (Nat.lt_trans (show (j : Int).natAbs < 2 ^ 10 by omega) (Nat.pow_lt_pow_right (by decide) (by decide))))
theorem md (i : Int) (j : Nat) (h0 : 0 < j) : ∃ r : Nat, r < j ∧ wMod (.int i) (.int (j : Int)) = some (.int (r : Int)) := by
  obtain ⟨r, e, hr⟩ := fmod_nat i h0
  exact ⟨r, hr, (wMod_nz _ _ (by omega)).trans (by rw [e])⟩
end G

end

section
namespace G
open PySem Ev
/-! ### rows and tables by functions -/
def row (w : Nat) (f : Nat → Rat) : List Rat := (List.range (w + 1)).map f
def tab (h w : Nat) (F : Nat → Nat → Rat) : List (List Rat) := (List.range (h + 1)).map fun i => row w (F i)
theorem row_len (w : Nat) (f : Nat → Rat) : (row w f).length = w + 1 := by unfold row; simp
theorem tab_len (h w : Nat) (F : Nat → Nat → Rat) : (tab h w F).length = h + 1 := by unfold tab; simp
theorem row_get {w k : Nat} (f : Nat → Rat) (h : k ≤ w) : (row w f).getD k 0 = f k := by
  unfold row
  rw [List.getD_eq_getElem?_getD, List.getElem?_map, List.getElem?_range (by omega)]; rfl
theorem row_out {w k : Nat} (f : Nat → Rat) (h : ¬ k ≤ w) : (row w f).getD k 0 = 0 := by
  unfold row
  rw [List.getD_eq_getElem?_getD, List.getElem?_eq_none (by simp; omega)]; rfl
theorem row_congr {w : Nat} {f g : Nat → Rat} (h : ∀ k, k ≤ w → f k = g k) : row w f = row w g := by
  unfold row
  exact List.map_congr_left fun k hk => h k (by have := List.mem_range.mp hk; omega)
theorem tab_congr {h w : Nat} {F F' : Nat → Nat → Rat} (e : ∀ i j, i ≤ h → j ≤ w → F i j = F' i j) : tab h w F = tab h w F' := by
  unfold tab
  exact List.map_congr_left fun i hi => row_congr fun j hj => e i j (by have := List.mem_range.mp hi; omega) hj
theorem row_self {l : List Rat} {w : Nat} (h : l.length = w + 1) : row w (fun i => l.getD i 0) = l := by
  apply List.ext_getElem?
  intro i
  unfold row
  rw [List.getElem?_map]
  by_cases hi : i < w + 1
  · rw [List.getElem?_range hi]
    simp only [Option.map_some, List.getD_eq_getElem?_getD]
    rw [List.getElem?_eq_getElem (by omega)]; rfl
  · rw [List.getElem?_eq_none (by simp; omega), List.getElem?_eq_none (by omega)]; rfl
theorem row_add (w : Nat) (f g : Nat → Rat) : List.zipWith (· + ·) (row w f) (row w g) = row w fun i => f i + g i := by
  unfold row
  rw [List.zipWith_map, List.zipWith_self]
theorem row_scale (w : Nat) (c : Rat) (f : Nat → Rat) : (row w f).map (c * ·) = row w fun i => c * f i := by
  unfold row
  rw [List.map_map]; rfl
theorem row_zero (w : Nat) : row w (fun _ => 0) = List.replicate (w + 1) 0 := by
  unfold row
  rw [List.map_const', List.length_range]
theorem tab_row {h w i : Nat} (F : Nat → Nat → Rat) (hi : i ≤ h) : (tab h w F)[i]? = some (row w (F i)) := by
  unfold tab
  rw [List.getElem?_map, List.getElem?_range (by omega)]; rfl
theorem getD_zip {a b : List Rat} (h : a.length = b.length) (r : Nat) : (List.zipWith (· + ·) a b).getD r 0 = a.getD r 0 + b.getD r 0 := by
  simp only [List.getD_eq_getElem?_getD]
  by_cases hr : r < a.length
  · rw [List.getElem?_eq_getElem hr, List.getElem?_eq_getElem (show r < b.length by omega), List.getElem?_eq_getElem (by simp; omega)]
    simp
  · rw [List.getElem?_eq_none (show a.length ≤ r by omega), List.getElem?_eq_none (show b.length ≤ r by omega), List.getElem?_eq_none (by simp; omega)]
    show (0 : Rat) = 0 + 0
    grind
theorem getD_scale {a : List Rat} (c : Rat) (r : Nat) : (a.map (c * ·)).getD r 0 = c * a.getD r 0 := by
  simp only [List.getD_eq_getElem?_getD, List.getElem?_map]
  cases a[r]? <;> simp
/-! ### sums -/
theorem Sg_zero' {n : Nat} {F : Nat → Rat} (h : ∀ i, i < n → F i = 0) : Sg n F = 0 := by
  rw [Sg_congr (F' := fun _ => 0 * 0) (fun i hi => by rw [h i hi]; grind), Sg_mul]; grind
theorem Sg_swap {F : Nat → Nat → Rat} {m : Nat} : ∀ {n : Nat}, Sg n (fun i => Sg m fun j => F i j) = Sg m fun j => Sg n fun i => F i j
  | 0 => by rw [Sg_zero]; exact (Sg_zero' fun _ _ => rfl).symm
  | n + 1 => by
    rw [Sg_succ, Sg_swap, ← Sg_add]
    rfl
theorem Sg_mulR {F : Nat → Rat} {c : Rat} {n : Nat} : Sg n (fun i => F i * c) = Sg n F * c := by
  rw [Sg_congr (F' := fun i => c * F i) fun i _ => by grind, Sg_mul]; grind
theorem Sg_one {F : Nat → Rat} {k : Nat} : ∀ {n : Nat}, k < n → (∀ i, i < n → i ≠ k → F i = 0) → Sg n F = F k
  | 0, h, _ => by omega
  | n + 1, h, z => by
    rw [Sg_succ]
    by_cases e : k = n
    · subst e
      rw [Sg_zero' fun i hi => z i (by omega) (by omega)]; grind
    · rw [Sg_one (show k < n by omega) fun i hi ne => z i (by omega) ne, z n (by omega) (by omega)]; grind
/-! ### slides are linear -/
def un (m k : Nat) : List Rat := row m fun i => if i = k then 1 else 0
theorem tv_addR {k : Nat} {f g g' : List Rat} (h : g.length = g'.length) (hf : k < f.length) (hg : k < g.length) : tv k f (List.zipWith (· + ·) g g') = List.zipWith (· + ·) (tv k f g) (tv k f g') := by
  have hz : (List.zipWith (· + ·) g g').length = g.length := by simp; omega
  refine Hm_ext (by rw [tv_len hf (by omega), hz, List.length_zipWith, tv_len hf hg, tv_len hf (by omega)]; omega) fun u v => ?_
  rw [Hm_add u v (by rw [tv_len hf hg, tv_len hf (by omega), h]), Hm_tv, Hm_tv, Hm_tv, T_addR u v k h hf hg, hz, h]
  grind
theorem tv_scaleR {k : Nat} (c : Rat) {f g : List Rat} (hf : k < f.length) (hg : k < g.length) : tv k f (g.map (c * ·)) = (tv k f g).map (c * ·) := by
  refine Hm_ext (by rw [tv_len hf (by simpa using hg), List.length_map, List.length_map, tv_len hf hg]) fun u v => ?_
  rw [Hm_scale, Hm_tv, Hm_tv, T_scaleR u v c k hf hg, List.length_map]
  grind
theorem tv_addL {k : Nat} {f f' g : List Rat} (h : f.length = f'.length) (hf : k < f.length) (hg : k < g.length) : tv k (List.zipWith (· + ·) f f') g = List.zipWith (· + ·) (tv k f g) (tv k f' g) := by
  have hz : (List.zipWith (· + ·) f f').length = f.length := by simp; omega
  refine Hm_ext (by rw [tv_len (by omega) hg, hz, List.length_zipWith, tv_len hf hg, tv_len (by omega) hg]; omega) fun u v => ?_
  rw [Hm_add u v (by rw [tv_len hf hg, tv_len (by omega) hg, h]), Hm_tv, Hm_tv, Hm_tv, T_addL u v k h hf hg, hz, h]
  grind
theorem tv_scaleL {k : Nat} (c : Rat) {f g : List Rat} (hf : k < f.length) (hg : k < g.length) : tv k (f.map (c * ·)) g = (tv k f g).map (c * ·) := by
  refine Hm_ext (by rw [tv_len (by simpa using hf) hg, List.length_map, List.length_map, tv_len hf hg]) fun u v => ?_
  rw [Hm_scale, Hm_tv, Hm_tv, T_scaleL u v c k hf hg, List.length_map]
  grind
theorem cut_step (w i : Nat) (g : Nat → Rat) : row w (fun l => if l < i + 1 then g l else 0) = List.zipWith (· + ·) (row w fun l => if l < i then g l else 0) ((un w i).map (g i * ·)) := by
  unfold un
  rw [row_scale, row_add]
  refine row_congr fun k _ => ?_
  by_cases h1 : k < i
  · rw [if_pos (by omega), if_pos h1, if_neg (by omega)]; grind
  · by_cases h2 : k = i
    · subst h2; rw [if_pos (by omega), if_neg h1, if_pos rfl]; grind
    · rw [if_neg (by omega), if_neg h1, if_neg h2]; grind
theorem un_len (m k : Nat) : (un m k).length = m + 1 := row_len _ _
theorem tv_lin {c m n : Nat} {f : List Rat} (lf : f.length = m + 1) (hm : c ≤ m) (hn : c ≤ n) (g : Nat → Rat) (r : Nat) : (tv c f (row n g)).getD r 0 = Sg (n + 1) fun l => g l * (tv c f (un n l)).getD r 0 := by
  have key : ∀ i, (tv c f (row n fun l => if l < i then g l else 0)).getD r 0 = Sg i fun l => g l * (tv c f (un n l)).getD r 0 := by
    intro i
    induction i with
    | zero =>
      have e : row n (fun l => if l < 0 then g l else 0) = (un n 0).map (0 * ·) := by
        unfold un
        rw [row_scale]
        exact row_congr fun k _ => by rw [if_neg (by omega)]; grind
      rw [e, tv_scaleR 0 (by omega) (by rw [un_len]; omega), getD_scale, Sg_zero]; grind
    | succ i ih =>
      rw [cut_step, tv_addR (by rw [row_len, List.length_map, un_len]) (by omega) (by rw [row_len]; omega), tv_scaleR _ (by omega) (by rw [un_len]; omega), getD_zip (by rw [List.length_map, tv_len (by omega) (by rw [row_len]; omega), tv_len (by omega) (by rw [un_len]; omega), row_len, un_len]), getD_scale, ih, Sg_succ]
  rw [← key (n + 1)]
  congr 2
  exact row_congr fun k hk => by rw [if_pos (by omega)]
theorem tv_linL {c m n : Nat} {g : List Rat} (lg : g.length = n + 1) (hm : c ≤ m) (hn : c ≤ n) (f : Nat → Rat) (r : Nat) : (tv c (row m f) g).getD r 0 = Sg (m + 1) fun k => f k * (tv c (un m k) g).getD r 0 := by
  have key : ∀ i, (tv c (row m fun l => if l < i then f l else 0) g).getD r 0 = Sg i fun k => f k * (tv c (un m k) g).getD r 0 := by
    intro i
    induction i with
    | zero =>
      have e : row m (fun l => if l < 0 then f l else 0) = (un m 0).map (0 * ·) := by
        unfold un
        rw [row_scale]
        exact row_congr fun k _ => by rw [if_neg (by omega)]; grind
      rw [e, tv_scaleL 0 (by rw [un_len]; omega) (by omega), getD_scale, Sg_zero]; grind
    | succ i ih =>
      rw [cut_step, tv_addL (by rw [row_len, List.length_map, un_len]) (by rw [row_len]; omega) (by omega), tv_scaleL _ (by rw [un_len]; omega) (by omega), getD_zip (by rw [List.length_map, tv_len (by rw [row_len]; omega) (by omega), tv_len (by rw [un_len]; omega) (by omega), row_len, un_len]), getD_scale, ih, Sg_succ]
  rw [← key (m + 1)]
  congr 2
  exact row_congr fun k hk => by rw [if_pos (by omega)]
/-! ### the slides of a table, a table of slides -/
def slT (m n : Nat) (T : Nat → Nat → Rat) (c r : Nat) : Rat := Sg (m + 1) fun k => (tv c (un m k) (row n (T k))).getD r 0
def cbr (n k : Nat) : Rat := (((cb n k : Nat) : Int) : Rat)
def pz (s second : Nat) (f : Nat → Rat) (k j : Nat) : Rat := f (k + j) / cbr s (k + j) * (cbr (s - second) k * cbr second j)
def comb (p q : Nat → Nat → Rat) (a b : Nat) : Rat := (if 0 < b then p a (b - 1) else 0) - (if 0 < a then q (a - 1) b else 0)
def cut (h w : Nat) (F : Nat → Nat → Rat) (a b : Nat) : Rat := if a < h + 1 ∧ b < w + 1 then F a b else 0
def tb (h w : Nat) (F : Nat → Nat → Rat) : Nat → Nat → Rat := comb (cut h w F) (cut h w F)
def tbN : Nat → Nat → Nat → (Nat → Nat → Rat) → Nat → Nat → Rat
  | 0, _, _, F => F
  | c + 1, h, w, F => tbN c (h + 1) (w + 1) (tb h w F)
def num (m n c : Nat) : Rat := cbr m c * cbr n c / cbr (m + n - c + 1) c
def fs (m n : Nat) (P : Nat → Nat → Rat) (i j : Nat) : Rat := Sg (min m n + 1) fun c => num m n c * tbN c (m - c) (n - c) (pz (m + n - 2 * c) (n - c) (P c)) i j
/-- the parts of these -/
def S1 (m n c k l r : Nat) : Rat := (tv c (un m k) (un n l)).getD r 0
def F1 (m n c r i j : Nat) : Rat := num m n c * tbN c (m - c) (n - c) (pz (m + n - 2 * c) (n - c) fun q => if q = r then 1 else 0) i j
theorem slT_S1 {m n c : Nat} (hm : c ≤ m) (hn : c ≤ n) (T : Nat → Nat → Rat) (r : Nat) : slT m n T c r = Sg (m + 1) fun k => Sg (n + 1) fun l => T k l * S1 m n c k l r := by
  unfold slT
  exact Sg_congr fun k _ => tv_lin (un_len m k) hm hn _ r
theorem tbN_sum {N : Nat} (a : Nat → Rat) (G : Nat → Nat → Nat → Rat) : ∀ (c h w i j : Nat), tbN c h w (fun i j => Sg N fun r => a r * G r i j) i j = Sg N fun r => a r * tbN c h w (G r) i j
  | 0, h, w, i, j => rfl
  | c + 1, h, w, i, j => by
    show tbN c (h + 1) (w + 1) (tb h w fun i j => Sg N fun r => a r * G r i j) i j = Sg N fun r => a r * tbN c (h + 1) (w + 1) (tb h w (G r)) i j
    rw [← tbN_sum a (fun r => tb h w (G r)) c (h + 1) (w + 1) i j]
    have : (tb h w fun i j => Sg N fun r => a r * G r i j) = fun i j => Sg N fun r => a r * tb h w (G r) i j := by
      funext x y
      have cc : ∀ x y, cut h w (fun i j => Sg N fun r => a r * G r i j) x y = Sg N fun r => a r * cut h w (G r) x y := fun x y => by
        unfold cut
        by_cases q : x < h + 1 ∧ y < w + 1
        · rw [if_pos q]
          exact Sg_congr fun r _ => by rw [if_pos q]
        · rw [if_neg q]
          exact (Sg_zero' fun r _ => by rw [if_neg q]; grind).symm
      have e0 : (0 : Rat) = Sg N fun r => a r * 0 := (Sg_zero' fun r _ => by grind).symm
      unfold tb comb
      rw [cc, cc]
      by_cases h1 : 0 < y <;> by_cases h2 : 0 < x <;> simp only [h1, h2, if_true, if_false, if_pos, if_neg]
      · have : (Sg N fun r => a r * (cut h w (G r) x (y - 1) - cut h w (G r) (x - 1) y)) = Sg N fun r => a r * cut h w (G r) x (y - 1) + (-1) * (a r * cut h w (G r) (x - 1) y) := Sg_congr fun r _ => by grind
        rw [this, Sg_add, Sg_mul]; grind
      · have : (Sg N fun r => a r * (cut h w (G r) x (y - 1) - 0)) = Sg N fun r => a r * cut h w (G r) x (y - 1) := Sg_congr fun r _ => by grind
        rw [this]; grind
      · have : (Sg N fun r => a r * (0 - cut h w (G r) (x - 1) y)) = Sg N fun r => (-1) * (a r * cut h w (G r) (x - 1) y) := Sg_congr fun r _ => by grind
        rw [this, Sg_mul]; grind
      · have : (Sg N fun r => a r * ((0 : Rat) - 0)) = 0 := Sg_zero' fun r _ => by grind
        rw [this]; grind
    rw [this]
theorem tb_congr {h w : Nat} {F F' : Nat → Nat → Rat} (e : ∀ i j, i < h + 1 → j < w + 1 → F i j = F' i j) : tb h w F = tb h w F' := by
  have : cut h w F = cut h w F' := by
    funext x y
    unfold cut
    by_cases q : x < h + 1 ∧ y < w + 1
    · rw [if_pos q, if_pos q, e x y q.1 q.2]
    · rw [if_neg q, if_neg q]
  unfold tb
  rw [this]
theorem tbN_congr {F F' : Nat → Nat → Rat} : ∀ {c h w i j : Nat}, (∀ i j, i < h + 1 → j < w + 1 → F i j = F' i j) → i < h + c + 1 → j < w + c + 1 → tbN c h w F i j = tbN c h w F' i j
  | 0, h, w, i, j, e, hi, hj => e i j hi hj
  | c + 1, h, w, i, j, e, hi, hj => by
    show tbN c (h + 1) (w + 1) (tb h w F) i j = tbN c (h + 1) (w + 1) (tb h w F') i j
    rw [tb_congr e]
theorem fs_F1 {m n : Nat} (P : Nat → Nat → Rat) {i j : Nat} (hi : i ≤ m) (hj : j ≤ n) : fs m n P i j = Sg (min m n + 1) fun c => Sg (m + n - 2 * c + 1) fun r => P c r * F1 m n c r i j := by
  unfold fs
  refine Sg_congr fun c hc => ?_
  have e : ∀ k l, k < m - c + 1 → l < n - c + 1 → pz (m + n - 2 * c) (n - c) (P c) k l = Sg (m + n - 2 * c + 1) fun r => P c r * pz (m + n - 2 * c) (n - c) (fun q => if q = r then 1 else 0) k l := fun k l hk hl => by
    rw [Sg_one (k := k + l) (by omega) fun r hr ne => by unfold pz; simp only []; rw [if_neg (by omega)]; grind]
    unfold pz
    simp only []
    rw [if_pos trivial]; grind
  rw [tbN_congr e (by omega) (by omega), tbN_sum, ← Sg_mul]
  refine Sg_congr fun r _ => ?_
  unfold F1
  grind
end G

end

section
namespace G
open PySem Ev
def allB : Nat → (Nat → Bool) → Bool
  | 0, _ => true
  | n + 1, p => p n && allB n p
theorem allB_ok {p : Nat → Bool} : ∀ {n : Nat}, allB n p = true → ∀ i, i < n → p i = true
  | 0, _, i, h => by omega
  | n + 1, e, i, h => by
    have e : (p n && allB n p) = true := e
    rw [Bool.and_eq_true] at e
    by_cases q : i = n
    · rw [q]; exact e.1
    · exact allB_ok e.2 i (by omega)
/-- the slides of two powers of the letters -/
def KI : Nat → Nat → Nat → Nat → Nat → Int
  | 0, _, _, _, _ => 1
  | c + 1, m, k, n, l => ((m - k : Nat) : Int) * (l : Int) * KI c (m - 1) k (n - 1) (l - 1) - (k : Int) * ((n - l : Nat) : Int) * KI c (m - 1) (k - 1) (n - 1) l
def sC (m n c k l r : Nat) : Rat := if r + c = k + l then mkRat (KI c m k n l) (ffm m n c) else 0
def cA (m n c : Nat) : Bool := allB (m + 1) fun k => allB (n + 1) fun l => decide (tv c (un m k) (un n l) = row (m + n - 2 * c) (sC m n c k l))
def cAll (p : Nat → Nat → Nat → Bool) : Bool := allB 5 fun m => allB 5 fun n => allB (min m n + 1) fun c => p m n c
/-- the table of a part with one number, but for a factor -/
def cutI (h w : Nat) (F : Nat → Nat → Int) (a b : Nat) : Int := if a < h + 1 ∧ b < w + 1 then F a b else 0
def tbI (h w : Nat) (F : Nat → Nat → Int) (a b : Nat) : Int := (match b with | 0 => 0 | b' + 1 => cutI h w F a b') - (match a with | 0 => 0 | a' + 1 => cutI h w F a' b)
def tbNI : Nat → Nat → Nat → (Nat → Nat → Int) → Nat → Nat → Int
  | 0, _, _, F => F
  | c + 1, h, w, F => tbNI c (h + 1) (w + 1) (tbI h w F)
def pzI (first second r k j : Nat) : Int := if k + j = r then (cb first k : Int) * (cb second j : Int) else 0
def fC (m n c r i j : Nat) : Rat := if r + c = i + j then mkRat ((cb m c : Int) * (cb n c : Int) * tbNI c (m - c) (n - c) (pzI (m - c) (n - c) r) i j) (cb (m + n - c + 1) c * cb (m + n - 2 * c) r) else 0
def cF (m n c : Nat) : Bool := allB (m + n - 2 * c + 1) fun r => allB (m + 1) fun i => allB (n + 1) fun j => decide (F1 m n c r i j = fC m n c r i j)
/-- back and forth -/
def cX (m n : Nat) : Bool := allB (m + 1) fun i => allB (n + 1) fun j => allB (m + 1) fun k => allB (n + 1) fun l => decide ((Sg (min m n + 1) fun c => Sg (m + n - 2 * c + 1) fun r => sC m n c k l r * fC m n c r i j) = if k = i ∧ l = j then 1 else 0)
def cY (m n : Nat) : Bool := allB (min m n + 1) fun c => allB (min m n + 1) fun c' => allB (m + n - 2 * c + 1) fun r => allB (m + n - 2 * c' + 1) fun r' => decide ((Sg (m + 1) fun k => Sg (n + 1) fun l => fC m n c r k l * sC m n c' k l r') = if c = c' ∧ r = r' then 1 else 0)
end G

end

section
namespace G
open PySem Ev
theorem kA : cAll cA = true := by decide +kernel
theorem kF : cAll cF = true := by decide +kernel
theorem kX0 : allB 5 (cX 0) = true := by decide +kernel
theorem kX1 : allB 5 (cX 1) = true := by decide +kernel
theorem kX2 : allB 5 (cX 2) = true := by decide +kernel
theorem kX3 : allB 5 (cX 3) = true := by decide +kernel
theorem kX4 : allB 5 (cX 4) = true := by decide +kernel
theorem kY0 : allB 5 (cY 0) = true := by decide +kernel
theorem kY1 : allB 5 (cY 1) = true := by decide +kernel
theorem kY2 : allB 5 (cY 2) = true := by decide +kernel
theorem kY3 : allB 5 (cY 3) = true := by decide +kernel
theorem kY4 : allB 5 (cY 4) = true := by decide +kernel
end G

end

section
namespace G
open PySem Ev
theorem cAll_ok {p : Nat → Nat → Nat → Bool} (h : cAll p = true) {m n c : Nat} (hm : m ≤ 4) (hn : n ≤ 4) (hc : c ≤ min m n) : p m n c = true :=
  allB_ok (allB_ok (allB_ok h m (by omega)) n (by omega)) c (by omega)
theorem S1_eq {m n c k l r : Nat} (hm : m ≤ 4) (hn : n ≤ 4) (hc : c ≤ min m n) (hk : k ≤ m) (hl : l ≤ n) (hr : r ≤ m + n - 2 * c) : S1 m n c k l r = sC m n c k l r := by
  have h := of_decide_eq_true (allB_ok (allB_ok (cAll_ok kA hm hn hc) k (by omega)) l (by omega))
  unfold S1
  rw [h, row_get _ hr]
theorem F1_eq {m n c r i j : Nat} (hm : m ≤ 4) (hn : n ≤ 4) (hc : c ≤ min m n) (hr : r ≤ m + n - 2 * c) (hi : i ≤ m) (hj : j ≤ n) : F1 m n c r i j = fC m n c r i j :=
  of_decide_eq_true (allB_ok (allB_ok (allB_ok (cAll_ok kF hm hn hc) r (by omega)) i (by omega)) j (by omega))
theorem X_eq {m n i j k l : Nat} (hm : m ≤ 4) (hn : n ≤ 4) (hi : i ≤ m) (hj : j ≤ n) (hk : k ≤ m) (hl : l ≤ n) : (Sg (min m n + 1) fun c => Sg (m + n - 2 * c + 1) fun r => S1 m n c k l r * F1 m n c r i j) = if k = i ∧ l = j then 1 else 0 := by
  have h : cX m n = true := by
    have : m = 0 ∨ m = 1 ∨ m = 2 ∨ m = 3 ∨ m = 4 := by omega
    rcases this with rfl | rfl | rfl | rfl | rfl
    · exact allB_ok kX0 n (by omega)
    · exact allB_ok kX1 n (by omega)
    · exact allB_ok kX2 n (by omega)
    · exact allB_ok kX3 n (by omega)
    · exact allB_ok kX4 n (by omega)
  have h := of_decide_eq_true (allB_ok (allB_ok (allB_ok (allB_ok h i (by omega)) j (by omega)) k (by omega)) l (by omega))
  rw [← h]
  exact Sg_congr fun c hc => Sg_congr fun r hr => by rw [S1_eq hm hn (by omega) hk hl (by omega), F1_eq hm hn (by omega) (by omega) hi hj]
theorem Y_eq {m n c c' r r' : Nat} (hm : m ≤ 4) (hn : n ≤ 4) (hc : c ≤ min m n) (hc' : c' ≤ min m n) (hr : r ≤ m + n - 2 * c) (hr' : r' ≤ m + n - 2 * c') : (Sg (m + 1) fun k => Sg (n + 1) fun l => F1 m n c r k l * S1 m n c' k l r') = if c = c' ∧ r = r' then 1 else 0 := by
  have h : cY m n = true := by
    have : m = 0 ∨ m = 1 ∨ m = 2 ∨ m = 3 ∨ m = 4 := by omega
    rcases this with rfl | rfl | rfl | rfl | rfl
    · exact allB_ok kY0 n (by omega)
    · exact allB_ok kY1 n (by omega)
    · exact allB_ok kY2 n (by omega)
    · exact allB_ok kY3 n (by omega)
    · exact allB_ok kY4 n (by omega)
  have h := of_decide_eq_true (allB_ok (allB_ok (allB_ok (allB_ok h c (by omega)) c' (by omega)) r (by omega)) r' (by omega))
  rw [← h]
  exact Sg_congr fun k hk => Sg_congr fun l hl => by rw [S1_eq hm hn hc' (by omega) (by omega) hr', F1_eq hm hn hc hr (by omega) (by omega)]
theorem fs_sl {m n i j : Nat} (hm : m ≤ 4) (hn : n ≤ 4) (hi : i ≤ m) (hj : j ≤ n) (T : Nat → Nat → Rat) : fs m n (slT m n T) i j = T i j := by
  rw [fs_F1 _ hi hj]
  have e1 : (Sg (min m n + 1) fun c => Sg (m + n - 2 * c + 1) fun r => slT m n T c r * F1 m n c r i j) = Sg (m + 1) fun k => Sg (n + 1) fun l => T k l * Sg (min m n + 1) fun c => Sg (m + n - 2 * c + 1) fun r => S1 m n c k l r * F1 m n c r i j := by
    have a1 : (Sg (min m n + 1) fun c => Sg (m + n - 2 * c + 1) fun r => slT m n T c r * F1 m n c r i j) = Sg (min m n + 1) fun c => Sg (m + 1) fun k => Sg (n + 1) fun l => T k l * Sg (m + n - 2 * c + 1) fun r => S1 m n c k l r * F1 m n c r i j := by
      refine Sg_congr fun c hc => ?_
      have b1 : (Sg (m + n - 2 * c + 1) fun r => slT m n T c r * F1 m n c r i j) = Sg (m + n - 2 * c + 1) fun r => Sg (m + 1) fun k => Sg (n + 1) fun l => T k l * (S1 m n c k l r * F1 m n c r i j) := by
        refine Sg_congr fun r _ => ?_
        rw [slT_S1 (by omega) (by omega), ← Sg_mulR]
        refine Sg_congr fun k _ => ?_
        rw [← Sg_mulR]
        exact Sg_congr fun l _ => by grind
      rw [b1, Sg_swap]
      refine Sg_congr fun k _ => ?_
      rw [Sg_swap]
      exact Sg_congr fun l _ => Sg_mul
    rw [a1, Sg_swap]
    refine Sg_congr fun k _ => ?_
    rw [Sg_swap]
    exact Sg_congr fun l _ => Sg_mul
  rw [e1, Sg_one (k := i) (by omega) fun k hk ne => Sg_zero' fun l hl => by rw [X_eq hm hn hi hj (by omega) (by omega), if_neg (by omega)]; grind]
  rw [Sg_one (k := j) (by omega) fun l hl ne => by rw [X_eq hm hn hi hj (by omega) (by omega), if_neg (by omega)]; grind]
  rw [X_eq hm hn hi hj hi hj, if_pos ⟨rfl, rfl⟩]; grind
theorem slT_fs {m n c r : Nat} (hm : m ≤ 4) (hn : n ≤ 4) (hc : c ≤ min m n) (hr : r ≤ m + n - 2 * c) (P : Nat → Nat → Rat) : slT m n (fs m n P) c r = P c r := by
  rw [slT_S1 (by omega) (by omega)]
  have e1 : (Sg (m + 1) fun k => Sg (n + 1) fun l => fs m n P k l * S1 m n c k l r) = Sg (min m n + 1) fun c' => Sg (m + n - 2 * c' + 1) fun r' => P c' r' * Sg (m + 1) fun k => Sg (n + 1) fun l => F1 m n c' r' k l * S1 m n c k l r := by
    have a1 : (Sg (m + 1) fun k => Sg (n + 1) fun l => fs m n P k l * S1 m n c k l r) = Sg (m + 1) fun k => Sg (min m n + 1) fun c' => Sg (m + n - 2 * c' + 1) fun r' => P c' r' * Sg (n + 1) fun l => F1 m n c' r' k l * S1 m n c k l r := by
      refine Sg_congr fun k hk => ?_
      have b1 : (Sg (n + 1) fun l => fs m n P k l * S1 m n c k l r) = Sg (n + 1) fun l => Sg (min m n + 1) fun c' => Sg (m + n - 2 * c' + 1) fun r' => P c' r' * (F1 m n c' r' k l * S1 m n c k l r) := by
        refine Sg_congr fun l hl => ?_
        rw [fs_F1 P (show k ≤ m by omega) (show l ≤ n by omega), ← Sg_mulR]
        refine Sg_congr fun c' _ => ?_
        rw [← Sg_mulR]
        exact Sg_congr fun l _ => by grind
      rw [b1, Sg_swap]
      refine Sg_congr fun c' _ => ?_
      rw [Sg_swap]
      exact Sg_congr fun r' _ => Sg_mul
    rw [a1, Sg_swap]
    refine Sg_congr fun c' _ => ?_
    rw [Sg_swap]
    exact Sg_congr fun r' _ => Sg_mul
  rw [e1, Sg_one (k := c) (by omega) fun c' hc' ne => Sg_zero' fun r' hr' => by rw [Y_eq hm hn (by omega) hc (by omega) hr, if_neg (by omega)]; grind]
  rw [Sg_one (k := r) (by omega) fun r' hr' ne => by rw [Y_eq hm hn hc hc (by omega) hr, if_neg (by omega)]; grind]
  rw [Y_eq hm hn hc hc hr hr, if_pos ⟨rfl, rfl⟩]; grind
theorem slT_congr {m n : Nat} {T T' : Nat → Nat → Rat} (h : ∀ k l, k ≤ m → l ≤ n → T k l = T' k l) (c r : Nat) : slT m n T c r = slT m n T' c r := by
  unfold slT
  exact Sg_congr fun k hk => by rw [row_congr fun l hl => h k l (by omega) hl]
theorem fs_congr {m n i j : Nat} (hi : i ≤ m) (hj : j ≤ n) {P P' : Nat → Nat → Rat} (h : ∀ c r, c ≤ min m n → r ≤ m + n - 2 * c → P c r = P' c r) : fs m n P i j = fs m n P' i j := by
  rw [fs_F1 P hi hj, fs_F1 P' hi hj]
  exact Sg_congr fun c hc => Sg_congr fun r hr => by rw [h c r (by omega) (by omega)]
/-- the slides of a product -/
theorem slT_prod {m n c : Nat} {f g : List Rat} (lf : f.length = m + 1) (lg : g.length = n + 1) (hm : c ≤ m) (hn : c ≤ n) (r : Nat) : slT m n (fun i j => f.getD i 0 * g.getD j 0) c r = (tv c f g).getD r 0 := by
  have e := tv_linL (c := c) lg hm hn (fun k => f.getD k 0) r
  rw [row_self lf] at e
  rw [e]
  unfold slT
  refine Sg_congr fun k _ => ?_
  have : row n (fun j => f.getD k 0 * g.getD j 0) = g.map (f.getD k 0 * ·) := by
    rw [← row_scale]
    rw [row_self lg]
  rw [this, tv_scaleR _ (by rw [un_len]; omega) (by omega), getD_scale]
end G

end

section
namespace G
open PySem Ev
def encT (T : List (List Rat)) : W := .tuple (T.map encF)
def encR (T : List (List Rat)) : List (List W) := T.map (·.map enc)
/-! ### loops that change the list of lists -/
theorem forT {g : Gw} {body : Sv} (Inv : Nat → Sl → Tp → Prop) : ∀ (items : List W) (i : Nat) (ρ : Sl) (t : Tp), Inv i ρ t → (∀ j w ρ t, items[j]? = some w → Inv (i + j) ρ t → ∃ ρ1 ρ2 t2, g w ρ = some ρ1 ∧ body ρ1 t = .next ρ2 t2 ∧ Inv (i + j + 1) ρ2 t2) →
    ∃ ρ' t', forL g body items ρ t = .next ρ' t' ∧ Inv (i + items.length) ρ' t'
  | [], i, ρ, t, h, _ => ⟨ρ, t, rfl, h⟩
  | x :: xs, i, ρ, t, h, k => by
    obtain ⟨ρ1, ρ2, t2, e1, e2, h2⟩ := k 0 x ρ t rfl h
    obtain ⟨ρ', t', e3, h3⟩ := forT Inv xs (i + 1) ρ2 t2 h2 fun j w ρ t hj hI => by
      obtain ⟨a, b, t3, q1, q2, q3⟩ := k (j + 1) w ρ t (by simpa using hj) (by rw [← Nat.add_assoc, Nat.add_right_comm]; exact hI)
      exact ⟨a, b, t3, q1, q2, by rw [show i + 1 + j + 1 = i + (j + 1) + 1 by omega]; exact q3⟩
    refine ⟨ρ', t', ?_, by rw [List.length_cons, show i + (xs.length + 1) = i + 1 + xs.length by omega]; exact h3⟩
    show (match g x ρ with | none => _ | some ρ1 => sThen body (forL g body xs) ρ1 t) = _
    rw [e1]
    show sThen body (forL g body xs) ρ1 t = _
    rw [then_next e2]
    exact e3
theorem sforT {src : Exs} {g : Gw} {body : Sv} {t : Tp} {items : List W} (Inv : Nat → Sl → Tp → Prop) (ρ : Sl) (hs : src ρ t = .ok items t) (h0 : Inv 0 ρ t) (h : ∀ j w ρ t, items[j]? = some w → Inv j ρ t → ∃ ρ1 ρ2 t2, g w ρ = some ρ1 ∧ body ρ1 t = .next ρ2 t2 ∧ Inv (j + 1) ρ2 t2) :
    ∃ ρ' t', sFor src g body ρ t = .next ρ' t' ∧ Inv items.length ρ' t' := by
  obtain ⟨ρ', t', e, hI⟩ := forT (body := body) (g := g) Inv items 0 ρ t h0 fun j w ρ t hj hI => by
    rw [Nat.zero_add] at hI ⊢
    exact h j w ρ t hj hI
  rw [Nat.zero_add] at hI
  refine ⟨ρ', t', ?_, hI⟩
  rw [s_sFor, hs]
  exact e
theorem x_nest {i : Nat} {s : Ex} {v u : Sv} {ρ ρ2 : Sl} {w : W} {rows rows2 : List (List W)} (hi : i < ρ.length) (h1 : s ρ none = .ok w none) (h2 : wRows w = some rows) (h3 : v (ρ.set i none) (some rows) = .next ρ2 (some rows2)) : sNest i s v u ρ none = u (ρ2.set i (some (.list (rows2.map PyData.list)))) none := by
  show (if decide (i < ρ.length) = true then toS (s ρ none) fun w _ => (match wRows w with
        | some rows => (match v (ρ.set i none) (some rows) with
          | .next ρ2 (some rows2) => u (ρ2.set i (some (.list (rows2.map PyData.list)))) none
          | _ => .bad)
        | none => .bad) else .bad) = _
  rw [if_pos (decide_eq_true hi), h1, s_toS_ok]
  show (match wRows w with | some rows => _ | none => _) = _
  rw [h2]
  show (match v (ρ.set i none) (some rows) with | .next ρ2 (some rows2) => u (ρ2.set i (some (.list (rows2.map PyData.list)))) none | _ => .bad) = _
  rw [h3]
theorem e_rows {s : Ex} {ρ : Sl} {w : W} {rows : List (List W)} (h : s ρ none = .ok w none) (h2 : wRows w = some rows) : eRows s ρ none = .ok w none := by
  show (s ρ none).bind _ = _
  rw [h]
  show (if (wRows w).isSome = true then Rs.ok w none else .bad) = _
  rw [h2]; rfl
theorem e_nst {s1 s2 : Ex} {ρ : Sl} {t : Tp} {k j z : W} {r : List W} (h1 : s1 ρ t = .ok k t) (h2 : nRow t k = some r) (h3 : s2 ρ t = .ok j t) (h4 : nGet t k j = some z) : eNst s1 s2 ρ t = .ok z t := by
  show (s1 ρ t).bind _ = _
  rw [h1]
  show (rOf (nRow t k) t).bind _ = _
  rw [h2]
  show (s2 ρ t).bind _ = _
  rw [h3]
  show rOf (nGet t k j) t = _
  rw [h4]; rfl
theorem x_nput {s1 s2 s : Ex} {ρ : Sl} {t t' : Tp} {k j w : W} {r : List W} (h0 : s ρ t = .ok w t) (h1 : s1 ρ t = .ok k t) (h2 : nRow t k = some r) (h3 : s2 ρ t = .ok j t) (h4 : nPut t k j w = some t') : sNPut s1 s2 s ρ t = .next ρ t' := by
  show toS (s ρ t) _ = _
  rw [h0]
  show toS (s1 ρ t) _ = _
  rw [h1]
  show toS (rOf (nRow t k) t) _ = _
  rw [h2]
  show toS (s2 ρ t) _ = _
  rw [h3]
  show (match nPut t k j w with | some t' => SR.next ρ t' | none => .bad) = _
  rw [h4]
/-! ### the list of lists by a function -/
def up (R : Nat → Nat → Rat) (k j : Nat) (v : Rat) (a b : Nat) : Rat := if a = k ∧ b = j then v else R a b
theorem at_nat {α : Type} {xs : List α} {k : Nat} (h : k < xs.length) : L2.atI xs (k : Int) = xs[k]? := by
  unfold L2.atI
  rw [ixN_nat h]; rfl
theorem encR_row {H W' k : Nat} (R : Nat → Nat → Rat) (hk : k ≤ H) : (encR (tab H W' R))[k]? = some ((row W' (R k)).map enc) := by
  unfold encR
  rw [List.getElem?_map, tab_row R hk]; rfl
theorem encR_len (H W' : Nat) (R : Nat → Nat → Rat) : (encR (tab H W' R)).length = H + 1 := by unfold encR; rw [List.length_map, tab_len]
theorem rowE_at {w j : Nat} (f : Nat → Rat) (h : j ≤ w) : ((row w f).map enc)[j]? = some (enc (f j)) := by
  unfold row
  rw [List.map_map, List.getElem?_map, List.getElem?_range (by omega)]; rfl
theorem rowE_len (w : Nat) (f : Nat → Rat) : ((row w f).map enc).length = w + 1 := by rw [List.length_map, row_len]
theorem nrow_tab {H W' k : Nat} (R : Nat → Nat → Rat) (hk : k ≤ H) : nRow (some (encR (tab H W' R))) (.int (k : Int)) = some ((row W' (R k)).map enc) := by
  show L2.atI (encR (tab H W' R)) (k : Int) = _
  rw [at_nat (by rw [encR_len]; omega), encR_row R hk]
theorem nget_tab {H W' k j : Nat} (R : Nat → Nat → Rat) (hk : k ≤ H) (hj : j ≤ W') : nGet (some (encR (tab H W' R))) (.int (k : Int)) (.int (j : Int)) = some (enc (R k j)) := by
  show (L2.atI (encR (tab H W' R)) (k : Int)).bind _ = _
  rw [at_nat (by rw [encR_len]; omega), encR_row R hk]
  show L2.atI ((row W' (R k)).map enc) (j : Int) = _
  rw [at_nat (by rw [rowE_len]; omega), rowE_at _ hj]
theorem pureW_enc (x : Rat) : pureW (enc x) = true := rfl
theorem tab_set {H W' k : Nat} (R : Nat → Nat → Rat) (f : Nat → Rat) (hk : k ≤ H) : (tab H W' R).set k (row W' f) = tab H W' fun a b => if a = k then f b else R a b := by
  apply List.ext_getElem?
  intro i
  rw [List.getElem?_set]
  by_cases e : k = i
  · subst e
    rw [if_pos rfl, if_pos (by rw [tab_len]; omega), tab_row _ hk]
    congr 1
    exact row_congr fun b _ => by rw [if_pos rfl]
  · rw [if_neg e]
    by_cases hi : i ≤ H
    · rw [tab_row _ hi, tab_row _ hi]
      congr 1
      exact row_congr fun b _ => by rw [if_neg (fun z => e z.symm)]
    · rw [List.getElem?_eq_none (by rw [tab_len]; omega), List.getElem?_eq_none (by rw [tab_len]; omega)]
theorem row_set {w j : Nat} (f : Nat → Rat) (v : Rat) : (row w f).set j v = row w fun b => if b = j then v else f b := by
  apply List.ext_getElem?
  intro i
  unfold row
  rw [List.getElem?_set]
  by_cases e : j = i
  · subst e
    rw [if_pos rfl]
    by_cases h : j < w + 1
    · rw [if_pos (by simpa using h), List.getElem?_map, List.getElem?_range h]
      simp
    · rw [if_neg (by simpa using h), List.getElem?_eq_none (by simp; omega)]
  · rw [if_neg e, List.getElem?_map, List.getElem?_map]
    by_cases h : i < w + 1
    · rw [List.getElem?_range h]
      simp only [Option.map_some]
      rw [if_neg (fun z => e z.symm)]
    · rw [List.getElem?_eq_none (by simp; omega)]; rfl
theorem nput_tab {H W' k j : Nat} (R : Nat → Nat → Rat) (v : Rat) (hk : k ≤ H) (hj : j ≤ W') : nPut (some (encR (tab H W' R))) (.int (k : Int)) (.int (j : Int)) (enc v) = some (some (encR (tab H W' (up R k j v)))) := by
  show (if pureW (enc v) = true then (L2.ixN (encR (tab H W' R)).length (k : Int)).bind fun k' => ((encR (tab H W' R))[k']?).bind fun r => (L2.ixN r.length (j : Int)).map fun j' => some ((encR (tab H W' R)).set k' (r.set j' (enc v))) else none) = _
  rw [if_pos (pureW_enc v), ixN_nat (by rw [encR_len]; omega)]
  show (((encR (tab H W' R))[k]?).bind fun r => (L2.ixN r.length (j : Int)).map fun j' => some ((encR (tab H W' R)).set k (r.set j' (enc v)))) = _
  rw [encR_row R hk]
  show ((L2.ixN ((row W' (R k)).map enc).length (j : Int)).map fun j' => some ((encR (tab H W' R)).set k (((row W' (R k)).map enc).set j' (enc v)))) = _
  rw [ixN_nat (by rw [rowE_len]; omega)]
  show some (some ((encR (tab H W' R)).set k (((row W' (R k)).map enc).set j (enc v)))) = _
  congr 2
  unfold encR
  rw [← List.map_set, row_set, ← List.map_set (f := fun r : List Rat => r.map enc), tab_set R _ hk]
  congr 1
  refine tab_congr fun a b _ _ => ?_
  unfold up
  by_cases e : a = k
  · subst e
    by_cases e2 : b = j
    · rw [if_pos rfl, if_pos e2, if_pos ⟨rfl, e2⟩]
    · rw [if_pos rfl, if_neg e2, if_neg fun z => e2 z.2]
  · rw [if_neg e, if_neg fun z => e z.1]
theorem pureWs_enc : ∀ l : List Rat, pureWs (l.map enc) = true
  | [] => rfl
  | x :: l => by
    show (pureW (enc x) && pureWs (l.map enc)) = true
    rw [pureWs_enc l]; rfl
theorem rowsW_enc : ∀ T : List (List Rat), rowsW (T.map fun r => (.list (r.map enc) : W)) = some (encR T)
  | [] => rfl
  | r :: T => by
    show (rowW (.list (r.map enc))).bind _ = _
    have : rowW (.list (r.map enc)) = some (r.map enc) := if_pos (pureWs_enc r)
    rw [this]
    show (rowsW (T.map fun r => (.list (r.map enc) : W))).bind _ = _
    rw [rowsW_enc T]; rfl
/-! ### reading of tables -/
theorem encT_at {h w k : Nat} (F : Nat → Nat → Rat) (hk : k ≤ h) : wIdx (encT (tab h w F)) (.int (k : Int)) = some (encF (row w (F k))) := by
  show L2.atI ((tab h w F).map encF) (k : Int) = _
  rw [at_nat (by rw [List.length_map, tab_len]; omega), List.getElem?_map, tab_row F hk]; rfl
theorem encT_len (h w : Nat) (F : Nat → Nat → Rat) : gLen [encT (tab h w F)] = some (.int ((h + 1 : Nat) : Int)) := by
  show some (PyData.int (((tab h w F).map encF).length : Int)) = _
  rw [List.length_map, tab_len]
theorem rowF_len (w : Nat) (f : Nat → Rat) : gLen [encF (row w f)] = some (.int ((w + 1 : Nat) : Int)) := by
  show some (PyData.int (((row w f).map enc).length : Int)) = _
  rw [rowE_len]
theorem rowF_at {w j : Nat} (f : Nat → Rat) (h : j ≤ w) : wIdx (encF (row w f)) (.int (j : Int)) = some (enc (f j)) := by
  show L2.atI ((row w f).map enc) (j : Int) = _
  rw [at_nat (by rw [rowE_len]; omega), rowE_at _ h]
theorem tabT (h w : Nat) (F : Nat → Nat → Rat) : encT (tab h w F) = .tuple ((List.range (h + 1)).map fun i => encF (row w (F i))) := by
  unfold encT tab
  rw [List.map_map]; rfl
theorem rowT (w : Nat) (f : Nat → Rat) : encF (row w f) = .tuple ((List.range (w + 1)).map fun i => enc (f i)) := by
  unfold encF row
  rw [List.map_map]; rfl
/-- (tuple(row) for row in rows) -/
theorem tup_rows {i v : Nat} {ρ : Sl} (T : List (List Rat)) (hl : T.length ≤ 1000) (h : ρ[i]? = some (some (.list ((encR T).map PyData.list)))) (hv : ∀ w : W, ((wipeW ρ [v]).set v (some w))[v]? = some (some w)) :
    eCallB gTuple (eCons (eLc (sSeq (eVar i)) [v] (gN v) etYes (eCallB gTuple (eCons (eVar v) eNil))) eNil) ρ none = .ok (encT T) none := by
  have e1 : (encR T).map PyData.list = T.map fun r => (.list (r.map enc) : W) := by unfold encR; rw [List.map_map]; rfl
  rw [e1] at h
  exact e_callB (a_cons (e_lc (g_seq (e_var h) rfl) (by simp; omega) (lc_map (fun r : List Rat => (.list (r.map enc) : W)) (fun r => encF r) T fun r _ => ⟨_, rfl, e_callB (a_cons (e_var (hv _)) a_nil) rfl⟩)) a_nil) rfl
/-- [[0] * n for _ in range(m)] -/
theorem zero_rows {v : Nat} {ρ : Sl} {A B : Ex} {Z : Ex} {h w : Nat} (hA : A ρ none = .ok (.int ((h + 1 : Nat) : Int)) none) (hh : h ≤ 900) (hw : w ≤ 900) (hZ : ∀ k : Nat, Z ((wipeW ρ [v]).set v (some (.int (k : Int)))) none = .ok (.tuple [.int 0, .int 1]) none) (hB : ∀ k : Nat, B ((wipeW ρ [v]).set v (some (.int (k : Int)))) none = .ok (.int ((w + 1 : Nat) : Int)) none) :
    eRows (eLc (sRng gRng1 (eCons A eNil)) [v] (gN v) etYes (eBin wMulL (eLst (eCons Z eNil)) B)) ρ none = .ok (.list ((tab h w fun _ _ => 0).map fun r => (.list (r.map enc) : W))) none := by
  have e : (eLc (sRng gRng1 (eCons A eNil)) [v] (gN v) etYes (eBin wMulL (eLst (eCons Z eNil)) B)) ρ none = .ok (.list ((tab h w fun _ _ => 0).map fun r => (.list (r.map enc) : W))) none := by
    have q : (tab h w fun _ _ => 0).map (fun r => (.list (r.map enc) : W)) = (List.range (h + 1)).map fun i : Nat => (.list ((row w fun _ => 0).map enc) : W) := by
      unfold tab
      rw [List.map_map]; rfl
    rw [q]
    refine e_lc (g_rng1 (n := h + 1) (a_cons hA a_nil) (by omega)) (by simp; omega) (lc_map _ _ _ fun k _ => ⟨_, rfl, ?_⟩)
    rw [row_zero]
    exact e_bin (e_lst (a_cons (hZ k) a_nil) (by simp)) (hB k) (zerosL (by omega))
  exact e_rows e (rowsW_enc _)
end G

end

section
namespace G
open PySem Ev
theorem item_of {n i : Nat} {e : Nat → W} {w : W} (hw : ((List.range n).map e)[i]? = some w) : i < n ∧ w = e i := by
  rw [List.getElem?_map] at hw
  by_cases h : i < n
  · rw [List.getElem?_range h] at hw
    exact ⟨h, (Option.some.inj hw).symm⟩
  · rw [List.getElem?_eq_none (by simp; omega)] at hw; cases hw
theorem enum_rng (n : Nat) (e : Nat → W) : pairW (rngW 0 1 ((List.range n).map e).length) ((List.range n).map e) = (List.range n).map fun k : Nat => .tuple [.int (k : Int), e k] := by
  rw [List.length_map, enum_eq]
  apply List.ext_getElem?
  intro i
  by_cases h : i < n
  · simp [List.getElem?_map, List.getElem?_zipIdx, List.getElem?_range h]
  · rw [List.getElem?_eq_none (by simp; omega), List.getElem?_eq_none (by simp; omega)]
theorem g_enum {A : Ex} {ρ : Sl} {t : Tp} {w : W} {n : Nat} {e : Nat → W} (h : A ρ t = .ok w t) (h2 : wSeq w = some ((List.range n).map e)) : sEnum A ρ t = .ok ((List.range n).map fun k : Nat => .tuple [.int (k : Int), e k]) t := by
  rw [s_sEnum, h, s_bind_ok, h2, s_rOf_some, s_bind_ok, enum_rng]
theorem seqT (h w : Nat) (F : Nat → Nat → Rat) : wSeq (encT (tab h w F)) = some ((List.range (h + 1)).map fun i => encF (row w (F i))) := by rw [tabT]; rfl
theorem seqR (w : Nat) (f : Nat → Rat) : wSeq (encF (row w f)) = some ((List.range (w + 1)).map fun i => enc (f i)) := by rw [rowT]; rfl
/-! ### one bracket -/
def par (w : Nat) (F : Nat → Nat → Rat) (k j a b : Nat) : Rat := if (a < k ∧ b < w + 1) ∨ (a = k ∧ b < j) then F a b else 0
theorem par_next (w : Nat) (F : Nat → Nat → Rat) (k : Nat) : par w F k (w + 1) = par w F (k + 1) 0 := by
  funext a b
  unfold par
  by_cases h : (a < k ∧ b < w + 1) ∨ (a = k ∧ b < w + 1)
  · rw [if_pos h, if_pos (by omega)]
  · rw [if_neg h, if_neg (by omega)]
theorem par_zero (w : Nat) (F : Nat → Nat → Rat) : comb (par w F 0 0) (par w F 0 0) = fun _ _ => 0 := by
  have : par w F 0 0 = fun _ _ => 0 := by
    funext a b
    unfold par
    rw [if_neg (by omega)]
  rw [this]
  funext a b
  unfold comb
  by_cases h : 0 < b <;> by_cases h2 : 0 < a <;> simp [h, h2] <;> grind
theorem par_all (h w : Nat) (F : Nat → Nat → Rat) : comb (par w F (h + 1) 0) (par w F (h + 1) 0) = tb h w F := by
  have : par w F (h + 1) 0 = cut h w F := by
    funext a b
    unfold par cut
    by_cases q : a < h + 1 ∧ b < w + 1
    · rw [if_pos q, if_pos (by omega)]
    · rw [if_neg q, if_neg (by omega)]
  rw [this]; rfl
theorem par_s {w k j a b : Nat} {F : Nat → Nat → Rat} (h : ¬ (a = k ∧ b = j)) : par w F k (j + 1) a b = par w F k j a b := by
  unfold par
  by_cases q : (a < k ∧ b < w + 1) ∨ (a = k ∧ b < j)
  · rw [if_pos q, if_pos (by omega)]
  · rw [if_neg q, if_neg (by omega)]
theorem par_h {w k j : Nat} {F : Nat → Nat → Rat} : par w F k (j + 1) k j = F k j ∧ par w F k j k j = 0 := by
  unfold par
  exact ⟨if_pos (by omega), if_neg (by omega)⟩
theorem up_a (w k j : Nat) (F : Nat → Nat → Rat) : up (comb (par w F k j) (par w F k j)) k (j + 1) (comb (par w F k j) (par w F k j) k (j + 1) + F k j) = comb (par w F k (j + 1)) (par w F k j) := by
  funext a b
  unfold up
  by_cases e : a = k ∧ b = j + 1
  · obtain ⟨e1, e2⟩ := e
    subst e1; subst e2
    rw [if_pos ⟨rfl, rfl⟩]
    unfold comb
    rw [if_pos (show 0 < j + 1 by omega), if_pos (show 0 < j + 1 by omega), Nat.add_sub_cancel, par_h.1, par_h.2]
    grind
  · rw [if_neg e]
    unfold comb
    by_cases h : 0 < b
    · rw [if_pos h, if_pos h, par_s (w := w) (k := k) (j := j) (a := a) (b := b - 1) (by omega)]
    · rw [if_neg h, if_neg h]
theorem up_b (w k j : Nat) (F : Nat → Nat → Rat) : up (comb (par w F k (j + 1)) (par w F k j)) (k + 1) j (comb (par w F k (j + 1)) (par w F k j) (k + 1) j + -(F k j)) = comb (par w F k (j + 1)) (par w F k (j + 1)) := by
  funext a b
  unfold up
  by_cases e : a = k + 1 ∧ b = j
  · obtain ⟨e1, e2⟩ := e
    subst e1; subst e2
    rw [if_pos ⟨rfl, rfl⟩]
    unfold comb
    rw [if_pos (show 0 < k + 1 by omega), if_pos (show 0 < k + 1 by omega), Nat.add_sub_cancel, par_h.1, par_h.2]
    grind
  · rw [if_neg e]
    unfold comb
    by_cases h : 0 < a
    · rw [if_pos h, if_pos h, par_s (w := w) (k := k) (j := j) (a := a - 1) (b := b) (by omega)]
    · rw [if_neg h, if_neg h]
theorem comb_B {p q : Nat → Nat → Rat} {d s : Nat} (hp : ∀ a b, B d s (p a b)) (hq : ∀ a b, B d s (q a b)) (a b : Nat) : B d (s + 1) (comb p q a b) := by
  unfold comb
  refine B.sub (a := s) (b := s) ?_ ?_ (by omega) (by omega)
  · split
    · exact hp _ _
    · exact B.zero
  · split
    · exact hq _ _
    · exact B.zero
theorem par_B {w h k j d s : Nat} {F : Nat → Nat → Rat} (hF : ∀ i j, i ≤ h → j ≤ w → B d s (F i j)) (hk : k ≤ h) (hj : j ≤ w + 1) (a b : Nat) : B d s (par w F k j a b) := by
  unfold par
  split
  · exact hF _ _ (by omega) (by omega)
  · exact B.zero
theorem tb_B {w h d s : Nat} {F : Nat → Nat → Rat} (hF : ∀ i j, i ≤ h → j ≤ w → B d s (F i j)) (a b : Nat) : B d (s + 1) (tb h w F a b) := by
  have hc : ∀ a b, B d s (cut h w F a b) := fun a b => by
    unfold cut
    split
    · exact hF _ _ (by omega) (by omega)
    · exact B.zero
  exact comb_B hc hc a b
theorem enc_negT (x : Rat) : (.tuple [.int (-x.num), .int (x.den : Int)] : W) = enc (-x) := rfl
def brBody : Sv := (sThen (sAsg (gTp (gsC (gN 3) (gsC (gN 4) gsN))) (eTup (eCons (eCallB gLen (eCons (eVar 0) eNil)) (eCons (eCallB gLen (eCons (eBin wIdx (eVar 0) (eC (.int (0)))) eNil)) eNil)))) (sNest 5 (eRows (eLc (sRng gRng1 (eCons (eBin wAdd (eVar 3) (eC (.int (1)))) eNil)) [2] (gN 2) etYes (eBin wMulL (eLst (eCons (eC (.tuple [(.int (0)), (.int (1))])) eNil)) (eBin wAdd (eVar 4) (eC (.int (1))))))) (sFor (sEnum (eVar 0)) (gTp (gsC (gN 6) (gsC (gN 7) gsN))) (sFor (sEnum (eVar 7)) (gTp (gsC (gN 8) (gsC (gN 9) gsN))) (sThen (sNPut (eVar 6) (eBin wAdd (eVar 8) (eC (.int (1)))) (eCall ratios_add (eCons (eNst (eVar 6) (eBin wAdd (eVar 8) (eC (.int (1))))) (eCons (eVar 9) eNil)))) (sNPut (eBin wAdd (eVar 6) (eC (.int (1)))) (eVar 8) (eCall ratios_add (eCons (eNst (eBin wAdd (eVar 6) (eC (.int (1)))) (eVar 8)) (eCons (eTup (eCons (eUn wNeg (eBin wIdx (eVar 9) (eC (.int (0))))) (eCons (eBin wIdx (eVar 9) (eC (.int (1)))) eNil))) eNil))))))) (sSet 0 (eCallB gTuple (eCons (eLc (sSeq (eVar 5)) [7] (gN 7) etYes (eCallB gTuple (eCons (eVar 7) eNil))) eNil)))))
section
variable {h w d s : Nat} {F : Nat → Nat → Rat}
theorem br_item (hF : ∀ i j, i ≤ h → j ≤ w → B d s (F i j)) (hd : d ≤ 99) (hs : s + 2 ≤ 1899) {k j : Nat} (hk : k ≤ h) (hj : j ≤ w) :
    ratios_add [enc (comb (par w F k j) (par w F k j) k (j + 1)), enc (F k j)] = .ok (enc (comb (par w F k j) (par w F k j) k (j + 1) + F k j)) ∧
    ratios_add [enc (comb (par w F k (j + 1)) (par w F k j) (k + 1) j), enc (-(F k j))] = .ok (enc (comb (par w F k (j + 1)) (par w F k j) (k + 1) j + -(F k j))) ∧
    law_add [enc (comb (par w F k j) (par w F k j) k (j + 1)), enc (F k j)] = .ok (enc (comb (par w F k j) (par w F k j) k (j + 1) + F k j)) ∧
    law_add [enc (comb (par w F k (j + 1)) (par w F k j) (k + 1) j), enc (-(F k j))] = .ok (enc (comb (par w F k (j + 1)) (par w F k j) (k + 1) j + -(F k j))) := by
  have b1 := comb_B (par_B hF hk (show j ≤ w + 1 by omega)) (par_B hF hk (show j ≤ w + 1 by omega)) k (j + 1)
  have b2 := comb_B (par_B hF hk (show j + 1 ≤ w + 1 by omega)) (par_B hF hk (show j ≤ w + 1 by omega)) (k + 1) j
  have b3 := hF k j hk hj
  have o1 := b1.ok hd (by omega)
  have o2 := b2.ok hd (by omega)
  have o3 := b3.ok hd (by omega)
  have o4 := b3.neg.ok hd (by omega)
  exact ⟨ratios_add_spec o1 o3, ratios_add_spec o2 o4, law_add_spec o1 o3, law_add_spec o2 o4⟩
theorem br_step (hF : ∀ i j, i ≤ h → j ≤ w → B d s (F i j)) (hd : d ≤ 99) (hs : s + 2 ≤ 1899) (hh : h ≤ 100) (hw : w ≤ 100) (c : W) (x2 x3 x4 x5 x6 x7 x8 x9 : Option W) :
    ∃ y2 y3 y4 y5 y6 y7 y8 y9, brBody [some (encT (tab h w F)), some c, x2, x3, x4, x5, x6, x7, x8, x9] none = .next [some (encT (tab (h + 1) (w + 1) (tb h w F))), some c, y2, y3, y4, y5, y6, y7, y8, y9] none := by
  unfold brBody
  rw [then_next (ρ' := [some (encT (tab h w F)), some c, x2, some (.int ((h + 1 : Nat) : Int)), some (.int ((w + 1 : Nat) : Int)), x5, x6, x7, x8, x9]) (t' := none) (by exact (x_asg (e_tup (a_cons (e_callB (a_cons (e_var rfl) a_nil) (encT_len h w F)) (a_cons (e_callB (a_cons (e_bin (e_var rfl) e_c (encT_at (k := 0) F (by omega))) a_nil) (rowF_len w _)) a_nil)) (by simp)) rfl))]
  have E0 := zero_rows (v := 2) (ρ := [some (encT (tab h w F)), some c, x2, some (.int ((h + 1 : Nat) : Int)), some (.int ((w + 1 : Nat) : Int)), x5, x6, x7, x8, x9]) (A := eBin wAdd (eVar 3) (eC (.int (1)))) (B := eBin wAdd (eVar 4) (eC (.int (1)))) (Z := eC (.tuple [(.int (0)), (.int (1))])) (h := h + 1) (w := w + 1) (e_bin (e_var rfl) e_c rfl) (by omega) (by omega) (fun _ => rfl) (fun _ => e_bin (e_var rfl) e_c rfl)
  obtain ⟨ρ', t', E1, ⟨y6, y7, y8, y9, rfl⟩, rfl⟩ := sforT (t := some (encR (tab (h + 1) (w + 1) fun _ _ => 0))) (src := (sEnum (eVar 0))) (g := (gTp (gsC (gN 6) (gsC (gN 7) gsN)))) (body := (sFor (sEnum (eVar 7)) (gTp (gsC (gN 8) (gsC (gN 9) gsN))) (sThen (sNPut (eVar 6) (eBin wAdd (eVar 8) (eC (.int (1)))) (eCall ratios_add (eCons (eNst (eVar 6) (eBin wAdd (eVar 8) (eC (.int (1))))) (eCons (eVar 9) eNil)))) (sNPut (eBin wAdd (eVar 6) (eC (.int (1)))) (eVar 8) (eCall ratios_add (eCons (eNst (eBin wAdd (eVar 6) (eC (.int (1)))) (eVar 8)) (eCons (eTup (eCons (eUn wNeg (eBin wIdx (eVar 9) (eC (.int (0))))) (eCons (eBin wIdx (eVar 9) (eC (.int (1)))) eNil))) eNil)))))))
    (items := (List.range (h + 1)).map fun k : Nat => .tuple [.int (k : Int), encF (row w (F k))])
    (fun k ρ t => (∃ x6 x7 x8 x9, ρ = [some (encT (tab h w F)), some c, x2, some (.int ((h + 1 : Nat) : Int)), some (.int ((w + 1 : Nat) : Int)), none, x6, x7, x8, x9]) ∧ t = some (encR (tab (h + 1) (w + 1) (comb (par w F k 0) (par w F k 0)))))
    [some (encT (tab h w F)), some c, x2, some (.int ((h + 1 : Nat) : Int)), some (.int ((w + 1 : Nat) : Int)), none, x6, x7, x8, x9]
    (g_enum (e_var rfl) (seqT h w F)) ⟨⟨_, _, _, _, rfl⟩, by rw [par_zero]⟩
    fun k wi ρ t hwi ⟨⟨x6, x7, x8, x9, e⟩, et⟩ => by
      subst e; subst et
      obtain ⟨hk, rfl⟩ := item_of hwi
      obtain ⟨ρ2, t2, E2, ⟨z8, z9, rfl⟩, rfl⟩ := sforT (t := some (encR (tab (h + 1) (w + 1) (comb (par w F k 0) (par w F k 0))))) (src := (sEnum (eVar 7))) (g := (gTp (gsC (gN 8) (gsC (gN 9) gsN)))) (body := (sThen (sNPut (eVar 6) (eBin wAdd (eVar 8) (eC (.int (1)))) (eCall ratios_add (eCons (eNst (eVar 6) (eBin wAdd (eVar 8) (eC (.int (1))))) (eCons (eVar 9) eNil)))) (sNPut (eBin wAdd (eVar 6) (eC (.int (1)))) (eVar 8) (eCall ratios_add (eCons (eNst (eBin wAdd (eVar 6) (eC (.int (1)))) (eVar 8)) (eCons (eTup (eCons (eUn wNeg (eBin wIdx (eVar 9) (eC (.int (0))))) (eCons (eBin wIdx (eVar 9) (eC (.int (1)))) eNil))) eNil))))))
        (items := (List.range (w + 1)).map fun j : Nat => .tuple [.int (j : Int), enc (F k j)])
        (fun j ρ t => (∃ x8 x9, ρ = [some (encT (tab h w F)), some c, x2, some (.int ((h + 1 : Nat) : Int)), some (.int ((w + 1 : Nat) : Int)), none, some (.int (k : Int)), some (encF (row w (F k))), x8, x9]) ∧ t = some (encR (tab (h + 1) (w + 1) (comb (par w F k j) (par w F k j)))))
        [some (encT (tab h w F)), some c, x2, some (.int ((h + 1 : Nat) : Int)), some (.int ((w + 1 : Nat) : Int)), none, some (.int (k : Int)), some (encF (row w (F k))), x8, x9]
        (g_enum (e_var rfl) (seqR w (F k))) ⟨⟨_, _, rfl⟩, rfl⟩
        fun j wj ρ t hwj ⟨⟨x8, x9, e⟩, et⟩ => by
          subst e; subst et
          obtain ⟨hj, rfl⟩ := item_of hwj
          obtain ⟨q1, q2, _, _⟩ := br_item hF hd hs (show k ≤ h by omega) (show j ≤ w by omega)
          refine ⟨[some (encT (tab h w F)), some c, x2, some (.int ((h + 1 : Nat) : Int)), some (.int ((w + 1 : Nat) : Int)), none, some (.int (k : Int)), some (encF (row w (F k))), some (.int (j : Int)), some (enc (F k j))], [some (encT (tab h w F)), some c, x2, some (.int ((h + 1 : Nat) : Int)), some (.int ((w + 1 : Nat) : Int)), none, some (.int (k : Int)), some (encF (row w (F k))), some (.int (j : Int)), some (enc (F k j))], _, rfl, ?_, ⟨_, _, rfl⟩, rfl⟩
          have n1 := nput_tab (H := h + 1) (W' := w + 1) (k := k) (j := j + 1) (comb (par w F k j) (par w F k j)) (comb (par w F k j) (par w F k j) k (j + 1) + F k j) (by omega) (by omega)
          rw [up_a] at n1
          have n2 := nput_tab (H := h + 1) (W' := w + 1) (k := k + 1) (j := j) (comb (par w F k (j + 1)) (par w F k j)) (comb (par w F k (j + 1)) (par w F k j) (k + 1) j + -(F k j)) (by omega) (by omega)
          rw [up_b] at n2
          rw [then_next (x_nput (k := .int (k : Int)) (j := .int ((j + 1 : Nat) : Int)) (t' := some (encR (tab (h + 1) (w + 1) (comb (par w F k (j + 1)) (par w F k j))))) (e_call (a_cons (e_nst (k := .int (k : Int)) (j := .int ((j + 1 : Nat) : Int)) (e_var rfl) (nrow_tab _ (by omega)) (e_bin (e_var rfl) e_c rfl) (nget_tab _ (by omega) (by omega))) (a_cons (e_var rfl) a_nil)) q1) (e_var rfl) (nrow_tab _ (by omega)) (e_bin (e_var rfl) e_c rfl) n1)]
          exact x_nput (k := .int ((k + 1 : Nat) : Int)) (j := .int (j : Int)) (e_call (a_cons (e_nst (k := .int ((k + 1 : Nat) : Int)) (j := .int (j : Int)) (e_bin (e_var rfl) e_c rfl) (nrow_tab _ (by omega)) (e_var rfl) (nget_tab _ (by omega) (by omega))) (a_cons (e_tup (a_cons (e_un (e_bin (e_var rfl) e_c rfl) rfl) (a_cons (e_bin (e_var rfl) e_c rfl) a_nil)) (by simp)) a_nil)) q2) (e_bin (e_var rfl) e_c rfl) (nrow_tab _ (by omega)) (e_var rfl) n2
      refine ⟨[some (encT (tab h w F)), some c, x2, some (.int ((h + 1 : Nat) : Int)), some (.int ((w + 1 : Nat) : Int)), none, some (.int (k : Int)), some (encF (row w (F k))), x8, x9], _, _, rfl, E2, ⟨_, _, _, _, rfl⟩, ?_⟩
      rw [List.length_map, List.length_range, par_next]
  rw [x_nest (by simp) E0 (rowsW_enc _) E1]
  refine ⟨_, _, _, _, _, _, _, _, x_set (tup_rows (T := tab (h + 1) (w + 1) (tb h w F)) (by rw [tab_len]; omega) ?_ (fun _ => rfl))⟩
  rw [List.length_map, List.length_range, par_all]
  rfl
end
end G

end

section
namespace G
open PySem Ev
/-! ### brackets, so often -/
section
variable {h w d s c m n : Nat} {F : Nat → Nat → Rat} {f g : Nat → Rat}
theorem times_bracket_spec (hF : ∀ i j, i ≤ h → j ≤ w → B d s (F i j)) (hd : d ≤ 99) (hs : s + c + 2 ≤ 1899) (hh : h + c ≤ 100) (hw : w + c ≤ 100) : slides_times_bracket [encT (tab h w F), .int (c : Int)] = .ok (encT (tab (h + c) (w + c) (tbN c h w F))) := by
  unfold slides_times_bracket
  rw [runF_eq (n := 2) rfl]
  obtain ⟨ρ1, E1, G, x2, x3, x4, x5, x6, x7, x8, x9, rfl, hB, hG⟩ := sfor_pred (t := none) (src := sRng gRng1 (eCons (eVar 1) eNil)) (g := gN 2) (body := brBody) (items := (List.range c).map fun i : Nat => (.int (i : Int) : W))
    (fun i ρ => ∃ (G : Nat → Nat → Rat) (x2 x3 x4 x5 x6 x7 x8 x9 : Option W), ρ = [some (encT (tab (h + i) (w + i) G)), some (.int (c : Int)), x2, x3, x4, x5, x6, x7, x8, x9] ∧ (∀ a b, a ≤ h + i → b ≤ w + i → B d (s + i) (G a b)) ∧ (i ≤ c → tbN (c - i) (h + i) (w + i) G = tbN c h w F))
    [some (encT (tab h w F)), some (.int (c : Int)), none, none, none, none, none, none, none, none]
    (g_rng1 (a_cons (e_var rfl) a_nil) (by omega)) ⟨F, _, _, _, _, _, _, _, _, rfl, hF, fun _ => rfl⟩
    fun i wi ρ hwi ⟨G, x2, x3, x4, x5, x6, x7, x8, x9, e, hB, hG⟩ => by
      subst e
      obtain ⟨hi, rfl⟩ := item_of hwi
      obtain ⟨y2, y3, y4, y5, y6, y7, y8, y9, E⟩ := br_step hB hd (by omega) (by omega) (by omega) (.int (c : Int)) (some (.int (i : Int))) x3 x4 x5 x6 x7 x8 x9
      refine ⟨_, _, rfl, E, tb (h + i) (w + i) G, y2, y3, y4, y5, y6, y7, y8, y9, rfl, fun a b _ _ => tb_B hB a b, fun hc => ?_⟩
      rw [← hG (by omega), show c - i = (c - (i + 1)) + 1 by omega]
      rfl
  rw [show startW 10 [encT (tab h w F), .int (c : Int)] = [some (encT (tab h w F)), some (.int (c : Int)), none, none, none, none, none, none, none, none] from rfl]
  show endF false (sThen (sFor (sRng gRng1 (eCons (eVar 1) eNil)) (gN 2) brBody) (sRet (eVar 0)) _ none) = _
  rw [then_next E1]
  rw [List.length_map, List.length_range] at hG ⊢
  have q := hG (Nat.le_refl c)
  rw [Nat.sub_self] at q
  rw [fin_ret (e_var rfl), ← q]
  rfl
/-! ### products and sums of tables -/
theorem rowOk {m : Nat} {f : Nat → Rat} (hf : ∀ k, k ≤ m → B d s (f k)) (hd : d ≤ 99) (hs : s ≤ 1899) {k : Nat} (hk : k < m + 1) : Ok (f k) := (hf k (by omega)).ok hd hs
theorem dbl_comp {i j x y : Nat} {op : Fs} {ρ : Sl} (hi : ρ[i]? = some (some (encF (row m f)))) (hij : i ≠ j) (hop : ∀ a b, a ≤ m → b ≤ n → op [enc (f a), enc (g b)] = .ok (enc (f a * g b))) (hm : m ≤ 100) (hn : n ≤ 100)
    (h1 : ∀ w : W, ((wipeW ρ [x]).set x (some w))[j]? = some (some (encF (row n g)))) (h2 : ∀ w w' : W, ((wipeW ((wipeW ρ [x]).set x (some w)) [y]).set y (some w'))[x]? = some (some w)) (h3 : ∀ w w' : W, ((wipeW ((wipeW ρ [x]).set x (some w)) [y]).set y (some w'))[y]? = some (some w')) :
    eCallB gTuple (eCons (eLc (sSeq (eVar i)) [x] (gN x) etYes (eCallB gTuple (eCons (eLc (sSeq (eVar j)) [y] (gN y) etYes (eCall op (eCons (eVar x) (eCons (eVar y) eNil)))) eNil))) eNil) ρ none = .ok (encT (tab m n fun a b => f a * g b)) none := by
  rw [tabT]
  refine e_callB (a_cons (e_lc (g_seq (e_var hi) (seqR m f)) (by simp; omega) (lc_map (fun i => enc (f i)) (fun i => encF (row n fun b => f i * g b)) (List.range (m + 1)) fun a ha => ⟨_, rfl, ?_⟩)) a_nil) rfl
  rw [rowT]
  have ha := List.mem_range.mp ha
  refine e_callB (a_cons (e_lc (g_seq (e_var (h1 _)) (seqR n g)) (by simp; omega) (lc_map (fun i => enc (g i)) (fun b => enc (f a * g b)) (List.range (n + 1)) fun b hb => ⟨_, rfl, ?_⟩)) a_nil) rfl
  have hb := List.mem_range.mp hb
  exact e_call (a_cons (e_var (h2 _ _)) (a_cons (e_var (h3 _ _)) a_nil)) (hop a b (by omega) (by omega))
theorem double_of_spec {e t : Nat} (hf : ∀ k, k ≤ m → B d s (f k)) (hg : ∀ k, k ≤ n → B e t (g k)) (hd : d ≤ 99) (hs : s ≤ 1899) (he : e ≤ 99) (ht : t ≤ 1899) (hm : m ≤ 100) (hn : n ≤ 100) : slides_double_of [encF (row m f), encF (row n g)] = .ok (encT (tab m n fun a b => f a * g b)) := by
  unfold slides_double_of
  rw [runF_eq (n := 2) rfl]
  exact fin_ret (dbl_comp (i := 0) (j := 1) rfl (by decide) (fun a b ha hb => ratios_multiply_spec ((hf a ha).ok hd hs) ((hg b hb).ok he ht)) hm hn (fun _ => rfl) (fun _ _ => rfl) (fun _ _ => rfl))
theorem g_zip {A C : Ex} {ρ : Sl} {w w' : W} {n : Nat} {e e' : Nat → W} (h : A ρ none = .ok w none) (h' : C ρ none = .ok w' none) (h2 : wSeq w = some ((List.range n).map e)) (h2' : wSeq w' = some ((List.range n).map e')) : sZip A C ρ none = .ok ((List.range n).map fun k : Nat => .tuple [e k, e' k]) none := by
  rw [s_sZip, h, s_bind_ok, h', s_bind_ok, h2, s_rOf_some, s_bind_ok, h2', s_rOf_some, s_bind_ok, zip_eq]
  congr 1
  have : (List.range n).zip (List.range n) = (List.range n).map fun k => (k, k) := by
    rw [List.zip_eq_zipWith, List.zipWith_self]
  rw [this, List.map_map]; rfl
theorem add_doubles_spec {G : Nat → Nat → Rat} (hF : ∀ i j, i ≤ h → j ≤ w → B d s (F i j)) (hG : ∀ i j, i ≤ h → j ≤ w → B d s (G i j)) (hd : d ≤ 99) (hs : s ≤ 1899) (hh : h ≤ 100) (hw : w ≤ 100) : slides_add_doubles [encT (tab h w F), encT (tab h w G)] = .ok (encT (tab h w fun i j => F i j + G i j)) := by
  unfold slides_add_doubles
  rw [runF_eq (n := 2) rfl]
  refine fin_ret ?_
  rw [tabT h w fun i j => F i j + G i j]
  refine e_callB (a_cons (e_lc (g_zip (e_var rfl) (e_var rfl) (seqT h w F) (seqT h w G)) (by simp; omega) (lc_map (fun k : Nat => .tuple [encF (row w (F k)), encF (row w (G k))]) (fun i => encF (row w fun j => F i j + G i j)) (List.range (h + 1)) fun a ha => ⟨_, rfl, ?_⟩)) a_nil) rfl
  have ha := List.mem_range.mp ha
  rw [rowT w fun j => F a j + G a j]
  refine e_callB (a_cons (e_lc (g_zip (e_var rfl) (e_var rfl) (seqR w (F a)) (seqR w (G a))) (by simp; omega) (lc_map (fun k : Nat => .tuple [enc (F a k), enc (G a k)]) (fun j => enc (F a j + G a j)) (List.range (w + 1)) fun b hb => ⟨_, rfl, ?_⟩)) a_nil) rfl
  have hb := List.mem_range.mp hb
  exact e_call (a_cons (e_var rfl) (a_cons (e_var rfl) a_nil)) (ratios_add_spec ((hF a b (by omega) (by omega)).ok hd hs) ((hG a b (by omega) (by omega)).ok hd hs))
/-! ### weighed, polarized -/
theorem nine {n : Nat} (h : n ≤ 8) : n ≤ 7 ∨ n = 8 := by omega
theorem choose8 {n k : Nat} (hn : n ≤ 8) (hk : k ≤ n) : forms_choose [.int (n : Int), .int (k : Int)] = .ok (.int (cb n k : Nat)) := by
  rcases nine hn with h | rfl
  · exact forms_choose_spec h hk
  · have : k = 0 ∨ k = 1 ∨ k = 2 ∨ k = 3 ∨ k = 4 ∨ k = 5 ∨ k = 6 ∨ k = 7 ∨ k = 8 := by omega
    rcases this with rfl | rfl | rfl | rfl | rfl | rfl | rfl | rfl | rfl <;> kernel_rfl
theorem cbN {n k : Nat} (hn : n ≤ 9) (hk : k ≤ n) : cb n k ≠ 0 ∧ cb n k ≤ 126 := by
  have h : ∀ n, n ≤ 9 → ∀ k, k ≤ n → cb n k ≠ 0 ∧ cb n k ≤ 126 := by decide
  exact h n hn k hk
theorem cbr_B {n k : Nat} (hn : n ≤ 9) (hk : k ≤ n) : B 0 7 (cbr n k) := B.int _ (by have := (cbN hn hk).2; simp; omega)
theorem cbr_ne {n k : Nat} (hn : n ≤ 9) (hk : k ≤ n) : cbr n k ≠ 0 := by
  have := (cbN hn hk).1
  unfold cbr
  intro z
  have : ((cb n k : Nat) : Int) = 0 := by exact_mod_cast z
  omega
theorem cbr_inv {n k : Nat} (hn : n ≤ 8) (hk : k ≤ n) : B 1 0 (1 / cbr n k) := by
  have h : ∀ n, n ≤ 8 → ∀ k, k ≤ n → cb n k ∣ KK := by decide
  exact B.inv (by rw [Nat.pow_one]; exact h n hn k hk) (cbN (by omega) hk).1
theorem divB {x : Rat} {n k : Nat} (hx : B d s x) (hn : n ≤ 8) (hk : k ≤ n) : B (d + 1) s (x / cbr n k) := by
  rw [show x / cbr n k = x * (1 / cbr n k) by grind]
  exact hx.mul (cbr_inv hn hk)
theorem enc_cbr (n k : Nat) : enc (cbr n k) = .tuple [.int ((cb n k : Nat) : Int), .int 1] := enc_int _
theorem weighed_row (hf : ∀ k, k ≤ m → B d s (f k)) (hm : m ≤ 8) (hd : d ≤ 99) (hs : s ≤ 1899) : forms_weighed [encF (row m f)] = .ok (encF (row m fun k => f k / cbr m k)) := by
  unfold forms_weighed
  rw [runF_eq (n := 1) rfl]
  rw [then_next (ρ' := [some (encF (row m f)), some (.int (m : Int)), none, none]) (t' := none) (by exact x_set (e_bin (e_callB (a_cons (e_var rfl) a_nil) (rowF_len m f)) e_c (by rw [s_wSub_int]; congr 2; omega)))]
  refine fin_ret ?_
  rw [rowT m fun k => f k / cbr m k]
  refine e_callB (a_cons (e_lc (g_enum (e_var rfl) (seqR m f)) (by simp; omega) (lc_map (fun k : Nat => .tuple [.int (k : Int), enc (f k)]) (fun k => enc (f k / cbr m k)) (List.range (m + 1)) fun k hk => ⟨_, rfl, ?_⟩)) a_nil) rfl
  have hk := List.mem_range.mp hk
  have q := ratios_divide_spec ((hf k (by omega)).ok hd hs) ((cbr_B (n := m) (k := k) (by omega) (by omega)).ok (by decide) (by decide)) (cbr_ne (by omega) (by omega))
  rw [enc_cbr] at q
  exact e_call (a_cons (e_var rfl) (a_cons (e_tup (a_cons (e_call (a_cons (e_var rfl) (a_cons (e_var rfl) a_nil)) (choose8 hm (by omega))) (a_cons e_c a_nil)) (by simp)) a_nil)) q
theorem row_order (m : Nat) (f : Nat → Rat) : forms_order [encF (row m f)] = .ok (.int (m : Int)) := order_nat (row_len m f)
theorem mulI {a b : Nat} (ha : a ≤ 200) (hb : b ≤ 200) : wMul (.int (a : Int)) (.int (b : Int)) = some (.int ((a * b : Nat) : Int)) := by
  rw [wMul_of (mulOk_of (small_pow (k := 10) (by simp; omega) (by decide)) (small_pow (k := 10) (by simp; omega) (by decide)))]
  congr 2
theorem enc_cc (a b c e : Nat) : enc (cbr a b * cbr c e) = .tuple [.int ((cb a b * cb c e : Nat) : Int), .int 1] := by
  have : cbr a b * cbr c e = (((cb a b * cb c e : Nat) : Int) : Rat) := by
    unfold cbr
    rw [Int.natCast_mul, Rat.intCast_mul]
  rw [this]
  exact enc_int _
theorem range_snoc {α : Type} (n : Nat) (e : Nat → α) : (List.range (n + 1)).map e = (List.range n).map e ++ [e n] := by
  rw [List.range_succ, List.map_append]; rfl
theorem pz_B {s' second : Nat} (hf : ∀ k, k ≤ s' → B d s (f k)) (hs8 : s' ≤ 8) (h2 : second ≤ s') {k j : Nat} (hk : k ≤ s' - second) (hj : j ≤ second) : B (d + 1) (s + 14) (pz s' second f k j) := by
  unfold pz
  have h1 := divB (hf (k + j) (by omega)) (n := s') (k := k + j) hs8 (by omega)
  exact (h1.mul ((cbr_B (n := s' - second) (k := k) (by omega) hk).mul (cbr_B (n := second) (k := j) (by omega) hj))).mono (by omega) (by omega)
theorem polarized_spec {s' second : Nat} (hf : ∀ k, k ≤ s' → B d s (f k)) (hs8 : s' ≤ 8) (h2 : second ≤ s') (hd : d + 1 ≤ 99) (hs : s + 20 ≤ 1899) : slides_polarized [encF (row s' f), .int (second : Int)] = .ok (encT (tab (s' - second) second (pz s' second f))) := by
  unfold slides_polarized
  rw [runF_eq (n := 2) rfl]
  rw [show startW 9 [encF (row s' f), .int (second : Int)] = [some (encF (row s' f)), some (.int (second : Int)), none, none, none, none, none, none, none] from rfl]
  rw [then_next (ρ' := [some (encF (row s' f)), some (.int (second : Int)), some (.int (s' : Int)), none, none, none, none, none, none]) (t' := none) (by exact x_set (e_call (a_cons (e_var rfl) a_nil) (row_order s' f)))]
  rw [then_next (ρ' := [some (encF (row s' f)), some (.int (second : Int)), some (.int (s' : Int)), none, none, none, none, none, none]) (t' := none) (by exact i_false (t_orF (t_not (v := true) (t_test (e_call (a_cons (e_var rfl) a_nil) (is_integer_int _)))) (t_orF (t_test (e_bin (e_var rfl) e_c (ltF (by omega)))) (t_test (e_bin (e_var rfl) (e_var rfl) (gtF (by omega)))))))]
  rw [then_next (ρ' := [some (encF (row s' f)), some (.int (second : Int)), some (.int (s' : Int)), some (.int ((s' - second : Nat) : Int)), none, none, none, none, none]) (t' := none) (by exact x_set (e_bin (e_var rfl) (e_var rfl) (by rw [s_wSub_int]; congr 2; omega)))]
  rw [then_next (ρ' := [some (encF (row s' f)), some (.int (second : Int)), some (.int (s' : Int)), some (.int ((s' - second : Nat) : Int)), some (encF (row s' fun k => f k / cbr s' k)), none, none, none, none]) (t' := none) (by exact x_set (e_call (a_cons (e_var rfl) a_nil) (weighed_row hf hs8 (by omega) (by omega))))]
  rw [then_next (ρ' := [some (encF (row s' f)), some (.int (second : Int)), some (.int (s' : Int)), some (.int ((s' - second : Nat) : Int)), some (encF (row s' fun k => f k / cbr s' k)), some (.list []), none, none, none]) (t' := none) (by exact x_set (e_lst a_nil (by simp)))]
  obtain ⟨ρ1, E1, x6, x7, x8, rfl⟩ := sfor_pred (t := none) (src := (sRng gRng1 (eCons (eBin wAdd (eVar 3) (eC (.int (1)))) eNil))) (g := gN 6) (body := (sThen (sSet 7 (eLst eNil)) (sThen (sFor (sRng gRng1 (eCons (eBin wAdd (eVar 1) (eC (.int (1)))) eNil)) (gN 8) (sApp 7 (eCall ratios_multiply (eCons (eBin wIdx (eVar 4) (eBin wAdd (eVar 6) (eVar 8))) (eCons (eTup (eCons (eBin wMul (eCall forms_choose (eCons (eVar 3) (eCons (eVar 6) eNil))) (eCall forms_choose (eCons (eVar 1) (eCons (eVar 8) eNil)))) (eCons (eC (.int (1))) eNil))) eNil))))) (sApp 5 (eCallB gTuple (eCons (eVar 7) eNil)))))) (items := (List.range (s' - second + 1)).map fun i : Nat => (.int (i : Int) : W))
    (fun k ρ => ∃ x6 x7 x8 : Option W, ρ = [some (encF (row s' f)), some (.int (second : Int)), some (.int (s' : Int)), some (.int ((s' - second : Nat) : Int)), some (encF (row s' fun k => f k / cbr s' k)), some (.list ((List.range k).map fun k => encF (row second (pz s' second f k)))), x6, x7, x8])
    [some (encF (row s' f)), some (.int (second : Int)), some (.int (s' : Int)), some (.int ((s' - second : Nat) : Int)), some (encF (row s' fun k => f k / cbr s' k)), some (.list []), none, none, none]
    (g_rng1 (n := s' - second + 1) (a_cons (e_bin (e_var rfl) e_c rfl) a_nil) (by omega)) ⟨_, _, _, rfl⟩
    fun k wi ρ hwi ⟨x6, x7, x8, e⟩ => by
      subst e
      obtain ⟨hk, rfl⟩ := item_of hwi
      have EE : ∃ y7 y8 : Option W, (sThen (sSet 7 (eLst eNil)) (sThen (sFor (sRng gRng1 (eCons (eBin wAdd (eVar 1) (eC (.int (1)))) eNil)) (gN 8) (sApp 7 (eCall ratios_multiply (eCons (eBin wIdx (eVar 4) (eBin wAdd (eVar 6) (eVar 8))) (eCons (eTup (eCons (eBin wMul (eCall forms_choose (eCons (eVar 3) (eCons (eVar 6) eNil))) (eCall forms_choose (eCons (eVar 1) (eCons (eVar 8) eNil)))) (eCons (eC (.int (1))) eNil))) eNil))))) (sApp 5 (eCallB gTuple (eCons (eVar 7) eNil))))) [some (encF (row s' f)), some (.int (second : Int)), some (.int (s' : Int)), some (.int ((s' - second : Nat) : Int)), some (encF (row s' fun k => f k / cbr s' k)), some (.list ((List.range k).map fun k => encF (row second (pz s' second f k)))), some (.int (k : Int)), x7, x8] none = .next [some (encF (row s' f)), some (.int (second : Int)), some (.int (s' : Int)), some (.int ((s' - second : Nat) : Int)), some (encF (row s' fun k => f k / cbr s' k)), some (.list ((List.range (k + 1)).map fun k => encF (row second (pz s' second f k)))), some (.int (k : Int)), y7, y8] none := by
        rw [then_next (ρ' := [some (encF (row s' f)), some (.int (second : Int)), some (.int (s' : Int)), some (.int ((s' - second : Nat) : Int)), some (encF (row s' fun k => f k / cbr s' k)), some (.list ((List.range k).map fun k => encF (row second (pz s' second f k)))), some (.int (k : Int)), some (.list []), x8]) (t' := none) (by exact x_set (e_lst a_nil (by simp)))]
        obtain ⟨ρ2, E2, y8, rfl⟩ := sfor_pred (t := none) (src := (sRng gRng1 (eCons (eBin wAdd (eVar 1) (eC (.int (1)))) eNil))) (g := gN 8) (body := (sApp 7 (eCall ratios_multiply (eCons (eBin wIdx (eVar 4) (eBin wAdd (eVar 6) (eVar 8))) (eCons (eTup (eCons (eBin wMul (eCall forms_choose (eCons (eVar 3) (eCons (eVar 6) eNil))) (eCall forms_choose (eCons (eVar 1) (eCons (eVar 8) eNil)))) (eCons (eC (.int (1))) eNil))) eNil))))) (items := (List.range (second + 1)).map fun i : Nat => (.int (i : Int) : W))
          (fun j ρ => ∃ x8 : Option W, ρ = [some (encF (row s' f)), some (.int (second : Int)), some (.int (s' : Int)), some (.int ((s' - second : Nat) : Int)), some (encF (row s' fun k => f k / cbr s' k)), some (.list ((List.range k).map fun k => encF (row second (pz s' second f k)))), some (.int (k : Int)), some (.list ((List.range j).map fun j => enc (pz s' second f k j))), x8])
          [some (encF (row s' f)), some (.int (second : Int)), some (.int (s' : Int)), some (.int ((s' - second : Nat) : Int)), some (encF (row s' fun k => f k / cbr s' k)), some (.list ((List.range k).map fun k => encF (row second (pz s' second f k)))), some (.int (k : Int)), some (.list []), x8]
          (g_rng1 (n := second + 1) (a_cons (e_bin (e_var rfl) e_c rfl) a_nil) (by omega)) ⟨_, rfl⟩
          fun j wj ρ hwj ⟨x8, e⟩ => by
            subst e
            obtain ⟨hj, rfl⟩ := item_of hwj
            have b1 := divB (hf (k + j) (by omega)) (n := s') (k := k + j) hs8 (by omega)
            have b2 := (cbr_B (n := s' - second) (k := k) (by omega) (by omega)).mul (cbr_B (n := second) (k := j) (by omega) (by omega))
            have q := ratios_multiply_spec (b1.ok (by omega) (by omega)) (b2.ok (by decide) (by decide))
            rw [enc_cc] at q
            have c1 := (cbN (n := s' - second) (k := k) (by omega) (by omega)).2
            have c2 := (cbN (n := second) (k := j) (by omega) (by omega)).2
            have i1 := rowF_at (w := s') (j := k + j) (fun k => f k / cbr s' k) (by omega)
            have i2 := mulI (a := cb (s' - second) k) (b := cb second j) (by omega) (by omega)
            have EA : (sApp 7 (eCall ratios_multiply (eCons (eBin wIdx (eVar 4) (eBin wAdd (eVar 6) (eVar 8))) (eCons (eTup (eCons (eBin wMul (eCall forms_choose (eCons (eVar 3) (eCons (eVar 6) eNil))) (eCall forms_choose (eCons (eVar 1) (eCons (eVar 8) eNil)))) (eCons (eC (.int (1))) eNil))) eNil)))) [some (encF (row s' f)), some (.int (second : Int)), some (.int (s' : Int)), some (.int ((s' - second : Nat) : Int)), some (encF (row s' fun k => f k / cbr s' k)), some (.list ((List.range k).map fun k => encF (row second (pz s' second f k)))), some (.int (k : Int)), some (.list ((List.range j).map fun j => enc (pz s' second f k j))), some (.int (j : Int))] none = .next [some (encF (row s' f)), some (.int (second : Int)), some (.int (s' : Int)), some (.int ((s' - second : Nat) : Int)), some (encF (row s' fun k => f k / cbr s' k)), some (.list ((List.range k).map fun k => encF (row second (pz s' second f k)))), some (.int (k : Int)), some (.list ((List.range j).map (fun j => enc (pz s' second f k j)) ++ [enc (pz s' second f k j)])), some (.int (j : Int))] none := x_app rfl (e_call (w := enc (pz s' second f k j)) (a_cons (e_bin (y := .int ((k + j : Nat) : Int)) (e_var (i := 4) rfl) (e_bin (e_var (i := 6) rfl) (e_var (i := 8) rfl) rfl) i1) (a_cons (e_tup (a_cons (e_bin (e_call (a_cons (e_var (i := 3) rfl) (a_cons (e_var (i := 6) rfl) a_nil)) (choose8 (by omega) (by omega))) (e_call (a_cons (e_var (i := 1) rfl) (a_cons (e_var (i := 8) rfl) a_nil)) (choose8 (by omega) (by omega))) i2) (a_cons e_c a_nil)) (by simp)) a_nil)) q) (by simp; omega)
            refine ⟨_, _, rfl, EA, some (.int (j : Int)), ?_⟩
            rw [range_snoc]
        rw [then_next E2, List.length_map, List.length_range]
        refine ⟨some (.list ((List.range (second + 1)).map fun j => enc (pz s' second f k j))), y8, ?_⟩
        rw [x_app rfl (e_callB (a_cons (e_var rfl) a_nil) rfl) (by simp; omega)]
        rw [range_snoc k fun k => encF (row second (pz s' second f k)), rowT second (pz s' second f k)]; rfl
      obtain ⟨y7, y8, EE⟩ := EE
      exact ⟨_, _, rfl, EE, _, _, _, rfl⟩
  rw [then_next E1, List.length_map, List.length_range]
  exact fin_ret (e_callB (a_cons (e_var rfl) a_nil) (by rw [tabT]; rfl))
end
end G

end

section
namespace G
open PySem Ev
section
variable {h w d s c m n : Nat} {F : Nat → Nat → Rat} {P : Nat → Nat → Rat}
/-! ### from_slides -/
def encS (m n : Nat) (P : Nat → Nat → Rat) : W := .tuple ((List.range (min m n + 1)).map fun c => encF (row (m + n - 2 * c) (P c)))
theorem tbN_B : ∀ {c h w s : Nat} {F : Nat → Nat → Rat}, (∀ i j, i ≤ h → j ≤ w → B d s (F i j)) → ∀ a b, a ≤ h + c → b ≤ w + c → B d (s + c) (tbN c h w F a b)
  | 0, h, w, s, F, hF, a, b, ha, hb => hF a b ha hb
  | c + 1, h, w, s, F, hF, a, b, ha, hb => by
    have := tbN_B (c := c) (h := h + 1) (w := w + 1) (s := s + 1) (F := tb h w F) (fun i j _ _ => tb_B hF i j) a b (by omega) (by omega)
    rw [show s + (c + 1) = s + 1 + c by omega]
    exact this
theorem chooseA (hm : m ≤ 4) (hn : n ≤ 4) (hc : c ≤ min m n) : forms_choose [.int ((m + n - c + 1 : Nat) : Int), .int (c : Int)] = .ok (.int (cb (m + n - c + 1) c : Nat)) := by
  by_cases h : m + n - c + 1 ≤ 8
  · exact choose8 h (by omega)
  · have e : c = 0 := by omega
    subst e
    have e2 : m + n - 0 + 1 = 9 := by omega
    rw [e2]
    kernel_rfl
theorem numB (hm : m ≤ 4) (hn : n ≤ 4) (hc : c ≤ min m n) : B 1 14 (num m n c) := by
  unfold num
  have b1 := (cbr_B (n := m) (k := c) (by omega) (by omega)).mul (cbr_B (n := n) (k := c) (by omega) (by omega))
  by_cases h : m + n - c + 1 ≤ 8
  · exact divB b1 h (by omega)
  · have e : c = 0 := by omega
    subst e
    have e2 : cbr (m + n - 0 + 1) 0 = 1 := by
      unfold cbr
      have : cb (m + n - 0 + 1) 0 = 1 := by cases (m + n - 0 + 1) <;> rfl
      rw [this]; rfl
    rw [e2, show ∀ x : Rat, x / 1 = x from fun x => by grind]
    exact b1.mono (by omega) (by omega)
theorem fs_term (hm : m ≤ 4) (hn : n ≤ 4) (hc : c ≤ min m n) (hP : ∀ c r, c ≤ min m n → r ≤ m + n - 2 * c → B d s (P c r)) (a b : Nat) (ha : a ≤ m) (hb : b ≤ n) : B (d + 1) (s + 18) (tbN c (m - c) (n - c) (pz (m + n - 2 * c) (n - c) (P c)) a b) ∧ B (d + 2) (s + 32) (num m n c * tbN c (m - c) (n - c) (pz (m + n - 2 * c) (n - c) (P c)) a b) := by
  have h1 := tbN_B (c := c) (h := m - c) (w := n - c) (s := s + 14) (d := d + 1) (F := pz (m + n - 2 * c) (n - c) (P c)) (fun i j hi hj => pz_B (fun k hk => hP c k hc hk) (by omega) (by omega) (by omega) (by omega)) a b (by omega) (by omega)
  have h1 := h1.mono (Nat.le_refl _) (show s + 14 + c ≤ s + 18 by omega)
  exact ⟨h1, ((numB hm hn hc).mul h1).mono (by omega) (by omega)⟩
def fsN (m n : Nat) (P : Nat → Nat → Rat) (k i j : Nat) : Rat := Sg k fun c => num m n c * tbN c (m - c) (n - c) (pz (m + n - 2 * c) (n - c) (P c)) i j
theorem fsN_B (hm : m ≤ 4) (hn : n ≤ 4) (hP : ∀ c r, c ≤ min m n → r ≤ m + n - 2 * c → B d s (P c r)) : ∀ k, k ≤ min m n + 1 → ∀ a b, a ≤ m → b ≤ n → B (d + 2) (s + 33 + k) (fsN m n P k a b)
  | 0, _, a, b, _, _ => B.zero
  | k + 1, hk, a, b, ha, hb => (fsN_B hm hn hP k (by omega) a b ha hb).add (fs_term hm hn (by omega) hP a b ha hb).2 (by omega) (by omega)
theorem fs_B (hm : m ≤ 4) (hn : n ≤ 4) (hP : ∀ c r, c ≤ min m n → r ≤ m + n - 2 * c → B d s (P c r)) (a b : Nat) (ha : a ≤ m) (hb : b ≤ n) : B (d + 2) (s + 40) (fs m n P a b) :=
  (fsN_B hm hn hP _ (Nat.le_refl _) a b ha hb).mono (Nat.le_refl _) (by omega)
theorem scale_comp {i v u jn : Nat} {ρ : Sl} {x : Rat} (hi : ρ[i]? = some (some (encT (tab m n F)))) (hop : ∀ a b, a ≤ m → b ≤ n → ratios_multiply [enc x, enc (F a b)] = .ok (enc (x * F a b))) (hm : m ≤ 100) (hn : n ≤ 100)
    (h1 : ∀ w : W, ((wipeW ρ [v]).set v (some w))[v]? = some (some w)) (h2 : ∀ w w' : W, ((wipeW ((wipeW ρ [v]).set v (some w)) [u]).set u (some w'))[jn]? = some (some (enc x))) (h3 : ∀ w w' : W, ((wipeW ((wipeW ρ [v]).set v (some w)) [u]).set u (some w'))[u]? = some (some w')) :
    eCallB gTuple (eCons (eLc (sSeq (eVar i)) [v] (gN v) etYes (eCallB gTuple (eCons (eLc (sSeq (eVar v)) [u] (gN u) etYes (eCall ratios_multiply (eCons (eVar jn) (eCons (eVar u) eNil)))) eNil))) eNil) ρ none = .ok (encT (tab m n fun a b => x * F a b)) none := by
  rw [tabT m n fun a b => x * F a b]
  refine e_callB (a_cons (e_lc (g_seq (e_var hi) (seqT m n F)) (by simp; omega) (lc_map (fun i => encF (row n (F i))) (fun i => encF (row n fun b => x * F i b)) (List.range (m + 1)) fun a ha => ⟨_, rfl, ?_⟩)) a_nil) rfl
  rw [rowT n fun b => x * F a b]
  have ha := List.mem_range.mp ha
  refine e_callB (a_cons (e_lc (g_seq (e_var (h1 _)) (seqR n (F a))) (by simp; omega) (lc_map (fun i => enc (F a i)) (fun b => enc (x * F a b)) (List.range (n + 1)) fun b hb => ⟨_, rfl, ?_⟩)) a_nil) rfl
  have hb := List.mem_range.mp hb
  exact e_call (a_cons (e_var (h2 _ _)) (a_cons (e_var (h3 _ _)) a_nil)) (hop a b (by omega) (by omega))
def fsTest : Et := (eOrT (eTest (eBin wNe (eCallB gLen (eCons (eVar 0) eNil)) (eBin wAdd (eCallB gMin2 (eCons (eVar 1) (eCons (eVar 2) eNil))) (eC (.int (1)))))) (eTest (eCallB gAny (eCons (eLc (sEnum (eVar 0)) [4, 5] (gTp (gsC (gN 4) (gsC (gN 5) gsN))) etYes (eBin wNe (eCall forms_order (eCons (eVar 5) eNil)) (eBin wSub (eBin wAdd (eVar 1) (eVar 2)) (eBin wMul (eC (.int (2))) (eVar 4))))) eNil))))
theorem fs_len (m n : Nat) (P : Nat → Nat → Rat) : gLen [encS m n P] = some (.int ((min m n + 1 : Nat) : Int)) := by
  show some (PyData.int (((List.range (min m n + 1)).map fun c => encF (row (m + n - 2 * c) (P c))).length : Int)) = _
  rw [List.length_map, List.length_range]
theorem subI {a b : Nat} (h : b ≤ a) : wSub (.int (a : Int)) (.int (b : Int)) = some (.int ((a - b : Nat) : Int)) := by
  rw [s_wSub_int, Int.ofNat_sub h]
theorem mul2 {k : Nat} (hk : k ≤ 200) : wMul (.int 2) (.int (k : Int)) = some (.int ((2 * k : Nat) : Int)) := mulI (a := 2) (by decide) hk
theorem fs_test (hm : m ≤ 4) (hn : n ≤ 4) (r3 r4 r5 r6 r7 r8 r9 r10 : Option W) : fsTest [some (encS m n P), some (.int (m : Int)), some (.int (n : Int)), r3, r4, r5, r6, r7, r8, r9, r10] none = .ok false none := by
  unfold fsTest
  refine t_orF (t_test (e_bin (y := .int ((min m n + 1 : Nat) : Int)) (e_callB (a_cons (e_var rfl) a_nil) (fs_len m n P)) (e_bin (e_callB (a_cons (e_var rfl) (a_cons (e_var rfl) a_nil)) (gMin2_nat m n)) e_c rfl) (neqN rfl))) (t_test (e_callB (a_cons (e_lc (g_enum (e_var rfl) rfl) (by simp; omega) (lc_map (fun k : Nat => .tuple [.int (k : Int), encF (row (m + n - 2 * k) (P k))]) (fun _ => (.bool false : W)) (List.range (min m n + 1)) fun k hk => ⟨_, rfl, ?_⟩)) a_nil) ?_))
  · have hk := List.mem_range.mp hk
    exact e_bin (e_call (a_cons (e_var rfl) a_nil) (row_order _ _)) (e_bin (e_bin (e_var rfl) (e_var rfl) rfl) (e_bin e_c (e_var rfl) (mul2 (by omega))) rfl) (neqN (by omega))
  · rw [gAny_map (fun _ : Nat => false)]
    congr 2
    simp
theorem from_slides_spec (hm : m ≤ 4) (hn : n ≤ 4) (hP : ∀ c r, c ≤ min m n → r ≤ m + n - 2 * c → B d s (P c r)) (hd : d + 3 ≤ 99) (hs : s + 60 ≤ 1899) : slides_from_slides [encS m n P, .int (m : Int), .int (n : Int)] = .ok (encT (tab m n (fs m n P))) := by
  unfold slides_from_slides
  rw [runF_eq (n := 3) rfl]
  rw [show startW 11 [encS m n P, .int (m : Int), .int (n : Int)] = [some (encS m n P), some (.int (m : Int)), some (.int (n : Int)), none, none, none, none, none, none, none, none] from rfl]
  rw [then_next (ρ' := [some (encS m n P), some (.int (m : Int)), some (.int (n : Int)), none, none, none, none, none, none, none, none]) (t' := none) (by exact i_false (fs_test hm hn _ _ _ _ _ _ _ _))]
  have E0 : (sSet 3 (eCallB gTuple (eCons (eLc (sRng gRng1 (eCons (eBin wAdd (eVar 1) (eC (.int (1)))) eNil)) [8] (gN 8) etYes (eBin wMul (eTup (eCons (eC (.tuple [(.int (0)), (.int (1))])) eNil)) (eBin wAdd (eVar 2) (eC (.int (1)))))) eNil))) [some (encS m n P), some (.int (m : Int)), some (.int (n : Int)), none, none, none, none, none, none, none, none] none = .next [some (encS m n P), some (.int (m : Int)), some (.int (n : Int)), some (encT (tab m n (fsN m n P 0))), none, none, none, none, none, none, none] none := by
    refine x_set (e_callB (ws := [.list ((List.range (m + 1)).map fun i => encF (row n (fsN m n P 0 i)))]) (a_cons (e_lc (g_rng1 (n := m + 1) (a_cons (e_bin (e_var rfl) e_c rfl) a_nil) (by omega)) (by simp; omega) (lc_map _ _ _ fun k _ => ⟨_, rfl, ?_⟩)) a_nil) (by rw [tabT]; rfl))
    refine e_bin (e_tup (a_cons e_c a_nil) (by simp)) (e_bin (e_var rfl) e_c (w := .int ((n + 1 : Nat) : Int)) rfl) ?_
    rw [zeros, if_pos (by omega), ← row_zero]
    rfl
  rw [then_next E0]
  obtain ⟨ρ1, E1, x4, x5, x6, x7, x8, x9, x10, rfl⟩ := sfor_pred (t := none) (src := sEnum (eVar 0)) (g := (gTp (gsC (gN 4) (gsC (gN 5) gsN)))) (body := (sThen (sSet 6 (eCall ratios_divide (eCons (eTup (eCons (eBin wMul (eCall forms_choose (eCons (eVar 1) (eCons (eVar 4) eNil))) (eCall forms_choose (eCons (eVar 2) (eCons (eVar 4) eNil)))) (eCons (eC (.int (1))) eNil))) (eCons (eTup (eCons (eCall forms_choose (eCons (eBin wAdd (eBin wSub (eBin wAdd (eVar 1) (eVar 2)) (eVar 4)) (eC (.int (1)))) (eCons (eVar 4) eNil))) (eCons (eC (.int (1))) eNil))) eNil)))) (sThen (sSet 7 (eCall slides_times_bracket (eCons (eCall slides_polarized (eCons (eVar 5) (eCons (eBin wSub (eVar 2) (eVar 4)) eNil))) (eCons (eVar 4) eNil)))) (sSet 3 (eCall slides_add_doubles (eCons (eVar 3) (eCons (eCallB gTuple (eCons (eLc (sSeq (eVar 7)) [9] (gN 9) etYes (eCallB gTuple (eCons (eLc (sSeq (eVar 9)) [10] (gN 10) etYes (eCall ratios_multiply (eCons (eVar 6) (eCons (eVar 10) eNil)))) eNil))) eNil)) eNil))))))) (items := (List.range (min m n + 1)).map fun k : Nat => .tuple [.int (k : Int), encF (row (m + n - 2 * k) (P k))])
    (fun k ρ => ∃ x4 x5 x6 x7 x8 x9 x10 : Option W, ρ = [some (encS m n P), some (.int (m : Int)), some (.int (n : Int)), some (encT (tab m n (fsN m n P k))), x4, x5, x6, x7, x8, x9, x10])
    [some (encS m n P), some (.int (m : Int)), some (.int (n : Int)), some (encT (tab m n (fsN m n P 0))), none, none, none, none, none, none, none]
    (g_enum (e_var rfl) rfl) ⟨_, _, _, _, _, _, _, rfl⟩
    fun k wi ρ hwi ⟨x4, x5, x6, x7, x8, x9, x10, e⟩ => by
      subst e
      obtain ⟨hk, rfl⟩ := item_of hwi
      have hk' : k ≤ min m n := by omega
      have q1 : ratios_divide [.tuple [.int ((cb m k * cb n k : Nat) : Int), .int 1], .tuple [.int ((cb (m + n - k + 1) k : Nat) : Int), .int 1]] = .ok (enc (num m n k)) := by
        have b1 := (cbr_B (n := m) (k := k) (by omega) (by omega)).mul (cbr_B (n := n) (k := k) (by omega) (by omega))
        have b2 := cbr_B (n := m + n - k + 1) (k := k) (by omega) (by omega)
        have := ratios_divide_spec (b1.ok (by decide) (by decide)) (b2.ok (by decide) (by decide)) (cbr_ne (by omega) (by omega))
        rw [enc_cc, enc_cbr] at this
        exact this
      have q2 := polarized_spec (s' := m + n - 2 * k) (second := n - k) (f := P k) (fun r hr => hP k r hk' hr) (by omega) (by omega) (by omega) (by omega)
      rw [show m + n - 2 * k - (n - k) = m - k by omega] at q2
      have q3 := times_bracket_spec (c := k) (h := m - k) (w := n - k) (d := d + 1) (s := s + 14) (F := pz (m + n - 2 * k) (n - k) (P k)) (fun i j hi hj => pz_B (fun r hr => hP k r hk' hr) (by omega) (by omega) (by omega) (by omega)) (by omega) (by omega) (by omega) (by omega)
      rw [show m - k + k = m by omega, show n - k + k = n by omega] at q3
      have bt := fs_term hm hn hk' hP
      have q4 := add_doubles_spec (h := m) (w := n) (d := d + 2) (s := s + 40) (F := fsN m n P k) (G := fun a b => num m n k * tbN k (m - k) (n - k) (pz (m + n - 2 * k) (n - k) (P k)) a b) (fun i j hi hj => (fsN_B hm hn hP k (by omega) i j hi hj).mono (Nat.le_refl _) (by omega)) (fun i j hi hj => (bt i j hi hj).2.mono (Nat.le_refl _) (by omega)) (by omega) (by omega) (by omega) (by omega)
      have i1 := subI (a := m + n) (b := k) (by omega)
      have i2 := subI (a := n) (b := k) (by omega)
      have c1 := (cbN (n := m) (k := k) (by omega) (by omega)).2
      have c2 := (cbN (n := n) (k := k) (by omega) (by omega)).2
      have EE : (sThen (sSet 6 (eCall ratios_divide (eCons (eTup (eCons (eBin wMul (eCall forms_choose (eCons (eVar 1) (eCons (eVar 4) eNil))) (eCall forms_choose (eCons (eVar 2) (eCons (eVar 4) eNil)))) (eCons (eC (.int (1))) eNil))) (eCons (eTup (eCons (eCall forms_choose (eCons (eBin wAdd (eBin wSub (eBin wAdd (eVar 1) (eVar 2)) (eVar 4)) (eC (.int (1)))) (eCons (eVar 4) eNil))) (eCons (eC (.int (1))) eNil))) eNil)))) (sThen (sSet 7 (eCall slides_times_bracket (eCons (eCall slides_polarized (eCons (eVar 5) (eCons (eBin wSub (eVar 2) (eVar 4)) eNil))) (eCons (eVar 4) eNil)))) (sSet 3 (eCall slides_add_doubles (eCons (eVar 3) (eCons (eCallB gTuple (eCons (eLc (sSeq (eVar 7)) [9] (gN 9) etYes (eCallB gTuple (eCons (eLc (sSeq (eVar 9)) [10] (gN 10) etYes (eCall ratios_multiply (eCons (eVar 6) (eCons (eVar 10) eNil)))) eNil))) eNil)) eNil))))))
          [some (encS m n P), some (.int (m : Int)), some (.int (n : Int)), some (encT (tab m n (fsN m n P k))), some (.int (k : Int)), some (encF (row (m + n - 2 * k) (P k))), x6, x7, x8, x9, x10] none = .next [some (encS m n P), some (.int (m : Int)), some (.int (n : Int)), some (encT (tab m n (fsN m n P (k + 1)))), some (.int (k : Int)), some (encF (row (m + n - 2 * k) (P k))), some (enc (num m n k)), some (encT (tab m n (tbN k (m - k) (n - k) (pz (m + n - 2 * k) (n - k) (P k))))), x8, x9, x10] none := by
        rw [then_next (ρ' := [some (encS m n P), some (.int (m : Int)), some (.int (n : Int)), some (encT (tab m n (fsN m n P k))), some (.int (k : Int)), some (encF (row (m + n - 2 * k) (P k))), some (enc (num m n k)), x7, x8, x9, x10]) (t' := none) (by exact x_set (e_call (a_cons (e_tup (a_cons (e_bin (e_call (a_cons (e_var rfl) (a_cons (e_var rfl) a_nil)) (choose8 (by omega) (by omega))) (e_call (a_cons (e_var rfl) (a_cons (e_var rfl) a_nil)) (choose8 (by omega) (by omega))) (mulI (a := cb m k) (b := cb n k) (by omega) (by omega))) (a_cons e_c a_nil)) (by simp)) (a_cons (e_tup (a_cons (e_call (a_cons (e_bin (w := .int ((m + n - k + 1 : Nat) : Int)) (e_bin (w := .int ((m + n - k : Nat) : Int)) (e_bin (w := .int ((m + n : Nat) : Int)) (e_var rfl) (e_var rfl) rfl) (e_var rfl) i1) e_c rfl) (a_cons (e_var rfl) a_nil)) (chooseA hm hn hk')) (a_cons e_c a_nil)) (by simp)) a_nil)) q1))]
        rw [then_next (ρ' := [some (encS m n P), some (.int (m : Int)), some (.int (n : Int)), some (encT (tab m n (fsN m n P k))), some (.int (k : Int)), some (encF (row (m + n - 2 * k) (P k))), some (enc (num m n k)), some (encT (tab m n (tbN k (m - k) (n - k) (pz (m + n - 2 * k) (n - k) (P k))))), x8, x9, x10]) (t' := none) (by exact x_set (e_call (a_cons (e_call (a_cons (e_var rfl) (a_cons (e_bin (w := .int ((n - k : Nat) : Int)) (e_var rfl) (e_var rfl) i2) a_nil)) q2) (a_cons (e_var rfl) a_nil)) q3))]
        exact x_set (e_call (a_cons (e_var rfl) (a_cons (scale_comp (i := 7) (v := 9) (u := 10) (jn := 6) rfl (fun a b ha hb => ratios_multiply_spec ((numB hm hn hk').ok (by decide) (by decide)) ((bt a b ha hb).1.ok (by omega) (by omega))) (by omega) (by omega) (fun _ => rfl) (fun _ _ => rfl) (fun _ _ => rfl)) a_nil)) q4)
      exact ⟨_, _, rfl, EE, _, _, _, _, _, _, _, rfl⟩
  rw [then_next E1, List.length_map, List.length_range]
  exact fin_ret (e_var rfl)
end
end G

end

section
namespace G
open PySem Ev
section
variable {d s m n : Nat} {T : Nat → Nat → Rat}
/-! ### the slides of a table, by the program and by the law -/
theorem un_B (m k : Nat) : BF 0 0 (un m k) := by
  intro q hq
  obtain ⟨i, _, rfl⟩ := List.mem_map.mp hq
  by_cases h : i = k
  · rw [if_pos h]; exact B.one
  · rw [if_neg h]; exact B.zero
theorem row_BF {f : Nat → Rat} (hf : ∀ k, k ≤ m → B d s (f k)) : BF d s (row m f) := by
  intro q hq
  obtain ⟨i, hi, rfl⟩ := List.mem_map.mp hq
  exact hf i (by have := List.mem_range.mp hi; omega)
theorem sd_un (hT : ∀ k l, k ≤ m → l ≤ n → B d s (T k l)) (hm : m ≤ 8) (hn : n ≤ 8) (hd : d + 2 ≤ 99) (hs : s + 120 ≤ 1899) {c k : Nat} (hk : k ≤ m) (hc : c ≤ min m n) : Sd (un m k) (row n (T k)) 0 0 d s m n c :=
  sd8 (un_B m k) (row_BF fun l hl => hT k l hk hl) (un_len m k) (row_len n _) (by omega) (by omega) hm hn (by omega) (by omega)
/-- the sum up to the k-th row -/
def slN (m n : Nat) (T : Nat → Nat → Rat) (c k r : Nat) : Rat := Sg k fun k => (tv c (un m k) (row n (T k))).getD r 0
theorem tv_row {c k : Nat} (hk : k ≤ m) (hc : c ≤ min m n) : row (m + n - 2 * c) (fun r => (tv c (un m k) (row n (T k))).getD r 0) = tv c (un m k) (row n (T k)) :=
  row_self (by rw [tv_len (by rw [un_len]; omega) (by rw [row_len]; omega), un_len, row_len]; omega)
theorem slN_B (hT : ∀ k l, k ≤ m → l ≤ n → B d s (T k l)) (hm : m ≤ 8) (hn : n ≤ 8) (hd : d + 2 ≤ 99) (hs : s + 120 ≤ 1899) {c : Nat} (hc : c ≤ min m n) : ∀ k, k ≤ m + 1 → ∀ r, B (d + 2) (s + 102 + k) (slN m n T c k r)
  | 0, _, r => B.zero
  | k + 1, hk, r => by
    have b := (sd_un hT hm hn hd hs (show k ≤ m by omega) hc).res.get r
    exact B.add (slN_B hT hm hn hd hs hc k (by omega) r) (b.mono (by omega) (show _ ≤ s + 102 by omega)) (by omega) (by omega)
theorem sl_step (hT : ∀ k l, k ≤ m → l ≤ n → B d s (T k l)) (hm : m ≤ 8) (hn : n ≤ 8) (hd : d + 2 ≤ 99) (hs : s + 120 ≤ 1899) {c k : Nat} (hk : k ≤ m) (hc : c ≤ min m n) :
    law_plus [encF (row (m + n - 2 * c) (slN m n T c k)), encF (tv c (un m k) (row n (T k)))] = .ok (encF (row (m + n - 2 * c) (slN m n T c (k + 1)))) ∧ forms_add [encF (row (m + n - 2 * c) (slN m n T c k)), encF (tv c (un m k) (row n (T k)))] = .ok (encF (row (m + n - 2 * c) (slN m n T c (k + 1)))) := by
  have S := sd_un hT hm hn hd hs hk hc
  have b1 : BF (d + 2) (s + 102 + k) (row (m + n - 2 * c) (slN m n T c k)) := row_BF fun r _ => slN_B hT hm hn hd hs hc k (by omega) r
  have b2 : BF (d + 2) (s + 102) (tv c (un m k) (row n (T k))) := S.res.mono (by omega) (by omega)
  have l1 : (row (m + n - 2 * c) (slN m n T c k)).length = (tv c (un m k) (row n (T k))).length := by rw [row_len, S.len]
  have e : List.zipWith (· + ·) (row (m + n - 2 * c) (slN m n T c k)) (tv c (un m k) (row n (T k))) = row (m + n - 2 * c) (slN m n T c (k + 1)) := by
    rw [← tv_row hk hc, row_add]; rfl
  have h1 := add_L b1 b2 l1 (by rw [row_len]; omega) (by omega) (by omega) (by omega)
  have h2 := add_P b1 b2 l1 (by rw [row_len]; omega) (by omega) (by omega) (by omega)
  rw [e] at h1 h2
  exact ⟨h1, h2⟩
theorem unit_law {i x : Nat} {ρ : Sl} {A : Ex} {k : Nat} (hk : k ≤ m) (hm : m ≤ 100) (hA : A ρ none = .ok (.int ((m + 1 : Nat) : Int)) none) (h1 : ∀ w : W, ((wipeW ρ [x]).set x (some w))[x]? = some (some w)) (h2 : ∀ w : W, ((wipeW ρ [x]).set x (some w))[i]? = some (some (.int (k : Int)))) :
    eCallB gTuple (eCons (eLc (sRng gRng1 (eCons A eNil)) [x] (gN x) etYes (eTup (eCons (eIf (eTest (eBin wEq (eVar x) (eVar i))) (eC (.int (1))) (eC (.int (0)))) (eCons (eC (.int (1))) eNil)))) eNil) ρ none = .ok (encF (un m k)) none := by
  unfold un
  rw [rowT]
  refine e_callB (a_cons (e_lc (g_rng1 (n := m + 1) (a_cons hA a_nil) (by omega)) (by simp; omega) (lc_map _ (fun j => enc (if j = k then 1 else 0)) _ fun j hj => ⟨_, rfl, ?_⟩)) a_nil) rfl
  by_cases e : j = k
  · rw [if_pos e]
    exact e_tup (ws := [.int 1, .int 1]) (a_cons (e_ifT (t_test (e_bin (e_var (h1 _)) (e_var (h2 _)) (eqT (by omega)))) e_c) (a_cons e_c a_nil)) (by simp)
  · rw [if_neg e]
    exact e_tup (ws := [.int 0, .int 1]) (a_cons (e_ifF (t_test (e_bin (e_var (h1 _)) (e_var (h2 _)) (eqN (by omega)))) e_c) (a_cons e_c a_nil)) (by simp)
theorem unit_prog {i x : Nat} {ρ : Sl} {A : Ex} {k : Nat} (hk : k ≤ m) (hm : m ≤ 100) (hA : A ρ none = .ok (.int ((m + 1 : Nat) : Int)) none) (h1 : ∀ w : W, ((wipeW ρ [x]).set x (some w))[x]? = some (some w)) (h2 : ∀ w : W, ((wipeW ρ [x]).set x (some w))[i]? = some (some (.int (k : Int)))) :
    eCallB gTuple (eCons (eLc (sRng gRng1 (eCons A eNil)) [x] (gN x) etYes (eIf (eTest (eBin wEq (eVar x) (eVar i))) (eC (.tuple [(.int (1)), (.int (1))])) (eC (.tuple [(.int (0)), (.int (1))])))) eNil) ρ none = .ok (encF (un m k)) none := by
  unfold un
  rw [rowT]
  refine e_callB (a_cons (e_lc (g_rng1 (n := m + 1) (a_cons hA a_nil) (by omega)) (by simp; omega) (lc_map _ (fun j => enc (if j = k then 1 else 0)) _ fun j hj => ⟨_, rfl, ?_⟩)) a_nil) rfl
  by_cases e : j = k
  · rw [if_pos e]
    exact e_ifT (t_test (e_bin (e_var (h1 _)) (e_var (h2 _)) (eqT (by omega)))) e_c
  · rw [if_neg e]
    exact e_ifF (t_test (e_bin (e_var (h1 _)) (e_var (h2 _)) (eqN (by omega)))) e_c
theorem slN_full (c r : Nat) : slN m n T c (m + 1) r = slT m n T c r := rfl
theorem head_len : gLen [encT (tab m n T)] = some (.int ((m + 1 : Nat) : Int)) := encT_len m n T
theorem law_slides_spec (hT : ∀ k l, k ≤ m → l ≤ n → B d s (T k l)) (hm : m ≤ 8) (hn : n ≤ 8) (hd : d + 2 ≤ 99) (hs : s + 120 ≤ 1899) : law_slides [encT (tab m n T)] = .ok (encS m n (slT m n T)) := by
  unfold law_slides
  rw [runF_eq (n := 1) rfl]
  rw [show startW 9 [encT (tab m n T)] = [some (encT (tab m n T)), none, none, none, none, none, none, none, none] from rfl]
  rw [then_next (ρ' := [some (encT (tab m n T)), some (.int (m : Int)), some (.int (n : Int)), some (.list []), none, none, none, none, none]) (t' := none) (by exact x_par3 (e_bin (e_callB (a_cons (e_var rfl) a_nil) head_len) e_c (subI (a := m + 1) (b := 1) (by omega))) (e_bin (e_callB (a_cons (e_bin (e_var rfl) e_c (encT_at (k := 0) T (by omega))) a_nil) (rowF_len n _)) e_c (subI (a := n + 1) (b := 1) (by omega))) (e_lst a_nil (by simp)))]
  obtain ⟨ρ1, E1, x4, x5, x6, x7, x8, rfl⟩ := sfor_pred (t := none) (src := (sRng gRng1 (eCons (eBin wAdd (eCallB gMin2 (eCons (eVar 1) (eCons (eVar 2) eNil))) (eC (.int (1)))) eNil))) (g := gN 4) (body := (sThen (sSet 5 (eBin wMul (eTup (eCons (eTup (eCons (eC (.int (0))) (eCons (eC (.int (1))) eNil))) eNil)) (eBin wAdd (eBin wSub (eBin wAdd (eVar 1) (eVar 2)) (eBin wMul (eC (.int (2))) (eVar 4))) (eC (.int (1)))))) (sThen (sFor (sRng gRng1 (eCons (eBin wAdd (eVar 1) (eC (.int (1)))) eNil)) (gN 6) (sThen (sSet 7 (eCallB gTuple (eCons (eLc (sRng gRng1 (eCons (eBin wAdd (eVar 1) (eC (.int (1)))) eNil)) [8] (gN 8) etYes (eTup (eCons (eIf (eTest (eBin wEq (eVar 8) (eVar 6))) (eC (.int (1))) (eC (.int (0)))) (eCons (eC (.int (1))) eNil)))) eNil))) (sSet 5 (eCall law_plus (eCons (eVar 5) (eCons (eCall law_slide (eCons (eVar 7) (eCons (eBin wIdx (eVar 0) (eVar 6)) (eCons (eVar 4) eNil)))) eNil)))))) (sApp 3 (eVar 5))))) (items := (List.range (min m n + 1)).map fun i : Nat => (.int (i : Int) : W))
    (fun c ρ => ∃ x4 x5 x6 x7 x8 : Option W, ρ = [some (encT (tab m n T)), some (.int (m : Int)), some (.int (n : Int)), some (.list ((List.range c).map fun c => encF (row (m + n - 2 * c) (slT m n T c)))), x4, x5, x6, x7, x8])
    [some (encT (tab m n T)), some (.int (m : Int)), some (.int (n : Int)), some (.list []), none, none, none, none, none]
    (g_rng1 (n := min m n + 1) (a_cons (e_bin (e_callB (a_cons (e_var rfl) (a_cons (e_var rfl) a_nil)) (gMin2_nat m n)) e_c rfl) a_nil) (by omega)) ⟨_, _, _, _, _, rfl⟩
    fun c wi ρ hwi ⟨x4, x5, x6, x7, x8, e⟩ => by
      subst e
      obtain ⟨hc, rfl⟩ := item_of hwi
      have hc' : c ≤ min m n := by omega
      have EE : ∃ y6 y7 y8 : Option W, (sThen (sSet 5 (eBin wMul (eTup (eCons (eTup (eCons (eC (.int (0))) (eCons (eC (.int (1))) eNil))) eNil)) (eBin wAdd (eBin wSub (eBin wAdd (eVar 1) (eVar 2)) (eBin wMul (eC (.int (2))) (eVar 4))) (eC (.int (1)))))) (sThen (sFor (sRng gRng1 (eCons (eBin wAdd (eVar 1) (eC (.int (1)))) eNil)) (gN 6) (sThen (sSet 7 (eCallB gTuple (eCons (eLc (sRng gRng1 (eCons (eBin wAdd (eVar 1) (eC (.int (1)))) eNil)) [8] (gN 8) etYes (eTup (eCons (eIf (eTest (eBin wEq (eVar 8) (eVar 6))) (eC (.int (1))) (eC (.int (0)))) (eCons (eC (.int (1))) eNil)))) eNil))) (sSet 5 (eCall law_plus (eCons (eVar 5) (eCons (eCall law_slide (eCons (eVar 7) (eCons (eBin wIdx (eVar 0) (eVar 6)) (eCons (eVar 4) eNil)))) eNil)))))) (sApp 3 (eVar 5)))) [some (encT (tab m n T)), some (.int (m : Int)), some (.int (n : Int)), some (.list ((List.range c).map fun c => encF (row (m + n - 2 * c) (slT m n T c)))), some (.int (c : Int)), x5, x6, x7, x8] none = .next [some (encT (tab m n T)), some (.int (m : Int)), some (.int (n : Int)), some (.list ((List.range (c + 1)).map fun c => encF (row (m + n - 2 * c) (slT m n T c)))), some (.int (c : Int)), some (encF (row (m + n - 2 * c) (slT m n T c))), y6, y7, y8] none := by
        have i1 := subI (a := m + n) (b := 2 * c) (by omega)
        have z0 : wMul (.tuple [.tuple [.int 0, .int 1]]) (.int ((m + n - 2 * c + 1 : Nat) : Int)) = some (encF (row (m + n - 2 * c) (slN m n T c 0))) := by
          rw [zeros, if_pos (by omega), ← row_zero]; rfl
        rw [then_next (ρ' := [some (encT (tab m n T)), some (.int (m : Int)), some (.int (n : Int)), some (.list ((List.range c).map fun c => encF (row (m + n - 2 * c) (slT m n T c)))), some (.int (c : Int)), some (encF (row (m + n - 2 * c) (slN m n T c 0))), x6, x7, x8]) (t' := none) (by exact x_set (e_bin (e_tup (a_cons (e_tup (a_cons e_c (a_cons e_c a_nil)) (by simp)) a_nil) (by simp)) (e_bin (e_bin (e_bin (w := .int ((m + n : Nat) : Int)) (e_var rfl) (e_var rfl) rfl) (e_bin e_c (e_var rfl) (mul2 (by omega))) i1) e_c rfl) z0))]
        obtain ⟨ρ2, E2, y6, y7, y8, rfl⟩ := sfor_pred (t := none) (src := (sRng gRng1 (eCons (eBin wAdd (eVar 1) (eC (.int (1)))) eNil))) (g := gN 6) (body := (sThen (sSet 7 (eCallB gTuple (eCons (eLc (sRng gRng1 (eCons (eBin wAdd (eVar 1) (eC (.int (1)))) eNil)) [8] (gN 8) etYes (eTup (eCons (eIf (eTest (eBin wEq (eVar 8) (eVar 6))) (eC (.int (1))) (eC (.int (0)))) (eCons (eC (.int (1))) eNil)))) eNil))) (sSet 5 (eCall law_plus (eCons (eVar 5) (eCons (eCall law_slide (eCons (eVar 7) (eCons (eBin wIdx (eVar 0) (eVar 6)) (eCons (eVar 4) eNil)))) eNil)))))) (items := (List.range (m + 1)).map fun i : Nat => (.int (i : Int) : W))
          (fun k ρ => ∃ x6 x7 x8 : Option W, ρ = [some (encT (tab m n T)), some (.int (m : Int)), some (.int (n : Int)), some (.list ((List.range c).map fun c => encF (row (m + n - 2 * c) (slT m n T c)))), some (.int (c : Int)), some (encF (row (m + n - 2 * c) (slN m n T c k))), x6, x7, x8])
          [some (encT (tab m n T)), some (.int (m : Int)), some (.int (n : Int)), some (.list ((List.range c).map fun c => encF (row (m + n - 2 * c) (slT m n T c)))), some (.int (c : Int)), some (encF (row (m + n - 2 * c) (slN m n T c 0))), x6, x7, x8]
          (g_rng1 (n := m + 1) (a_cons (e_bin (e_var rfl) e_c rfl) a_nil) (by omega)) ⟨_, _, _, rfl⟩
          fun k wk ρ hwk ⟨x6, x7, x8, e⟩ => by
            subst e
            obtain ⟨hk, rfl⟩ := item_of hwk
            have S := sd_un hT hm hn hd hs (show k ≤ m by omega) hc'
            have E3 : (sThen (sSet 7 (eCallB gTuple (eCons (eLc (sRng gRng1 (eCons (eBin wAdd (eVar 1) (eC (.int (1)))) eNil)) [8] (gN 8) etYes (eTup (eCons (eIf (eTest (eBin wEq (eVar 8) (eVar 6))) (eC (.int (1))) (eC (.int (0)))) (eCons (eC (.int (1))) eNil)))) eNil))) (sSet 5 (eCall law_plus (eCons (eVar 5) (eCons (eCall law_slide (eCons (eVar 7) (eCons (eBin wIdx (eVar 0) (eVar 6)) (eCons (eVar 4) eNil)))) eNil))))) [some (encT (tab m n T)), some (.int (m : Int)), some (.int (n : Int)), some (.list ((List.range c).map fun c => encF (row (m + n - 2 * c) (slT m n T c)))), some (.int (c : Int)), some (encF (row (m + n - 2 * c) (slN m n T c k))), some (.int (k : Int)), x7, x8] none = .next [some (encT (tab m n T)), some (.int (m : Int)), some (.int (n : Int)), some (.list ((List.range c).map fun c => encF (row (m + n - 2 * c) (slT m n T c)))), some (.int (c : Int)), some (encF (row (m + n - 2 * c) (slN m n T c (k + 1)))), some (.int (k : Int)), some (encF (un m k)), x8] none := by
              rw [then_next (x_set (unit_law (m := m) (k := k) (by omega) (by omega) (e_bin (e_var rfl) e_c rfl) (fun _ => rfl) (fun _ => rfl)))]
              exact x_set (e_call (a_cons (e_var rfl) (a_cons (e_call (a_cons (e_var rfl) (a_cons (e_bin (e_var rfl) (e_var rfl) (encT_at T (by omega))) (a_cons (e_var rfl) a_nil))) (law_slide_spec S)) a_nil)) (sl_step hT hm hn hd hs (by omega) hc').1)
            exact ⟨_, _, rfl, E3, _, _, _, rfl⟩
        rw [then_next E2, List.length_map, List.length_range]
        refine ⟨y6, y7, y8, ?_⟩
        rw [x_app rfl (e_var rfl) (by simp; omega), range_snoc c fun c => encF (row (m + n - 2 * c) (slT m n T c))]
        rfl
      obtain ⟨y6, y7, y8, EE⟩ := EE
      exact ⟨_, _, rfl, EE, _, _, _, _, _, rfl⟩
  rw [then_next E1, List.length_map, List.length_range]
  exact fin_ret (e_callB (a_cons (e_var rfl) a_nil) rfl)
end
end G

end

section
namespace G
open PySem Ev
section
variable {d s m n : Nat} {T : Nat → Nat → Rat}
theorem any_row {ρ : Sl} (f : Nat → Rat) (hn : n ≤ 100) (h7 : ρ[7]? = some (some (encF (row n f)))) (h9 : ∀ w : W, ((wipeW ρ [9]).set 9 (some w))[9]? = some (some w)) : (eTest (eCallB gAny (eCons (eLc (sSeq (eVar 7)) [9] (gN 9) etYes (eBin wNe (eVar 9) (eC (.tuple [(.int (0)), (.int (1))])))) eNil))) ρ none = .ok ((List.range (n + 1)).any fun i => !decide (f i = 0)) none :=
  t_test (e_callB (a_cons (e_lc (g_seq (e_var h7) (seqR n f)) (by simp; omega) (lc_map (fun i => enc (f i)) (fun i => (.bool (!decide (f i = 0)) : W)) (List.range (n + 1)) fun i _ => ⟨_, rfl, e_bin (e_var (h9 _)) e_c (wNe_enc _ 0)⟩)) a_nil) (gAny_map _ _))
theorem slN_skip {c k : Nat} (hk : k ≤ m) (hc : c ≤ min m n) (h : ((List.range (n + 1)).any fun i => !decide (T k i = 0)) = false) : row (m + n - 2 * c) (slN m n T c (k + 1)) = row (m + n - 2 * c) (slN m n T c k) := by
  refine row_congr fun r _ => ?_
  have z : (tv c (un m k) (row n (T k))).getD r 0 = 0 := by
    rw [tv_lin (un_len m k) (by omega) (by omega)]
    refine Sg_zero' fun l hl => ?_
    have : T k l = 0 := by
      have := List.any_eq_false.mp h l (List.mem_range.mpr hl)
      simpa using this
    rw [this]; grind
  show slN m n T c k r + (tv c (un m k) (row n (T k))).getD r 0 = _
  rw [z]; grind
theorem slides_of_double_spec (hT : ∀ k l, k ≤ m → l ≤ n → B d s (T k l)) (hm : m ≤ 8) (hn : n ≤ 8) (hd : d + 2 ≤ 99) (hs : s + 120 ≤ 1899) : slides_slides_of_double [encT (tab m n T)] = .ok (encS m n (slT m n T)) := by
  unfold slides_slides_of_double
  rw [runF_eq (n := 1) rfl]
  rw [show startW 11 [encT (tab m n T)] = [some (encT (tab m n T)), none, none, none, none, none, none, none, none, none, none] from rfl]
  rw [then_next (ρ' := [some (encT (tab m n T)), some (.int (m : Int)), some (.int (n : Int)), none, none, none, none, none, none, none, none]) (t' := none) (by exact x_par2 (e_bin (e_callB (a_cons (e_var rfl) a_nil) head_len) e_c (subI (a := m + 1) (b := 1) (by omega))) (e_bin (e_callB (a_cons (e_bin (e_var rfl) e_c (encT_at (k := 0) T (by omega))) a_nil) (rowF_len n _)) e_c (subI (a := n + 1) (b := 1) (by omega))))]
  rw [then_next (ρ' := [some (encT (tab m n T)), some (.int (m : Int)), some (.int (n : Int)), some (.list []), none, none, none, none, none, none, none]) (t' := none) (by exact x_set (e_lst a_nil (by simp)))]
  obtain ⟨ρ1, E1, x4, x5, x6, x7, x8, x9, x10, rfl⟩ := sfor_pred (t := none) (src := (sRng gRng1 (eCons (eBin wAdd (eCallB gMin2 (eCons (eVar 1) (eCons (eVar 2) eNil))) (eC (.int (1)))) eNil))) (g := gN 4) (body := (sThen (sSet 5 (eCall forms_zero (eCons (eBin wSub (eBin wAdd (eVar 1) (eVar 2)) (eBin wMul (eC (.int (2))) (eVar 4))) eNil))) (sThen (sFor (sEnum (eVar 0)) (gTp (gsC (gN 6) (gsC (gN 7) gsN))) (sIf (eTest (eCallB gAny (eCons (eLc (sSeq (eVar 7)) [9] (gN 9) etYes (eBin wNe (eVar 9) (eC (.tuple [(.int (0)), (.int (1))])))) eNil))) (sThen (sSet 8 (eCallB gTuple (eCons (eLc (sRng gRng1 (eCons (eBin wAdd (eVar 1) (eC (.int (1)))) eNil)) [10] (gN 10) etYes (eIf (eTest (eBin wEq (eVar 10) (eVar 6))) (eC (.tuple [(.int (1)), (.int (1))])) (eC (.tuple [(.int (0)), (.int (1))])))) eNil))) (sSet 5 (eCall forms_add (eCons (eVar 5) (eCons (eCall slides_slide (eCons (eVar 8) (eCons (eVar 7) (eCons (eVar 4) eNil)))) eNil))))) sNext)) (sApp 3 (eVar 5))))) (items := (List.range (min m n + 1)).map fun i : Nat => (.int (i : Int) : W))
    (fun c ρ => ∃ x4 x5 x6 x7 x8 x9 x10 : Option W, ρ = [some (encT (tab m n T)), some (.int (m : Int)), some (.int (n : Int)), some (.list ((List.range c).map fun c => encF (row (m + n - 2 * c) (slT m n T c)))), x4, x5, x6, x7, x8, x9, x10])
    [some (encT (tab m n T)), some (.int (m : Int)), some (.int (n : Int)), some (.list []), none, none, none, none, none, none, none]
    (g_rng1 (n := min m n + 1) (a_cons (e_bin (e_callB (a_cons (e_var rfl) (a_cons (e_var rfl) a_nil)) (gMin2_nat m n)) e_c rfl) a_nil) (by omega)) ⟨_, _, _, _, _, _, _, rfl⟩
    fun c wi ρ hwi ⟨x4, x5, x6, x7, x8, x9, x10, e⟩ => by
      subst e
      obtain ⟨hc, rfl⟩ := item_of hwi
      have hc' : c ≤ min m n := by omega
      have EE : ∃ y6 y7 y8 y9 y10 : Option W, (sThen (sSet 5 (eCall forms_zero (eCons (eBin wSub (eBin wAdd (eVar 1) (eVar 2)) (eBin wMul (eC (.int (2))) (eVar 4))) eNil))) (sThen (sFor (sEnum (eVar 0)) (gTp (gsC (gN 6) (gsC (gN 7) gsN))) (sIf (eTest (eCallB gAny (eCons (eLc (sSeq (eVar 7)) [9] (gN 9) etYes (eBin wNe (eVar 9) (eC (.tuple [(.int (0)), (.int (1))])))) eNil))) (sThen (sSet 8 (eCallB gTuple (eCons (eLc (sRng gRng1 (eCons (eBin wAdd (eVar 1) (eC (.int (1)))) eNil)) [10] (gN 10) etYes (eIf (eTest (eBin wEq (eVar 10) (eVar 6))) (eC (.tuple [(.int (1)), (.int (1))])) (eC (.tuple [(.int (0)), (.int (1))])))) eNil))) (sSet 5 (eCall forms_add (eCons (eVar 5) (eCons (eCall slides_slide (eCons (eVar 8) (eCons (eVar 7) (eCons (eVar 4) eNil)))) eNil))))) sNext)) (sApp 3 (eVar 5)))) [some (encT (tab m n T)), some (.int (m : Int)), some (.int (n : Int)), some (.list ((List.range c).map fun c => encF (row (m + n - 2 * c) (slT m n T c)))), some (.int (c : Int)), x5, x6, x7, x8, x9, x10] none = .next [some (encT (tab m n T)), some (.int (m : Int)), some (.int (n : Int)), some (.list ((List.range (c + 1)).map fun c => encF (row (m + n - 2 * c) (slT m n T c)))), some (.int (c : Int)), some (encF (row (m + n - 2 * c) (slT m n T c))), y6, y7, y8, y9, y10] none := by
        have i1 := subI (a := m + n) (b := 2 * c) (by omega)
        have z0 := zero_spec (n := m + n - 2 * c) (by omega)
        rw [← row_zero] at z0
        rw [then_next (ρ' := [some (encT (tab m n T)), some (.int (m : Int)), some (.int (n : Int)), some (.list ((List.range c).map fun c => encF (row (m + n - 2 * c) (slT m n T c)))), some (.int (c : Int)), some (encF (row (m + n - 2 * c) (slN m n T c 0))), x6, x7, x8, x9, x10]) (t' := none) (by exact x_set (e_call (a_cons (e_bin (e_bin (w := .int ((m + n : Nat) : Int)) (e_var rfl) (e_var rfl) rfl) (e_bin e_c (e_var rfl) (mul2 (by omega))) i1) a_nil) z0))]
        obtain ⟨ρ2, E2, y6, y7, y8, y9, y10, rfl⟩ := sfor_pred (t := none) (src := sEnum (eVar 0)) (g := (gTp (gsC (gN 6) (gsC (gN 7) gsN)))) (body := (sIf (eTest (eCallB gAny (eCons (eLc (sSeq (eVar 7)) [9] (gN 9) etYes (eBin wNe (eVar 9) (eC (.tuple [(.int (0)), (.int (1))])))) eNil))) (sThen (sSet 8 (eCallB gTuple (eCons (eLc (sRng gRng1 (eCons (eBin wAdd (eVar 1) (eC (.int (1)))) eNil)) [10] (gN 10) etYes (eIf (eTest (eBin wEq (eVar 10) (eVar 6))) (eC (.tuple [(.int (1)), (.int (1))])) (eC (.tuple [(.int (0)), (.int (1))])))) eNil))) (sSet 5 (eCall forms_add (eCons (eVar 5) (eCons (eCall slides_slide (eCons (eVar 8) (eCons (eVar 7) (eCons (eVar 4) eNil)))) eNil))))) sNext)) (items := (List.range (m + 1)).map fun k : Nat => .tuple [.int (k : Int), encF (row n (T k))])
          (fun k ρ => ∃ x6 x7 x8 x9 x10 : Option W, ρ = [some (encT (tab m n T)), some (.int (m : Int)), some (.int (n : Int)), some (.list ((List.range c).map fun c => encF (row (m + n - 2 * c) (slT m n T c)))), some (.int (c : Int)), some (encF (row (m + n - 2 * c) (slN m n T c k))), x6, x7, x8, x9, x10])
          [some (encT (tab m n T)), some (.int (m : Int)), some (.int (n : Int)), some (.list ((List.range c).map fun c => encF (row (m + n - 2 * c) (slT m n T c)))), some (.int (c : Int)), some (encF (row (m + n - 2 * c) (slN m n T c 0))), x6, x7, x8, x9, x10]
          (g_enum (e_var rfl) (seqT m n T)) ⟨_, _, _, _, _, rfl⟩
          fun k wk ρ hwk ⟨x6, x7, x8, x9, x10, e⟩ => by
            subst e
            obtain ⟨hk, rfl⟩ := item_of hwk
            have S := sd_un hT hm hn hd hs (show k ≤ m by omega) hc'
            have E3 : ∃ y8 : Option W, (sIf (eTest (eCallB gAny (eCons (eLc (sSeq (eVar 7)) [9] (gN 9) etYes (eBin wNe (eVar 9) (eC (.tuple [(.int (0)), (.int (1))])))) eNil))) (sThen (sSet 8 (eCallB gTuple (eCons (eLc (sRng gRng1 (eCons (eBin wAdd (eVar 1) (eC (.int (1)))) eNil)) [10] (gN 10) etYes (eIf (eTest (eBin wEq (eVar 10) (eVar 6))) (eC (.tuple [(.int (1)), (.int (1))])) (eC (.tuple [(.int (0)), (.int (1))])))) eNil))) (sSet 5 (eCall forms_add (eCons (eVar 5) (eCons (eCall slides_slide (eCons (eVar 8) (eCons (eVar 7) (eCons (eVar 4) eNil)))) eNil))))) sNext) [some (encT (tab m n T)), some (.int (m : Int)), some (.int (n : Int)), some (.list ((List.range c).map fun c => encF (row (m + n - 2 * c) (slT m n T c)))), some (.int (c : Int)), some (encF (row (m + n - 2 * c) (slN m n T c k))), some (.int (k : Int)), some (encF (row n (T k))), x8, x9, x10] none = .next [some (encT (tab m n T)), some (.int (m : Int)), some (.int (n : Int)), some (.list ((List.range c).map fun c => encF (row (m + n - 2 * c) (slT m n T c)))), some (.int (c : Int)), some (encF (row (m + n - 2 * c) (slN m n T c (k + 1)))), some (.int (k : Int)), some (encF (row n (T k))), y8, x9, x10] none := by
              have a := any_row (ρ := [some (encT (tab m n T)), some (.int (m : Int)), some (.int (n : Int)), some (.list ((List.range c).map fun c => encF (row (m + n - 2 * c) (slT m n T c)))), some (.int (c : Int)), some (encF (row (m + n - 2 * c) (slN m n T c k))), some (.int (k : Int)), some (encF (row n (T k))), x8, x9, x10]) (T k) (by omega) rfl (fun _ => rfl)
              cases q : (List.range (n + 1)).any fun i => !decide (T k i = 0) with
              | false =>
                rw [q] at a
                refine ⟨x8, ?_⟩
                rw [i_false' a rfl, slN_skip (show k ≤ m by omega) hc' q]
                rfl
              | true =>
                rw [q] at a
                refine ⟨some (encF (un m k)), ?_⟩
                refine i_true' a ?_
                rw [then_next (x_set (unit_prog (m := m) (k := k) (by omega) (by omega) (e_bin (e_var rfl) e_c rfl) (fun _ => rfl) (fun _ => rfl)))]
                exact x_set (e_call (a_cons (e_var rfl) (a_cons (e_call (a_cons (e_var rfl) (a_cons (e_var rfl) (a_cons (e_var rfl) a_nil))) (slide12 S (by omega) (by omega))) a_nil)) (sl_step hT hm hn hd hs (by omega) hc').2)
            obtain ⟨y8, E3⟩ := E3
            exact ⟨_, _, rfl, E3, _, _, _, _, _, rfl⟩
        rw [then_next E2, List.length_map, List.length_range]
        refine ⟨y6, y7, y8, y9, y10, ?_⟩
        rw [x_app rfl (e_var rfl) (by simp; omega), range_snoc c fun c => encF (row (m + n - 2 * c) (slT m n T c))]
        rfl
      obtain ⟨y6, y7, y8, y9, y10, EE⟩ := EE
      exact ⟨_, _, rfl, EE, _, _, _, _, _, _, _, rfl⟩
  rw [then_next E1, List.length_map, List.length_range]
  exact fin_ret (e_callB (a_cons (e_var rfl) a_nil) rfl)
end
end G

end

section
namespace G
open PySem Ev
def lbBody : Sv := (sNest 24 (eRows (eLc (sRng gRng1 (eCons (eBin wAdd (eCallB gLen (eCons (eVar 22) eNil)) (eC (.int (1)))) eNil)) [17] (gN 17) etYes (eBin wMulL (eLst (eCons (eTup (eCons (eC (.int (0))) (eCons (eC (.int (1))) eNil))) eNil)) (eBin wAdd (eCallB gLen (eCons (eBin wIdx (eVar 22) (eC (.int (0)))) eNil)) (eC (.int (1))))))) (sFor (sRng gRng1 (eCons (eCallB gLen (eCons (eVar 22) eNil)) eNil)) (gN 17) (sFor (sRng gRng1 (eCons (eCallB gLen (eCons (eBin wIdx (eVar 22) (eC (.int (0)))) eNil)) eNil)) (gN 20) (sThen (sNPut (eVar 17) (eBin wAdd (eVar 20) (eC (.int (1)))) (eCall law_add (eCons (eNst (eVar 17) (eBin wAdd (eVar 20) (eC (.int (1))))) (eCons (eBin wIdx (eBin wIdx (eVar 22) (eVar 17)) (eVar 20)) eNil)))) (sNPut (eBin wAdd (eVar 17) (eC (.int (1)))) (eVar 20) (eCall law_add (eCons (eNst (eBin wAdd (eVar 17) (eC (.int (1)))) (eVar 20)) (eCons (eCall law_mul (eCons (eTup (eCons (eUn wNeg (eC (.int (1)))) (eCons (eC (.int (1))) eNil))) (eCons (eBin wIdx (eBin wIdx (eVar 22) (eVar 17)) (eVar 20)) eNil))) eNil))))))) (sSet 22 (eCallB gTuple (eCons (eLc (sSeq (eVar 24)) [27] (gN 27) etYes (eCallB gTuple (eCons (eVar 27) eNil))) eNil))))
section
variable {h w d s : Nat} {F : Nat → Nat → Rat}
theorem lb_step (hF : ∀ i j, i ≤ h → j ≤ w → B d s (F i j)) (hd : d ≤ 99) (hs : s + 2 ≤ 1899) (hh : h ≤ 100) (hw : w ≤ 100) (v0 v1 v2 v3 v4 v5 v6 v7 v8 v9 v10 v11 v12 v13 v14 v15 v16 v17 v18 v19 v20 v21 v23 v24 v25 v26 v27 v28 : Option W) :
    ∃ y17 y20 y24 : Option W, lbBody [v0, v1, v2, v3, v4, v5, v6, v7, v8, v9, v10, v11, v12, v13, v14, v15, v16, v17, v18, v19, v20, v21, some (encT (tab h w F)), v23, v24, v25, v26, v27, v28] none = .next [v0, v1, v2, v3, v4, v5, v6, v7, v8, v9, v10, v11, v12, v13, v14, v15, v16, y17, v18, v19, y20, v21, some (encT (tab (h + 1) (w + 1) (tb h w F))), v23, y24, v25, v26, v27, v28] none := by
  unfold lbBody
  have i0 := encT_at (h := h) (w := w) (k := 0) F (by omega)
  have E0 := zero_rows (v := 17) (ρ := [v0, v1, v2, v3, v4, v5, v6, v7, v8, v9, v10, v11, v12, v13, v14, v15, v16, v17, v18, v19, v20, v21, some (encT (tab h w F)), v23, v24, v25, v26, v27, v28]) (A := eBin wAdd (eCallB gLen (eCons (eVar 22) eNil)) (eC (.int (1)))) (B := eBin wAdd (eCallB gLen (eCons (eBin wIdx (eVar 22) (eC (.int (0)))) eNil)) (eC (.int (1)))) (Z := eTup (eCons (eC (.int (0))) (eCons (eC (.int (1))) eNil))) (h := h + 1) (w := w + 1) (e_bin (e_callB (a_cons (e_var rfl) a_nil) (encT_len h w F)) e_c rfl) (by omega) (by omega) (fun _ => e_tup (a_cons e_c (a_cons e_c a_nil)) (by simp)) (fun _ => e_bin (e_callB (a_cons (e_bin (e_var rfl) e_c i0) a_nil) (rowF_len w _)) e_c rfl)
  obtain ⟨ρ', t', E1, ⟨y17, y20, rfl⟩, rfl⟩ := sforT (t := some (encR (tab (h + 1) (w + 1) fun _ _ => 0))) (src := (sRng gRng1 (eCons (eCallB gLen (eCons (eVar 22) eNil)) eNil))) (g := gN 17) (body := (sFor (sRng gRng1 (eCons (eCallB gLen (eCons (eBin wIdx (eVar 22) (eC (.int (0)))) eNil)) eNil)) (gN 20) (sThen (sNPut (eVar 17) (eBin wAdd (eVar 20) (eC (.int (1)))) (eCall law_add (eCons (eNst (eVar 17) (eBin wAdd (eVar 20) (eC (.int (1))))) (eCons (eBin wIdx (eBin wIdx (eVar 22) (eVar 17)) (eVar 20)) eNil)))) (sNPut (eBin wAdd (eVar 17) (eC (.int (1)))) (eVar 20) (eCall law_add (eCons (eNst (eBin wAdd (eVar 17) (eC (.int (1)))) (eVar 20)) (eCons (eCall law_mul (eCons (eTup (eCons (eUn wNeg (eC (.int (1)))) (eCons (eC (.int (1))) eNil))) (eCons (eBin wIdx (eBin wIdx (eVar 22) (eVar 17)) (eVar 20)) eNil))) eNil))))))) (items := (List.range (h + 1)).map fun k : Nat => (.int (k : Int) : W))
    (fun k ρ t => (∃ x17 x20 : Option W, ρ = [v0, v1, v2, v3, v4, v5, v6, v7, v8, v9, v10, v11, v12, v13, v14, v15, v16, x17, v18, v19, x20, v21, some (encT (tab h w F)), v23, none, v25, v26, v27, v28]) ∧ t = some (encR (tab (h + 1) (w + 1) (comb (par w F k 0) (par w F k 0)))))
    [v0, v1, v2, v3, v4, v5, v6, v7, v8, v9, v10, v11, v12, v13, v14, v15, v16, v17, v18, v19, v20, v21, some (encT (tab h w F)), v23, none, v25, v26, v27, v28]
    (g_rng1 (a_cons (e_callB (a_cons (e_var rfl) a_nil) (encT_len h w F)) a_nil) (by omega)) ⟨⟨_, _, rfl⟩, by rw [par_zero]⟩
    fun k wi ρ t hwi ⟨⟨x17, x20, e⟩, et⟩ => by
      subst e; subst et
      obtain ⟨hk, rfl⟩ := item_of hwi
      obtain ⟨ρ2, t2, E2, ⟨z20, rfl⟩, rfl⟩ := sforT (t := some (encR (tab (h + 1) (w + 1) (comb (par w F k 0) (par w F k 0))))) (src := (sRng gRng1 (eCons (eCallB gLen (eCons (eBin wIdx (eVar 22) (eC (.int (0)))) eNil)) eNil))) (g := gN 20) (body := (sThen (sNPut (eVar 17) (eBin wAdd (eVar 20) (eC (.int (1)))) (eCall law_add (eCons (eNst (eVar 17) (eBin wAdd (eVar 20) (eC (.int (1))))) (eCons (eBin wIdx (eBin wIdx (eVar 22) (eVar 17)) (eVar 20)) eNil)))) (sNPut (eBin wAdd (eVar 17) (eC (.int (1)))) (eVar 20) (eCall law_add (eCons (eNst (eBin wAdd (eVar 17) (eC (.int (1)))) (eVar 20)) (eCons (eCall law_mul (eCons (eTup (eCons (eUn wNeg (eC (.int (1)))) (eCons (eC (.int (1))) eNil))) (eCons (eBin wIdx (eBin wIdx (eVar 22) (eVar 17)) (eVar 20)) eNil))) eNil)))))) (items := (List.range (w + 1)).map fun j : Nat => (.int (j : Int) : W))
        (fun j ρ t => (∃ x20 : Option W, ρ = [v0, v1, v2, v3, v4, v5, v6, v7, v8, v9, v10, v11, v12, v13, v14, v15, v16, some (.int (k : Int)), v18, v19, x20, v21, some (encT (tab h w F)), v23, none, v25, v26, v27, v28]) ∧ t = some (encR (tab (h + 1) (w + 1) (comb (par w F k j) (par w F k j)))))
        [v0, v1, v2, v3, v4, v5, v6, v7, v8, v9, v10, v11, v12, v13, v14, v15, v16, some (.int (k : Int)), v18, v19, x20, v21, some (encT (tab h w F)), v23, none, v25, v26, v27, v28]
        (g_rng1 (a_cons (e_callB (a_cons (e_bin (e_var rfl) e_c i0) a_nil) (rowF_len w _)) a_nil) (by omega)) ⟨⟨_, rfl⟩, rfl⟩
        fun j wj ρ t hwj ⟨⟨x20, e⟩, et⟩ => by
          subst e; subst et
          obtain ⟨hj, rfl⟩ := item_of hwj
          obtain ⟨_, _, q1, q2⟩ := br_item hF hd hs (show k ≤ h by omega) (show j ≤ w by omega)
          have q3 := law_mul_spec (show Ok (-1) from Bd.m1.ok (by decide) (by decide) (by decide)) ((hF k j (by omega) (by omega)).ok hd (by omega))
          rw [show (-1 : Rat) * F k j = -(F k j) by grind] at q3
          have i1 := encT_at (h := h) (w := w) (k := k) F (by omega)
          have i2 := rowF_at (w := w) (j := j) (F k) (by omega)
          refine ⟨[v0, v1, v2, v3, v4, v5, v6, v7, v8, v9, v10, v11, v12, v13, v14, v15, v16, some (.int (k : Int)), v18, v19, some (.int (j : Int)), v21, some (encT (tab h w F)), v23, none, v25, v26, v27, v28], [v0, v1, v2, v3, v4, v5, v6, v7, v8, v9, v10, v11, v12, v13, v14, v15, v16, some (.int (k : Int)), v18, v19, some (.int (j : Int)), v21, some (encT (tab h w F)), v23, none, v25, v26, v27, v28], _, rfl, ?_, ⟨_, rfl⟩, rfl⟩
          have n1 := nput_tab (H := h + 1) (W' := w + 1) (k := k) (j := j + 1) (comb (par w F k j) (par w F k j)) (comb (par w F k j) (par w F k j) k (j + 1) + F k j) (by omega) (by omega)
          rw [up_a] at n1
          have n2 := nput_tab (H := h + 1) (W' := w + 1) (k := k + 1) (j := j) (comb (par w F k (j + 1)) (par w F k j)) (comb (par w F k (j + 1)) (par w F k j) (k + 1) j + -(F k j)) (by omega) (by omega)
          rw [up_b] at n2
          rw [then_next (x_nput (k := .int (k : Int)) (j := .int ((j + 1 : Nat) : Int)) (t' := some (encR (tab (h + 1) (w + 1) (comb (par w F k (j + 1)) (par w F k j))))) (e_call (a_cons (e_nst (k := .int (k : Int)) (j := .int ((j + 1 : Nat) : Int)) (e_var rfl) (nrow_tab _ (by omega)) (e_bin (e_var rfl) e_c rfl) (nget_tab _ (by omega) (by omega))) (a_cons (e_bin (e_bin (e_var rfl) (e_var rfl) i1) (e_var rfl) i2) a_nil)) q1) (e_var rfl) (nrow_tab _ (by omega)) (e_bin (e_var rfl) e_c rfl) n1)]
          exact x_nput (k := .int ((k + 1 : Nat) : Int)) (j := .int (j : Int)) (e_call (a_cons (e_nst (k := .int ((k + 1 : Nat) : Int)) (j := .int (j : Int)) (e_bin (e_var rfl) e_c rfl) (nrow_tab _ (by omega)) (e_var rfl) (nget_tab _ (by omega) (by omega))) (a_cons (e_call (a_cons (e_tup (a_cons (e_un e_c rfl) (a_cons e_c a_nil)) (by simp)) (a_cons (e_bin (e_bin (e_var rfl) (e_var rfl) i1) (e_var rfl) i2) a_nil)) q3) a_nil)) q2) (e_bin (e_var rfl) e_c rfl) (nrow_tab _ (by omega)) (e_var rfl) n2
      refine ⟨[v0, v1, v2, v3, v4, v5, v6, v7, v8, v9, v10, v11, v12, v13, v14, v15, v16, some (.int (k : Int)), v18, v19, x20, v21, some (encT (tab h w F)), v23, none, v25, v26, v27, v28], _, _, rfl, E2, ⟨_, _, rfl⟩, ?_⟩
      rw [List.length_map, List.length_range, par_next]
  rw [x_nest (i := 24) (by simp) E0 (rowsW_enc _) E1]
  refine ⟨_, _, _, x_set (tup_rows (T := tab (h + 1) (w + 1) (tb h w F)) (by rw [tab_len]; omega) ?_ (fun _ => rfl))⟩
  rw [List.length_map, List.length_range, par_all]
  rfl
end
end G

end

section
namespace G
open PySem Ev
/-! ### equality of rows of forms -/
theorem eqv_encF (f g : List Rat) : PyData.eqv (encF f) (encF g) = decide (f = g) := by
  show PyData.eqvAll (f.map enc) (g.map enc) = _
  exact eqv_map eqv_enc f g
theorem lay_enc (x : Rat) : PyData.canLay0 (enc x) = true ∧ PyData.depth (enc x) ≤ 1 := ⟨rfl, Nat.le_refl _⟩
theorem shaped_tt (l : List (List Rat)) : SeqAt.shaped (.tuple (l.map encF)) = true := by
  refine shaped_tup 2 (by decide) fun f _ => ?_
  have h := lay_map enc 1 f fun x _ => lay_enc x
  refine ⟨?_, ?_⟩
  · show PyData.canLayAll0 (f.map enc) = true
    exact h.1
  · show PyData.depthAll (f.map enc) + 1 ≤ 2
    have := h.2
    omega
theorem neTT (l : List (List Rat)) : wNe (.tuple (l.map encF)) (.tuple (l.map encF)) = some (.bool false) := by
  unfold wNe
  rw [shaped_tt]
  show (if (true && true) = true then some (PyData.bool (!PyData.eqvAll (l.map encF) (l.map encF))) else none) = _
  rw [eqv_map eqv_encF]
  simp
theorem encS_list (m n : Nat) (P : Nat → Nat → Rat) : encS m n P = .tuple (((List.range (min m n + 1)).map fun c => row (m + n - 2 * c) (P c)).map encF) := by
  unfold encS
  rw [List.map_map]; rfl
theorem neS (m n : Nat) (P : Nat → Nat → Rat) : wNe (encS m n P) (encS m n P) = some (.bool false) := by
  rw [encS_list]; exact neTT _
theorem encS_congr {m n : Nat} {P P' : Nat → Nat → Rat} (h : ∀ c r, c ≤ min m n → r ≤ m + n - 2 * c → P c r = P' c r) : encS m n P = encS m n P' := by
  unfold encS
  congr 1
  exact List.map_congr_left fun c hc => by rw [row_congr fun r hr => h c r (by have := List.mem_range.mp hc; omega) hr]
theorem Pl_T {h w : Nat} (F : Nat → Nat → Rat) (k : Nat) (hh : h ≤ 500) (hw : w ≤ 500) : Pl (k + 4) (encT (tab h w F)) := by
  rw [tabT]
  refine Pl.tup (k + 3) (by simp; omega) fun x hx => ?_
  obtain ⟨i, _, rfl⟩ := List.mem_map.mp hx
  exact Pl.encF k (by rw [row_len]; omega)
theorem Pl_S {m n : Nat} (P : Nat → Nat → Rat) (k : Nat) (hm : m ≤ 200) (hn : n ≤ 200) : Pl (k + 4) (encS m n P) := by
  refine Pl.tup (k + 3) (by simp; omega) fun x hx => ?_
  obtain ⟨i, _, rfl⟩ := List.mem_map.mp hx
  exact Pl.encF k (by rw [row_len]; omega)
theorem Pl_two {a b : W} (k : Nat) (ha : Pl k a) (hb : Pl k b) : Pl (k + 1) (.tuple [a, b]) := Pl.tup k (by simp) fun x hx => by
  simp at hx
  rcases hx with rfl | rfl
  · exact ha
  · exact hb
/-! ### both letters the same -/
theorem V0 : allB 6 (fun s => allB (s + 1) fun t => allB (s + 1) fun r => decide ((Sg (s - t + 1) fun k => Sg (t + 1) fun j => if k + j = r then cbr (s - t) k * cbr t j else 0) = cbr s r)) = true := by decide +kernel
theorem fold_pz {s t r : Nat} (hs : s ≤ 5) (ht : t ≤ s) (hr : r ≤ s) (f : Nat → Rat) : (Sg (s - t + 1) fun k => Sg (t + 1) fun j => if k + j = r then pz s t f k j else 0) = f r := by
  have v := of_decide_eq_true (allB_ok (allB_ok (allB_ok V0 s (by omega)) t (by omega)) r (by omega))
  have e : (Sg (s - t + 1) fun k => Sg (t + 1) fun j => if k + j = r then pz s t f k j else 0) = f r / cbr s r * Sg (s - t + 1) fun k => Sg (t + 1) fun j => if k + j = r then cbr (s - t) k * cbr t j else 0 := by
    rw [← Sg_mul]
    refine Sg_congr fun k _ => ?_
    rw [← Sg_mul]
    refine Sg_congr fun j _ => ?_
    by_cases q : k + j = r
    · rw [if_pos q, if_pos q]
      unfold pz
      rw [q]
    · rw [if_neg q, if_neg q]; grind
  rw [e, v]
  have := cbr_ne (n := s) (k := r) (by omega) (by omega)
  grind
/-! ### the 0-th slide of a bracket's product -/
theorem W0 : allB 7 (fun m => allB 7 fun n => allB (m + 1) fun k => allB (n + 1) fun l => decide (tv 0 (un m k) (un n l) = row (m + n) fun r => if r = k + l then 1 else 0)) = true := by decide +kernel
theorem S1_zero {m n k l r : Nat} (hm : m ≤ 6) (hn : n ≤ 6) (hk : k ≤ m) (hl : l ≤ n) (hr : r ≤ m + n) : S1 m n 0 k l r = if r = k + l then 1 else 0 := by
  have h := of_decide_eq_true (allB_ok (allB_ok (allB_ok (allB_ok W0 m (by omega)) n (by omega)) k (by omega)) l (by omega))
  unfold S1
  rw [h, row_get _ hr]
theorem slT_tb {h w r : Nat} (hh : h ≤ 5) (hw : w ≤ 5) (hr : r ≤ h + 1 + (w + 1)) (F : Nat → Nat → Rat) : slT (h + 1) (w + 1) (tb h w F) 0 r = 0 := by
  rw [slT_S1 (by omega) (by omega)]
  have hD : ∀ q : Bool, (if q = true then (1 : Rat) else 0) = if q = true then 1 else 0 := fun _ => rfl
  have e1 : (Sg (h + 1 + 1) fun k => Sg (w + 1 + 1) fun l => tb h w F k l * S1 (h + 1) (w + 1) 0 k l r) = (Sg (h + 1 + 1) fun k => Sg (w + 1 + 1) fun l => (if 0 < l then cut h w F k (l - 1) else 0) * (if r = k + l then 1 else 0)) + (-1) * Sg (h + 1 + 1) fun k => Sg (w + 1 + 1) fun l => (if 0 < k then cut h w F (k - 1) l else 0) * (if r = k + l then 1 else 0) := by
    rw [← Sg_mul, ← Sg_add]
    refine Sg_congr fun k hk => ?_
    rw [← Sg_mul, ← Sg_add]
    refine Sg_congr fun l hl => ?_
    rw [S1_zero (by omega) (by omega) (by omega) (by omega) (by omega)]
    unfold tb comb
    grind
  have c1 : ∀ l, cut h w F (h + 1) l = 0 := fun l => by unfold cut; rw [if_neg (by omega)]
  have c2 : ∀ k, cut h w F k (w + 1) = 0 := fun k => by unfold cut; rw [if_neg (by omega)]
  have e2 : (Sg (h + 1 + 1) fun k => Sg (w + 1 + 1) fun l => (if 0 < l then cut h w F k (l - 1) else 0) * (if r = k + l then 1 else 0)) = Sg (h + 1) fun k => Sg (w + 1) fun l => cut h w F k l * (if r = k + l + 1 then 1 else 0) := by
    rw [Sg_succ, Sg_zero' (F := fun l => (if 0 < l then cut h w F (h + 1) (l - 1) else 0) * (if r = h + 1 + l then 1 else 0)) fun l _ => by rw [c1]; split <;> grind]
    rw [show ∀ x : Rat, x + 0 = x from fun x => by grind]
    refine Sg_congr fun k _ => ?_
    rw [Sg_first, if_neg (by omega)]
    rw [show ∀ x y : Rat, 0 * x + y = y from fun x y => by grind]
    refine Sg_congr fun l _ => ?_
    rw [if_pos (by omega), Nat.add_sub_cancel]
    rfl
  have e3 : (Sg (h + 1 + 1) fun k => Sg (w + 1 + 1) fun l => (if 0 < k then cut h w F (k - 1) l else 0) * (if r = k + l then 1 else 0)) = Sg (h + 1) fun k => Sg (w + 1) fun l => cut h w F k l * (if r = k + l + 1 then 1 else 0) := by
    rw [Sg_first, Sg_zero' (F := fun l => (if 0 < 0 then cut h w F (0 - 1) l else 0) * (if r = 0 + l then 1 else 0)) fun l _ => by rw [if_neg (by omega)]; grind]
    rw [show ∀ x : Rat, 0 + x = x from fun x => by grind]
    refine Sg_congr fun k _ => ?_
    rw [Sg_succ, if_pos (by omega), Nat.add_sub_cancel, c2]
    rw [show ∀ x y : Rat, x + 0 * y = x from fun x y => by grind]
    refine Sg_congr fun l _ => ?_
    rw [if_pos (by omega), show k + 1 + l = k + l + 1 by omega]
  rw [e1, e2, e3]
  grind
theorem slT_B {d s m n : Nat} {T : Nat → Nat → Rat} (hT : ∀ k l, k ≤ m → l ≤ n → B d s (T k l)) (hm : m ≤ 8) (hn : n ≤ 8) (hd : d + 2 ≤ 99) (hs : s + 120 ≤ 1899) {c : Nat} (hc : c ≤ min m n) (r : Nat) : B (d + 2) (s + 112) (slT m n T c r) :=
  (slN_B hT hm hn hd hs hc (m + 1) (Nat.le_refl _) r).mono (Nat.le_refl _) (by omega)
/-- the slides of two forms, as rows -/
theorem slides_S {m n : Nat} {f g : List Rat} (lf : f.length = m + 1) (lg : g.length = n + 1) : (.tuple ((List.range (min m n + 1)).map fun k => encF (tv k f g)) : W) = encS m n (slT m n fun i j => f.getD i 0 * g.getD j 0) := by
  unfold encS
  congr 1
  refine List.map_congr_left fun c hc => ?_
  have hc := List.mem_range.mp hc
  congr 1
  rw [row_congr fun r _ => slT_prod lf lg (show c ≤ m by omega) (show c ≤ n by omega) r]
  rw [row_self (by rw [tv_len (by omega) (by omega)]; omega)]
end G

end

section
namespace G
open PySem Ev
theorem sameW {w : W} (h : Pl 40 w) : law_same 40 [w, w] = .ok (.bool true) := law_same_spec 40 w h
theorem form_draw (rich : Int) (n : Nat) (hn : n ≤ 8) : ∃ f : Nat → Rat, law_form [.int rich, .int (n : Int)] = .ok (encF (row n f)) ∧ ∀ k, k ≤ n → B 1 2 (f k) := by
  obtain ⟨f, e, l, b⟩ := law_form_spec rich n hn
  refine ⟨fun k => f.getD k 0, by rw [row_self l]; exact e, fun k _ => ?_⟩
  exact BF.get (FB.drawn b) k
theorem slides_S' {m n : Nat} (f g : Nat → Rat) : (.tuple ((List.range (min m n + 1)).map fun k => encF (tv k (row m f) (row n g))) : W) = encS m n (slT m n fun i j => f i * g j) := by
  rw [slides_S (row_len m f) (row_len n g)]
  exact encS_congr fun c r _ _ => slT_congr (fun k l hk hl => by rw [row_get f hk, row_get g hl]) c r
theorem encS_0 {m n : Nat} (P : Nat → Nat → Rat) : wIdx (encS m n P) (.int 0) = some (encF (row (m + n) (P 0))) := by
  show L2.atI ((List.range (min m n + 1)).map fun c => encF (row (m + n - 2 * c) (P c))) ((0 : Nat) : Int) = _
  rw [at_nat (by simp), List.getElem?_map, List.getElem?_range (by omega)]; rfl
theorem from_slides_bad {l : List W} {m n : Nat} (hl : l.length = min m n + 2) : slides_from_slides [.tuple l, .int (m : Int), .int (n : Int)] = .exc X_BadForm := by
  unfold slides_from_slides
  rw [runF_eq (n := 3) rfl]
  have e : gLen [.tuple l] = some (.int ((min m n + 2 : Nat) : Int)) := by rw [← hl]; rfl
  refine congrArg (endF false) (then_exc (e := X_BadForm) (t' := none) ?_)
  exact i_true' (t_orT (t_test (e_bin (e_callB (a_cons (e_var rfl) a_nil) e) (e_bin (e_callB (a_cons (e_var rfl) (a_cons (e_var rfl) a_nil)) (gMin2_nat m n)) e_c rfl) (neqT (by omega))))) rfl
theorem polarized_bad (m : Nat) (f : Nat → Rat) : slides_polarized [encF (row m f), .int ((m + 1 : Nat) : Int)] = .exc X_BadNumber := by
  unfold slides_polarized
  rw [runF_eq (n := 2) rfl]
  rw [show startW 9 [encF (row m f), .int ((m + 1 : Nat) : Int)] = [some (encF (row m f)), some (.int ((m + 1 : Nat) : Int)), none, none, none, none, none, none, none] from rfl]
  rw [then_next (ρ' := [some (encF (row m f)), some (.int ((m + 1 : Nat) : Int)), some (.int (m : Int)), none, none, none, none, none, none]) (t' := none) (by exact x_set (e_call (a_cons (e_var rfl) a_nil) (row_order m f)))]
  refine congrArg (endF false) (then_exc (e := X_BadNumber) (t' := none) ?_)
  exact i_true' (t_orF (t_not (v := true) (t_test (e_call (a_cons (e_var rfl) a_nil) (is_integer_int _)))) (t_orF (t_test (e_bin (e_var rfl) e_c (ltF (by omega)))) (t_test (e_bin (e_var rfl) (e_var rfl) (gtT (by omega)))))) rfl
theorem addS {m n : Nat} (P : Nat → Nat → Rat) (w : W) (hm : m ≤ 100) (hn : n ≤ 100) : ∃ l : List W, wAdd (encS m n P) (.tuple [w]) = some (.tuple l) ∧ l.length = min m n + 2 := by
  refine ⟨((List.range (min m n + 1)).map fun c => encF (row (m + n - 2 * c) (P c))) ++ [w], ?_, by simp⟩
  show (if ((List.range (min m n + 1)).map fun c => encF (row (m + n - 2 * c) (P c))).length + 1 ≤ 16777216 then some (PyData.tuple (((List.range (min m n + 1)).map fun c => encF (row (m + n - 2 * c) (P c))) ++ [w])) else none) = _
  rw [if_pos (by simp; omega)]
/-! ### the sum along the table's slants -/
def acc (t : Nat) (G : Nat → Nat → Rat) (k j r : Nat) : Rat := (Sg k fun k' => Sg (t + 1) fun j' => if k' + j' = r then G k' j' else 0) + Sg j fun j' => if k + j' = r then G k j' else 0
theorem acc_next (t : Nat) (G : Nat → Nat → Rat) (k : Nat) : acc t G k (t + 1) = acc t G (k + 1) 0 := by
  funext r
  unfold acc
  rw [Sg_succ k, Sg_zero]; grind
theorem acc_step (w t : Nat) (G : Nat → Nat → Rat) (k j : Nat) : (row w (acc t G k j)).set (k + j) (acc t G k j (k + j) + G k j) = row w (acc t G k (j + 1)) := by
  rw [row_set]
  refine row_congr fun b _ => ?_
  unfold acc
  rw [Sg_succ j]
  by_cases e : b = k + j
  · subst e
    rw [if_pos rfl, if_pos rfl]; grind
  · rw [if_neg e, if_neg (fun z => e z.symm)]; grind
theorem acc_B {d s t : Nat} {G : Nat → Nat → Rat} {h : Nat} (hG : ∀ k j, k ≤ h → j ≤ t → B d s (G k j)) (ht : t ≤ 14) (hh : h ≤ 14) {k j : Nat} (hk : k ≤ h) (hj : j ≤ t) (r : Nat) : B d (s + 9) (acc t G k j r) := by
  unfold acc
  have one : ∀ k j, k ≤ h → j ≤ t → B d s (if k + j = r then G k j else 0) := fun k j hk hj => by
    by_cases e : k + j = r
    · rw [if_pos e]; exact hG k j hk hj
    · rw [if_neg e]; exact B.zero
  have b1 := Sg_B' (fun k' => Sg (t + 1) fun j' => if k' + j' = r then G k' j' else 0) (d := d) (a := s + 4) (n := k) (fun i hi => Sg_B' (fun j' => if i + j' = r then G i j' else 0) (n := t + 1) (fun j hj => one i j (by omega) (by omega)) (by omega) (Nat.le_refl _)) (by omega) (Nat.le_refl _)
  have b2 := Sg_B' (fun j' => if k + j' = r then G k j' else 0) (d := d) (a := s) (n := j) (fun i hi => one k i hk (by omega)) (by omega) (Nat.le_refl _)
  exact b1.add b2 (by omega) (by omega)
theorem fold_row {s t : Nat} (hs : s ≤ 5) (ht : t ≤ s) (f : Nat → Rat) : row s (acc t (pz s t f) (s - t + 1) 0) = row s f := by
  refine row_congr fun r hr => ?_
  unfold acc
  rw [fold_pz hs ht hr, Sg_zero]; grind
theorem acc_0 (w t : Nat) (G : Nat → Nat → Rat) : (List.replicate (w + 1) (0 : Rat)) = row w (acc t G 0 0) := by
  rw [← row_zero]
  refine row_congr fun r _ => ?_
  unfold acc
  rw [Sg_zero, Sg_zero]; grind
end G

end

section
namespace G
open PySem Ev

theorem law_holds (ns : List Int) (hl : ns.length ≤ 63) : law [.list (ns.map PyData.int)] = .ok (.bool true) := by
  obtain ⟨c0, hc0, k0⟩ := law_cell_spec ns hl 0
  obtain ⟨c1, hc1, k1⟩ := law_cell_spec ns hl 1
  obtain ⟨r1, hr1, _⟩ := law_rich_spec c0 0 k0 (by decide)
  obtain ⟨r2, hr2, _⟩ := law_rich_spec c1 1 k1 (by decide)
  generalize hS : (PyData.list (ns.map PyData.int) : W) = S at *
  rw [show ((0 : Nat) : Int) = 0 from rfl] at hc0 hr1
  rw [show ((1 : Nat) : Int) = 1 from rfl] at hc1 hr2
  obtain ⟨m, hm', em⟩ := md r1 5 (by decide)
  obtain ⟨n, hn', en⟩ := md r2 5 (by decide)
  have hm : m ≤ 4 := by omega
  have hn : n ≤ 4 := by omega
  unfold law
  rw [runF_eq (n := 1) rfl]
  rw [show startW 29 [S] = [some S, none, none, none, none, none, none, none, none, none, none, none, none, none, none, none, none, none, none, none, none, none, none, none, none, none, none, none, none] from rfl]
  rw [then_next (ρ' := [some S, some (.int (r1 : Int)), some (.int (r2 : Int)), none, none, none, none, none, none, none, none, none, none, none, none, none, none, none, none, none, none, none, none, none, none, none, none, none, none]) (t' := none) (by exact (x_asg (e_tup (a_cons (e_call (a_cons (e_scr rfl (a_cons e_c a_nil) hc0) (a_cons e_c a_nil)) hr1) (a_cons (e_call (a_cons (e_scr rfl (a_cons e_c a_nil) hc1) (a_cons e_c a_nil)) hr2) a_nil)) (by simp)) rfl))]
  rw [then_next (ρ' := [some S, some (.int (r1 : Int)), some (.int (r2 : Int)), some (.int (m : Int)), some (.int (n : Int)), none, none, none, none, none, none, none, none, none, none, none, none, none, none, none, none, none, none, none, none, none, none, none, none]) (t' := none) (by exact (x_asg (e_tup (a_cons (e_bin (e_var rfl) e_c em) (a_cons (e_bin (e_var rfl) e_c en) a_nil)) (by simp)) rfl))]
  obtain ⟨f, ef, bf⟩ := form_draw (((r1 : Int)).fdiv 5) m (by omega)
  obtain ⟨g, eg, bg⟩ := form_draw (((r2 : Int)).fdiv 5) n (by omega)
  rw [then_next (ρ' := [some S, some (.int (r1 : Int)), some (.int (r2 : Int)), some (.int (m : Int)), some (.int (n : Int)), some (encF (row m f)), some (encF (row n g)), none, none, none, none, none, none, none, none, none, none, none, none, none, none, none, none, none, none, none, none, none, none]) (t' := none) (by exact (x_asg (e_tup (a_cons (e_call (a_cons (e_bin (e_var rfl) e_c (dv _ 5 (by decide) (by decide))) (a_cons (e_var rfl) a_nil)) ef) (a_cons (e_call (a_cons (e_bin (e_var rfl) e_c (dv _ 5 (by decide) (by decide))) (a_cons (e_var rfl) a_nil)) eg) a_nil)) (by simp)) rfl))]
  have mulfg : ∀ a b, a ≤ m → b ≤ n → law_mul [enc (f a), enc (g b)] = .ok (enc (f a * g b)) := fun a b ha hb => law_mul_spec ((bf a ha).ok (by decide) (by decide)) ((bg b hb).ok (by decide) (by decide))
  rw [then_next (ρ' := [some S, some (.int (r1 : Int)), some (.int (r2 : Int)), some (.int (m : Int)), some (.int (n : Int)), some (encF (row m f)), some (encF (row n g)), some (encT (tab m n fun a b => f a * g b)), none, none, none, none, none, none, none, none, none, none, none, none, none, none, none, none, none, none, none, none, none]) (t' := none) (by exact (x_set (dbl_comp (i := 5) (j := 6) (x := 25) (y := 26) rfl (by decide) mulfg (by omega) (by omega) (fun _ => rfl) (fun _ _ => rfl) (fun _ _ => rfl))))]
  have SD : ∀ k, k ≤ min m n → Sd (row m f) (row n g) 1 2 1 2 m n k := fun k hk => sd8 (row_BF bf) (row_BF bg) (row_len m f) (row_len n g) (by omega) (by omega) (by omega) (by omega) (by decide) (by omega)
  have as := all_slides_spec SD (by omega) (by omega)
  rw [slides_S'] at as
  rw [then_next (ρ' := [some S, some (.int (r1 : Int)), some (.int (r2 : Int)), some (.int (m : Int)), some (.int (n : Int)), some (encF (row m f)), some (encF (row n g)), some (encT (tab m n fun a b => f a * g b)), some (encS m n (slT m n fun a b => f a * g b)), none, none, none, none, none, none, none, none, none, none, none, none, none, none, none, none, none, none, none, none]) (t' := none) (by exact (x_set (e_call (a_cons (e_var rfl) (a_cons (e_var rfl) a_nil)) as)))]
  have bT : ∀ k l, k ≤ m → l ≤ n → B 2 4 (f k * g l) := fun k l hk hl => (bf k hk).mul (bg l hl)
  have fs1 := from_slides_spec (m := m) (n := n) (d := 4) (s := 116) (P := slT m n fun a b => f a * g b) hm hn (fun c r hc _ => slT_B bT (by omega) (by omega) (by decide) (by decide) hc r) (by decide) (by decide)
  rw [tab_congr fun i j hi hj => fs_sl hm hn hi hj _] at fs1
  have db1 := double_of_spec bf bg (by decide) (by decide) (by decide) (by decide) (show m ≤ 100 by omega) (show n ≤ 100 by omega)
  rw [then_next (ρ' := [some S, some (.int (r1 : Int)), some (.int (r2 : Int)), some (.int (m : Int)), some (.int (n : Int)), some (encF (row m f)), some (encF (row n g)), some (encT (tab m n fun a b => f a * g b)), some (encS m n (slT m n fun a b => f a * g b)), none, none, none, none, none, none, none, none, none, none, none, none, none, none, none, none, none, none, none, none]) (t' := none) (by exact (i_false (t_not (v := true) (t_test (e_call (a_cons (e_tup (a_cons (e_call (a_cons (e_var rfl) (a_cons (e_var rfl) a_nil)) db1) (a_cons (e_call (a_cons (e_var rfl) (a_cons (e_var rfl) (a_cons (e_var rfl) a_nil))) fs1) a_nil)) (by simp)) (a_cons (e_tup (a_cons (e_var rfl) (a_cons (e_var rfl) a_nil)) (by simp)) a_nil)) (sameW (Pl_two 39 (Pl_T _ 35 (by omega) (by omega)) (Pl_T _ 35 (by omega) (by omega)))))))))]
  have drawD : ∀ k : Nat, ∃ D : Nat → Rat, law_form [.int (((r1 : Int)).fdiv ((3 + 2 * k : Nat) : Int) + (r2 : Int)), .int (n : Int)] = .ok (encF (row n D)) ∧ ∀ l, l ≤ n → B 1 2 (D l) := fun k => form_draw _ n (by omega)
  let D : Nat → Nat → Rat := fun k => (drawD k).choose
  have eD : ∀ k : Nat, law_form [.int (((r1 : Int)).fdiv ((3 + 2 * k : Nat) : Int) + (r2 : Int)), .int (n : Int)] = .ok (encF (row n (D k))) := fun k => (drawD k).choose_spec.1
  have bD : ∀ k l, k ≤ m → l ≤ n → B 1 2 (D k l) := fun k l _ hl => (drawD k).choose_spec.2 l hl
  clear_value D
  have E9 : (eCallB gTuple (eCons (eLc (sRng gRng1 (eCons (eBin wAdd (eVar 3) (eC (.int (1)))) eNil)) [17] (gN 17) etYes (eCall law_form (eCons (eBin wAdd (eBin wFdiv (eVar 1) (eBin wAdd (eC (.int (3))) (eBin wMul (eC (.int (2))) (eVar 17)))) (eVar 2)) (eCons (eVar 4) eNil)))) eNil)) [some S, some (.int (r1 : Int)), some (.int (r2 : Int)), some (.int (m : Int)), some (.int (n : Int)), some (encF (row m f)), some (encF (row n g)), some (encT (tab m n fun a b => f a * g b)), some (encS m n (slT m n fun a b => f a * g b)), none, none, none, none, none, none, none, none, none, none, none, none, none, none, none, none, none, none, none, none] none = .ok (encT (tab m n D)) none := by
    rw [tabT m n D]
    refine e_callB (a_cons (e_lc (g_rng1 (n := m + 1) (a_cons (e_bin (e_var rfl) e_c rfl) a_nil) (by omega)) (by simp; omega) (lc_map _ (fun i => encF (row n (D i))) _ fun k hk => ⟨_, rfl, ?_⟩)) a_nil) rfl
    have hk := List.mem_range.mp hk
    exact e_call (a_cons (e_bin (e_bin (e_var rfl) (e_bin (w := .int ((3 + 2 * k : Nat) : Int)) e_c (e_bin e_c (e_var rfl) (mul2 (by omega))) rfl) (dv _ (3 + 2 * k) (by omega) (by omega))) (e_var rfl) rfl) (a_cons (e_var rfl) a_nil)) (eD k)
  rw [then_next (ρ' := [some S, some (.int (r1 : Int)), some (.int (r2 : Int)), some (.int (m : Int)), some (.int (n : Int)), some (encF (row m f)), some (encF (row n g)), some (encT (tab m n fun a b => f a * g b)), some (encS m n (slT m n fun a b => f a * g b)), some (encT (tab m n D)), none, none, none, none, none, none, none, none, none, none, none, none, none, none, none, none, none, none, none]) (t' := none) (by exact (x_set E9))]
  have ls1 := law_slides_spec (m := m) (n := n) bD (by omega) (by omega) (by decide) (by decide)
  rw [then_next (ρ' := [some S, some (.int (r1 : Int)), some (.int (r2 : Int)), some (.int (m : Int)), some (.int (n : Int)), some (encF (row m f)), some (encF (row n g)), some (encT (tab m n fun a b => f a * g b)), some (encS m n (slT m n fun a b => f a * g b)), some (encT (tab m n D)), some (encS m n (slT m n D)), none, none, none, none, none, none, none, none, none, none, none, none, none, none, none, none, none, none]) (t' := none) (by exact (x_set (e_call (a_cons (e_var rfl) a_nil) ls1)))]
  have sd1 := slides_of_double_spec (m := m) (n := n) bD (by omega) (by omega) (by decide) (by decide)
  have fs2 := from_slides_spec (m := m) (n := n) (d := 3) (s := 114) (P := slT m n D) hm hn (fun c r hc _ => slT_B bD (by omega) (by omega) (by decide) (by decide) hc r) (by decide) (by decide)
  rw [tab_congr fun i j hi hj => fs_sl hm hn hi hj D] at fs2
  rw [then_next (ρ' := [some S, some (.int (r1 : Int)), some (.int (r2 : Int)), some (.int (m : Int)), some (.int (n : Int)), some (encF (row m f)), some (encF (row n g)), some (encT (tab m n fun a b => f a * g b)), some (encS m n (slT m n fun a b => f a * g b)), some (encT (tab m n D)), some (encS m n (slT m n D)), none, none, none, none, none, none, none, none, none, none, none, none, none, none, none, none, none, none]) (t' := none) (by exact (i_false (t_not (v := true) (t_test (e_call (a_cons (e_tup (a_cons (e_call (a_cons (e_var rfl) a_nil) sd1) (a_cons (e_call (a_cons (e_var rfl) (a_cons (e_var rfl) (a_cons (e_var rfl) a_nil))) fs2) a_nil)) (by simp)) (a_cons (e_tup (a_cons (e_var rfl) (a_cons (e_var rfl) a_nil)) (by simp)) a_nil)) (sameW (Pl_two 39 (Pl_S _ 35 (by omega) (by omega)) (Pl_T _ 35 (by omega) (by omega)))))))))]
  have drawF : ∀ k : Nat, ∃ D : Nat → Rat, law_form [.int (((r2 : Int)).fdiv ((3 + 2 * k : Nat) : Int) + ((r1 : Int)).fdiv 7), .int ((m + n - 2 * k : Nat) : Int)] = .ok (encF (row (m + n - 2 * k) D)) ∧ ∀ l, l ≤ m + n - 2 * k → B 1 2 (D l) := fun k => form_draw _ _ (by omega)
  let R : Nat → Nat → Rat := fun k => (drawF k).choose
  have eR : ∀ k : Nat, law_form [.int (((r2 : Int)).fdiv ((3 + 2 * k : Nat) : Int) + ((r1 : Int)).fdiv 7), .int ((m + n - 2 * k : Nat) : Int)] = .ok (encF (row (m + n - 2 * k) (R k))) := fun k => (drawF k).choose_spec.1
  have bR : ∀ c r, c ≤ min m n → r ≤ m + n - 2 * c → B 1 2 (R c r) := fun c r _ hr => (drawF c).choose_spec.2 r hr
  clear_value R
  have E11 : (eCallB gTuple (eCons (eLc (sRng gRng1 (eCons (eBin wAdd (eCallB gMin2 (eCons (eVar 3) (eCons (eVar 4) eNil))) (eC (.int (1)))) eNil)) [17] (gN 17) etYes (eCall law_form (eCons (eBin wAdd (eBin wFdiv (eVar 2) (eBin wAdd (eC (.int (3))) (eBin wMul (eC (.int (2))) (eVar 17)))) (eBin wFdiv (eVar 1) (eC (.int (7))))) (eCons (eBin wSub (eBin wAdd (eVar 3) (eVar 4)) (eBin wMul (eC (.int (2))) (eVar 17))) eNil)))) eNil)) [some S, some (.int (r1 : Int)), some (.int (r2 : Int)), some (.int (m : Int)), some (.int (n : Int)), some (encF (row m f)), some (encF (row n g)), some (encT (tab m n fun a b => f a * g b)), some (encS m n (slT m n fun a b => f a * g b)), some (encT (tab m n D)), some (encS m n (slT m n D)), none, none, none, none, none, none, none, none, none, none, none, none, none, none, none, none, none, none] none = .ok (encS m n R) none := by
    refine e_callB (a_cons (e_lc (g_rng1 (n := min m n + 1) (a_cons (e_bin (e_callB (a_cons (e_var rfl) (a_cons (e_var rfl) a_nil)) (gMin2_nat m n)) e_c rfl) a_nil) (by omega)) (by simp; omega) (lc_map _ (fun c => encF (row (m + n - 2 * c) (R c))) _ fun k hk => ⟨_, rfl, ?_⟩)) a_nil) rfl
    have hk := List.mem_range.mp hk
    have i1 := subI (a := m + n) (b := 2 * k) (by omega)
    exact e_call (a_cons (e_bin (e_bin (e_var rfl) (e_bin (w := .int ((3 + 2 * k : Nat) : Int)) e_c (e_bin e_c (e_var rfl) (mul2 (by omega))) rfl) (dv _ (3 + 2 * k) (by omega) (by omega))) (e_bin (e_var rfl) e_c (dv _ 7 (by decide) (by decide))) rfl) (a_cons (e_bin (e_bin (w := .int ((m + n : Nat) : Int)) (e_var rfl) (e_var rfl) rfl) (e_bin e_c (e_var rfl) (mul2 (by omega))) i1) a_nil)) (eR k)
  rw [then_next (ρ' := [some S, some (.int (r1 : Int)), some (.int (r2 : Int)), some (.int (m : Int)), some (.int (n : Int)), some (encF (row m f)), some (encF (row n g)), some (encT (tab m n fun a b => f a * g b)), some (encS m n (slT m n fun a b => f a * g b)), some (encT (tab m n D)), some (encS m n (slT m n D)), some (encS m n R), none, none, none, none, none, none, none, none, none, none, none, none, none, none, none, none, none]) (t' := none) (by exact (x_set E11))]
  have fs3 := from_slides_spec (m := m) (n := n) (d := 1) (s := 2) (P := R) hm hn bR (by decide) (by decide)
  have ls3 := law_slides_spec (m := m) (n := n) (d := 3) (s := 42) (T := fs m n R) (fun k l hk hl => fs_B hm hn bR k l hk hl) (by omega) (by omega) (by decide) (by decide)
  rw [encS_congr fun c r hc hr => slT_fs hm hn hc hr R] at ls3
  rw [then_next (ρ' := [some S, some (.int (r1 : Int)), some (.int (r2 : Int)), some (.int (m : Int)), some (.int (n : Int)), some (encF (row m f)), some (encF (row n g)), some (encT (tab m n fun a b => f a * g b)), some (encS m n (slT m n fun a b => f a * g b)), some (encT (tab m n D)), some (encS m n (slT m n D)), some (encS m n R), none, none, none, none, none, none, none, none, none, none, none, none, none, none, none, none, none]) (t' := none) (by exact (i_false (t_test (e_bin (e_call (a_cons (e_call (a_cons (e_var rfl) (a_cons (e_var rfl) (a_cons (e_var rfl) a_nil))) fs3) a_nil) ls3) (e_var rfl) (neS m n R)))))]
  obtain ⟨z, ez, bz⟩ := form_draw (((r1 : Int)).fdiv 11) (1 + m) (by omega)
  obtain ⟨t, ht', et⟩ := md (((r2 : Int)).fdiv 7) (2 + m) (by omega)
  have ht : t ≤ 1 + m := by omega
  rw [then_next (ρ' := [some S, some (.int (r1 : Int)), some (.int (r2 : Int)), some (.int (m : Int)), some (.int (n : Int)), some (encF (row m f)), some (encF (row n g)), some (encT (tab m n fun a b => f a * g b)), some (encS m n (slT m n fun a b => f a * g b)), some (encT (tab m n D)), some (encS m n (slT m n D)), some (encS m n R), some (encF (row (1 + m) z)), some (.int (t : Int)), none, none, none, none, none, none, none, none, none, none, none, none, none, none, none]) (t' := none) (by exact (x_asg (e_tup (a_cons (e_call (a_cons (e_bin (e_var rfl) e_c (dv _ 11 (by decide) (by decide))) (a_cons (e_bin (w := .int ((1 + m : Nat) : Int)) e_c (e_bin (e_var rfl) e_c em) rfl) a_nil)) ez) (a_cons (e_bin (e_bin (e_var rfl) e_c (dv _ 7 (by decide) (by decide))) (e_bin (w := .int ((2 + m : Nat) : Int)) e_c (e_bin (e_var rfl) e_c em) rfl) et) a_nil)) (by simp)) rfl))]
  have po := polarized_spec (s' := 1 + m) (second := t) bz (by omega) ht (by decide) (by decide)
  have lz : eBin wSub (eCallB gLen (eCons (eVar 12) eNil)) (eC (.int (1))) [some S, some (.int (r1 : Int)), some (.int (r2 : Int)), some (.int (m : Int)), some (.int (n : Int)), some (encF (row m f)), some (encF (row n g)), some (encT (tab m n fun a b => f a * g b)), some (encS m n (slT m n fun a b => f a * g b)), some (encT (tab m n D)), some (encS m n (slT m n D)), some (encS m n R), some (encF (row (1 + m) z)), some (.int (t : Int)), none, none, none, none, none, none, none, none, none, none, none, none, none, none, none] none = .ok (.int ((1 + m : Nat) : Int)) none := e_bin (e_callB (a_cons (e_var rfl) a_nil) (rowF_len (1 + m) z)) e_c (subI (a := 1 + m + 1) (b := 1) (by omega))
  rw [then_next (ρ' := [some S, some (.int (r1 : Int)), some (.int (r2 : Int)), some (.int (m : Int)), some (.int (n : Int)), some (encF (row m f)), some (encF (row n g)), some (encT (tab m n fun a b => f a * g b)), some (encS m n (slT m n fun a b => f a * g b)), some (encT (tab m n D)), some (encS m n (slT m n D)), some (encS m n R), some (encF (row (1 + m) z)), some (.int (t : Int)), some (encT (tab (1 + m - t) t (pz (1 + m) t z))), some (.int ((1 + m : Nat) : Int)), none, none, none, none, none, none, none, none, none, none, none, none, none]) (t' := none) (by exact (x_asg (e_tup (a_cons (e_call (a_cons (e_var rfl) (a_cons (e_var rfl) a_nil)) po) (a_cons lz a_nil)) (by simp)) rfl))]
  rw [then_next (ρ' := [some S, some (.int (r1 : Int)), some (.int (r2 : Int)), some (.int (m : Int)), some (.int (n : Int)), some (encF (row m f)), some (encF (row n g)), some (encT (tab m n fun a b => f a * g b)), some (encS m n (slT m n fun a b => f a * g b)), some (encT (tab m n D)), some (encS m n (slT m n D)), some (encS m n R), some (encF (row (1 + m) z)), some (.int (t : Int)), some (encT (tab (1 + m - t) t (pz (1 + m) t z))), some (.int ((1 + m : Nat) : Int)), some (.list []), none, none, none, none, none, none, none, none, none, none, none, none]) (t' := none) (by exact (x_set (e_lst a_nil (by simp))))]
  have i0 := subI (a := 1 + m) (b := t) ht
  obtain ⟨ρ15, E15, x17, x18, rfl⟩ := sfor_pred (t := none) (src := (sRng gRng1 (eCons (eBin wAdd (eBin wSub (eVar 15) (eVar 13)) (eC (.int (1)))) eNil))) (g := (gN 17)) (body := (sThen (sSet 18 (eLc (sRng gRng1 (eCons (eBin wAdd (eVar 13) (eC (.int (1)))) eNil)) [20] (gN 20) etYes (eCall law_div (eCons (eBin wIdx (eVar 12) (eBin wAdd (eVar 17) (eVar 20))) (eCons (eTup (eCons (eCall law_choose (eCons (eVar 15) (eCons (eBin wAdd (eVar 17) (eVar 20)) eNil))) (eCons (eC (.int (1))) eNil))) eNil))))) (sApp 16 (eCallB gTuple (eCons (eLc (sRng gRng1 (eCons (eBin wAdd (eVar 13) (eC (.int (1)))) eNil)) [20] (gN 20) etYes (eCall law_mul (eCons (eBin wIdx (eVar 18) (eVar 20)) (eCons (eTup (eCons (eBin wMul (eCall law_choose (eCons (eBin wSub (eVar 15) (eVar 13)) (eCons (eVar 17) eNil))) (eCall law_choose (eCons (eVar 13) (eCons (eVar 20) eNil)))) (eCons (eC (.int (1))) eNil))) eNil)))) eNil))))) (items := (List.range (1 + m - t + 1)).map fun i : Nat => (.int (i : Int) : W))
    (fun k ρ => ∃ x17 x18 : Option W, ρ = [some S, some (.int (r1 : Int)), some (.int (r2 : Int)), some (.int (m : Int)), some (.int (n : Int)), some (encF (row m f)), some (encF (row n g)), some (encT (tab m n fun a b => f a * g b)), some (encS m n (slT m n fun a b => f a * g b)), some (encT (tab m n D)), some (encS m n (slT m n D)), some (encS m n R), some (encF (row (1 + m) z)), some (.int (t : Int)), some (encT (tab (1 + m - t) t (pz (1 + m) t z))), some (.int ((1 + m : Nat) : Int)), some (.list ((List.range k).map fun k => encF (row t (pz (1 + m) t z k)))), x17, x18, none, none, none, none, none, none, none, none, none, none])
    [some S, some (.int (r1 : Int)), some (.int (r2 : Int)), some (.int (m : Int)), some (.int (n : Int)), some (encF (row m f)), some (encF (row n g)), some (encT (tab m n fun a b => f a * g b)), some (encS m n (slT m n fun a b => f a * g b)), some (encT (tab m n D)), some (encS m n (slT m n D)), some (encS m n R), some (encF (row (1 + m) z)), some (.int (t : Int)), some (encT (tab (1 + m - t) t (pz (1 + m) t z))), some (.int ((1 + m : Nat) : Int)), some (.list []), none, none, none, none, none, none, none, none, none, none, none, none]
    (g_rng1 (n := 1 + m - t + 1) (a_cons (e_bin (e_bin (e_var rfl) (e_var rfl) i0) e_c rfl) a_nil) (by omega)) ⟨_, _, rfl⟩
    fun k wi ρ hwi ⟨x17, x18, e⟩ => by
      subst e
      obtain ⟨hk, rfl⟩ := item_of hwi
      have A1 : (eLc (sRng gRng1 (eCons (eBin wAdd (eVar 13) (eC (.int (1)))) eNil)) [20] (gN 20) etYes (eCall law_div (eCons (eBin wIdx (eVar 12) (eBin wAdd (eVar 17) (eVar 20))) (eCons (eTup (eCons (eCall law_choose (eCons (eVar 15) (eCons (eBin wAdd (eVar 17) (eVar 20)) eNil))) (eCons (eC (.int (1))) eNil))) eNil)))) [some S, some (.int (r1 : Int)), some (.int (r2 : Int)), some (.int (m : Int)), some (.int (n : Int)), some (encF (row m f)), some (encF (row n g)), some (encT (tab m n fun a b => f a * g b)), some (encS m n (slT m n fun a b => f a * g b)), some (encT (tab m n D)), some (encS m n (slT m n D)), some (encS m n R), some (encF (row (1 + m) z)), some (.int (t : Int)), some (encT (tab (1 + m - t) t (pz (1 + m) t z))), some (.int ((1 + m : Nat) : Int)), some (.list ((List.range k).map fun k => encF (row t (pz (1 + m) t z k)))), some (.int (k : Int)), x18, none, none, none, none, none, none, none, none, none, none] none = .ok (.list ((List.range (t + 1)).map fun j => enc (z (k + j) / cbr (1 + m) (k + j)))) none := by
        refine e_lc (g_rng1 (n := t + 1) (a_cons (e_bin (e_var rfl) e_c rfl) a_nil) (by omega)) (by simp; omega) (lc_map _ (fun j => enc (z (k + j) / cbr (1 + m) (k + j))) _ fun j hj => ⟨_, rfl, ?_⟩)
        have hj := List.mem_range.mp hj
        have q1 := law_div_spec ((bz (k + j) (by omega)).ok (by decide) (by decide)) ((cbr_B (n := 1 + m) (k := k + j) (by omega) (by omega)).ok (by decide) (by decide)) (cbr_ne (by omega) (by omega))
        rw [enc_cbr] at q1
        have i1 := rowF_at (w := 1 + m) (j := k + j) z (by omega)
        exact e_call (a_cons (e_bin (y := .int ((k + j : Nat) : Int)) (e_var rfl) (e_bin (e_var rfl) (e_var rfl) rfl) i1) (a_cons (e_tup (a_cons (e_call (a_cons (e_var rfl) (a_cons (e_bin (w := .int ((k + j : Nat) : Int)) (e_var rfl) (e_var rfl) rfl) a_nil)) (law_choose_spec (n := 1 + m) (k := k + j) (by omega) (by omega))) (a_cons e_c a_nil)) (by simp)) a_nil)) q1
      have A2 : (eCallB gTuple (eCons (eLc (sRng gRng1 (eCons (eBin wAdd (eVar 13) (eC (.int (1)))) eNil)) [20] (gN 20) etYes (eCall law_mul (eCons (eBin wIdx (eVar 18) (eVar 20)) (eCons (eTup (eCons (eBin wMul (eCall law_choose (eCons (eBin wSub (eVar 15) (eVar 13)) (eCons (eVar 17) eNil))) (eCall law_choose (eCons (eVar 13) (eCons (eVar 20) eNil)))) (eCons (eC (.int (1))) eNil))) eNil)))) eNil)) [some S, some (.int (r1 : Int)), some (.int (r2 : Int)), some (.int (m : Int)), some (.int (n : Int)), some (encF (row m f)), some (encF (row n g)), some (encT (tab m n fun a b => f a * g b)), some (encS m n (slT m n fun a b => f a * g b)), some (encT (tab m n D)), some (encS m n (slT m n D)), some (encS m n R), some (encF (row (1 + m) z)), some (.int (t : Int)), some (encT (tab (1 + m - t) t (pz (1 + m) t z))), some (.int ((1 + m : Nat) : Int)), some (.list ((List.range k).map fun k => encF (row t (pz (1 + m) t z k)))), some (.int (k : Int)), some (.list ((List.range (t + 1)).map fun j => enc (z (k + j) / cbr (1 + m) (k + j)))), none, none, none, none, none, none, none, none, none, none] none = .ok (encF (row t (pz (1 + m) t z k))) none := by
        rw [rowT t (pz (1 + m) t z k)]
        refine e_callB (a_cons (e_lc (g_rng1 (n := t + 1) (a_cons (e_bin (e_var rfl) e_c rfl) a_nil) (by omega)) (by simp; omega) (lc_map _ (fun j => enc (pz (1 + m) t z k j)) _ fun j hj => ⟨_, rfl, ?_⟩)) a_nil) rfl
        have hj := List.mem_range.mp hj
        have b1 := divB (bz (k + j) (by omega)) (n := 1 + m) (k := k + j) (by omega) (by omega)
        have b2 := (cbr_B (n := 1 + m - t) (k := k) (by omega) (by omega)).mul (cbr_B (n := t) (k := j) (by omega) (by omega))
        have q := law_mul_spec (b1.ok (by decide) (by decide)) (b2.ok (by decide) (by decide))
        rw [enc_cc] at q
        have c1 := (cbN (n := 1 + m - t) (k := k) (by omega) (by omega)).2
        have c2 := (cbN (n := t) (k := j) (by omega) (by omega)).2
        have i2 := mulI (a := cb (1 + m - t) k) (b := cb t j) (by omega) (by omega)
        have i1 : wIdx (.list ((List.range (t + 1)).map fun j => enc (z (k + j) / cbr (1 + m) (k + j)))) (.int (j : Int)) = some (enc (z (k + j) / cbr (1 + m) (k + j))) := by
          show L2.atI _ _ = _
          rw [at_nat (by simp; omega), List.getElem?_map, List.getElem?_range (by omega)]; rfl
        exact e_call (a_cons (e_bin (e_var rfl) (e_var rfl) i1) (a_cons (e_tup (a_cons (e_bin (e_call (a_cons (e_bin (e_var rfl) (e_var rfl) i0) (a_cons (e_var rfl) a_nil)) (law_choose_spec (by omega) (by omega))) (e_call (a_cons (e_var rfl) (a_cons (e_var rfl) a_nil)) (law_choose_spec (by omega) (by omega))) i2) (a_cons e_c a_nil)) (by simp)) a_nil)) q
      have EE : (sThen (sSet 18 (eLc (sRng gRng1 (eCons (eBin wAdd (eVar 13) (eC (.int (1)))) eNil)) [20] (gN 20) etYes (eCall law_div (eCons (eBin wIdx (eVar 12) (eBin wAdd (eVar 17) (eVar 20))) (eCons (eTup (eCons (eCall law_choose (eCons (eVar 15) (eCons (eBin wAdd (eVar 17) (eVar 20)) eNil))) (eCons (eC (.int (1))) eNil))) eNil))))) (sApp 16 (eCallB gTuple (eCons (eLc (sRng gRng1 (eCons (eBin wAdd (eVar 13) (eC (.int (1)))) eNil)) [20] (gN 20) etYes (eCall law_mul (eCons (eBin wIdx (eVar 18) (eVar 20)) (eCons (eTup (eCons (eBin wMul (eCall law_choose (eCons (eBin wSub (eVar 15) (eVar 13)) (eCons (eVar 17) eNil))) (eCall law_choose (eCons (eVar 13) (eCons (eVar 20) eNil)))) (eCons (eC (.int (1))) eNil))) eNil)))) eNil)))) [some S, some (.int (r1 : Int)), some (.int (r2 : Int)), some (.int (m : Int)), some (.int (n : Int)), some (encF (row m f)), some (encF (row n g)), some (encT (tab m n fun a b => f a * g b)), some (encS m n (slT m n fun a b => f a * g b)), some (encT (tab m n D)), some (encS m n (slT m n D)), some (encS m n R), some (encF (row (1 + m) z)), some (.int (t : Int)), some (encT (tab (1 + m - t) t (pz (1 + m) t z))), some (.int ((1 + m : Nat) : Int)), some (.list ((List.range k).map fun k => encF (row t (pz (1 + m) t z k)))), some (.int (k : Int)), x18, none, none, none, none, none, none, none, none, none, none] none = .next [some S, some (.int (r1 : Int)), some (.int (r2 : Int)), some (.int (m : Int)), some (.int (n : Int)), some (encF (row m f)), some (encF (row n g)), some (encT (tab m n fun a b => f a * g b)), some (encS m n (slT m n fun a b => f a * g b)), some (encT (tab m n D)), some (encS m n (slT m n D)), some (encS m n R), some (encF (row (1 + m) z)), some (.int (t : Int)), some (encT (tab (1 + m - t) t (pz (1 + m) t z))), some (.int ((1 + m : Nat) : Int)), some (.list ((List.range (k + 1)).map fun k => encF (row t (pz (1 + m) t z k)))), some (.int (k : Int)), some (.list ((List.range (t + 1)).map fun j => enc (z (k + j) / cbr (1 + m) (k + j)))), none, none, none, none, none, none, none, none, none, none] none := by
        rw [then_next (ρ' := [some S, some (.int (r1 : Int)), some (.int (r2 : Int)), some (.int (m : Int)), some (.int (n : Int)), some (encF (row m f)), some (encF (row n g)), some (encT (tab m n fun a b => f a * g b)), some (encS m n (slT m n fun a b => f a * g b)), some (encT (tab m n D)), some (encS m n (slT m n D)), some (encS m n R), some (encF (row (1 + m) z)), some (.int (t : Int)), some (encT (tab (1 + m - t) t (pz (1 + m) t z))), some (.int ((1 + m : Nat) : Int)), some (.list ((List.range k).map fun k => encF (row t (pz (1 + m) t z k)))), some (.int (k : Int)), some (.list ((List.range (t + 1)).map fun j => enc (z (k + j) / cbr (1 + m) (k + j)))), none, none, none, none, none, none, none, none, none, none]) (t' := none) (by exact x_set A1)]
        rw [x_app rfl A2 (by simp; omega), range_snoc k fun k => encF (row t (pz (1 + m) t z k))]
        rfl
      exact ⟨_, _, rfl, EE, _, _, rfl⟩
  rw [List.length_map, List.length_range] at E15
  rw [then_next E15]
  have tu16 : gTuple [.list ((List.range (1 + m - t + 1)).map fun k => encF (row t (pz (1 + m) t z k)))] = some (encT (tab (1 + m - t) t (pz (1 + m) t z))) := by rw [tabT]; rfl
  rw [then_next (ρ' := [some S, some (.int (r1 : Int)), some (.int (r2 : Int)), some (.int (m : Int)), some (.int (n : Int)), some (encF (row m f)), some (encF (row n g)), some (encT (tab m n fun a b => f a * g b)), some (encS m n (slT m n fun a b => f a * g b)), some (encT (tab m n D)), some (encS m n (slT m n D)), some (encS m n R), some (encF (row (1 + m) z)), some (.int (t : Int)), some (encT (tab (1 + m - t) t (pz (1 + m) t z))), some (.int ((1 + m : Nat) : Int)), some (.list ((List.range (1 + m - t + 1)).map fun k => encF (row t (pz (1 + m) t z k)))), x17, x18, none, none, none, none, none, none, none, none, none, none]) (t' := none) (by exact (i_false (t_not (v := true) (t_test (e_call (a_cons (e_var rfl) (a_cons (e_callB (a_cons (e_var rfl) a_nil) tu16) a_nil)) (sameW (Pl_T _ 36 (by omega) (by omega))))))))]
  have z19 : eBin wMulL (eLst (eCons (eTup (eCons (eC (.int (0))) (eCons (eC (.int (1))) eNil))) eNil)) (eBin wAdd (eVar 15) (eC (.int (1)))) [some S, some (.int (r1 : Int)), some (.int (r2 : Int)), some (.int (m : Int)), some (.int (n : Int)), some (encF (row m f)), some (encF (row n g)), some (encT (tab m n fun a b => f a * g b)), some (encS m n (slT m n fun a b => f a * g b)), some (encT (tab m n D)), some (encS m n (slT m n D)), some (encS m n R), some (encF (row (1 + m) z)), some (.int (t : Int)), some (encT (tab (1 + m - t) t (pz (1 + m) t z))), some (.int ((1 + m : Nat) : Int)), some (.list ((List.range (1 + m - t + 1)).map fun k => encF (row t (pz (1 + m) t z k)))), x17, x18, none, none, none, none, none, none, none, none, none, none] none = .ok (.list ((row (1 + m) (acc t (pz (1 + m) t z) 0 0)).map enc)) none := by
    rw [← acc_0]
    exact e_bin (e_lst (a_cons (e_tup (a_cons e_c (a_cons e_c a_nil)) (by simp)) a_nil) (by simp)) (e_bin (w := .int ((1 + m + 1 : Nat) : Int)) (e_var rfl) e_c rfl) (zerosL (n := 1 + m + 1) (by omega))
  rw [then_next (ρ' := [some S, some (.int (r1 : Int)), some (.int (r2 : Int)), some (.int (m : Int)), some (.int (n : Int)), some (encF (row m f)), some (encF (row n g)), some (encT (tab m n fun a b => f a * g b)), some (encS m n (slT m n fun a b => f a * g b)), some (encT (tab m n D)), some (encS m n (slT m n D)), some (encS m n R), some (encF (row (1 + m) z)), some (.int (t : Int)), some (encT (tab (1 + m - t) t (pz (1 + m) t z))), some (.int ((1 + m : Nat) : Int)), some (.list ((List.range (1 + m - t + 1)).map fun k => encF (row t (pz (1 + m) t z k)))), x17, x18, some (.list ((row (1 + m) (acc t (pz (1 + m) t z) 0 0)).map enc)), none, none, none, none, none, none, none, none, none]) (t' := none) (by exact (x_set z19))]
  have bP : ∀ k j, k ≤ 1 + m - t → j ≤ t → B 2 16 (pz (1 + m) t z k j) := fun k j hk hj => pz_B bz (by omega) ht hk hj
  obtain ⟨ρ18, E18, y17, y20, rfl⟩ := sfor_pred (t := none) (src := (sRng gRng1 (eCons (eCallB gLen (eCons (eVar 14) eNil)) eNil))) (g := (gN 17)) (body := (sFor (sRng gRng1 (eCons (eCallB gLen (eCons (eBin wIdx (eVar 14) (eVar 17)) eNil)) eNil)) (gN 20) (sPut 19 (eBin wAdd (eVar 17) (eVar 20)) (eCall law_add (eCons (eBin wIdx (eVar 19) (eBin wAdd (eVar 17) (eVar 20))) (eCons (eBin wIdx (eBin wIdx (eVar 14) (eVar 17)) (eVar 20)) eNil)))))) (items := (List.range (1 + m - t + 1)).map fun i : Nat => (.int (i : Int) : W))
    (fun k ρ => ∃ x17 x20 : Option W, ρ = [some S, some (.int (r1 : Int)), some (.int (r2 : Int)), some (.int (m : Int)), some (.int (n : Int)), some (encF (row m f)), some (encF (row n g)), some (encT (tab m n fun a b => f a * g b)), some (encS m n (slT m n fun a b => f a * g b)), some (encT (tab m n D)), some (encS m n (slT m n D)), some (encS m n R), some (encF (row (1 + m) z)), some (.int (t : Int)), some (encT (tab (1 + m - t) t (pz (1 + m) t z))), some (.int ((1 + m : Nat) : Int)), some (.list ((List.range (1 + m - t + 1)).map fun k => encF (row t (pz (1 + m) t z k)))), x17, x18, some (.list ((row (1 + m) (acc t (pz (1 + m) t z) k 0)).map enc)), x20, none, none, none, none, none, none, none, none])
    [some S, some (.int (r1 : Int)), some (.int (r2 : Int)), some (.int (m : Int)), some (.int (n : Int)), some (encF (row m f)), some (encF (row n g)), some (encT (tab m n fun a b => f a * g b)), some (encS m n (slT m n fun a b => f a * g b)), some (encT (tab m n D)), some (encS m n (slT m n D)), some (encS m n R), some (encF (row (1 + m) z)), some (.int (t : Int)), some (encT (tab (1 + m - t) t (pz (1 + m) t z))), some (.int ((1 + m : Nat) : Int)), some (.list ((List.range (1 + m - t + 1)).map fun k => encF (row t (pz (1 + m) t z k)))), x17, x18, some (.list ((row (1 + m) (acc t (pz (1 + m) t z) 0 0)).map enc)), none, none, none, none, none, none, none, none, none]
    (g_rng1 (n := 1 + m - t + 1) (a_cons (e_callB (a_cons (e_var rfl) a_nil) (encT_len _ _ _)) a_nil) (by omega)) ⟨_, _, rfl⟩
    fun k wi ρ hwi ⟨x17, x20, e⟩ => by
      subst e
      obtain ⟨hk, rfl⟩ := item_of hwi
      have i1 := encT_at (h := 1 + m - t) (w := t) (k := k) (pz (1 + m) t z) (by omega)
      have EE : ∃ y20 : Option W, (sFor (sRng gRng1 (eCons (eCallB gLen (eCons (eBin wIdx (eVar 14) (eVar 17)) eNil)) eNil)) (gN 20) (sPut 19 (eBin wAdd (eVar 17) (eVar 20)) (eCall law_add (eCons (eBin wIdx (eVar 19) (eBin wAdd (eVar 17) (eVar 20))) (eCons (eBin wIdx (eBin wIdx (eVar 14) (eVar 17)) (eVar 20)) eNil))))) [some S, some (.int (r1 : Int)), some (.int (r2 : Int)), some (.int (m : Int)), some (.int (n : Int)), some (encF (row m f)), some (encF (row n g)), some (encT (tab m n fun a b => f a * g b)), some (encS m n (slT m n fun a b => f a * g b)), some (encT (tab m n D)), some (encS m n (slT m n D)), some (encS m n R), some (encF (row (1 + m) z)), some (.int (t : Int)), some (encT (tab (1 + m - t) t (pz (1 + m) t z))), some (.int ((1 + m : Nat) : Int)), some (.list ((List.range (1 + m - t + 1)).map fun k => encF (row t (pz (1 + m) t z k)))), some (.int (k : Int)), x18, some (.list ((row (1 + m) (acc t (pz (1 + m) t z) k 0)).map enc)), x20, none, none, none, none, none, none, none, none] none = .next [some S, some (.int (r1 : Int)), some (.int (r2 : Int)), some (.int (m : Int)), some (.int (n : Int)), some (encF (row m f)), some (encF (row n g)), some (encT (tab m n fun a b => f a * g b)), some (encS m n (slT m n fun a b => f a * g b)), some (encT (tab m n D)), some (encS m n (slT m n D)), some (encS m n R), some (encF (row (1 + m) z)), some (.int (t : Int)), some (encT (tab (1 + m - t) t (pz (1 + m) t z))), some (.int ((1 + m : Nat) : Int)), some (.list ((List.range (1 + m - t + 1)).map fun k => encF (row t (pz (1 + m) t z k)))), some (.int (k : Int)), x18, some (.list ((row (1 + m) (acc t (pz (1 + m) t z) (k + 1) 0)).map enc)), y20, none, none, none, none, none, none, none, none] none := by
        obtain ⟨ρ2, E2, y20, rfl⟩ := sfor_pred (t := none) (src := (sRng gRng1 (eCons (eCallB gLen (eCons (eBin wIdx (eVar 14) (eVar 17)) eNil)) eNil))) (g := (gN 20)) (body := (sPut 19 (eBin wAdd (eVar 17) (eVar 20)) (eCall law_add (eCons (eBin wIdx (eVar 19) (eBin wAdd (eVar 17) (eVar 20))) (eCons (eBin wIdx (eBin wIdx (eVar 14) (eVar 17)) (eVar 20)) eNil))))) (items := (List.range (t + 1)).map fun i : Nat => (.int (i : Int) : W))
          (fun j ρ => ∃ x20 : Option W, ρ = [some S, some (.int (r1 : Int)), some (.int (r2 : Int)), some (.int (m : Int)), some (.int (n : Int)), some (encF (row m f)), some (encF (row n g)), some (encT (tab m n fun a b => f a * g b)), some (encS m n (slT m n fun a b => f a * g b)), some (encT (tab m n D)), some (encS m n (slT m n D)), some (encS m n R), some (encF (row (1 + m) z)), some (.int (t : Int)), some (encT (tab (1 + m - t) t (pz (1 + m) t z))), some (.int ((1 + m : Nat) : Int)), some (.list ((List.range (1 + m - t + 1)).map fun k => encF (row t (pz (1 + m) t z k)))), some (.int (k : Int)), x18, some (.list ((row (1 + m) (acc t (pz (1 + m) t z) k j)).map enc)), x20, none, none, none, none, none, none, none, none])
          [some S, some (.int (r1 : Int)), some (.int (r2 : Int)), some (.int (m : Int)), some (.int (n : Int)), some (encF (row m f)), some (encF (row n g)), some (encT (tab m n fun a b => f a * g b)), some (encS m n (slT m n fun a b => f a * g b)), some (encT (tab m n D)), some (encS m n (slT m n D)), some (encS m n R), some (encF (row (1 + m) z)), some (.int (t : Int)), some (encT (tab (1 + m - t) t (pz (1 + m) t z))), some (.int ((1 + m : Nat) : Int)), some (.list ((List.range (1 + m - t + 1)).map fun k => encF (row t (pz (1 + m) t z k)))), some (.int (k : Int)), x18, some (.list ((row (1 + m) (acc t (pz (1 + m) t z) k 0)).map enc)), x20, none, none, none, none, none, none, none, none]
          (g_rng1 (n := t + 1) (a_cons (e_callB (a_cons (e_bin (e_var rfl) (e_var rfl) i1) a_nil) (rowF_len _ _)) a_nil) (by omega)) ⟨_, rfl⟩
          fun j wj ρ hwj ⟨x20, e⟩ => by
            subst e
            obtain ⟨hj, rfl⟩ := item_of hwj
            have i2 := rowF_at (w := t) (j := j) (pz (1 + m) t z k) (by omega)
            have lr : k + j < (row (1 + m) (acc t (pz (1 + m) t z) k j)).length := by rw [row_len]; omega
            have g1 := idxL lr
            rw [row_get _ (by omega)] at g1
            have q := law_add_spec ((acc_B bP (by omega) (by omega) (show k ≤ 1 + m - t by omega) (show j ≤ t by omega) (k + j)).ok (by decide) (by decide)) ((bP k j (by omega) (by omega)).ok (by decide) (by decide))
            have pu := putL (x := acc t (pz (1 + m) t z) k j (k + j) + pz (1 + m) t z k j) lr
            rw [acc_step] at pu
            have EA : (sPut 19 (eBin wAdd (eVar 17) (eVar 20)) (eCall law_add (eCons (eBin wIdx (eVar 19) (eBin wAdd (eVar 17) (eVar 20))) (eCons (eBin wIdx (eBin wIdx (eVar 14) (eVar 17)) (eVar 20)) eNil)))) [some S, some (.int (r1 : Int)), some (.int (r2 : Int)), some (.int (m : Int)), some (.int (n : Int)), some (encF (row m f)), some (encF (row n g)), some (encT (tab m n fun a b => f a * g b)), some (encS m n (slT m n fun a b => f a * g b)), some (encT (tab m n D)), some (encS m n (slT m n D)), some (encS m n R), some (encF (row (1 + m) z)), some (.int (t : Int)), some (encT (tab (1 + m - t) t (pz (1 + m) t z))), some (.int ((1 + m : Nat) : Int)), some (.list ((List.range (1 + m - t + 1)).map fun k => encF (row t (pz (1 + m) t z k)))), some (.int (k : Int)), x18, some (.list ((row (1 + m) (acc t (pz (1 + m) t z) k j)).map enc)), some (.int (j : Int)), none, none, none, none, none, none, none, none] none = .next [some S, some (.int (r1 : Int)), some (.int (r2 : Int)), some (.int (m : Int)), some (.int (n : Int)), some (encF (row m f)), some (encF (row n g)), some (encT (tab m n fun a b => f a * g b)), some (encS m n (slT m n fun a b => f a * g b)), some (encT (tab m n D)), some (encS m n (slT m n D)), some (encS m n R), some (encF (row (1 + m) z)), some (.int (t : Int)), some (encT (tab (1 + m - t) t (pz (1 + m) t z))), some (.int ((1 + m : Nat) : Int)), some (.list ((List.range (1 + m - t + 1)).map fun k => encF (row t (pz (1 + m) t z k)))), some (.int (k : Int)), x18, some (.list ((row (1 + m) (acc t (pz (1 + m) t z) k (j + 1))).map enc)), some (.int (j : Int)), none, none, none, none, none, none, none, none] none := x_put rfl (e_call (a_cons (e_bin (y := .int ((k + j : Nat) : Int)) (e_var rfl) (e_bin (e_var rfl) (e_var rfl) rfl) g1) (a_cons (e_bin (e_bin (e_var rfl) (e_var rfl) i1) (e_var rfl) i2) a_nil)) q) (e_bin (w := .int ((k + j : Nat) : Int)) (e_var rfl) (e_var rfl) rfl) pu
            exact ⟨_, _, rfl, EA, _, rfl⟩
        rw [List.length_map, List.length_range, acc_next] at E2
        exact ⟨y20, E2⟩
      obtain ⟨y20, EE⟩ := EE
      exact ⟨_, _, rfl, EE, _, _, rfl⟩
  rw [List.length_map, List.length_range] at E18
  rw [then_next E18]
  have fo : gTuple [.list ((row (1 + m) (acc t (pz (1 + m) t z) (1 + m - t + 1) 0)).map enc)] = some (encF (row (1 + m) z)) := by rw [fold_row (by omega) ht]; rfl
  rw [then_next (ρ' := [some S, some (.int (r1 : Int)), some (.int (r2 : Int)), some (.int (m : Int)), some (.int (n : Int)), some (encF (row m f)), some (encF (row n g)), some (encT (tab m n fun a b => f a * g b)), some (encS m n (slT m n fun a b => f a * g b)), some (encT (tab m n D)), some (encS m n (slT m n D)), some (encS m n R), some (encF (row (1 + m) z)), some (.int (t : Int)), some (encT (tab (1 + m - t) t (pz (1 + m) t z))), some (.int ((1 + m : Nat) : Int)), some (.list ((List.range (1 + m - t + 1)).map fun k => encF (row t (pz (1 + m) t z k)))), y17, x18, some (.list ((row (1 + m) (acc t (pz (1 + m) t z) (1 + m - t + 1) 0)).map enc)), y20, none, none, none, none, none, none, none, none]) (t' := none) (by exact (i_false (t_test (e_bin (e_callB (a_cons (e_var rfl) a_nil) fo) (e_var rfl) (neqF _)))))]
  obtain ⟨q, hq', eq⟩ := md (((r1 : Int)).fdiv 13) 3 (by decide)
  rw [then_next (ρ' := [some S, some (.int (r1 : Int)), some (.int (r2 : Int)), some (.int (m : Int)), some (.int (n : Int)), some (encF (row m f)), some (encF (row n g)), some (encT (tab m n fun a b => f a * g b)), some (encS m n (slT m n fun a b => f a * g b)), some (encT (tab m n D)), some (encS m n (slT m n D)), some (encS m n R), some (encF (row (1 + m) z)), some (.int (t : Int)), some (encT (tab (1 + m - t) t (pz (1 + m) t z))), some (.int ((1 + m : Nat) : Int)), some (.list ((List.range (1 + m - t + 1)).map fun k => encF (row t (pz (1 + m) t z k)))), y17, x18, some (.list ((row (1 + m) (acc t (pz (1 + m) t z) (1 + m - t + 1) 0)).map enc)), y20, some (.int (q : Int)), none, none, none, none, none, none, none]) (t' := none) (by exact (x_set (e_bin (e_bin (e_var rfl) e_c (dv _ 13 (by decide) (by decide))) e_c eq)))]
  rw [then_next (ρ' := [some S, some (.int (r1 : Int)), some (.int (r2 : Int)), some (.int (m : Int)), some (.int (n : Int)), some (encF (row m f)), some (encF (row n g)), some (encT (tab m n fun a b => f a * g b)), some (encS m n (slT m n fun a b => f a * g b)), some (encT (tab m n D)), some (encS m n (slT m n D)), some (encS m n R), some (encF (row (1 + m) z)), some (.int (t : Int)), some (encT (tab (1 + m - t) t (pz (1 + m) t z))), some (.int ((1 + m : Nat) : Int)), some (.list ((List.range (1 + m - t + 1)).map fun k => encF (row t (pz (1 + m) t z k)))), y17, x18, some (.list ((row (1 + m) (acc t (pz (1 + m) t z) (1 + m - t + 1) 0)).map enc)), y20, some (.int (q : Int)), some (encT (tab m n D)), none, none, none, none, none, none]) (t' := none) (by exact (x_set (e_var rfl)))]
  obtain ⟨ρ22, E22, G, w17, w20, w23, w24, rfl, hB, hG⟩ := sfor_pred (t := none) (src := (sRng gRng1 (eCons (eVar 21) eNil))) (g := (gN 23)) (body := lbBody) (items := (List.range q).map fun i : Nat => (.int (i : Int) : W))
    (fun i ρ => ∃ (G : Nat → Nat → Rat) (x17 x20 x23 x24 : Option W), ρ = [some S, some (.int (r1 : Int)), some (.int (r2 : Int)), some (.int (m : Int)), some (.int (n : Int)), some (encF (row m f)), some (encF (row n g)), some (encT (tab m n fun a b => f a * g b)), some (encS m n (slT m n fun a b => f a * g b)), some (encT (tab m n D)), some (encS m n (slT m n D)), some (encS m n R), some (encF (row (1 + m) z)), some (.int (t : Int)), some (encT (tab (1 + m - t) t (pz (1 + m) t z))), some (.int ((1 + m : Nat) : Int)), some (.list ((List.range (1 + m - t + 1)).map fun k => encF (row t (pz (1 + m) t z k)))), x17, x18, some (.list ((row (1 + m) (acc t (pz (1 + m) t z) (1 + m - t + 1) 0)).map enc)), x20, some (.int (q : Int)), some (encT (tab (m + i) (n + i) G)), x23, x24, none, none, none, none] ∧ (∀ a b, a ≤ m + i → b ≤ n + i → B 1 (2 + i) (G a b)) ∧ (i ≤ q → tbN (q - i) (m + i) (n + i) G = tbN q m n D))
    [some S, some (.int (r1 : Int)), some (.int (r2 : Int)), some (.int (m : Int)), some (.int (n : Int)), some (encF (row m f)), some (encF (row n g)), some (encT (tab m n fun a b => f a * g b)), some (encS m n (slT m n fun a b => f a * g b)), some (encT (tab m n D)), some (encS m n (slT m n D)), some (encS m n R), some (encF (row (1 + m) z)), some (.int (t : Int)), some (encT (tab (1 + m - t) t (pz (1 + m) t z))), some (.int ((1 + m : Nat) : Int)), some (.list ((List.range (1 + m - t + 1)).map fun k => encF (row t (pz (1 + m) t z k)))), y17, x18, some (.list ((row (1 + m) (acc t (pz (1 + m) t z) (1 + m - t + 1) 0)).map enc)), y20, some (.int (q : Int)), some (encT (tab m n D)), none, none, none, none, none, none]
    (g_rng1 (a_cons (e_var rfl) a_nil) (by omega)) ⟨D, _, _, _, _, rfl, bD, fun _ => rfl⟩
    fun i wi ρ hwi ⟨G, x17, x20, x23, x24, e, hB, hG⟩ => by
      subst e
      obtain ⟨hi, rfl⟩ := item_of hwi
      obtain ⟨y17, y20, y24, E⟩ := lb_step hB (by decide) (by omega) (by omega) (by omega) (some S) (some (.int (r1 : Int))) (some (.int (r2 : Int))) (some (.int (m : Int))) (some (.int (n : Int))) (some (encF (row m f))) (some (encF (row n g))) (some (encT (tab m n fun a b => f a * g b))) (some (encS m n (slT m n fun a b => f a * g b))) (some (encT (tab m n D))) (some (encS m n (slT m n D))) (some (encS m n R)) (some (encF (row (1 + m) z))) (some (.int (t : Int))) (some (encT (tab (1 + m - t) t (pz (1 + m) t z)))) (some (.int ((1 + m : Nat) : Int))) (some (.list ((List.range (1 + m - t + 1)).map fun k => encF (row t (pz (1 + m) t z k))))) (x17) (x18) (some (.list ((row (1 + m) (acc t (pz (1 + m) t z) (1 + m - t + 1) 0)).map enc))) (x20) (some (.int (q : Int))) (some (.int (i : Int))) (x24) (none) (none) (none) (none)
      refine ⟨_, _, rfl, E, tb (m + i) (n + i) G, y17, y20, _, y24, rfl, fun a b _ _ => tb_B hB a b, fun hc => ?_⟩
      rw [← hG (by omega), show q - i = (q - (i + 1)) + 1 by omega]
      rfl
  rw [List.length_map, List.length_range] at E22 hG hB
  have hG := hG (Nat.le_refl q)
  rw [Nat.sub_self] at hG
  have hG : G = tbN q m n D := hG
  subst hG
  rw [then_next (show (sFor (sRng gRng1 (eCons (eVar 21) eNil)) (gN 23) (sNest 24 (eRows (eLc (sRng gRng1 (eCons (eBin wAdd (eCallB gLen (eCons (eVar 22) eNil)) (eC (.int (1)))) eNil)) [17] (gN 17) etYes (eBin wMulL (eLst (eCons (eTup (eCons (eC (.int (0))) (eCons (eC (.int (1))) eNil))) eNil)) (eBin wAdd (eCallB gLen (eCons (eBin wIdx (eVar 22) (eC (.int (0)))) eNil)) (eC (.int (1))))))) (sFor (sRng gRng1 (eCons (eCallB gLen (eCons (eVar 22) eNil)) eNil)) (gN 17) (sFor (sRng gRng1 (eCons (eCallB gLen (eCons (eBin wIdx (eVar 22) (eC (.int (0)))) eNil)) eNil)) (gN 20) (sThen (sNPut (eVar 17) (eBin wAdd (eVar 20) (eC (.int (1)))) (eCall law_add (eCons (eNst (eVar 17) (eBin wAdd (eVar 20) (eC (.int (1))))) (eCons (eBin wIdx (eBin wIdx (eVar 22) (eVar 17)) (eVar 20)) eNil)))) (sNPut (eBin wAdd (eVar 17) (eC (.int (1)))) (eVar 20) (eCall law_add (eCons (eNst (eBin wAdd (eVar 17) (eC (.int (1)))) (eVar 20)) (eCons (eCall law_mul (eCons (eTup (eCons (eUn wNeg (eC (.int (1)))) (eCons (eC (.int (1))) eNil))) (eCons (eBin wIdx (eBin wIdx (eVar 22) (eVar 17)) (eVar 20)) eNil))) eNil))))))) (sSet 22 (eCallB gTuple (eCons (eLc (sSeq (eVar 24)) [27] (gN 27) etYes (eCallB gTuple (eCons (eVar 27) eNil))) eNil))))) _ none = _ from E22)]
  have tb1 := times_bracket_spec (c := q) (h := m) (w := n) bD (by decide) (by omega) (by omega) (by omega)
  rw [then_next (ρ' := [some S, some (.int (r1 : Int)), some (.int (r2 : Int)), some (.int (m : Int)), some (.int (n : Int)), some (encF (row m f)), some (encF (row n g)), some (encT (tab m n fun a b => f a * g b)), some (encS m n (slT m n fun a b => f a * g b)), some (encT (tab m n D)), some (encS m n (slT m n D)), some (encS m n R), some (encF (row (1 + m) z)), some (.int (t : Int)), some (encT (tab (1 + m - t) t (pz (1 + m) t z))), some (.int ((1 + m : Nat) : Int)), some (.list ((List.range (1 + m - t + 1)).map fun k => encF (row t (pz (1 + m) t z k)))), w17, x18, some (.list ((row (1 + m) (acc t (pz (1 + m) t z) (1 + m - t + 1) 0)).map enc)), w20, some (.int (q : Int)), some (encT (tab (m + q) (n + q) (tbN q m n D))), w23, w24, none, none, none, none]) (t' := none) (by exact (i_false (t_not (v := true) (t_test (e_call (a_cons (e_call (a_cons (e_var rfl) (a_cons (e_var rfl) a_nil)) tb1) (a_cons (e_var rfl) a_nil)) (sameW (Pl_T _ 36 (by omega) (by omega))))))))]
  have E24 : (eAndT (eTest (eBin wGt (eVar 21) (eC (.int (0))))) (eTest (eCallB gAny (eCons (eLc (sSeq (eBin wIdx (eCall law_slides (eCons (eVar 22) eNil)) (eC (.int (0))))) [28] (gN 28) etYes (eBin wNe (eBin wIdx (eVar 28) (eC (.int (0)))) (eC (.int (0))))) eNil)))) [some S, some (.int (r1 : Int)), some (.int (r2 : Int)), some (.int (m : Int)), some (.int (n : Int)), some (encF (row m f)), some (encF (row n g)), some (encT (tab m n fun a b => f a * g b)), some (encS m n (slT m n fun a b => f a * g b)), some (encT (tab m n D)), some (encS m n (slT m n D)), some (encS m n R), some (encF (row (1 + m) z)), some (.int (t : Int)), some (encT (tab (1 + m - t) t (pz (1 + m) t z))), some (.int ((1 + m : Nat) : Int)), some (.list ((List.range (1 + m - t + 1)).map fun k => encF (row t (pz (1 + m) t z k)))), w17, x18, some (.list ((row (1 + m) (acc t (pz (1 + m) t z) (1 + m - t + 1) 0)).map enc)), w20, some (.int (q : Int)), some (encT (tab (m + q) (n + q) (tbN q m n D))), w23, w24, none, none, none, none] none = .ok false none := by
    by_cases q0 : 0 < q
    case neg => exact t_andF (t_test (e_bin (e_var rfl) e_c (gtF (by omega))))
    refine t_andT (t_test (e_bin (e_var rfl) e_c (gtT (by omega)))) ?_
    have ls := law_slides_spec (m := m + q) (n := n + q) (d := 1) (s := 2 + q) (T := tbN q m n D) (fun k l hk hl => hB k l hk hl) (by omega) (by omega) (by decide) (by omega)
    have z0 : ∀ r, r ≤ m + q + (n + q) → slT (m + q) (n + q) (tbN q m n D) 0 r = 0 := fun r hr => by
      have : q = 1 ∨ q = 2 := by omega
      rcases this with rfl | rfl
      · exact slT_tb (h := m) (w := n) (by omega) (by omega) (by omega) D
      · exact slT_tb (h := m + 1) (w := n + 1) (by omega) (by omega) (by omega) (tb m n D)
    have i1 := encS_0 (m := m + q) (n := n + q) (slT (m + q) (n + q) (tbN q m n D))
    rw [row_congr z0] at i1
    refine t_test (e_callB (a_cons (e_lc (g_seq (e_bin (e_call (a_cons (e_var rfl) a_nil) ls) e_c i1) (seqR _ _)) (by simp; omega) (lc_map (fun _ => enc 0) (fun _ => (.bool false : W)) (List.range (m + q + (n + q) + 1)) fun r _ => ⟨_, rfl, e_bin (e_bin (e_var rfl) e_c (w := .int 0) rfl) e_c (neqN rfl)⟩)) a_nil) ?_)
    rw [gAny_map (fun _ : Nat => false)]
    have ef : (List.range (m + q + (n + q) + 1)).any (fun _ => false) = false := by simp
    rw [ef]
  rw [then_next (ρ' := [some S, some (.int (r1 : Int)), some (.int (r2 : Int)), some (.int (m : Int)), some (.int (n : Int)), some (encF (row m f)), some (encF (row n g)), some (encT (tab m n fun a b => f a * g b)), some (encS m n (slT m n fun a b => f a * g b)), some (encT (tab m n D)), some (encS m n (slT m n D)), some (encS m n R), some (encF (row (1 + m) z)), some (.int (t : Int)), some (encT (tab (1 + m - t) t (pz (1 + m) t z))), some (.int ((1 + m : Nat) : Int)), some (.list ((List.range (1 + m - t + 1)).map fun k => encF (row t (pz (1 + m) t z k)))), w17, x18, some (.list ((row (1 + m) (acc t (pz (1 + m) t z) (1 + m - t + 1) 0)).map enc)), w20, some (.int (q : Int)), some (encT (tab (m + q) (n + q) (tbN q m n D))), w23, w24, none, none, none, none]) (t' := none) (by exact (i_false E24))]
  obtain ⟨l8, ea8, hl8⟩ := addS (m := m) (n := n) (slT m n fun a b => f a * g b) (encF (row m f)) (by omega) (by omega)
  rw [then_next (ρ' := [some S, some (.int (r1 : Int)), some (.int (r2 : Int)), some (.int (m : Int)), some (.int (n : Int)), some (encF (row m f)), some (encF (row n g)), some (encT (tab m n fun a b => f a * g b)), some (encS m n (slT m n fun a b => f a * g b)), some (encT (tab m n D)), some (encS m n (slT m n D)), some (encS m n R), some (encF (row (1 + m) z)), some (.int (t : Int)), some (encT (tab (1 + m - t) t (pz (1 + m) t z))), some (.int ((1 + m : Nat) : Int)), some (.list ((List.range (1 + m - t + 1)).map fun k => encF (row t (pz (1 + m) t z k)))), w17, x18, some (.list ((row (1 + m) (acc t (pz (1 + m) t z) (1 + m - t + 1) 0)).map enc)), w20, some (.int (q : Int)), some (encT (tab (m + q) (n + q) (tbN q m n D))), w23, w24, none, none, none, none]) (t' := none) (by exact (i_false (t_test (e_bin (told_exc (a_cons (e_bin (e_var rfl) (e_tup (a_cons (e_var rfl) a_nil) (by simp)) ea8) (a_cons (e_var rfl) (a_cons (e_var rfl) a_nil))) (from_slides_bad hl8) (w := .str "form") (by kernel_rfl)) e_c (by kernel_rfl)))))]
  exact fin_ret (e_bin (told_exc (a_cons (e_var rfl) (a_cons (e_callB (a_cons (e_var rfl) a_nil) (rowF_len (1 + m) z)) a_nil)) (polarized_bad (1 + m) z) (w := .str "number") (by kernel_rfl)) e_c (by kernel_rfl))
end G

end

section
namespace G
open PySem PySem.Spec PyProof.Rows L2 Ev
variable [Tb]
/-- what the top has written -/
structure Tx (K : PySem.W.Frag) (mg : Str → Option Value) : Prop where
  bn : Bn mg
  ap : Apart K (clA K xs) 2
  c_MOST_ORDER : Cst K mg "MOST_ORDER" (.int (24))
  c_ZERO : Cst K mg "ZERO" (.tuple [(.int (0)), (.int (1))])
  c_ONE : Cst K mg "ONE" (.tuple [(.int (1)), (.int (1))])
  e_BadForm : ExC K mg "BadForm" (clA K xs 1)
  e_BadNumber : ExC K mg "BadNumber" (clA K xs 0)
section
variable {P : Program} {w : World} {K : PySem.W.Frag} {mg : Str → Option Value} {base : Heap}
abbrev N9 : List Str := ["one", "other"]
theorem sc9 : FnScope N9 (["one", "other"] : List Str) (defScope (top 9)) := ⟨rfl, rfl, rfl, by decide +kernel, rfl, by decide +kernel, by decide +kernel⟩
abbrev c9 : Cf := { M := [] }
set_option maxHeartbeats 8000000 in
theorem ok9 (T : Tx K mg) {f : Addr} {fd : FuncData} (F : Fun K "divisor" "divisor" (top 9) f fd) : FnOk P w K mg base (L2.CX P w) (0 + 1) f fd (["one", "other"] : List Str) (FnS K (clA K xs) false ratios_divisor) := by
  refine fn_ok (c := c9) F sc9 (by decide) rfl rfl fun cdv A outer s H E hr => ?_
  have tk : Takes (cxOf (L2.CX P w) P w K mg base N9 "divisor" (defScope (top 9)) f cdv A outer s H E) (fun cls d _ H => E cls d H) := takes_of rfl rfl rfl rfl
  have hx : Passes (L2.CX P w) (cxOf (L2.CX P w) P w K mg base N9 "divisor" (defScope (top 9)) f cdv A outer s H E) E := passes_call tk fun _ _ _ _ h => h
  have hp := passes_of (X := cxOf (L2.CX P w) P w K mg base N9 "divisor" (defScope (top 9)) f cdv A outer s H E) rfl
  have nd : N9.Nodup := sc9.nd
  exact (ss_cons (zPar2 0 1 false false nd (fAbs T.bn (aB (ex_srd (vS 0)) nB)) (fAbs T.bn (aB (ex_srd (vS 1)) nB)))
    (ss_cons (zWhile 1000000 hp (tGt (ex_bor (vS 1)) (ex_bor ev_int))
      (ss_one (zPar2 0 1 false false nd (vS 1) (bMod (ex_bor (vS 0)) (ex_bor (vS 1))))))
    (ss_one (zRet (vS 0)))))
abbrev N7 : List Str := ["value"]
theorem sc7 : FnScope N7 (["value"] : List Str) (defScope (top 7)) := ⟨rfl, rfl, rfl, by decide +kernel, rfl, by decide +kernel, by decide +kernel⟩
abbrev c7 : Cf := { M := [] }
set_option maxHeartbeats 8000000 in
theorem ok7 (T : Tx K mg) {f : Addr} {fd : FuncData} (F : Fun K "is_integer" "is_integer" (top 7) f fd) : FnOk P w K mg base (L2.CX P w) (0 + 1) f fd (["value"] : List Str) (FnS K (clA K xs) false ratios_is_integer) := by
  refine fn_ok (c := c7) F sc7 (by decide) rfl rfl fun cdv A outer s H E hr => ?_
  have tk : Takes (cxOf (L2.CX P w) P w K mg base N7 "is_integer" (defScope (top 7)) f cdv A outer s H E) (fun cls d _ H => E cls d H) := takes_of rfl rfl rfl rfl
  have hx : Passes (L2.CX P w) (cxOf (L2.CX P w) P w K mg base N7 "is_integer" (defScope (top 7)) f cdv A outer s H E) E := passes_call tk fun _ _ _ _ h => h
  have hp := passes_of (X := cxOf (L2.CX P w) P w K mg base N7 "is_integer" (defScope (top 7)) f cdv A outer s H E) rfl
  have nd : N7.Nodup := sc7.nd
  exact (ss_one (zRet (ev_and (isI T.bn (ex_bor (vS 0))) (ev_one (ev_not (isB T.bn (ex_bor (vS 0))))))))
abbrev N8 : List Str := ["value", "item"]
theorem sc8 : FnScope N8 (["value"] : List Str) (defScope (top 8)) := ⟨rfl, rfl, rfl, by decide +kernel, rfl, by decide +kernel, by decide +kernel⟩
abbrev c8 : Cf := { M := [] }
set_option maxHeartbeats 8000000 in
theorem ok8 (T : Tx K mg) {f : Addr} {fd : FuncData} (F : Fun K "is_ratio" "is_ratio" (top 8) f fd) (d_divisor : FnA P w K mg base "divisor" 1 (FnS K (clA K xs) false ratios_divisor)) (d_is_integer : FnA P w K mg base "is_integer" 1 (FnS K (clA K xs) false ratios_is_integer)) : FnOk P w K mg base (L2.CX P w) (1 + 1) f fd (["value"] : List Str) (FnS K (clA K xs) false ratios_is_ratio) := by
  refine fn_ok (c := c8) F sc8 (by decide) rfl rfl fun cdv A outer s H E hr => ?_
  have tk : Takes (cxOf (L2.CX P w) P w K mg base N8 "is_ratio" (defScope (top 8)) f cdv A outer s H E) (fun cls d _ H => E cls d H) := takes_of rfl rfl rfl rfl
  have hx : Passes (L2.CX P w) (cxOf (L2.CX P w) P w K mg base N8 "is_ratio" (defScope (top 8)) f cdv A outer s H E) E := passes_call tk fun _ _ _ _ h => h
  have hp := passes_of (X := cxOf (L2.CX P w) P w K mg base N8 "is_ratio" (defScope (top 8)) f cdv A outer s H E) rfl
  have nd : N8.Nodup := sc8.nd
  exact (ss_cons (sx_if (tT1 (tw_or (tx_not (tV (isT T.bn (ex_bor (vS 0))))) (tw_or (tNe hr (ex_bor (fLen T.bn (aB (ex_srd (vS 0)) nB))) (ex_bor ev_int)) (tw_or1 (tx_not (tV (ex_bor (fAll T.bn (aB (ex_frd (lC [("item", 1)] nd (wS (ex_srd (vS 0))) (fun _ _ _ _ _ => (gV 1 nd)) (fun _ _ _ _ _ => tsx_nil) (fun _ _ _ _ _ => (kS d_is_integer (hr.mono (by first | decide | omega)) passL (aS (vS 1) nS))))) nB))))))))) (ss_one (zRet ev_bl)) ss_nil)
    (ss_one (zRet (ev_and (cGt (ex_bor (iX (ex_srd (vS 0)) (ex_bor ev_int))) (ex_bor ev_int)) (ev_one (ex_bool (cEq hr (ex_bor (kS d_divisor (hr.mono (by first | decide | omega)) hx (aS (iX (ex_srd (vS 0)) (ex_bor ev_int)) (aS (iX (ex_srd (vS 0)) (ex_bor ev_int)) nS)))) (ex_bor ev_int)) bool_eq))))))
abbrev N18 : List Str := ["value", "item"]
theorem sc18 : FnScope N18 (["value"] : List Str) (defScope (top 18)) := ⟨rfl, rfl, rfl, by decide +kernel, rfl, by decide +kernel, by decide +kernel⟩
abbrev c18 : Cf := { M := [] }
set_option maxHeartbeats 8000000 in
theorem ok18 (T : Tx K mg) {f : Addr} {fd : FuncData} (F : Fun K "is_form" "is_form" (top 18) f fd) (d_is_ratio : FnA P w K mg base "is_ratio" 2 (FnS K (clA K xs) false ratios_is_ratio)) : FnOk P w K mg base (L2.CX P w) (2 + 1) f fd (["value"] : List Str) (FnS K (clA K xs) false forms_is_form) := by
  refine fn_ok (c := c18) F sc18 (by decide) rfl rfl fun cdv A outer s H E hr => ?_
  have tk : Takes (cxOf (L2.CX P w) P w K mg base N18 "is_form" (defScope (top 18)) f cdv A outer s H E) (fun cls d _ H => E cls d H) := takes_of rfl rfl rfl rfl
  have hx : Passes (L2.CX P w) (cxOf (L2.CX P w) P w K mg base N18 "is_form" (defScope (top 18)) f cdv A outer s H E) E := passes_call tk fun _ _ _ _ h => h
  have hp := passes_of (X := cxOf (L2.CX P w) P w K mg base N18 "is_form" (defScope (top 18)) f cdv A outer s H E) rfl
  have nd : N18.Nodup := sc18.nd
  exact (ss_one (zRet (ev_and (isT T.bn (ex_bor (vS 0))) (ev_and (cLtLe (ex_bor ev_int) (ex_bor (fLen T.bn (aB (ex_srd (vS 0)) nB))) (ex_bor (bAdd (ex_bor (gC T.c_MOST_ORDER)) (ex_bor ev_int)))) (ev_one (fAll T.bn (aB (ex_frd (lC [("item", 1)] nd (wS (ex_srd (vS 0))) (fun _ _ _ _ _ => (gV 1 nd)) (fun _ _ _ _ _ => tsx_nil) (fun _ _ _ _ _ => (kS d_is_ratio (hr.mono (by first | decide | omega)) passL (aS (vS 1) nS))))) nB)))))))
abbrev N19 : List Str := ["value"]
theorem sc19 : FnScope N19 (["value"] : List Str) (defScope (top 19)) := ⟨rfl, rfl, rfl, by decide +kernel, rfl, by decide +kernel, by decide +kernel⟩
abbrev c19 : Cf := { M := [] }
set_option maxHeartbeats 8000000 in
theorem ok19 (T : Tx K mg) {f : Addr} {fd : FuncData} (F : Fun K "check_form" "check_form" (top 19) f fd) (d_is_form : FnA P w K mg base "is_form" 3 (FnS K (clA K xs) false forms_is_form)) : FnOk P w K mg base (L2.CX P w) (3 + 1) f fd (["value"] : List Str) (FnS K (clA K xs) false forms_check_form) := by
  refine fn_ok (c := c19) F sc19 (by decide) rfl rfl fun cdv A outer s H E hr => ?_
  have tk : Takes (cxOf (L2.CX P w) P w K mg base N19 "check_form" (defScope (top 19)) f cdv A outer s H E) (fun cls d _ H => E cls d H) := takes_of rfl rfl rfl rfl
  have hx : Passes (L2.CX P w) (cxOf (L2.CX P w) P w K mg base N19 "check_form" (defScope (top 19)) f cdv A outer s H E) E := passes_call tk fun _ _ _ _ h => h
  have hp := passes_of (X := cxOf (L2.CX P w) P w K mg base N19 "check_form" (defScope (top 19)) f cdv A outer s H E) rfl
  have nd : N19.Nodup := sc19.nd
  exact (ss_one (sx_if (tx_not (tV (ex_bor (kS d_is_form (hr.mono (by first | decide | omega)) hx (aS (vS 0) nS))))) (ss_one (zRaise 1 T.e_BadForm tk)) ss_nil))
abbrev N22 : List Str := ["size"]
theorem sc22 : FnScope N22 (["size"] : List Str) (defScope (top 22)) := ⟨rfl, rfl, rfl, by decide +kernel, rfl, by decide +kernel, by decide +kernel⟩
abbrev c22 : Cf := { M := [] }
set_option maxHeartbeats 8000000 in
theorem ok22 (T : Tx K mg) {f : Addr} {fd : FuncData} (F : Fun K "check_order" "check_order" (top 22) f fd) (d_is_integer : FnA P w K mg base "is_integer" 1 (FnS K (clA K xs) false ratios_is_integer)) : FnOk P w K mg base (L2.CX P w) (1 + 1) f fd (["size"] : List Str) (FnS K (clA K xs) false forms_check_order) := by
  refine fn_ok (c := c22) F sc22 (by decide) rfl rfl fun cdv A outer s H E hr => ?_
  have tk : Takes (cxOf (L2.CX P w) P w K mg base N22 "check_order" (defScope (top 22)) f cdv A outer s H E) (fun cls d _ H => E cls d H) := takes_of rfl rfl rfl rfl
  have hx : Passes (L2.CX P w) (cxOf (L2.CX P w) P w K mg base N22 "check_order" (defScope (top 22)) f cdv A outer s H E) E := passes_call tk fun _ _ _ _ h => h
  have hp := passes_of (X := cxOf (L2.CX P w) P w K mg base N22 "check_order" (defScope (top 22)) f cdv A outer s H E) rfl
  have nd : N22.Nodup := sc22.nd
  exact (ss_one (sx_if (tT1 (tw_or (tx_not (tV (ex_bor (kS d_is_integer (hr.mono (by first | decide | omega)) hx (aS (vS 0) nS))))) (tw_or (tLt (ex_bor (vS 0)) (ex_bor ev_int)) (tw_or1 (tGt (ex_bor (vS 0)) (ex_bor (gC T.c_MOST_ORDER))))))) (ss_one (zRaise 0 T.e_BadNumber tk)) ss_nil))
abbrev N21 : List Str := ["size"]
theorem sc21 : FnScope N21 (["size"] : List Str) (defScope (top 21)) := ⟨rfl, rfl, rfl, by decide +kernel, rfl, by decide +kernel, by decide +kernel⟩
abbrev c21 : Cf := { M := [] }
set_option maxHeartbeats 8000000 in
theorem ok21 (T : Tx K mg) {f : Addr} {fd : FuncData} (F : Fun K "zero" "zero" (top 21) f fd) (d_check_order : FnA P w K mg base "check_order" 2 (FnS K (clA K xs) false forms_check_order)) : FnOk P w K mg base (L2.CX P w) (2 + 1) f fd (["size"] : List Str) (FnS K (clA K xs) false forms_zero) := by
  refine fn_ok (c := c21) F sc21 (by decide) rfl rfl fun cdv A outer s H E hr => ?_
  have tk : Takes (cxOf (L2.CX P w) P w K mg base N21 "zero" (defScope (top 21)) f cdv A outer s H E) (fun cls d _ H => E cls d H) := takes_of rfl rfl rfl rfl
  have hx : Passes (L2.CX P w) (cxOf (L2.CX P w) P w K mg base N21 "zero" (defScope (top 21)) f cdv A outer s H E) E := passes_call tk fun _ _ _ _ h => h
  have hp := passes_of (X := cxOf (L2.CX P w) P w K mg base N21 "zero" (defScope (top 21)) f cdv A outer s H E) rfl
  have nd : N21.Nodup := sc21.nd
  exact (ss_cons (zDrop (ex_bor (kS d_check_order (hr.mono (by first | decide | omega)) hx (aS (vS 0) nS))))
    (ss_one (zRet (bMul (ex_bor (ev_tup (aS (gC T.c_ZERO) nS))) (ex_bor (bAdd (ex_bor (vS 0)) (ex_bor ev_int)))))))
abbrev N10 : List Str := ["above", "below", "common"]
theorem sc10 : FnScope N10 (["above", "below"] : List Str) (defScope (top 10)) := ⟨rfl, rfl, rfl, by decide +kernel, rfl, by decide +kernel, by decide +kernel⟩
abbrev c10 : Cf := { M := [] }
set_option maxHeartbeats 8000000 in
theorem ok10 (T : Tx K mg) {f : Addr} {fd : FuncData} (F : Fun K "make" "make" (top 10) f fd) (d_divisor : FnA P w K mg base "divisor" 1 (FnS K (clA K xs) false ratios_divisor)) : FnOk P w K mg base (L2.CX P w) (1 + 1) f fd (["above", "below"] : List Str) (FnS K (clA K xs) false ratios_make) := by
  refine fn_ok (c := c10) F sc10 (by decide) rfl rfl fun cdv A outer s H E hr => ?_
  have tk : Takes (cxOf (L2.CX P w) P w K mg base N10 "make" (defScope (top 10)) f cdv A outer s H E) (fun cls d _ H => E cls d H) := takes_of rfl rfl rfl rfl
  have hx : Passes (L2.CX P w) (cxOf (L2.CX P w) P w K mg base N10 "make" (defScope (top 10)) f cdv A outer s H E) E := passes_call tk fun _ _ _ _ h => h
  have hp := passes_of (X := cxOf (L2.CX P w) P w K mg base N10 "make" (defScope (top 10)) f cdv A outer s H E) rfl
  have nd : N10.Nodup := sc10.nd
  exact (ss_cons (sx_if (tEq hr (ex_bor (vS 1)) (ex_bor ev_int)) (ss_one (zRaise 0 T.e_BadNumber tk)) ss_nil)
    (ss_cons (zSet 2 nd (kS d_divisor (hr.mono (by first | decide | omega)) hx (aS (vS 0) (aS (vS 1) nS))))
    (ss_cons (sx_if (tLt (ex_bor (vS 1)) (ex_bor ev_int)) (ss_one (zSet 2 nd (uNeg (ex_srd (vS 2))))) ss_nil)
    (ss_one (zRet (ev_tup (aS (bDiv (ex_bor (vS 0)) (ex_bor (vS 2))) (aS (bDiv (ex_bor (vS 1)) (ex_bor (vS 2))) nS))))))))
abbrev N13 : List Str := ["one", "other"]
theorem sc13 : FnScope N13 (["one", "other"] : List Str) (defScope (top 13)) := ⟨rfl, rfl, rfl, by decide +kernel, rfl, by decide +kernel, by decide +kernel⟩
abbrev c13 : Cf := { M := [] }
set_option maxHeartbeats 8000000 in
theorem ok13 (T : Tx K mg) {f : Addr} {fd : FuncData} (F : Fun K "multiply" "multiply" (top 13) f fd) (d_make : FnA P w K mg base "make" 2 (FnS K (clA K xs) false ratios_make)) : FnOk P w K mg base (L2.CX P w) (2 + 1) f fd (["one", "other"] : List Str) (FnS K (clA K xs) false ratios_multiply) := by
  refine fn_ok (c := c13) F sc13 (by decide) rfl rfl fun cdv A outer s H E hr => ?_
  have tk : Takes (cxOf (L2.CX P w) P w K mg base N13 "multiply" (defScope (top 13)) f cdv A outer s H E) (fun cls d _ H => E cls d H) := takes_of rfl rfl rfl rfl
  have hx : Passes (L2.CX P w) (cxOf (L2.CX P w) P w K mg base N13 "multiply" (defScope (top 13)) f cdv A outer s H E) E := passes_call tk fun _ _ _ _ h => h
  have hp := passes_of (X := cxOf (L2.CX P w) P w K mg base N13 "multiply" (defScope (top 13)) f cdv A outer s H E) rfl
  have nd : N13.Nodup := sc13.nd
  exact (ss_one (zRet (kS d_make (hr.mono (by first | decide | omega)) hx (aS (bMul (ex_bor (iX (ex_srd (vS 0)) (ex_bor ev_int))) (ex_bor (iX (ex_srd (vS 1)) (ex_bor ev_int)))) (aS (bMul (ex_bor (iX (ex_srd (vS 0)) (ex_bor ev_int))) (ex_bor (iX (ex_srd (vS 1)) (ex_bor ev_int)))) nS)))))
abbrev N25 : List Str := ["number", "one", "item"]
theorem sc25 : FnScope N25 (["number", "one"] : List Str) (defScope (top 25)) := ⟨rfl, rfl, rfl, by decide +kernel, rfl, by decide +kernel, by decide +kernel⟩
abbrev c25 : Cf := { M := [] }
set_option maxHeartbeats 8000000 in
theorem ok25 (T : Tx K mg) {f : Addr} {fd : FuncData} (F : Fun K "scaled" "scaled" (top 25) f fd) (d_multiply_ratios : FnA P w K mg base "multiply_ratios" 3 (FnS K (clA K xs) false ratios_multiply)) : FnOk P w K mg base (L2.CX P w) (3 + 1) f fd (["number", "one"] : List Str) (FnS K (clA K xs) false forms_scaled) := by
  refine fn_ok (c := c25) F sc25 (by decide) rfl rfl fun cdv A outer s H E hr => ?_
  have tk : Takes (cxOf (L2.CX P w) P w K mg base N25 "scaled" (defScope (top 25)) f cdv A outer s H E) (fun cls d _ H => E cls d H) := takes_of rfl rfl rfl rfl
  have hx : Passes (L2.CX P w) (cxOf (L2.CX P w) P w K mg base N25 "scaled" (defScope (top 25)) f cdv A outer s H E) E := passes_call tk fun _ _ _ _ h => h
  have hp := passes_of (X := cxOf (L2.CX P w) P w K mg base N25 "scaled" (defScope (top 25)) f cdv A outer s H E) rfl
  have nd : N25.Nodup := sc25.nd
  exact (ss_one (zRet (fTuple T.bn (aB (ex_frd (lC [("item", 2)] nd (wS (ex_srd (vS 1))) (fun _ _ _ _ _ => (gV 2 nd)) (fun _ _ _ _ _ => tsx_nil) (fun _ _ _ _ _ => (kS d_multiply_ratios (hr.mono (by first | decide | omega)) passL (aS (vS 0) (aS (vS 2) nS)))))) nB))))
abbrev N20 : List Str := ["form"]
theorem sc20 : FnScope N20 (["form"] : List Str) (defScope (top 20)) := ⟨rfl, rfl, rfl, by decide +kernel, rfl, by decide +kernel, by decide +kernel⟩
abbrev c20 : Cf := { M := [] }
set_option maxHeartbeats 8000000 in
theorem ok20 (T : Tx K mg) {f : Addr} {fd : FuncData} (F : Fun K "order" "order" (top 20) f fd) : FnOk P w K mg base (L2.CX P w) (0 + 1) f fd (["form"] : List Str) (FnS K (clA K xs) false forms_order) := by
  refine fn_ok (c := c20) F sc20 (by decide) rfl rfl fun cdv A outer s H E hr => ?_
  have tk : Takes (cxOf (L2.CX P w) P w K mg base N20 "order" (defScope (top 20)) f cdv A outer s H E) (fun cls d _ H => E cls d H) := takes_of rfl rfl rfl rfl
  have hx : Passes (L2.CX P w) (cxOf (L2.CX P w) P w K mg base N20 "order" (defScope (top 20)) f cdv A outer s H E) E := passes_call tk fun _ _ _ _ h => h
  have hp := passes_of (X := cxOf (L2.CX P w) P w K mg base N20 "order" (defScope (top 20)) f cdv A outer s H E) rfl
  have nd : N20.Nodup := sc20.nd
  exact (ss_one (zRet (bSub (ex_bor (fLen T.bn (aB (ex_srd (vS 0)) nB))) (ex_bor ev_int))))
abbrev N28 : List Str := ["form", "size", "k", "item"]
theorem sc28 : FnScope N28 (["form"] : List Str) (defScope (top 28)) := ⟨rfl, rfl, rfl, by decide +kernel, rfl, by decide +kernel, by decide +kernel⟩
abbrev c28 : Cf := { M := [] }
set_option maxHeartbeats 8000000 in
theorem ok28 (T : Tx K mg) {f : Addr} {fd : FuncData} (F : Fun K "slope_x" "slope_x" (top 28) f fd) (d_multiply_ratios : FnA P w K mg base "multiply_ratios" 3 (FnS K (clA K xs) false ratios_multiply)) : FnOk P w K mg base (L2.CX P w) (3 + 1) f fd (["form"] : List Str) (FnS K (clA K xs) false forms_slope_x) := by
  refine fn_ok (c := c28) F sc28 (by decide) rfl rfl fun cdv A outer s H E hr => ?_
  have tk : Takes (cxOf (L2.CX P w) P w K mg base N28 "slope_x" (defScope (top 28)) f cdv A outer s H E) (fun cls d _ H => E cls d H) := takes_of rfl rfl rfl rfl
  have hx : Passes (L2.CX P w) (cxOf (L2.CX P w) P w K mg base N28 "slope_x" (defScope (top 28)) f cdv A outer s H E) E := passes_call tk fun _ _ _ _ h => h
  have hp := passes_of (X := cxOf (L2.CX P w) P w K mg base N28 "slope_x" (defScope (top 28)) f cdv A outer s H E) rfl
  have nd : N28.Nodup := sc28.nd
  exact (ss_cons (zSet 1 nd (bSub (ex_bor (fLen T.bn (aB (ex_srd (vS 0)) nB))) (ex_bor ev_int)))
    (ss_cons (sx_if (tEq hr (ex_bor (vS 1)) (ex_bor ev_int)) (ss_one (zRet (ev_tup (aS (gC T.c_ZERO) nS)))) ss_nil)
    (ss_one (zRet (fTuple T.bn (aB (ex_frd (lC [("k", 2), ("item", 3)] nd (wEn T.bn (ex_srd (ev_slice (ex_srd (vS 0)) ox_none (ox_some (ex_bor (uNeg (ex_srd ev_int))))))) (fun _ _ _ _ _ => (gT (gSs (gV 2 nd) (gSs (gV 3 nd) gxs_nil)))) (fun _ _ _ _ _ => tsx_nil) (fun _ _ _ _ _ => (kS d_multiply_ratios (hr.mono (by first | decide | omega)) passL (aS (ev_tup (aS (bSub (ex_bor (vS 1)) (ex_bor (vS 2))) (aS ev_int nS))) (aS (vS 3) nS)))))) nB))))))
abbrev N29 : List Str := ["form", "k", "item"]
theorem sc29 : FnScope N29 (["form"] : List Str) (defScope (top 29)) := ⟨rfl, rfl, rfl, by decide +kernel, rfl, by decide +kernel, by decide +kernel⟩
abbrev c29 : Cf := { M := [] }
set_option maxHeartbeats 8000000 in
theorem ok29 (T : Tx K mg) {f : Addr} {fd : FuncData} (F : Fun K "slope_y" "slope_y" (top 29) f fd) (d_multiply_ratios : FnA P w K mg base "multiply_ratios" 3 (FnS K (clA K xs) false ratios_multiply)) : FnOk P w K mg base (L2.CX P w) (3 + 1) f fd (["form"] : List Str) (FnS K (clA K xs) false forms_slope_y) := by
  refine fn_ok (c := c29) F sc29 (by decide) rfl rfl fun cdv A outer s H E hr => ?_
  have tk : Takes (cxOf (L2.CX P w) P w K mg base N29 "slope_y" (defScope (top 29)) f cdv A outer s H E) (fun cls d _ H => E cls d H) := takes_of rfl rfl rfl rfl
  have hx : Passes (L2.CX P w) (cxOf (L2.CX P w) P w K mg base N29 "slope_y" (defScope (top 29)) f cdv A outer s H E) E := passes_call tk fun _ _ _ _ h => h
  have hp := passes_of (X := cxOf (L2.CX P w) P w K mg base N29 "slope_y" (defScope (top 29)) f cdv A outer s H E) rfl
  have nd : N29.Nodup := sc29.nd
  exact (ss_cons (sx_if (tEq hr (ex_bor (fLen T.bn (aB (ex_srd (vS 0)) nB))) (ex_bor ev_int)) (ss_one (zRet (ev_tup (aS (gC T.c_ZERO) nS)))) ss_nil)
    (ss_one (zRet (fTuple T.bn (aB (ex_frd (lC [("k", 1), ("item", 2)] nd (wEn T.bn (ex_srd (ev_slice (ex_srd (vS 0)) (ox_some (ex_bor ev_int)) ox_none))) (fun _ _ _ _ _ => (gT (gSs (gV 1 nd) (gSs (gV 2 nd) gxs_nil)))) (fun _ _ _ _ _ => tsx_nil) (fun _ _ _ _ _ => (kS d_multiply_ratios (hr.mono (by first | decide | omega)) passL (aS (ev_tup (aS (bAdd (ex_bor (vS 1)) (ex_bor ev_int)) (aS ev_int nS))) (aS (vS 2) nS)))))) nB)))))
abbrev N30 : List Str := ["form", "by_x", "by_y", "_"]
theorem sc30 : FnScope N30 (["form", "by_x", "by_y"] : List Str) (defScope (top 30)) := ⟨rfl, rfl, rfl, by decide +kernel, rfl, by decide +kernel, by decide +kernel⟩
abbrev c30 : Cf := { M := [] }
set_option maxHeartbeats 8000000 in
theorem ok30 (T : Tx K mg) {f : Addr} {fd : FuncData} (F : Fun K "slopes" "slopes" (top 30) f fd) (d_slope_x : FnA P w K mg base "slope_x" 4 (FnS K (clA K xs) false forms_slope_x)) (d_slope_y : FnA P w K mg base "slope_y" 4 (FnS K (clA K xs) false forms_slope_y)) : FnOk P w K mg base (L2.CX P w) (4 + 1) f fd (["form", "by_x", "by_y"] : List Str) (FnS K (clA K xs) false forms_slopes) := by
  refine fn_ok (c := c30) F sc30 (by decide) rfl rfl fun cdv A outer s H E hr => ?_
  have tk : Takes (cxOf (L2.CX P w) P w K mg base N30 "slopes" (defScope (top 30)) f cdv A outer s H E) (fun cls d _ H => E cls d H) := takes_of rfl rfl rfl rfl
  have hx : Passes (L2.CX P w) (cxOf (L2.CX P w) P w K mg base N30 "slopes" (defScope (top 30)) f cdv A outer s H E) E := passes_call tk fun _ _ _ _ h => h
  have hp := passes_of (X := cxOf (L2.CX P w) P w K mg base N30 "slopes" (defScope (top 30)) f cdv A outer s H E) rfl
  have nd : N30.Nodup := sc30.nd
  exact (ss_cons (zFor hp (wR1 T.bn (aB (ex_srd (vS 1)) nB)) (gV 3 nd)
      (ss_one (zSet 0 nd (kS d_slope_x (hr.mono (by first | decide | omega)) hx (aS (vS 0) nS)))))
    (ss_cons (zFor hp (wR1 T.bn (aB (ex_srd (vS 2)) nB)) (gV 3 nd)
      (ss_one (zSet 0 nd (kS d_slope_y (hr.mono (by first | decide | omega)) hx (aS (vS 0) nS)))))
    (ss_one (zRet (vS 0)))))
abbrev N11 : List Str := ["one", "other"]
theorem sc11 : FnScope N11 (["one", "other"] : List Str) (defScope (top 11)) := ⟨rfl, rfl, rfl, by decide +kernel, rfl, by decide +kernel, by decide +kernel⟩
abbrev c11 : Cf := { M := [] }
set_option maxHeartbeats 8000000 in
theorem ok11 (T : Tx K mg) {f : Addr} {fd : FuncData} (F : Fun K "add" "add" (top 11) f fd) (d_make : FnA P w K mg base "make" 2 (FnS K (clA K xs) false ratios_make)) : FnOk P w K mg base (L2.CX P w) (2 + 1) f fd (["one", "other"] : List Str) (FnS K (clA K xs) false ratios_add) := by
  refine fn_ok (c := c11) F sc11 (by decide) rfl rfl fun cdv A outer s H E hr => ?_
  have tk : Takes (cxOf (L2.CX P w) P w K mg base N11 "add" (defScope (top 11)) f cdv A outer s H E) (fun cls d _ H => E cls d H) := takes_of rfl rfl rfl rfl
  have hx : Passes (L2.CX P w) (cxOf (L2.CX P w) P w K mg base N11 "add" (defScope (top 11)) f cdv A outer s H E) E := passes_call tk fun _ _ _ _ h => h
  have hp := passes_of (X := cxOf (L2.CX P w) P w K mg base N11 "add" (defScope (top 11)) f cdv A outer s H E) rfl
  have nd : N11.Nodup := sc11.nd
  exact (ss_one (zRet (kS d_make (hr.mono (by first | decide | omega)) hx (aS (bAdd (ex_bor (bMul (ex_bor (iX (ex_srd (vS 0)) (ex_bor ev_int))) (ex_bor (iX (ex_srd (vS 1)) (ex_bor ev_int))))) (ex_bor (bMul (ex_bor (iX (ex_srd (vS 1)) (ex_bor ev_int))) (ex_bor (iX (ex_srd (vS 0)) (ex_bor ev_int)))))) (aS (bMul (ex_bor (iX (ex_srd (vS 0)) (ex_bor ev_int))) (ex_bor (iX (ex_srd (vS 1)) (ex_bor ev_int)))) nS)))))
abbrev N23 : List Str := ["one", "other", "left", "right"]
theorem sc23 : FnScope N23 (["one", "other"] : List Str) (defScope (top 23)) := ⟨rfl, rfl, rfl, by decide +kernel, rfl, by decide +kernel, by decide +kernel⟩
abbrev c23 : Cf := { M := [] }
set_option maxHeartbeats 8000000 in
theorem ok23 (T : Tx K mg) {f : Addr} {fd : FuncData} (F : Fun K "add" "add" (top 23) f fd) (d_add_ratios : FnA P w K mg base "add_ratios" 3 (FnS K (clA K xs) false ratios_add)) : FnOk P w K mg base (L2.CX P w) (3 + 1) f fd (["one", "other"] : List Str) (FnS K (clA K xs) false forms_add) := by
  refine fn_ok (c := c23) F sc23 (by decide) rfl rfl fun cdv A outer s H E hr => ?_
  have tk : Takes (cxOf (L2.CX P w) P w K mg base N23 "add" (defScope (top 23)) f cdv A outer s H E) (fun cls d _ H => E cls d H) := takes_of rfl rfl rfl rfl
  have hx : Passes (L2.CX P w) (cxOf (L2.CX P w) P w K mg base N23 "add" (defScope (top 23)) f cdv A outer s H E) E := passes_call tk fun _ _ _ _ h => h
  have hp := passes_of (X := cxOf (L2.CX P w) P w K mg base N23 "add" (defScope (top 23)) f cdv A outer s H E) rfl
  have nd : N23.Nodup := sc23.nd
  exact (ss_cons (sx_if (tNe hr (ex_bor (fLen T.bn (aB (ex_srd (vS 0)) nB))) (ex_bor (fLen T.bn (aB (ex_srd (vS 1)) nB)))) (ss_one (zRaise 1 T.e_BadForm tk)) ss_nil)
    (ss_one (zRet (fTuple T.bn (aB (ex_frd (lC [("left", 2), ("right", 3)] nd (wZ T.bn (ex_srd (vS 0)) (ex_srd (vS 1))) (fun _ _ _ _ _ => (gT (gSs (gV 2 nd) (gSs (gV 3 nd) gxs_nil)))) (fun _ _ _ _ _ => tsx_nil) (fun _ _ _ _ _ => (kS d_add_ratios (hr.mono (by first | decide | omega)) passL (aS (vS 2) (aS (vS 3) nS)))))) nB)))))
abbrev N32 : List Str := ["number", "found", "k"]
theorem sc32 : FnScope N32 (["number"] : List Str) (defScope (top 32)) := ⟨rfl, rfl, rfl, by decide +kernel, rfl, by decide +kernel, by decide +kernel⟩
abbrev c32 : Cf := { M := [] }
set_option maxHeartbeats 8000000 in
theorem ok32 (T : Tx K mg) {f : Addr} {fd : FuncData} (F : Fun K "factorial" "factorial" (top 32) f fd) : FnOk P w K mg base (L2.CX P w) (0 + 1) f fd (["number"] : List Str) (FnS K (clA K xs) false forms_factorial) := by
  refine fn_ok (c := c32) F sc32 (by decide) rfl rfl fun cdv A outer s H E hr => ?_
  have tk : Takes (cxOf (L2.CX P w) P w K mg base N32 "factorial" (defScope (top 32)) f cdv A outer s H E) (fun cls d _ H => E cls d H) := takes_of rfl rfl rfl rfl
  have hx : Passes (L2.CX P w) (cxOf (L2.CX P w) P w K mg base N32 "factorial" (defScope (top 32)) f cdv A outer s H E) E := passes_call tk fun _ _ _ _ h => h
  have hp := passes_of (X := cxOf (L2.CX P w) P w K mg base N32 "factorial" (defScope (top 32)) f cdv A outer s H E) rfl
  have nd : N32.Nodup := sc32.nd
  exact (ss_cons (zSet 1 nd ev_int)
    (ss_cons (zFor hp (wR2 T.bn (aB (ex_srd ev_int) (aB (ex_srd (bAdd (ex_bor (vS 0)) (ex_bor ev_int))) nB))) (gV 2 nd)
      (ss_one (zIMul 1 nd (ex_bor (vS 2)))))
    (ss_one (zRet (vS 1)))))
abbrev N15 : List Str := ["one", "other"]
theorem sc15 : FnScope N15 (["one", "other"] : List Str) (defScope (top 15)) := ⟨rfl, rfl, rfl, by decide +kernel, rfl, by decide +kernel, by decide +kernel⟩
abbrev c15 : Cf := { M := [] }
set_option maxHeartbeats 8000000 in
theorem ok15 (T : Tx K mg) {f : Addr} {fd : FuncData} (F : Fun K "divide" "divide" (top 15) f fd) (d_make : FnA P w K mg base "make" 2 (FnS K (clA K xs) false ratios_make)) : FnOk P w K mg base (L2.CX P w) (2 + 1) f fd (["one", "other"] : List Str) (FnS K (clA K xs) false ratios_divide) := by
  refine fn_ok (c := c15) F sc15 (by decide) rfl rfl fun cdv A outer s H E hr => ?_
  have tk : Takes (cxOf (L2.CX P w) P w K mg base N15 "divide" (defScope (top 15)) f cdv A outer s H E) (fun cls d _ H => E cls d H) := takes_of rfl rfl rfl rfl
  have hx : Passes (L2.CX P w) (cxOf (L2.CX P w) P w K mg base N15 "divide" (defScope (top 15)) f cdv A outer s H E) E := passes_call tk fun _ _ _ _ h => h
  have hp := passes_of (X := cxOf (L2.CX P w) P w K mg base N15 "divide" (defScope (top 15)) f cdv A outer s H E) rfl
  have nd : N15.Nodup := sc15.nd
  exact (ss_cons (sx_if (tEq hr (ex_bor (iX (ex_srd (vS 1)) (ex_bor ev_int))) (ex_bor ev_int)) (ss_one (zRaise 0 T.e_BadNumber tk)) ss_nil)
    (ss_one (zRet (kS d_make (hr.mono (by first | decide | omega)) hx (aS (bMul (ex_bor (iX (ex_srd (vS 0)) (ex_bor ev_int))) (ex_bor (iX (ex_srd (vS 1)) (ex_bor ev_int)))) (aS (bMul (ex_bor (iX (ex_srd (vS 0)) (ex_bor ev_int))) (ex_bor (iX (ex_srd (vS 1)) (ex_bor ev_int)))) nS))))))
abbrev N31 : List Str := ["many", "few", "found", "k"]
theorem sc31 : FnScope N31 (["many", "few"] : List Str) (defScope (top 31)) := ⟨rfl, rfl, rfl, by decide +kernel, rfl, by decide +kernel, by decide +kernel⟩
abbrev c31 : Cf := { M := [] }
set_option maxHeartbeats 8000000 in
theorem ok31 (T : Tx K mg) {f : Addr} {fd : FuncData} (F : Fun K "choose" "choose" (top 31) f fd) : FnOk P w K mg base (L2.CX P w) (0 + 1) f fd (["many", "few"] : List Str) (FnS K (clA K xs) false forms_choose) := by
  refine fn_ok (c := c31) F sc31 (by decide) rfl rfl fun cdv A outer s H E hr => ?_
  have tk : Takes (cxOf (L2.CX P w) P w K mg base N31 "choose" (defScope (top 31)) f cdv A outer s H E) (fun cls d _ H => E cls d H) := takes_of rfl rfl rfl rfl
  have hx : Passes (L2.CX P w) (cxOf (L2.CX P w) P w K mg base N31 "choose" (defScope (top 31)) f cdv A outer s H E) E := passes_call tk fun _ _ _ _ h => h
  have hp := passes_of (X := cxOf (L2.CX P w) P w K mg base N31 "choose" (defScope (top 31)) f cdv A outer s H E) rfl
  have nd : N31.Nodup := sc31.nd
  exact (ss_cons (zSet 2 nd ev_int)
    (ss_cons (zFor hp (wR1 T.bn (aB (ex_srd (vS 1)) nB)) (gV 3 nd)
      (ss_one (zSet 2 nd (bDiv (ex_bor (bMul (ex_bor (vS 2)) (ex_bor (bSub (ex_bor (vS 0)) (ex_bor (vS 3)))))) (ex_bor (bAdd (ex_bor (vS 3)) (ex_bor ev_int)))))))
    (ss_one (zRet (ev_if (tGe (ex_bor (vS 1)) (ex_bor ev_int)) (vS 2) ev_int)))))
abbrev N26 : List Str := ["one", "other", "found", "k", "left", "j", "right"]
theorem sc26 : FnScope N26 (["one", "other"] : List Str) (defScope (top 26)) := ⟨rfl, rfl, rfl, by decide +kernel, rfl, by decide +kernel, by decide +kernel⟩
abbrev c26 : Cf := { M := [2] }
set_option maxHeartbeats 8000000 in
theorem ok26 (T : Tx K mg) {f : Addr} {fd : FuncData} (F : Fun K "multiply" "multiply" (top 26) f fd) (d_add_ratios : FnA P w K mg base "add_ratios" 3 (FnS K (clA K xs) false ratios_add)) (d_multiply_ratios : FnA P w K mg base "multiply_ratios" 3 (FnS K (clA K xs) false ratios_multiply)) : FnOk P w K mg base (L2.CX P w) (3 + 1) f fd (["one", "other"] : List Str) (FnS K (clA K xs) false forms_multiply) := by
  refine fn_ok (c := c26) F sc26 (by decide) rfl rfl fun cdv A outer s H E hr => ?_
  have tk : Takes (cxOf (L2.CX P w) P w K mg base N26 "multiply" (defScope (top 26)) f cdv A outer s H E) (fun cls d _ H => E cls d H) := takes_of rfl rfl rfl rfl
  have hx : Passes (L2.CX P w) (cxOf (L2.CX P w) P w K mg base N26 "multiply" (defScope (top 26)) f cdv A outer s H E) E := passes_call tk fun _ _ _ _ h => h
  have hp := passes_of (X := cxOf (L2.CX P w) P w K mg base N26 "multiply" (defScope (top 26)) f cdv A outer s H E) rfl
  have nd : N26.Nodup := sc26.nd
  exact (ss_cons (sx_if (tGt (ex_bor (bSub (ex_bor (bAdd (ex_bor (fLen T.bn (aB (ex_srd (vS 0)) nB))) (ex_bor (fLen T.bn (aB (ex_srd (vS 1)) nB))))) (ex_bor ev_int))) (ex_bor (bAdd (ex_bor (gC T.c_MOST_ORDER)) (ex_bor ev_int)))) (ss_one (zRaise 1 T.e_BadForm tk)) ss_nil)
    (ss_cons (zOwn 2 nd (bMulL (ex_fb (ev_lst (aS (gC T.c_ZERO) nS))) (ex_bor (bSub (ex_bor (bAdd (ex_bor (fLen T.bn (aB (ex_srd (vS 0)) nB))) (ex_bor (fLen T.bn (aB (ex_srd (vS 1)) nB))))) (ex_bor ev_int)))))
    (ss_cons (zFor hp (wEn T.bn (vS 0)) (gT (gSs (gV 3 nd) (gSs (gV 4 nd) gxs_nil)))
      (ss_one (sx_if (tNe hr (ex_bor (vS 4)) (ex_bor (gC T.c_ZERO))) (ss_one (zFor hp (wEn T.bn (vS 1)) (gT (gSs (gV 5 nd) (gSs (gV 6 nd) gxs_nil)))
      (ss_one (zPut 2 (ex_bor (bAdd (ex_bor (vS 3)) (ex_bor (vS 5)))) (kS d_add_ratios (hr.mono (by first | decide | omega)) hx (aS (iX (ex_rd (vB 2)) (ex_bor (bAdd (ex_bor (vS 3)) (ex_bor (vS 5))))) (aS (kS d_multiply_ratios (hr.mono (by first | decide | omega)) hx (aS (vS 4) (aS (vS 6) nS))) nS))))))) ss_nil)))
    (ss_one (zRet (fTuple T.bn (aB (ex_srd (vS 2)) nB)))))))
abbrev N35 : List Str := ["one", "other", "count", "m", "n", "found", "k", "left", "right", "number", "below", "above"]
theorem sc35 : FnScope N35 (["one", "other", "count"] : List Str) (defScope (top 35)) := ⟨rfl, rfl, rfl, by decide +kernel, rfl, by decide +kernel, by decide +kernel⟩
abbrev c35 : Cf := { M := [] }
set_option maxHeartbeats 8000000 in
theorem ok35 (T : Tx K mg) {f : Addr} {fd : FuncData} (F : Fun K "slide" "slide" (top 35) f fd) (d_check_form : FnA P w K mg base "check_form" 4 (FnS K (clA K xs) false forms_check_form)) (d_zero : FnA P w K mg base "zero" 3 (FnS K (clA K xs) false forms_zero)) (d_scaled : FnA P w K mg base "scaled" 4 (FnS K (clA K xs) false forms_scaled)) (d_order : FnA P w K mg base "order" 1 (FnS K (clA K xs) false forms_order)) (d_slopes : FnA P w K mg base "slopes" 5 (FnS K (clA K xs) false forms_slopes)) (d_add_forms : FnA P w K mg base "add_forms" 4 (FnS K (clA K xs) false forms_add)) (d_factorial : FnA P w K mg base "factorial" 1 (FnS K (clA K xs) false forms_factorial)) (d_divide : FnA P w K mg base "divide" 3 (FnS K (clA K xs) false ratios_divide)) (d_is_integer : FnA P w K mg base "is_integer" 1 (FnS K (clA K xs) false ratios_is_integer)) (d_choose : FnA P w K mg base "choose" 1 (FnS K (clA K xs) false forms_choose)) (d_multiply_forms : FnA P w K mg base "multiply_forms" 4 (FnS K (clA K xs) false forms_multiply)) : FnOk P w K mg base (L2.CX P w) (5 + 1) f fd (["one", "other", "count"] : List Str) (FnS K (clA K xs) false slides_slide) := by
  refine fn_ok (c := c35) F sc35 (by decide) rfl rfl fun cdv A outer s H E hr => ?_
  have tk : Takes (cxOf (L2.CX P w) P w K mg base N35 "slide" (defScope (top 35)) f cdv A outer s H E) (fun cls d _ H => E cls d H) := takes_of rfl rfl rfl rfl
  have hx : Passes (L2.CX P w) (cxOf (L2.CX P w) P w K mg base N35 "slide" (defScope (top 35)) f cdv A outer s H E) E := passes_call tk fun _ _ _ _ h => h
  have hp := passes_of (X := cxOf (L2.CX P w) P w K mg base N35 "slide" (defScope (top 35)) f cdv A outer s H E) rfl
  have nd : N35.Nodup := sc35.nd
  exact (ss_cons (zDrop (ex_bor (kS d_check_form (hr.mono (by first | decide | omega)) hx (aS (vS 0) nS))))
    (ss_cons (zDrop (ex_bor (kS d_check_form (hr.mono (by first | decide | omega)) hx (aS (vS 1) nS))))
    (ss_cons (zPar2 3 4 false false nd (kS d_order (hr.mono (by first | decide | omega)) hx (aS (vS 0) nS)) (kS d_order (hr.mono (by first | decide | omega)) hx (aS (vS 1) nS)))
    (ss_cons (sx_if (tT1 (tw_or (tx_not (tV (ex_bor (kS d_is_integer (hr.mono (by first | decide | omega)) hx (aS (vS 2) nS))))) (tw_or (tLt (ex_bor (vS 2)) (ex_bor ev_int)) (tw_or (tGt (ex_bor (vS 2)) (ex_bor (vS 3))) (tw_or1 (tGt (ex_bor (vS 2)) (ex_bor (vS 4)))))))) (ss_one (zRaise 0 T.e_BadNumber tk)) ss_nil)
    (ss_cons (zSet 5 nd (kS d_zero (hr.mono (by first | decide | omega)) hx (aS (bSub (ex_bor (bAdd (ex_bor (vS 3)) (ex_bor (vS 4)))) (ex_bor (bMul (ex_bor ev_int) (ex_bor (vS 2))))) nS)))
    (ss_cons (zFor hp (wR1 T.bn (aB (ex_srd (bAdd (ex_bor (vS 2)) (ex_bor ev_int))) nB)) (gV 6 nd)
      (ss_cons (zSet 7 nd (kS d_slopes (hr.mono (by first | decide | omega)) hx (aS (vS 0) (aS (bSub (ex_bor (vS 2)) (ex_bor (vS 6))) (aS (vS 6) nS)))))
    (ss_cons (zSet 8 nd (kS d_slopes (hr.mono (by first | decide | omega)) hx (aS (vS 1) (aS (vS 6) (aS (bSub (ex_bor (vS 2)) (ex_bor (vS 6))) nS)))))
    (ss_cons (zSet 9 nd (ev_if (tEq hr (ex_bor (bMod (ex_bor (vS 6)) (ex_bor ev_int))) (ex_bor ev_int)) (kS d_choose (hr.mono (by first | decide | omega)) hx (aS (vS 2) (aS (vS 6) nS))) (uNeg (ex_srd (kS d_choose (hr.mono (by first | decide | omega)) hx (aS (vS 2) (aS (vS 6) nS)))))))
    (ss_one (zSet 5 nd (kS d_add_forms (hr.mono (by first | decide | omega)) hx (aS (vS 5) (aS (kS d_scaled (hr.mono (by first | decide | omega)) hx (aS (ev_tup (aS (vS 9) (aS ev_int nS))) (aS (kS d_multiply_forms (hr.mono (by first | decide | omega)) hx (aS (vS 7) (aS (vS 8) nS))) nS))) nS)))))))))
    (ss_cons (zSet 10 nd (bMul (ex_bor (kS d_factorial (hr.mono (by first | decide | omega)) hx (aS (vS 3) nS))) (ex_bor (kS d_factorial (hr.mono (by first | decide | omega)) hx (aS (vS 4) nS)))))
    (ss_cons (zSet 11 nd (bMul (ex_bor (kS d_factorial (hr.mono (by first | decide | omega)) hx (aS (bSub (ex_bor (vS 3)) (ex_bor (vS 2))) nS))) (ex_bor (kS d_factorial (hr.mono (by first | decide | omega)) hx (aS (bSub (ex_bor (vS 4)) (ex_bor (vS 2))) nS)))))
    (ss_one (zRet (kS d_scaled (hr.mono (by first | decide | omega)) hx (aS (kS d_divide (hr.mono (by first | decide | omega)) hx (aS (ev_tup (aS (vS 11) (aS ev_int nS))) (aS (ev_tup (aS (vS 10) (aS ev_int nS))) nS))) (aS (vS 5) nS)))))))))))))
abbrev N36 : List Str := ["one", "other", "count"]
theorem sc36 : FnScope N36 (["one", "other"] : List Str) (defScope (top 36)) := ⟨rfl, rfl, rfl, by decide +kernel, rfl, by decide +kernel, by decide +kernel⟩
abbrev c36 : Cf := { M := [] }
set_option maxHeartbeats 8000000 in
theorem ok36 (T : Tx K mg) {f : Addr} {fd : FuncData} (F : Fun K "all_slides" "all_slides" (top 36) f fd) (d_slide : FnA P w K mg base "slide" 6 (FnS K (clA K xs) false slides_slide)) (d_order : FnA P w K mg base "order" 1 (FnS K (clA K xs) false forms_order)) : FnOk P w K mg base (L2.CX P w) (6 + 1) f fd (["one", "other"] : List Str) (FnS K (clA K xs) false slides_all_slides) := by
  refine fn_ok (c := c36) F sc36 (by decide) rfl rfl fun cdv A outer s H E hr => ?_
  have tk : Takes (cxOf (L2.CX P w) P w K mg base N36 "all_slides" (defScope (top 36)) f cdv A outer s H E) (fun cls d _ H => E cls d H) := takes_of rfl rfl rfl rfl
  have hx : Passes (L2.CX P w) (cxOf (L2.CX P w) P w K mg base N36 "all_slides" (defScope (top 36)) f cdv A outer s H E) E := passes_call tk fun _ _ _ _ h => h
  have hp := passes_of (X := cxOf (L2.CX P w) P w K mg base N36 "all_slides" (defScope (top 36)) f cdv A outer s H E) rfl
  have nd : N36.Nodup := sc36.nd
  exact (ss_one (zRet (fTuple T.bn (aB (ex_frd (lC [("count", 2)] nd (wR1 T.bn (aB (ex_srd (bAdd (ex_bor (fMin T.bn (aB (ex_srd (kS d_order (hr.mono (by first | decide | omega)) hx (aS (vS 0) nS))) (aB (ex_srd (kS d_order (hr.mono (by first | decide | omega)) hx (aS (vS 1) nS))) nB)))) (ex_bor ev_int))) nB)) (fun _ _ _ _ _ => (gV 2 nd)) (fun _ _ _ _ _ => tsx_nil) (fun _ _ _ _ _ => (kS d_slide (hr.mono (by first | decide | omega)) passL (aS (vS 0) (aS (vS 1) (aS (vS 2) nS))))))) nB))))
abbrev N47 : List Str := ["above", "under", "one", "other"]
theorem sc47 : FnScope N47 (["above", "under"] : List Str) (defScope (top 47)) := ⟨rfl, rfl, rfl, by decide +kernel, rfl, by decide +kernel, by decide +kernel⟩
abbrev c47 : Cf := { M := [] }
set_option maxHeartbeats 8000000 in
theorem ok47 (T : Tx K mg) {f : Addr} {fd : FuncData} (F : Fun K "_law_make" "_law_make" (top 47) f fd) : FnOk P w K mg base (L2.CX P w) (0 + 1) f fd (["above", "under"] : List Str) (FnS K (clA K xs) false law_make) := by
  refine fn_ok (c := c47) F sc47 (by decide) rfl rfl fun cdv A outer s H E hr => ?_
  have tk : Takes (cxOf (L2.CX P w) P w K mg base N47 "_law_make" (defScope (top 47)) f cdv A outer s H E) (fun cls d _ H => E cls d H) := takes_of rfl rfl rfl rfl
  have hx : Passes (L2.CX P w) (cxOf (L2.CX P w) P w K mg base N47 "_law_make" (defScope (top 47)) f cdv A outer s H E) E := passes_call tk fun _ _ _ _ h => h
  have hp := passes_of (X := cxOf (L2.CX P w) P w K mg base N47 "_law_make" (defScope (top 47)) f cdv A outer s H E) rfl
  have nd : N47.Nodup := sc47.nd
  exact (ss_cons (zPar2 2 3 false false nd (fAbs T.bn (aB (ex_srd (vS 0)) nB)) (fAbs T.bn (aB (ex_srd (vS 1)) nB)))
    (ss_cons (zWhile 1000000 hp (tGt (ex_bor (vS 3)) (ex_bor ev_int))
      (ss_one (zPar2 2 3 false false nd (vS 3) (bMod (ex_bor (vS 2)) (ex_bor (vS 3))))))
    (ss_one (zRet (ev_if (tGt (ex_bor (vS 1)) (ex_bor ev_int)) (ev_tup (aS (bDiv (ex_bor (vS 0)) (ex_bor (vS 2))) (aS (bDiv (ex_bor (vS 1)) (ex_bor (vS 2))) nS))) (ev_tup (aS (bDiv (ex_bor (uNeg (ex_srd (vS 0)))) (ex_bor (vS 2))) (aS (bDiv (ex_bor (uNeg (ex_srd (vS 1)))) (ex_bor (vS 2))) nS))))))))
abbrev N48 : List Str := ["one", "other"]
theorem sc48 : FnScope N48 (["one", "other"] : List Str) (defScope (top 48)) := ⟨rfl, rfl, rfl, by decide +kernel, rfl, by decide +kernel, by decide +kernel⟩
abbrev c48 : Cf := { M := [] }
set_option maxHeartbeats 8000000 in
theorem ok48 (T : Tx K mg) {f : Addr} {fd : FuncData} (F : Fun K "_law_add" "_law_add" (top 48) f fd) (d__law_make : FnA P w K mg base "_law_make" 1 (FnS K (clA K xs) false law_make)) : FnOk P w K mg base (L2.CX P w) (1 + 1) f fd (["one", "other"] : List Str) (FnS K (clA K xs) false law_add) := by
  refine fn_ok (c := c48) F sc48 (by decide) rfl rfl fun cdv A outer s H E hr => ?_
  have tk : Takes (cxOf (L2.CX P w) P w K mg base N48 "_law_add" (defScope (top 48)) f cdv A outer s H E) (fun cls d _ H => E cls d H) := takes_of rfl rfl rfl rfl
  have hx : Passes (L2.CX P w) (cxOf (L2.CX P w) P w K mg base N48 "_law_add" (defScope (top 48)) f cdv A outer s H E) E := passes_call tk fun _ _ _ _ h => h
  have hp := passes_of (X := cxOf (L2.CX P w) P w K mg base N48 "_law_add" (defScope (top 48)) f cdv A outer s H E) rfl
  have nd : N48.Nodup := sc48.nd
  exact (ss_one (zRet (kS d__law_make (hr.mono (by first | decide | omega)) hx (aS (bAdd (ex_bor (bMul (ex_bor (iX (ex_srd (vS 0)) (ex_bor ev_int))) (ex_bor (iX (ex_srd (vS 1)) (ex_bor ev_int))))) (ex_bor (bMul (ex_bor (iX (ex_srd (vS 1)) (ex_bor ev_int))) (ex_bor (iX (ex_srd (vS 0)) (ex_bor ev_int)))))) (aS (bMul (ex_bor (iX (ex_srd (vS 0)) (ex_bor ev_int))) (ex_bor (iX (ex_srd (vS 1)) (ex_bor ev_int)))) nS)))))
abbrev N52 : List Str := ["one", "other", "a", "b"]
theorem sc52 : FnScope N52 (["one", "other"] : List Str) (defScope (top 52)) := ⟨rfl, rfl, rfl, by decide +kernel, rfl, by decide +kernel, by decide +kernel⟩
abbrev c52 : Cf := { M := [] }
set_option maxHeartbeats 8000000 in
theorem ok52 (T : Tx K mg) {f : Addr} {fd : FuncData} (F : Fun K "_law_plus" "_law_plus" (top 52) f fd) (d__law_add : FnA P w K mg base "_law_add" 2 (FnS K (clA K xs) false law_add)) : FnOk P w K mg base (L2.CX P w) (2 + 1) f fd (["one", "other"] : List Str) (FnS K (clA K xs) false law_plus) := by
  refine fn_ok (c := c52) F sc52 (by decide) rfl rfl fun cdv A outer s H E hr => ?_
  have tk : Takes (cxOf (L2.CX P w) P w K mg base N52 "_law_plus" (defScope (top 52)) f cdv A outer s H E) (fun cls d _ H => E cls d H) := takes_of rfl rfl rfl rfl
  have hx : Passes (L2.CX P w) (cxOf (L2.CX P w) P w K mg base N52 "_law_plus" (defScope (top 52)) f cdv A outer s H E) E := passes_call tk fun _ _ _ _ h => h
  have hp := passes_of (X := cxOf (L2.CX P w) P w K mg base N52 "_law_plus" (defScope (top 52)) f cdv A outer s H E) rfl
  have nd : N52.Nodup := sc52.nd
  exact (ss_one (zRet (fTuple T.bn (aB (ex_frd (lC [("a", 2), ("b", 3)] nd (wZ T.bn (ex_srd (vS 0)) (ex_srd (vS 1))) (fun _ _ _ _ _ => (gT (gSs (gV 2 nd) (gSs (gV 3 nd) gxs_nil)))) (fun _ _ _ _ _ => tsx_nil) (fun _ _ _ _ _ => (kS d__law_add (hr.mono (by first | decide | omega)) passL (aS (vS 2) (aS (vS 3) nS)))))) nB))))
abbrev N49 : List Str := ["one", "other"]
theorem sc49 : FnScope N49 (["one", "other"] : List Str) (defScope (top 49)) := ⟨rfl, rfl, rfl, by decide +kernel, rfl, by decide +kernel, by decide +kernel⟩
abbrev c49 : Cf := { M := [] }
set_option maxHeartbeats 8000000 in
theorem ok49 (T : Tx K mg) {f : Addr} {fd : FuncData} (F : Fun K "_law_mul" "_law_mul" (top 49) f fd) (d__law_make : FnA P w K mg base "_law_make" 1 (FnS K (clA K xs) false law_make)) : FnOk P w K mg base (L2.CX P w) (1 + 1) f fd (["one", "other"] : List Str) (FnS K (clA K xs) false law_mul) := by
  refine fn_ok (c := c49) F sc49 (by decide) rfl rfl fun cdv A outer s H E hr => ?_
  have tk : Takes (cxOf (L2.CX P w) P w K mg base N49 "_law_mul" (defScope (top 49)) f cdv A outer s H E) (fun cls d _ H => E cls d H) := takes_of rfl rfl rfl rfl
  have hx : Passes (L2.CX P w) (cxOf (L2.CX P w) P w K mg base N49 "_law_mul" (defScope (top 49)) f cdv A outer s H E) E := passes_call tk fun _ _ _ _ h => h
  have hp := passes_of (X := cxOf (L2.CX P w) P w K mg base N49 "_law_mul" (defScope (top 49)) f cdv A outer s H E) rfl
  have nd : N49.Nodup := sc49.nd
  exact (ss_one (zRet (kS d__law_make (hr.mono (by first | decide | omega)) hx (aS (bMul (ex_bor (iX (ex_srd (vS 0)) (ex_bor ev_int))) (ex_bor (iX (ex_srd (vS 1)) (ex_bor ev_int)))) (aS (bMul (ex_bor (iX (ex_srd (vS 0)) (ex_bor ev_int))) (ex_bor (iX (ex_srd (vS 1)) (ex_bor ev_int)))) nS)))))
abbrev N53 : List Str := ["number", "one", "item"]
theorem sc53 : FnScope N53 (["number", "one"] : List Str) (defScope (top 53)) := ⟨rfl, rfl, rfl, by decide +kernel, rfl, by decide +kernel, by decide +kernel⟩
abbrev c53 : Cf := { M := [] }
set_option maxHeartbeats 8000000 in
theorem ok53 (T : Tx K mg) {f : Addr} {fd : FuncData} (F : Fun K "_law_scaled" "_law_scaled" (top 53) f fd) (d__law_mul : FnA P w K mg base "_law_mul" 2 (FnS K (clA K xs) false law_mul)) : FnOk P w K mg base (L2.CX P w) (2 + 1) f fd (["number", "one"] : List Str) (FnS K (clA K xs) false law_scaled) := by
  refine fn_ok (c := c53) F sc53 (by decide) rfl rfl fun cdv A outer s H E hr => ?_
  have tk : Takes (cxOf (L2.CX P w) P w K mg base N53 "_law_scaled" (defScope (top 53)) f cdv A outer s H E) (fun cls d _ H => E cls d H) := takes_of rfl rfl rfl rfl
  have hx : Passes (L2.CX P w) (cxOf (L2.CX P w) P w K mg base N53 "_law_scaled" (defScope (top 53)) f cdv A outer s H E) E := passes_call tk fun _ _ _ _ h => h
  have hp := passes_of (X := cxOf (L2.CX P w) P w K mg base N53 "_law_scaled" (defScope (top 53)) f cdv A outer s H E) rfl
  have nd : N53.Nodup := sc53.nd
  exact (ss_one (zRet (fTuple T.bn (aB (ex_frd (lC [("item", 2)] nd (wS (ex_srd (vS 1))) (fun _ _ _ _ _ => (gV 2 nd)) (fun _ _ _ _ _ => tsx_nil) (fun _ _ _ _ _ => (kS d__law_mul (hr.mono (by first | decide | omega)) passL (aS (vS 0) (aS (vS 2) nS)))))) nB))))
abbrev N57 : List Str := ["many", "few", "found", "k"]
theorem sc57 : FnScope N57 (["many", "few"] : List Str) (defScope (top 57)) := ⟨rfl, rfl, rfl, by decide +kernel, rfl, by decide +kernel, by decide +kernel⟩
abbrev c57 : Cf := { M := [] }
set_option maxHeartbeats 8000000 in
theorem ok57 (T : Tx K mg) {f : Addr} {fd : FuncData} (F : Fun K "_law_choose" "_law_choose" (top 57) f fd) : FnOk P w K mg base (L2.CX P w) (0 + 1) f fd (["many", "few"] : List Str) (FnS K (clA K xs) false law_choose) := by
  refine fn_ok (c := c57) F sc57 (by decide) rfl rfl fun cdv A outer s H E hr => ?_
  have tk : Takes (cxOf (L2.CX P w) P w K mg base N57 "_law_choose" (defScope (top 57)) f cdv A outer s H E) (fun cls d _ H => E cls d H) := takes_of rfl rfl rfl rfl
  have hx : Passes (L2.CX P w) (cxOf (L2.CX P w) P w K mg base N57 "_law_choose" (defScope (top 57)) f cdv A outer s H E) E := passes_call tk fun _ _ _ _ h => h
  have hp := passes_of (X := cxOf (L2.CX P w) P w K mg base N57 "_law_choose" (defScope (top 57)) f cdv A outer s H E) rfl
  have nd : N57.Nodup := sc57.nd
  exact (ss_cons (zSet 2 nd ev_int)
    (ss_cons (zFor hp (wR1 T.bn (aB (ex_srd (vS 1)) nB)) (gV 3 nd)
      (ss_one (zSet 2 nd (bDiv (ex_bor (bMul (ex_bor (vS 2)) (ex_bor (bSub (ex_bor (vS 0)) (ex_bor (vS 3)))))) (ex_bor (bAdd (ex_bor (vS 3)) (ex_bor ev_int)))))))
    (ss_one (zRet (vS 2)))))
abbrev N56 : List Str := ["form", "by_x", "size", "k"]
theorem sc56 : FnScope N56 (["form", "by_x"] : List Str) (defScope (top 56)) := ⟨rfl, rfl, rfl, by decide +kernel, rfl, by decide +kernel, by decide +kernel⟩
abbrev c56 : Cf := { M := [] }
set_option maxHeartbeats 8000000 in
theorem ok56 (T : Tx K mg) {f : Addr} {fd : FuncData} (F : Fun K "_law_slope" "_law_slope" (top 56) f fd) (d__law_mul : FnA P w K mg base "_law_mul" 2 (FnS K (clA K xs) false law_mul)) : FnOk P w K mg base (L2.CX P w) (2 + 1) f fd (["form", "by_x"] : List Str) (FnS K (clA K xs) false law_slope) := by
  refine fn_ok (c := c56) F sc56 (by decide) rfl rfl fun cdv A outer s H E hr => ?_
  have tk : Takes (cxOf (L2.CX P w) P w K mg base N56 "_law_slope" (defScope (top 56)) f cdv A outer s H E) (fun cls d _ H => E cls d H) := takes_of rfl rfl rfl rfl
  have hx : Passes (L2.CX P w) (cxOf (L2.CX P w) P w K mg base N56 "_law_slope" (defScope (top 56)) f cdv A outer s H E) E := passes_call tk fun _ _ _ _ h => h
  have hp := passes_of (X := cxOf (L2.CX P w) P w K mg base N56 "_law_slope" (defScope (top 56)) f cdv A outer s H E) rfl
  have nd : N56.Nodup := sc56.nd
  exact (ss_cons (zSet 2 nd (bSub (ex_bor (fLen T.bn (aB (ex_srd (vS 0)) nB))) (ex_bor ev_int)))
    (ss_cons (sx_if (tEq hr (ex_bor (vS 2)) (ex_bor ev_int)) (ss_one (zRet (ev_tup (aS (ev_tup (aS ev_int (aS ev_int nS))) nS)))) ss_nil)
    (ss_cons (sx_if (tV (ex_bor (vS 1))) (ss_one (zRet (fTuple T.bn (aB (ex_frd (lC [("k", 3)] nd (wR1 T.bn (aB (ex_srd (vS 2)) nB)) (fun _ _ _ _ _ => (gV 3 nd)) (fun _ _ _ _ _ => tsx_nil) (fun _ _ _ _ _ => (kS d__law_mul (hr.mono (by first | decide | omega)) passL (aS (ev_tup (aS (bSub (ex_bor (vS 2)) (ex_bor (vS 3))) (aS ev_int nS))) (aS (iX (ex_srd (vS 0)) (ex_bor (vS 3))) nS)))))) nB)))) ss_nil)
    (ss_one (zRet (fTuple T.bn (aB (ex_frd (lC [("k", 3)] nd (wR1 T.bn (aB (ex_srd (vS 2)) nB)) (fun _ _ _ _ _ => (gV 3 nd)) (fun _ _ _ _ _ => tsx_nil) (fun _ _ _ _ _ => (kS d__law_mul (hr.mono (by first | decide | omega)) passL (aS (ev_tup (aS (bAdd (ex_bor (vS 3)) (ex_bor ev_int)) (aS ev_int nS))) (aS (iX (ex_srd (vS 0)) (ex_bor (bAdd (ex_bor (vS 3)) (ex_bor ev_int)))) nS)))))) nB)))))))
abbrev N51 : List Str := ["one", "other", "found", "k", "j"]
theorem sc51 : FnScope N51 (["one", "other"] : List Str) (defScope (top 51)) := ⟨rfl, rfl, rfl, by decide +kernel, rfl, by decide +kernel, by decide +kernel⟩
abbrev c51 : Cf := { M := [2] }
set_option maxHeartbeats 8000000 in
theorem ok51 (T : Tx K mg) {f : Addr} {fd : FuncData} (F : Fun K "_law_times" "_law_times" (top 51) f fd) (d__law_add : FnA P w K mg base "_law_add" 2 (FnS K (clA K xs) false law_add)) (d__law_mul : FnA P w K mg base "_law_mul" 2 (FnS K (clA K xs) false law_mul)) : FnOk P w K mg base (L2.CX P w) (2 + 1) f fd (["one", "other"] : List Str) (FnS K (clA K xs) false law_times) := by
  refine fn_ok (c := c51) F sc51 (by decide) rfl rfl fun cdv A outer s H E hr => ?_
  have tk : Takes (cxOf (L2.CX P w) P w K mg base N51 "_law_times" (defScope (top 51)) f cdv A outer s H E) (fun cls d _ H => E cls d H) := takes_of rfl rfl rfl rfl
  have hx : Passes (L2.CX P w) (cxOf (L2.CX P w) P w K mg base N51 "_law_times" (defScope (top 51)) f cdv A outer s H E) E := passes_call tk fun _ _ _ _ h => h
  have hp := passes_of (X := cxOf (L2.CX P w) P w K mg base N51 "_law_times" (defScope (top 51)) f cdv A outer s H E) rfl
  have nd : N51.Nodup := sc51.nd
  exact (ss_cons (zOwn 2 nd (bMulL (ex_fb (ev_lst (aS (ev_tup (aS ev_int (aS ev_int nS))) nS))) (ex_bor (bSub (ex_bor (bAdd (ex_bor (fLen T.bn (aB (ex_srd (vS 0)) nB))) (ex_bor (fLen T.bn (aB (ex_srd (vS 1)) nB))))) (ex_bor ev_int)))))
    (ss_cons (zFor hp (wR1 T.bn (aB (ex_srd (fLen T.bn (aB (ex_srd (vS 0)) nB))) nB)) (gV 3 nd)
      (ss_one (zFor hp (wR1 T.bn (aB (ex_srd (fLen T.bn (aB (ex_srd (vS 1)) nB))) nB)) (gV 4 nd)
      (ss_one (zPut 2 (ex_bor (bAdd (ex_bor (vS 3)) (ex_bor (vS 4)))) (kS d__law_add (hr.mono (by first | decide | omega)) hx (aS (iX (ex_rd (vB 2)) (ex_bor (bAdd (ex_bor (vS 3)) (ex_bor (vS 4))))) (aS (kS d__law_mul (hr.mono (by first | decide | omega)) hx (aS (iX (ex_srd (vS 0)) (ex_bor (vS 3))) (aS (iX (ex_srd (vS 1)) (ex_bor (vS 4))) nS))) nS))))))))
    (ss_one (zRet (fTuple T.bn (aB (ex_srd (vS 2)) nB))))))
abbrev N61 : List Str := ["one", "other", "count", "m", "n", "found", "j", "left", "right", "turn_of", "number", "below", "k"]
theorem sc61 : FnScope N61 (["one", "other", "count"] : List Str) (defScope (top 61)) := ⟨rfl, rfl, rfl, by decide +kernel, rfl, by decide +kernel, by decide +kernel⟩
abbrev c61 : Cf := { M := [] }
set_option maxHeartbeats 8000000 in
theorem ok61 (T : Tx K mg) {f : Addr} {fd : FuncData} (F : Fun K "_law_slide" "_law_slide" (top 61) f fd) (d__law_scaled : FnA P w K mg base "_law_scaled" 3 (FnS K (clA K xs) false law_scaled)) (d__law_plus : FnA P w K mg base "_law_plus" 3 (FnS K (clA K xs) false law_plus)) (d__law_choose : FnA P w K mg base "_law_choose" 1 (FnS K (clA K xs) false law_choose)) (d__law_slope : FnA P w K mg base "_law_slope" 3 (FnS K (clA K xs) false law_slope)) (d__law_times : FnA P w K mg base "_law_times" 3 (FnS K (clA K xs) false law_times)) : FnOk P w K mg base (L2.CX P w) (3 + 1) f fd (["one", "other", "count"] : List Str) (FnS K (clA K xs) false law_slide) := by
  refine fn_ok (c := c61) F sc61 (by decide) rfl rfl fun cdv A outer s H E hr => ?_
  have tk : Takes (cxOf (L2.CX P w) P w K mg base N61 "_law_slide" (defScope (top 61)) f cdv A outer s H E) (fun cls d _ H => E cls d H) := takes_of rfl rfl rfl rfl
  have hx : Passes (L2.CX P w) (cxOf (L2.CX P w) P w K mg base N61 "_law_slide" (defScope (top 61)) f cdv A outer s H E) E := passes_call tk fun _ _ _ _ h => h
  have hp := passes_of (X := cxOf (L2.CX P w) P w K mg base N61 "_law_slide" (defScope (top 61)) f cdv A outer s H E) rfl
  have nd : N61.Nodup := sc61.nd
  exact (ss_cons (zPar2 3 4 false false nd (bSub (ex_bor (fLen T.bn (aB (ex_srd (vS 0)) nB))) (ex_bor ev_int)) (bSub (ex_bor (fLen T.bn (aB (ex_srd (vS 1)) nB))) (ex_bor ev_int)))
    (ss_cons (zSet 5 nd (bMul (ex_bor (ev_tup (aS (ev_tup (aS ev_int (aS ev_int nS))) nS))) (ex_bor (bAdd (ex_bor (bSub (ex_bor (bAdd (ex_bor (vS 3)) (ex_bor (vS 4)))) (ex_bor (bMul (ex_bor ev_int) (ex_bor (vS 2)))))) (ex_bor ev_int)))))
    (ss_cons (zFor hp (wR1 T.bn (aB (ex_srd (bAdd (ex_bor (vS 2)) (ex_bor ev_int))) nB)) (gV 6 nd)
      (ss_cons (zPar2 7 8 false false nd (vS 0) (vS 1))
    (ss_cons (zFor hp (wR1 T.bn (aB (ex_srd (vS 2)) nB)) (gV 9 nd)
      (ss_one (zPar2 7 8 false false nd (kS d__law_slope (hr.mono (by first | decide | omega)) hx (aS (vS 7) (aS (ex_bool (cLt (ex_bor (vS 9)) (ex_bor (bSub (ex_bor (vS 2)) (ex_bor (vS 6))))) bool_cmp) nS))) (kS d__law_slope (hr.mono (by first | decide | omega)) hx (aS (vS 8) (aS (ex_bool (cLt (ex_bor (vS 9)) (ex_bor (vS 6))) bool_cmp) nS))))))
    (ss_cons (zSet 10 nd (ev_if (tEq hr (ex_bor (bMod (ex_bor (vS 6)) (ex_bor ev_int))) (ex_bor ev_int)) (kS d__law_choose (hr.mono (by first | decide | omega)) hx (aS (vS 2) (aS (vS 6) nS))) (uNeg (ex_srd (kS d__law_choose (hr.mono (by first | decide | omega)) hx (aS (vS 2) (aS (vS 6) nS)))))))
    (ss_one (zSet 5 nd (kS d__law_plus (hr.mono (by first | decide | omega)) hx (aS (vS 5) (aS (kS d__law_scaled (hr.mono (by first | decide | omega)) hx (aS (ev_tup (aS (vS 10) (aS ev_int nS))) (aS (kS d__law_times (hr.mono (by first | decide | omega)) hx (aS (vS 7) (aS (vS 8) nS))) nS))) nS)))))))))
    (ss_cons (zSet 11 nd ev_int)
    (ss_cons (zFor hp (wR1 T.bn (aB (ex_srd (vS 2)) nB)) (gV 12 nd)
      (ss_one (zSet 11 nd (bMul (ex_bor (bMul (ex_bor (vS 11)) (ex_bor (bSub (ex_bor (vS 3)) (ex_bor (vS 12)))))) (ex_bor (bSub (ex_bor (vS 4)) (ex_bor (vS 12))))))))
    (ss_one (zRet (kS d__law_scaled (hr.mono (by first | decide | omega)) hx (aS (ev_tup (aS ev_int (aS (vS 11) nS))) (aS (vS 5) nS))))))))))
abbrev N62 : List Str := ["table", "m", "n", "found", "count", "total", "k", "unit", "j"]
theorem sc62 : FnScope N62 (["table"] : List Str) (defScope (top 62)) := ⟨rfl, rfl, rfl, by decide +kernel, rfl, by decide +kernel, by decide +kernel⟩
abbrev c62 : Cf := { M := [3] }
set_option maxHeartbeats 8000000 in
theorem ok62 (T : Tx K mg) {f : Addr} {fd : FuncData} (F : Fun K "_law_slides" "_law_slides" (top 62) f fd) (d__law_plus : FnA P w K mg base "_law_plus" 3 (FnS K (clA K xs) false law_plus)) (d__law_slide : FnA P w K mg base "_law_slide" 4 (FnS K (clA K xs) false law_slide)) : FnOk P w K mg base (L2.CX P w) (4 + 1) f fd (["table"] : List Str) (FnS K (clA K xs) false law_slides) := by
  refine fn_ok (c := c62) F sc62 (by decide) rfl rfl fun cdv A outer s H E hr => ?_
  have tk : Takes (cxOf (L2.CX P w) P w K mg base N62 "_law_slides" (defScope (top 62)) f cdv A outer s H E) (fun cls d _ H => E cls d H) := takes_of rfl rfl rfl rfl
  have hx : Passes (L2.CX P w) (cxOf (L2.CX P w) P w K mg base N62 "_law_slides" (defScope (top 62)) f cdv A outer s H E) E := passes_call tk fun _ _ _ _ h => h
  have hp := passes_of (X := cxOf (L2.CX P w) P w K mg base N62 "_law_slides" (defScope (top 62)) f cdv A outer s H E) rfl
  have nd : N62.Nodup := sc62.nd
  exact (ss_cons (zPar3 1 2 3 false false true nd (bSub (ex_bor (fLen T.bn (aB (ex_srd (vS 0)) nB))) (ex_bor ev_int)) (bSub (ex_bor (fLen T.bn (aB (ex_srd (iX (ex_srd (vS 0)) (ex_bor ev_int))) nB))) (ex_bor ev_int)) (ev_lst nS))
    (ss_cons (zFor hp (wR1 T.bn (aB (ex_srd (bAdd (ex_bor (fMin T.bn (aB (ex_srd (vS 1)) (aB (ex_srd (vS 2)) nB)))) (ex_bor ev_int))) nB)) (gV 4 nd)
      (ss_cons (zSet 5 nd (bMul (ex_bor (ev_tup (aS (ev_tup (aS ev_int (aS ev_int nS))) nS))) (ex_bor (bAdd (ex_bor (bSub (ex_bor (bAdd (ex_bor (vS 1)) (ex_bor (vS 2)))) (ex_bor (bMul (ex_bor ev_int) (ex_bor (vS 4)))))) (ex_bor ev_int)))))
    (ss_cons (zFor hp (wR1 T.bn (aB (ex_srd (bAdd (ex_bor (vS 1)) (ex_bor ev_int))) nB)) (gV 6 nd)
      (ss_cons (zSet 7 nd (fTuple T.bn (aB (ex_frd (lC [("j", 8)] nd (wR1 T.bn (aB (ex_srd (bAdd (ex_bor (vS 1)) (ex_bor ev_int))) nB)) (fun _ _ _ _ _ => (gV 8 nd)) (fun _ _ _ _ _ => tsx_nil) (fun _ _ _ _ _ => (ev_tup (aS (ev_if (tEq hr (ex_bor (vS 8)) (ex_bor (vS 6))) ev_int ev_int) (aS ev_int nS)))))) nB)))
    (ss_one (zSet 5 nd (kS d__law_plus (hr.mono (by first | decide | omega)) hx (aS (vS 5) (aS (kS d__law_slide (hr.mono (by first | decide | omega)) hx (aS (vS 7) (aS (iX (ex_srd (vS 0)) (ex_bor (vS 6))) (aS (vS 4) nS)))) nS)))))))
    (ss_one (zApp 3 (vS 5))))))
    (ss_one (zRet (fTuple T.bn (aB (ex_srd (vS 3)) nB))))))
abbrev N45 : List Str := ["cell", "k", "mixed"]
theorem sc45 : FnScope N45 (["cell", "k"] : List Str) (defScope (top 45)) := ⟨rfl, rfl, rfl, by decide +kernel, rfl, by decide +kernel, by decide +kernel⟩
abbrev c45 : Cf := { M := [] }
set_option maxHeartbeats 8000000 in
theorem ok45 (T : Tx K mg) {f : Addr} {fd : FuncData} (F : Fun K "_law_rich" "_law_rich" (top 45) f fd) : FnOk P w K mg base (L2.CX P w) (0 + 1) f fd (["cell", "k"] : List Str) (FnS K (clA K xs) false law_rich) := by
  refine fn_ok (c := c45) F sc45 (by decide) rfl rfl fun cdv A outer s H E hr => ?_
  have tk : Takes (cxOf (L2.CX P w) P w K mg base N45 "_law_rich" (defScope (top 45)) f cdv A outer s H E) (fun cls d _ H => E cls d H) := takes_of rfl rfl rfl rfl
  have hx : Passes (L2.CX P w) (cxOf (L2.CX P w) P w K mg base N45 "_law_rich" (defScope (top 45)) f cdv A outer s H E) E := passes_call tk fun _ _ _ _ h => h
  have hp := passes_of (X := cxOf (L2.CX P w) P w K mg base N45 "_law_rich" (defScope (top 45)) f cdv A outer s H E) rfl
  have nd : N45.Nodup := sc45.nd
  exact (ss_cons (zSet 2 nd (bMod (ex_bor (fInt T.bn (aB (ex_srd (bAdd (ex_bor (bAdd (ex_bor (bMul (ex_bor (vS 0)) (ex_bor ev_int))) (ex_bor (bMul (ex_bor (vS 1)) (ex_bor ev_int))))) (ex_bor ev_int))) nB))) (ex_bor ev_int)))
    (ss_one (zRet (bAdd (ex_bor (bMul (ex_bor (vS 2)) (ex_bor ev_int))) (ex_bor (bMod (ex_bor (fInt T.bn (aB (ex_srd (bAdd (ex_bor (bMul (ex_bor (vS 2)) (ex_bor ev_int))) (ex_bor (vS 0)))) nB))) (ex_bor ev_int)))))))
abbrev N58 : List Str := ["rich", "size", "k"]
theorem sc58 : FnScope N58 (["rich", "size"] : List Str) (defScope (top 58)) := ⟨rfl, rfl, rfl, by decide +kernel, rfl, by decide +kernel, by decide +kernel⟩
abbrev c58 : Cf := { M := [] }
set_option maxHeartbeats 8000000 in
theorem ok58 (T : Tx K mg) {f : Addr} {fd : FuncData} (F : Fun K "_law_form" "_law_form" (top 58) f fd) (d__law_make : FnA P w K mg base "_law_make" 1 (FnS K (clA K xs) false law_make)) : FnOk P w K mg base (L2.CX P w) (1 + 1) f fd (["rich", "size"] : List Str) (FnS K (clA K xs) false law_form) := by
  refine fn_ok (c := c58) F sc58 (by decide) rfl rfl fun cdv A outer s H E hr => ?_
  have tk : Takes (cxOf (L2.CX P w) P w K mg base N58 "_law_form" (defScope (top 58)) f cdv A outer s H E) (fun cls d _ H => E cls d H) := takes_of rfl rfl rfl rfl
  have hx : Passes (L2.CX P w) (cxOf (L2.CX P w) P w K mg base N58 "_law_form" (defScope (top 58)) f cdv A outer s H E) E := passes_call tk fun _ _ _ _ h => h
  have hp := passes_of (X := cxOf (L2.CX P w) P w K mg base N58 "_law_form" (defScope (top 58)) f cdv A outer s H E) rfl
  have nd : N58.Nodup := sc58.nd
  exact (ss_one (zRet (fTuple T.bn (aB (ex_frd (lC [("k", 2)] nd (wR1 T.bn (aB (ex_srd (bAdd (ex_bor (vS 1)) (ex_bor ev_int))) nB)) (fun _ _ _ _ _ => (gV 2 nd)) (fun _ _ _ _ _ => tsx_nil) (fun _ _ _ _ _ => (kS d__law_make (hr.mono (by first | decide | omega)) passL (aS (bSub (ex_bor (bMod (ex_bor (bDiv (ex_bor (vS 0)) (ex_bor (bAdd (ex_bor ev_int) (ex_bor (bMul (ex_bor ev_int) (ex_bor (vS 2)))))))) (ex_bor ev_int))) (ex_bor ev_int)) (aS (bAdd (ex_bor ev_int) (ex_bor (bMod (ex_bor (bDiv (ex_bor (vS 0)) (ex_bor (bAdd (ex_bor ev_int) (ex_bor (bMul (ex_bor ev_int) (ex_bor (vS 2)))))))) (ex_bor ev_int)))) nS)))))) nB))))
abbrev N46 : List Str := ["told", "due", "one", "other"]
theorem sc46 : FnScope N46 (["told", "due"] : List Str) (defScope (top 46)) := ⟨rfl, rfl, rfl, by decide +kernel, rfl, by decide +kernel, by decide +kernel⟩
abbrev c46 : Cf := { M := [] }
set_option maxHeartbeats 8000000 in
theorem ok46 (T : Tx K mg) {f : Addr} {fd : FuncData} (F : Fun K "_law_same" "_law_same" (top 46) f fd) (n : Nat) (d__law_same : FnA P w K mg base "_law_same" (0 + n) (FnS K (clA K xs) false (law_same n))) : FnOk P w K mg base (L2.CX P w) ((0 + n) + 1) f fd (["told", "due"] : List Str) (FnS K (clA K xs) false (law_same (n + 1))) := by
  refine fn_ok (c := c46) F sc46 (by decide) rfl rfl fun cdv A outer s H E hr => ?_
  have tk : Takes (cxOf (L2.CX P w) P w K mg base N46 "_law_same" (defScope (top 46)) f cdv A outer s H E) (fun cls d _ H => E cls d H) := takes_of rfl rfl rfl rfl
  have hx : Passes (L2.CX P w) (cxOf (L2.CX P w) P w K mg base N46 "_law_same" (defScope (top 46)) f cdv A outer s H E) E := passes_call tk fun _ _ _ _ h => h
  have hp := passes_of (X := cxOf (L2.CX P w) P w K mg base N46 "_law_same" (defScope (top 46)) f cdv A outer s H E) rfl
  have nd : N46.Nodup := sc46.nd
  exact (ss_cons (sx_if (tV (isT T.bn (ex_bor (vS 1)))) (ss_one (zRet (ev_and (isT T.bn (ex_bor (vS 0))) (ev_and (cEq hr (ex_bor (fLen T.bn (aB (ex_srd (vS 0)) nB))) (ex_bor (fLen T.bn (aB (ex_srd (vS 1)) nB)))) (ev_one (fAll T.bn (aB (ex_frd (lC [("one", 2), ("other", 3)] nd (wZ T.bn (ex_srd (vS 0)) (ex_srd (vS 1))) (fun _ _ _ _ _ => (gT (gSs (gV 2 nd) (gSs (gV 3 nd) gxs_nil)))) (fun _ _ _ _ _ => tsx_nil) (fun _ _ _ _ _ => (kS d__law_same (hr.mono (by first | decide | omega)) passL (aS (vS 2) (aS (vS 3) nS)))))) nB))))))) ss_nil)
    (ss_cons (sx_if (tT1 (tw_or (tV (isB T.bn (ex_bor (vS 1)))) (tw_or1 (tV (isB T.bn (ex_bor (vS 0))))))) (ss_one (zRet (ev_and (isB T.bn (ex_bor (vS 0))) (ev_and (isB T.bn (ex_bor (vS 1))) (ev_one (ex_bool (cEq hr (ex_bor (vS 0)) (ex_bor (vS 1))) bool_eq)))))) ss_nil)
    (ss_cons (sx_if (tV (isI T.bn (ex_bor (vS 1)))) (ss_one (zRet (ev_and (isI T.bn (ex_bor (vS 0))) (ev_one (ex_bool (cEq hr (ex_bor (vS 0)) (ex_bor (vS 1))) bool_eq))))) ss_nil)
    (ss_one (zRet (ex_bool (cEq hr (ex_bor (vS 0)) (ex_bor (vS 1))) bool_eq))))))
abbrev N33 : List Str := ["form", "size", "k", "item"]
theorem sc33 : FnScope N33 (["form"] : List Str) (defScope (top 33)) := ⟨rfl, rfl, rfl, by decide +kernel, rfl, by decide +kernel, by decide +kernel⟩
abbrev c33 : Cf := { M := [] }
set_option maxHeartbeats 8000000 in
theorem ok33 (T : Tx K mg) {f : Addr} {fd : FuncData} (F : Fun K "weighed" "weighed" (top 33) f fd) (d_divide : FnA P w K mg base "divide" 3 (FnS K (clA K xs) false ratios_divide)) (d_choose : FnA P w K mg base "choose" 1 (FnS K (clA K xs) false forms_choose)) : FnOk P w K mg base (L2.CX P w) (3 + 1) f fd (["form"] : List Str) (FnS K (clA K xs) false forms_weighed) := by
  refine fn_ok (c := c33) F sc33 (by decide) rfl rfl fun cdv A outer s H E hr => ?_
  have tk : Takes (cxOf (L2.CX P w) P w K mg base N33 "weighed" (defScope (top 33)) f cdv A outer s H E) (fun cls d _ H => E cls d H) := takes_of rfl rfl rfl rfl
  have hx : Passes (L2.CX P w) (cxOf (L2.CX P w) P w K mg base N33 "weighed" (defScope (top 33)) f cdv A outer s H E) E := passes_call tk fun _ _ _ _ h => h
  have hp := passes_of (X := cxOf (L2.CX P w) P w K mg base N33 "weighed" (defScope (top 33)) f cdv A outer s H E) rfl
  have nd : N33.Nodup := sc33.nd
  exact (ss_cons (zSet 1 nd (bSub (ex_bor (fLen T.bn (aB (ex_srd (vS 0)) nB))) (ex_bor ev_int)))
    (ss_one (zRet (fTuple T.bn (aB (ex_frd (lC [("k", 2), ("item", 3)] nd (wEn T.bn (ex_srd (vS 0))) (fun _ _ _ _ _ => (gT (gSs (gV 2 nd) (gSs (gV 3 nd) gxs_nil)))) (fun _ _ _ _ _ => tsx_nil) (fun _ _ _ _ _ => (kS d_divide (hr.mono (by first | decide | omega)) passL (aS (vS 3) (aS (ev_tup (aS (kS d_choose (hr.mono (by first | decide | omega)) passL (aS (vS 1) (aS (vS 2) nS))) (aS ev_int nS))) nS)))))) nB)))))
abbrev N39 : List Str := ["form", "second", "size", "first", "known", "rows", "k", "row", "j"]
theorem sc39 : FnScope N39 (["form", "second"] : List Str) (defScope (top 39)) := ⟨rfl, rfl, rfl, by decide +kernel, rfl, by decide +kernel, by decide +kernel⟩
abbrev c39 : Cf := { M := [5, 7] }
set_option maxHeartbeats 8000000 in
theorem ok39 (T : Tx K mg) {f : Addr} {fd : FuncData} (F : Fun K "polarized" "polarized" (top 39) f fd) (d_order : FnA P w K mg base "order" 1 (FnS K (clA K xs) false forms_order)) (d_weighed : FnA P w K mg base "weighed" 4 (FnS K (clA K xs) false forms_weighed)) (d_is_integer : FnA P w K mg base "is_integer" 1 (FnS K (clA K xs) false ratios_is_integer)) (d_multiply_ratios : FnA P w K mg base "multiply_ratios" 3 (FnS K (clA K xs) false ratios_multiply)) (d_choose : FnA P w K mg base "choose" 1 (FnS K (clA K xs) false forms_choose)) : FnOk P w K mg base (L2.CX P w) (4 + 1) f fd (["form", "second"] : List Str) (FnS K (clA K xs) false slides_polarized) := by
  refine fn_ok (c := c39) F sc39 (by decide) rfl rfl fun cdv A outer s H E hr => ?_
  have tk : Takes (cxOf (L2.CX P w) P w K mg base N39 "polarized" (defScope (top 39)) f cdv A outer s H E) (fun cls d _ H => E cls d H) := takes_of rfl rfl rfl rfl
  have hx : Passes (L2.CX P w) (cxOf (L2.CX P w) P w K mg base N39 "polarized" (defScope (top 39)) f cdv A outer s H E) E := passes_call tk fun _ _ _ _ h => h
  have hp := passes_of (X := cxOf (L2.CX P w) P w K mg base N39 "polarized" (defScope (top 39)) f cdv A outer s H E) rfl
  have nd : N39.Nodup := sc39.nd
  exact (ss_cons (zSet 2 nd (kS d_order (hr.mono (by first | decide | omega)) hx (aS (vS 0) nS)))
    (ss_cons (sx_if (tT1 (tw_or (tx_not (tV (ex_bor (kS d_is_integer (hr.mono (by first | decide | omega)) hx (aS (vS 1) nS))))) (tw_or (tLt (ex_bor (vS 1)) (ex_bor ev_int)) (tw_or1 (tGt (ex_bor (vS 1)) (ex_bor (vS 2))))))) (ss_one (zRaise 0 T.e_BadNumber tk)) ss_nil)
    (ss_cons (zSet 3 nd (bSub (ex_bor (vS 2)) (ex_bor (vS 1))))
    (ss_cons (zSet 4 nd (kS d_weighed (hr.mono (by first | decide | omega)) hx (aS (vS 0) nS)))
    (ss_cons (zOwn 5 nd (ev_lst nS))
    (ss_cons (zFor hp (wR1 T.bn (aB (ex_srd (bAdd (ex_bor (vS 3)) (ex_bor ev_int))) nB)) (gV 6 nd)
      (ss_cons (zOwn 7 nd (ev_lst nS))
    (ss_cons (zFor hp (wR1 T.bn (aB (ex_srd (bAdd (ex_bor (vS 1)) (ex_bor ev_int))) nB)) (gV 8 nd)
      (ss_one (zApp 7 (kS d_multiply_ratios (hr.mono (by first | decide | omega)) hx (aS (iX (ex_srd (vS 4)) (ex_bor (bAdd (ex_bor (vS 6)) (ex_bor (vS 8))))) (aS (ev_tup (aS (bMul (ex_bor (kS d_choose (hr.mono (by first | decide | omega)) hx (aS (vS 3) (aS (vS 6) nS)))) (ex_bor (kS d_choose (hr.mono (by first | decide | omega)) hx (aS (vS 1) (aS (vS 8) nS))))) (aS ev_int nS))) nS))))))
    (ss_one (zApp 5 (fTuple T.bn (aB (ex_rd (vB 7)) nB)))))))
    (ss_one (zRet (fTuple T.bn (aB (ex_srd (vS 5)) nB))))))))))
abbrev N44 : List Str := ["script", "k"]
theorem sc44 : FnScope N44 (["script", "k"] : List Str) (defScope (top 44)) := ⟨rfl, rfl, rfl, by decide +kernel, rfl, by decide +kernel, by decide +kernel⟩
abbrev c44 : Cf := { M := [], scr := some 0 }
set_option maxHeartbeats 8000000 in
theorem ok44 (T : Tx K mg) {f : Addr} {fd : FuncData} (F : Fun K "_law_cell" "_law_cell" (top 44) f fd) : FnOk P w K mg base (L2.CX P w) (0 + 1) f fd (["script", "k"] : List Str) (FnC K (clA K xs) law_cell) := by
  refine fn_okC (c := c44) F sc44 (by decide) rfl rfl fun cdv A outer s H E hr => ?_
  have tk : Takes (cxOf (L2.CX P w) P w K mg base N44 "_law_cell" (defScope (top 44)) f cdv A outer s H E) (fun cls d _ H => E cls d H) := takes_of rfl rfl rfl rfl
  have hx : Passes (L2.CX P w) (cxOf (L2.CX P w) P w K mg base N44 "_law_cell" (defScope (top 44)) f cdv A outer s H E) E := passes_call tk fun _ _ _ _ h => h
  have hp := passes_of (X := cxOf (L2.CX P w) P w K mg base N44 "_law_cell" (defScope (top 44)) f cdv A outer s H E) rfl
  have nd : N44.Nodup := sc44.nd
  exact (ss_cons (sx_if (tLt (ex_bor (vS 1)) (ex_bor (fLen T.bn (aB (vC 0) nB)))) (ss_one (zRet (bMod (ex_bor (fAbs T.bn (aB (ex_srd (fInt T.bn (aB (ex_srd (iX (vC 0) (ex_bor (vS 1)))) nB))) nB))) (ex_bor ev_int)))) ss_nil)
    (ss_one (zRet ev_int)))
abbrev N40 : List Str := ["table", "count", "_", "height", "width", "rows", "k", "row", "j", "item"]
theorem sc40 : FnScope N40 (["table", "count"] : List Str) (defScope (top 40)) := ⟨rfl, rfl, rfl, by decide +kernel, rfl, by decide +kernel, by decide +kernel⟩
abbrev c40 : Cf := { M := [] }
set_option maxHeartbeats 8000000 in
theorem ok40 (T : Tx K mg) {f : Addr} {fd : FuncData} (F : Fun K "times_bracket" "times_bracket" (top 40) f fd) (d_add_ratios : FnA P w K mg base "add_ratios" 3 (FnS K (clA K xs) false ratios_add)) (hK0 : Tb.K = K) : FnOk P w K mg base (L2.CX P w) (3 + 1) f fd (["table", "count"] : List Str) (FnS K (clA K xs) false slides_times_bracket) := by
  refine fn_ok (c := c40) F sc40 (by decide) rfl rfl fun cdv A outer s H E hr => ?_
  have tk : Takes (cxOf (L2.CX P w) P w K mg base N40 "times_bracket" (defScope (top 40)) f cdv A outer s H E) (fun cls d _ H => E cls d H) := takes_of rfl rfl rfl rfl
  have hx : Passes (L2.CX P w) (cxOf (L2.CX P w) P w K mg base N40 "times_bracket" (defScope (top 40)) f cdv A outer s H E) E := passes_call tk fun _ _ _ _ h => h
  have hp := passes_of (X := cxOf (L2.CX P w) P w K mg base N40 "times_bracket" (defScope (top 40)) f cdv A outer s H E) rfl
  have nd : N40.Nodup := sc40.nd
  exact (ss_cons (zFor hp (wR1 T.bn (aB (ex_srd (vS 1)) nB)) (gV 2 nd)
      (ss_cons (zAsg (gT (gSs (gV 3 nd) (gSs (gV 4 nd) gxs_nil))) (ev_tup (aS (fLen T.bn (aB (ex_srd (vS 0)) nB)) (aS (fLen T.bn (aB (ex_srd (iX (ex_srd (vS 0)) (ex_bor ev_int))) nB)) nS))))
    (zNest 5 [("_", 2)] hK0 nd (wR1 T.bn (aB (ex_srd (bAdd (ex_bor (vS 3)) (ex_bor ev_int))) nB)) (fun _ _ _ _ _ => (gV 2 nd)) (fun _ _ _ _ _ => tsx_nil) (fun _ _ _ _ _ => (bMulL (ex_fb (ev_lst (aS (gC T.c_ZERO) nS))) (ex_bor (bAdd (ex_bor (vS 4)) (ex_bor ev_int)))))
    (zFor hp (wEn T.bn (vS 0)) (gT (gSs (gV 6 nd) (gSs (gV 7 nd) gxs_nil)))
      (ss_one (zFor hp (wEn T.bn (vS 7)) (gT (gSs (gV 8 nd) (gSs (gV 9 nd) gxs_nil)))
      (ss_cons (zNPut 5 hK0 (ex_bor (vS 6)) (ex_bor (bAdd (ex_bor (vS 8)) (ex_bor ev_int))) (kS d_add_ratios (hr.mono (by first | decide | omega)) hx (aS (vNst 5 hK0 (ex_bor (vS 6)) (ex_bor (bAdd (ex_bor (vS 8)) (ex_bor ev_int)))) (aS (vS 9) nS))))
    (ss_one (zNPut 5 hK0 (ex_bor (bAdd (ex_bor (vS 6)) (ex_bor ev_int))) (ex_bor (vS 8)) (kS d_add_ratios (hr.mono (by first | decide | omega)) hx (aS (vNst 5 hK0 (ex_bor (bAdd (ex_bor (vS 6)) (ex_bor ev_int))) (ex_bor (vS 8))) (aS (ev_tup (aS (uNeg (ex_srd (iX (ex_srd (vS 9)) (ex_bor ev_int)))) (aS (iX (ex_srd (vS 9)) (ex_bor ev_int)) nS))) nS)))))))))
    (ss_one (zSet 0 nd (fTuple T.bn (aB (ex_frd (lC [("row", 7)] nd (wS (ex_srd (vS 5))) (fun _ _ _ _ _ => (gV 7 nd)) (fun _ _ _ _ _ => tsx_nil) (fun _ _ _ _ _ => (fTuple T.bn (aB (ex_srd (vS 7)) nB))))) nB)))))))
    (ss_one (zRet (vS 0))))
abbrev N38 : List Str := ["one", "other", "row", "mate", "a", "b"]
theorem sc38 : FnScope N38 (["one", "other"] : List Str) (defScope (top 38)) := ⟨rfl, rfl, rfl, by decide +kernel, rfl, by decide +kernel, by decide +kernel⟩
abbrev c38 : Cf := { M := [] }
set_option maxHeartbeats 8000000 in
theorem ok38 (T : Tx K mg) {f : Addr} {fd : FuncData} (F : Fun K "add_doubles" "add_doubles" (top 38) f fd) (d_add_ratios : FnA P w K mg base "add_ratios" 3 (FnS K (clA K xs) false ratios_add)) : FnOk P w K mg base (L2.CX P w) (3 + 1) f fd (["one", "other"] : List Str) (FnS K (clA K xs) false slides_add_doubles) := by
  refine fn_ok (c := c38) F sc38 (by decide) rfl rfl fun cdv A outer s H E hr => ?_
  have tk : Takes (cxOf (L2.CX P w) P w K mg base N38 "add_doubles" (defScope (top 38)) f cdv A outer s H E) (fun cls d _ H => E cls d H) := takes_of rfl rfl rfl rfl
  have hx : Passes (L2.CX P w) (cxOf (L2.CX P w) P w K mg base N38 "add_doubles" (defScope (top 38)) f cdv A outer s H E) E := passes_call tk fun _ _ _ _ h => h
  have hp := passes_of (X := cxOf (L2.CX P w) P w K mg base N38 "add_doubles" (defScope (top 38)) f cdv A outer s H E) rfl
  have nd : N38.Nodup := sc38.nd
  exact (ss_one (zRet (fTuple T.bn (aB (ex_frd (lC [("row", 2), ("mate", 3)] nd (wZ T.bn (ex_srd (vS 0)) (ex_srd (vS 1))) (fun _ _ _ _ _ => (gT (gSs (gV 2 nd) (gSs (gV 3 nd) gxs_nil)))) (fun _ _ _ _ _ => tsx_nil) (fun _ _ _ _ _ => (fTuple T.bn (aB (ex_frd (lC [("a", 4), ("b", 5)] nd (wZ T.bn (ex_srd (vS 2)) (ex_srd (vS 3))) (fun _ _ _ _ _ => (gT (gSs (gV 4 nd) (gSs (gV 5 nd) gxs_nil)))) (fun _ _ _ _ _ => tsx_nil) (fun _ _ _ _ _ => (kS d_add_ratios (hr.mono (by first | decide | omega)) passL (aS (vS 4) (aS (vS 5) nS)))))) nB))))) nB))))
abbrev N41 : List Str := ["parts", "m", "n", "found", "k", "part", "number", "made", "_", "row", "item"]
theorem sc41 : FnScope N41 (["parts", "m", "n"] : List Str) (defScope (top 41)) := ⟨rfl, rfl, rfl, by decide +kernel, rfl, by decide +kernel, by decide +kernel⟩
abbrev c41 : Cf := { M := [] }
set_option maxHeartbeats 8000000 in
theorem ok41 (T : Tx K mg) {f : Addr} {fd : FuncData} (F : Fun K "from_slides" "from_slides" (top 41) f fd) (d_divide : FnA P w K mg base "divide" 3 (FnS K (clA K xs) false ratios_divide)) (d_times_bracket : FnA P w K mg base "times_bracket" 4 (FnS K (clA K xs) false slides_times_bracket)) (d_add_doubles : FnA P w K mg base "add_doubles" 4 (FnS K (clA K xs) false slides_add_doubles)) (d_polarized : FnA P w K mg base "polarized" 5 (FnS K (clA K xs) false slides_polarized)) (d_choose : FnA P w K mg base "choose" 1 (FnS K (clA K xs) false forms_choose)) (d_order : FnA P w K mg base "order" 1 (FnS K (clA K xs) false forms_order)) (d_multiply_ratios : FnA P w K mg base "multiply_ratios" 3 (FnS K (clA K xs) false ratios_multiply)) : FnOk P w K mg base (L2.CX P w) (5 + 1) f fd (["parts", "m", "n"] : List Str) (FnS K (clA K xs) false slides_from_slides) := by
  refine fn_ok (c := c41) F sc41 (by decide) rfl rfl fun cdv A outer s H E hr => ?_
  have tk : Takes (cxOf (L2.CX P w) P w K mg base N41 "from_slides" (defScope (top 41)) f cdv A outer s H E) (fun cls d _ H => E cls d H) := takes_of rfl rfl rfl rfl
  have hx : Passes (L2.CX P w) (cxOf (L2.CX P w) P w K mg base N41 "from_slides" (defScope (top 41)) f cdv A outer s H E) E := passes_call tk fun _ _ _ _ h => h
  have hp := passes_of (X := cxOf (L2.CX P w) P w K mg base N41 "from_slides" (defScope (top 41)) f cdv A outer s H E) rfl
  have nd : N41.Nodup := sc41.nd
  exact (ss_cons (sx_if (tT1 (tw_or (tNe hr (ex_bor (fLen T.bn (aB (ex_srd (vS 0)) nB))) (ex_bor (bAdd (ex_bor (fMin T.bn (aB (ex_srd (vS 1)) (aB (ex_srd (vS 2)) nB)))) (ex_bor ev_int)))) (tw_or1 (tV (ex_bor (fAny T.bn (aB (ex_frd (lC [("k", 4), ("part", 5)] nd (wEn T.bn (ex_srd (vS 0))) (fun _ _ _ _ _ => (gT (gSs (gV 4 nd) (gSs (gV 5 nd) gxs_nil)))) (fun _ _ _ _ _ => tsx_nil) (fun _ _ _ _ _ => (ex_bool (cNe hr (ex_bor (kS d_order (hr.mono (by first | decide | omega)) passL (aS (vS 5) nS))) (ex_bor (bSub (ex_bor (bAdd (ex_bor (vS 1)) (ex_bor (vS 2)))) (ex_bor (bMul (ex_bor ev_int) (ex_bor (vS 4))))))) bool_ne)))) nB))))))) (ss_one (zRaise 1 T.e_BadForm tk)) ss_nil)
    (ss_cons (zSet 3 nd (fTuple T.bn (aB (ex_frd (lC [("_", 8)] nd (wR1 T.bn (aB (ex_srd (bAdd (ex_bor (vS 1)) (ex_bor ev_int))) nB)) (fun _ _ _ _ _ => (gV 8 nd)) (fun _ _ _ _ _ => tsx_nil) (fun _ _ _ _ _ => (bMul (ex_bor (ev_tup (aS (gC T.c_ZERO) nS))) (ex_bor (bAdd (ex_bor (vS 2)) (ex_bor ev_int))))))) nB)))
    (ss_cons (zFor hp (wEn T.bn (vS 0)) (gT (gSs (gV 4 nd) (gSs (gV 5 nd) gxs_nil)))
      (ss_cons (zSet 6 nd (kS d_divide (hr.mono (by first | decide | omega)) hx (aS (ev_tup (aS (bMul (ex_bor (kS d_choose (hr.mono (by first | decide | omega)) hx (aS (vS 1) (aS (vS 4) nS)))) (ex_bor (kS d_choose (hr.mono (by first | decide | omega)) hx (aS (vS 2) (aS (vS 4) nS))))) (aS ev_int nS))) (aS (ev_tup (aS (kS d_choose (hr.mono (by first | decide | omega)) hx (aS (bAdd (ex_bor (bSub (ex_bor (bAdd (ex_bor (vS 1)) (ex_bor (vS 2)))) (ex_bor (vS 4)))) (ex_bor ev_int)) (aS (vS 4) nS))) (aS ev_int nS))) nS))))
    (ss_cons (zSet 7 nd (kS d_times_bracket (hr.mono (by first | decide | omega)) hx (aS (kS d_polarized (hr.mono (by first | decide | omega)) hx (aS (vS 5) (aS (bSub (ex_bor (vS 2)) (ex_bor (vS 4))) nS))) (aS (vS 4) nS))))
    (ss_one (zSet 3 nd (kS d_add_doubles (hr.mono (by first | decide | omega)) hx (aS (vS 3) (aS (fTuple T.bn (aB (ex_frd (lC [("row", 9)] nd (wS (ex_srd (vS 7))) (fun _ _ _ _ _ => (gV 9 nd)) (fun _ _ _ _ _ => tsx_nil) (fun _ _ _ _ _ => (fTuple T.bn (aB (ex_frd (lC [("item", 10)] nd (wS (ex_srd (vS 9))) (fun _ _ _ _ _ => (gV 10 nd)) (fun _ _ _ _ _ => tsx_nil) (fun _ _ _ _ _ => (kS d_multiply_ratios (hr.mono (by first | decide | omega)) passL (aS (vS 6) (aS (vS 10) nS)))))) nB))))) nB)) nS))))))))
    (ss_one (zRet (vS 3))))))
abbrev N50 : List Str := ["one", "other"]
theorem sc50 : FnScope N50 (["one", "other"] : List Str) (defScope (top 50)) := ⟨rfl, rfl, rfl, by decide +kernel, rfl, by decide +kernel, by decide +kernel⟩
abbrev c50 : Cf := { M := [] }
set_option maxHeartbeats 8000000 in
theorem ok50 (T : Tx K mg) {f : Addr} {fd : FuncData} (F : Fun K "_law_div" "_law_div" (top 50) f fd) (d__law_make : FnA P w K mg base "_law_make" 1 (FnS K (clA K xs) false law_make)) : FnOk P w K mg base (L2.CX P w) (1 + 1) f fd (["one", "other"] : List Str) (FnS K (clA K xs) false law_div) := by
  refine fn_ok (c := c50) F sc50 (by decide) rfl rfl fun cdv A outer s H E hr => ?_
  have tk : Takes (cxOf (L2.CX P w) P w K mg base N50 "_law_div" (defScope (top 50)) f cdv A outer s H E) (fun cls d _ H => E cls d H) := takes_of rfl rfl rfl rfl
  have hx : Passes (L2.CX P w) (cxOf (L2.CX P w) P w K mg base N50 "_law_div" (defScope (top 50)) f cdv A outer s H E) E := passes_call tk fun _ _ _ _ h => h
  have hp := passes_of (X := cxOf (L2.CX P w) P w K mg base N50 "_law_div" (defScope (top 50)) f cdv A outer s H E) rfl
  have nd : N50.Nodup := sc50.nd
  exact (ss_one (zRet (kS d__law_make (hr.mono (by first | decide | omega)) hx (aS (bMul (ex_bor (iX (ex_srd (vS 0)) (ex_bor ev_int))) (ex_bor (iX (ex_srd (vS 1)) (ex_bor ev_int)))) (aS (bMul (ex_bor (iX (ex_srd (vS 0)) (ex_bor ev_int))) (ex_bor (iX (ex_srd (vS 1)) (ex_bor ev_int)))) nS)))))
abbrev N37 : List Str := ["one", "other", "left", "right"]
theorem sc37 : FnScope N37 (["one", "other"] : List Str) (defScope (top 37)) := ⟨rfl, rfl, rfl, by decide +kernel, rfl, by decide +kernel, by decide +kernel⟩
abbrev c37 : Cf := { M := [] }
set_option maxHeartbeats 8000000 in
theorem ok37 (T : Tx K mg) {f : Addr} {fd : FuncData} (F : Fun K "double_of" "double_of" (top 37) f fd) (d_multiply_ratios : FnA P w K mg base "multiply_ratios" 3 (FnS K (clA K xs) false ratios_multiply)) : FnOk P w K mg base (L2.CX P w) (3 + 1) f fd (["one", "other"] : List Str) (FnS K (clA K xs) false slides_double_of) := by
  refine fn_ok (c := c37) F sc37 (by decide) rfl rfl fun cdv A outer s H E hr => ?_
  have tk : Takes (cxOf (L2.CX P w) P w K mg base N37 "double_of" (defScope (top 37)) f cdv A outer s H E) (fun cls d _ H => E cls d H) := takes_of rfl rfl rfl rfl
  have hx : Passes (L2.CX P w) (cxOf (L2.CX P w) P w K mg base N37 "double_of" (defScope (top 37)) f cdv A outer s H E) E := passes_call tk fun _ _ _ _ h => h
  have hp := passes_of (X := cxOf (L2.CX P w) P w K mg base N37 "double_of" (defScope (top 37)) f cdv A outer s H E) rfl
  have nd : N37.Nodup := sc37.nd
  exact (ss_one (zRet (fTuple T.bn (aB (ex_frd (lC [("left", 2)] nd (wS (ex_srd (vS 0))) (fun _ _ _ _ _ => (gV 2 nd)) (fun _ _ _ _ _ => tsx_nil) (fun _ _ _ _ _ => (fTuple T.bn (aB (ex_frd (lC [("right", 3)] nd (wS (ex_srd (vS 1))) (fun _ _ _ _ _ => (gV 3 nd)) (fun _ _ _ _ _ => tsx_nil) (fun _ _ _ _ _ => (kS d_multiply_ratios (hr.mono (by first | decide | omega)) passL (aS (vS 2) (aS (vS 3) nS)))))) nB))))) nB))))
abbrev N42 : List Str := ["table", "m", "n", "found", "count", "total", "k", "row", "unit", "item", "j"]
theorem sc42 : FnScope N42 (["table"] : List Str) (defScope (top 42)) := ⟨rfl, rfl, rfl, by decide +kernel, rfl, by decide +kernel, by decide +kernel⟩
abbrev c42 : Cf := { M := [3] }
set_option maxHeartbeats 8000000 in
theorem ok42 (T : Tx K mg) {f : Addr} {fd : FuncData} (F : Fun K "slides_of_double" "slides_of_double" (top 42) f fd) (d_zero : FnA P w K mg base "zero" 3 (FnS K (clA K xs) false forms_zero)) (d_add_forms : FnA P w K mg base "add_forms" 4 (FnS K (clA K xs) false forms_add)) (d_slide : FnA P w K mg base "slide" 6 (FnS K (clA K xs) false slides_slide)) : FnOk P w K mg base (L2.CX P w) (6 + 1) f fd (["table"] : List Str) (FnS K (clA K xs) false slides_slides_of_double) := by
  refine fn_ok (c := c42) F sc42 (by decide) rfl rfl fun cdv A outer s H E hr => ?_
  have tk : Takes (cxOf (L2.CX P w) P w K mg base N42 "slides_of_double" (defScope (top 42)) f cdv A outer s H E) (fun cls d _ H => E cls d H) := takes_of rfl rfl rfl rfl
  have hx : Passes (L2.CX P w) (cxOf (L2.CX P w) P w K mg base N42 "slides_of_double" (defScope (top 42)) f cdv A outer s H E) E := passes_call tk fun _ _ _ _ h => h
  have hp := passes_of (X := cxOf (L2.CX P w) P w K mg base N42 "slides_of_double" (defScope (top 42)) f cdv A outer s H E) rfl
  have nd : N42.Nodup := sc42.nd
  exact (ss_cons (zPar2 1 2 false false nd (bSub (ex_bor (fLen T.bn (aB (ex_srd (vS 0)) nB))) (ex_bor ev_int)) (bSub (ex_bor (fLen T.bn (aB (ex_srd (iX (ex_srd (vS 0)) (ex_bor ev_int))) nB))) (ex_bor ev_int)))
    (ss_cons (zOwn 3 nd (ev_lst nS))
    (ss_cons (zFor hp (wR1 T.bn (aB (ex_srd (bAdd (ex_bor (fMin T.bn (aB (ex_srd (vS 1)) (aB (ex_srd (vS 2)) nB)))) (ex_bor ev_int))) nB)) (gV 4 nd)
      (ss_cons (zSet 5 nd (kS d_zero (hr.mono (by first | decide | omega)) hx (aS (bSub (ex_bor (bAdd (ex_bor (vS 1)) (ex_bor (vS 2)))) (ex_bor (bMul (ex_bor ev_int) (ex_bor (vS 4))))) nS)))
    (ss_cons (zFor hp (wEn T.bn (vS 0)) (gT (gSs (gV 6 nd) (gSs (gV 7 nd) gxs_nil)))
      (ss_one (sx_if (tV (ex_bor (fAny T.bn (aB (ex_frd (lC [("item", 9)] nd (wS (ex_srd (vS 7))) (fun _ _ _ _ _ => (gV 9 nd)) (fun _ _ _ _ _ => tsx_nil) (fun _ _ _ _ _ => (ex_bool (cNe hr (ex_bor (vS 9)) (ex_bor (gC T.c_ZERO))) bool_ne)))) nB)))) (ss_cons (zSet 8 nd (fTuple T.bn (aB (ex_frd (lC [("j", 10)] nd (wR1 T.bn (aB (ex_srd (bAdd (ex_bor (vS 1)) (ex_bor ev_int))) nB)) (fun _ _ _ _ _ => (gV 10 nd)) (fun _ _ _ _ _ => tsx_nil) (fun _ _ _ _ _ => (ev_if (tEq hr (ex_bor (vS 10)) (ex_bor (vS 6))) (gC T.c_ONE) (gC T.c_ZERO))))) nB)))
    (ss_one (zSet 5 nd (kS d_add_forms (hr.mono (by first | decide | omega)) hx (aS (vS 5) (aS (kS d_slide (hr.mono (by first | decide | omega)) hx (aS (vS 8) (aS (vS 7) (aS (vS 4) nS)))) nS)))))) ss_nil)))
    (ss_one (zApp 3 (vS 5))))))
    (ss_one (zRet (fTuple T.bn (aB (ex_srd (vS 3)) nB)))))))
abbrev N64 : List Str := ["script", "rich", "other", "m", "n", "one", "two", "table", "slides", "drawn", "due", "free", "form", "second", "told", "size", "rows", "k", "known", "folded", "j", "count", "made", "turn_of", "more", "a", "b", "row", "item"]
theorem sc64 : FnScope N64 (["script"] : List Str) (defScope (top 64)) := ⟨rfl, rfl, rfl, by decide +kernel, rfl, by decide +kernel, by decide +kernel⟩
abbrev c64 : Cf := { M := [16, 19], scr := some 0 }
set_option maxHeartbeats 8000000 in
theorem ok64 (T : Tx K mg) {f : Addr} {fd : FuncData} (F : Fun K "law" "law" (top 64) f fd) (d_all_slides : FnA P w K mg base "all_slides" 7 (FnS K (clA K xs) false slides_all_slides)) (d__law_slides : FnA P w K mg base "_law_slides" 5 (FnS K (clA K xs) false law_slides)) (d__law_rich : FnA P w K mg base "_law_rich" 1 (FnS K (clA K xs) false law_rich)) (d__law_form : FnA P w K mg base "_law_form" 2 (FnS K (clA K xs) false law_form)) (d__law_same : FnA P w K mg base "_law_same" 40 (FnS K (clA K xs) false (law_same 40))) (d_polarized : FnA P w K mg base "polarized" 5 (FnS K (clA K xs) false slides_polarized)) (d__law_cell : FnA P w K mg base "_law_cell" 1 (FnC K (clA K xs) law_cell)) (d_from_slides : FnA P w K mg base "from_slides" 6 (FnS K (clA K xs) false slides_from_slides)) (d__law_div : FnA P w K mg base "_law_div" 2 (FnS K (clA K xs) false law_div)) (d__law_add : FnA P w K mg base "_law_add" 2 (FnS K (clA K xs) false law_add)) (d_times_bracket : FnA P w K mg base "times_bracket" 4 (FnS K (clA K xs) false slides_times_bracket)) (d_double_of : FnA P w K mg base "double_of" 4 (FnS K (clA K xs) false slides_double_of)) (d_slides_of_double : FnA P w K mg base "slides_of_double" 7 (FnS K (clA K xs) false slides_slides_of_double)) (d__law_mul : FnA P w K mg base "_law_mul" 2 (FnS K (clA K xs) false law_mul)) (d__law_choose : FnA P w K mg base "_law_choose" 1 (FnS K (clA K xs) false law_choose)) {g Pt : Addr} (hfa : f = He.fAd K ("law", none)) (tld0 : ∀ X : Cx, X.K = K → X.mg = mg → ToldOk X "_law_refused" "make_it" g (TA' K (clA K xs) [(X_BadForm, (.str "form")), (X_BadNumber, (.str "number"))] (.str ""))) (TB0 : LamX.TabB base mg (He.codeOf K ("law", none)) Pt) (hT0 : Tb.T = [(Pt, ("law.<locals>." : Str) ++ ("<lambda>" : Str))]) (hK0 : Tb.K = K) : FnOk P w K mg base (L2.CX P w) (43 + 1) f fd (["script"] : List Str) (FnC K (clA K xs) law) := by
  refine fn_okL (c := c64) F sc64 (by decide) rfl rfl fun cdv A outer s H E hcd hr => ?_
  subst hfa
  have hco := co_of hcd
  subst hco
  have tk : Takes (cxOf (L2.CX P w) P w K mg base N64 "law" (defScope (top 64)) (He.fAd K ("law", none)) (.ref (He.codeOf K ("law", none))) A outer s H E) (fun cls d _ H => E cls d H) := takes_of rfl rfl rfl rfl
  have hx : Passes (L2.CX P w) (cxOf (L2.CX P w) P w K mg base N64 "law" (defScope (top 64)) (He.fAd K ("law", none)) (.ref (He.codeOf K ("law", none))) A outer s H E) E := passes_call tk fun _ _ _ _ h => h
  have hp := passes_of (X := cxOf (L2.CX P w) P w K mg base N64 "law" (defScope (top 64)) (He.fAd K ("law", none)) (.ref (He.codeOf K ("law", none))) A outer s H E) rfl
  have nd : N64.Nodup := sc64.nd
  have tld := tld0 (cxOf (L2.CX P w) P w K mg base N64 "law" (defScope (top 64)) (He.fAd K ("law", none)) (.ref (He.codeOf K ("law", none))) A outer s H E) rfl rfl
  have hxL : ∀ (A2 : Around) (outer2 : List Env) (s2 : Shared) (H2 : Hp) (E2 : XK) (sc2 : Scope) (f2 c2 : Addr), Passes (L2.CX P w) (LamX.lamCx (cxOf (L2.CX P w) P w K mg base N64 "law" (defScope (top 64)) (He.fAd K ("law", none)) (.ref (He.codeOf K ("law", none))) A outer s H E) A2 outer2 s2 H2 E2 sc2 f2 c2) E2 := fun _ _ _ _ _ _ _ _ => passes_call (takes_of rfl rfl rfl rfl) fun _ _ _ _ h => h
  have TBx : LamX.TabB base mg (He.codeOf K ("law", none)) Pt ∧ (cxOf (L2.CX P w) P w K mg base N64 "law" (defScope (top 64)) (He.fAd K ("law", none)) (.ref (He.codeOf K ("law", none))) A outer s H E).env.code = .ref (He.codeOf K ("law", none)) ∧ (Pt, (cxOf (L2.CX P w) P w K mg base N64 "law" (defScope (top 64)) (He.fAd K ("law", none)) (.ref (He.codeOf K ("law", none))) A outer s H E).env.qual ++ ("<lambda>" : Str)) ∈ Tb.T ∧ ∀ p ∈ Tb.T, p.1 = Pt → p.2 = (cxOf (L2.CX P w) P w K mg base N64 "law" (defScope (top 64)) (He.fAd K ("law", none)) (.ref (He.codeOf K ("law", none))) A outer s H E).env.qual ++ ("<lambda>" : Str) := ⟨TB0, rfl, by rw [hT0]; exact List.mem_singleton.mpr rfl, fun p hp _ => by rw [hT0] at hp; rw [List.mem_singleton.mp hp]; rfl⟩
  have h0 : SX (cxOf (L2.CX P w) P w K mg base N64 "law" (defScope (top 64)) (He.fAd K ("law", none)) (.ref (He.codeOf K ("law", none))) A outer s H E) (clA K xs) c64 false ((defBody (top 64)).getD 0 (.Pass ⟨0, 0, 0, 0⟩)) (sAsg (gTp (gsC (gN 1) (gsC (gN 2) gsN))) (eTup (eCons (eCall law_rich (eCons (eScr law_cell 0 (eCons (eC (.int (0))) eNil)) (eCons (eC (.int (0))) eNil))) (eCons (eCall law_rich (eCons (eScr law_cell 0 (eCons (eC (.int (1))) eNil)) (eCons (eC (.int (1))) eNil))) eNil)))) E := (zAsg (gT (gSs (gV 1 nd) (gSs (gV 2 nd) gxs_nil))) (ev_tup (aS (kS d__law_rich (hr.mono (by first | decide | omega)) hx (aS (kC 0 d__law_cell (hr.mono (by first | decide | omega)) hx (aS ev_int nS)) (aS ev_int nS))) (aS (kS d__law_rich (hr.mono (by first | decide | omega)) hx (aS (kC 0 d__law_cell (hr.mono (by first | decide | omega)) hx (aS ev_int nS)) (aS ev_int nS))) nS))))
  have h1 : SX (cxOf (L2.CX P w) P w K mg base N64 "law" (defScope (top 64)) (He.fAd K ("law", none)) (.ref (He.codeOf K ("law", none))) A outer s H E) (clA K xs) c64 false ((defBody (top 64)).getD 1 (.Pass ⟨0, 0, 0, 0⟩)) (sAsg (gTp (gsC (gN 3) (gsC (gN 4) gsN))) (eTup (eCons (eBin wMod (eVar 1) (eC (.int (5)))) (eCons (eBin wMod (eVar 2) (eC (.int (5)))) eNil)))) E := (zAsg (gT (gSs (gV 3 nd) (gSs (gV 4 nd) gxs_nil))) (ev_tup (aS (bMod (ex_bor (vS 1)) (ex_bor ev_int)) (aS (bMod (ex_bor (vS 2)) (ex_bor ev_int)) nS))))
  have h2 : SX (cxOf (L2.CX P w) P w K mg base N64 "law" (defScope (top 64)) (He.fAd K ("law", none)) (.ref (He.codeOf K ("law", none))) A outer s H E) (clA K xs) c64 false ((defBody (top 64)).getD 2 (.Pass ⟨0, 0, 0, 0⟩)) (sAsg (gTp (gsC (gN 5) (gsC (gN 6) gsN))) (eTup (eCons (eCall law_form (eCons (eBin wFdiv (eVar 1) (eC (.int (5)))) (eCons (eVar 3) eNil))) (eCons (eCall law_form (eCons (eBin wFdiv (eVar 2) (eC (.int (5)))) (eCons (eVar 4) eNil))) eNil)))) E := (zAsg (gT (gSs (gV 5 nd) (gSs (gV 6 nd) gxs_nil))) (ev_tup (aS (kS d__law_form (hr.mono (by first | decide | omega)) hx (aS (bDiv (ex_bor (vS 1)) (ex_bor ev_int)) (aS (vS 3) nS))) (aS (kS d__law_form (hr.mono (by first | decide | omega)) hx (aS (bDiv (ex_bor (vS 2)) (ex_bor ev_int)) (aS (vS 4) nS))) nS))))
  have h3 : SX (cxOf (L2.CX P w) P w K mg base N64 "law" (defScope (top 64)) (He.fAd K ("law", none)) (.ref (He.codeOf K ("law", none))) A outer s H E) (clA K xs) c64 false ((defBody (top 64)).getD 3 (.Pass ⟨0, 0, 0, 0⟩)) (sSet 7 (eCallB gTuple (eCons (eLc (sSeq (eVar 5)) [25] (gN 25) etYes (eCallB gTuple (eCons (eLc (sSeq (eVar 6)) [26] (gN 26) etYes (eCall law_mul (eCons (eVar 25) (eCons (eVar 26) eNil)))) eNil))) eNil))) E := (zSet 7 nd (fTuple T.bn (aB (ex_frd (lC [("a", 25)] nd (wS (ex_srd (vS 5))) (fun _ _ _ _ _ => (gV 25 nd)) (fun _ _ _ _ _ => tsx_nil) (fun _ _ _ _ _ => (fTuple T.bn (aB (ex_frd (lC [("b", 26)] nd (wS (ex_srd (vS 6))) (fun _ _ _ _ _ => (gV 26 nd)) (fun _ _ _ _ _ => tsx_nil) (fun _ _ _ _ _ => (kS d__law_mul (hr.mono (by first | decide | omega)) passL (aS (vS 25) (aS (vS 26) nS)))))) nB))))) nB)))
  have h4 : SX (cxOf (L2.CX P w) P w K mg base N64 "law" (defScope (top 64)) (He.fAd K ("law", none)) (.ref (He.codeOf K ("law", none))) A outer s H E) (clA K xs) c64 false ((defBody (top 64)).getD 4 (.Pass ⟨0, 0, 0, 0⟩)) (sSet 8 (eCall slides_all_slides (eCons (eVar 5) (eCons (eVar 6) eNil)))) E := (zSet 8 nd (kS d_all_slides (hr.mono (by first | decide | omega)) hx (aS (vS 5) (aS (vS 6) nS))))
  have h5 : SX (cxOf (L2.CX P w) P w K mg base N64 "law" (defScope (top 64)) (He.fAd K ("law", none)) (.ref (He.codeOf K ("law", none))) A outer s H E) (clA K xs) c64 false ((defBody (top 64)).getD 5 (.Pass ⟨0, 0, 0, 0⟩)) (sIf (eNotT (eTest (eCall (law_same 40) (eCons (eTup (eCons (eCall slides_double_of (eCons (eVar 5) (eCons (eVar 6) eNil))) (eCons (eCall slides_from_slides (eCons (eVar 8) (eCons (eVar 3) (eCons (eVar 4) eNil)))) eNil))) (eCons (eTup (eCons (eVar 7) (eCons (eVar 7) eNil))) eNil))))) (sRet (eC (.bool false))) sNext) E := (sx_if (tx_not (tV (ex_bor (kS d__law_same (hr.mono (by first | decide | omega)) hx (aS (ev_tup (aS (kS d_double_of (hr.mono (by first | decide | omega)) hx (aS (vS 5) (aS (vS 6) nS))) (aS (kS d_from_slides (hr.mono (by first | decide | omega)) hx (aS (vS 8) (aS (vS 3) (aS (vS 4) nS)))) nS))) (aS (ev_tup (aS (vS 7) (aS (vS 7) nS))) nS)))))) (ss_one (zRet ev_bl)) ss_nil)
  have h6 : SX (cxOf (L2.CX P w) P w K mg base N64 "law" (defScope (top 64)) (He.fAd K ("law", none)) (.ref (He.codeOf K ("law", none))) A outer s H E) (clA K xs) c64 false ((defBody (top 64)).getD 6 (.Pass ⟨0, 0, 0, 0⟩)) (sSet 9 (eCallB gTuple (eCons (eLc (sRng gRng1 (eCons (eBin wAdd (eVar 3) (eC (.int (1)))) eNil)) [17] (gN 17) etYes (eCall law_form (eCons (eBin wAdd (eBin wFdiv (eVar 1) (eBin wAdd (eC (.int (3))) (eBin wMul (eC (.int (2))) (eVar 17)))) (eVar 2)) (eCons (eVar 4) eNil)))) eNil))) E := (zSet 9 nd (fTuple T.bn (aB (ex_frd (lC [("k", 17)] nd (wR1 T.bn (aB (ex_srd (bAdd (ex_bor (vS 3)) (ex_bor ev_int))) nB)) (fun _ _ _ _ _ => (gV 17 nd)) (fun _ _ _ _ _ => tsx_nil) (fun _ _ _ _ _ => (kS d__law_form (hr.mono (by first | decide | omega)) passL (aS (bAdd (ex_bor (bDiv (ex_bor (vS 1)) (ex_bor (bAdd (ex_bor ev_int) (ex_bor (bMul (ex_bor ev_int) (ex_bor (vS 17)))))))) (ex_bor (vS 2))) (aS (vS 4) nS)))))) nB)))
  have h7 : SX (cxOf (L2.CX P w) P w K mg base N64 "law" (defScope (top 64)) (He.fAd K ("law", none)) (.ref (He.codeOf K ("law", none))) A outer s H E) (clA K xs) c64 false ((defBody (top 64)).getD 7 (.Pass ⟨0, 0, 0, 0⟩)) (sSet 10 (eCall law_slides (eCons (eVar 9) eNil))) E := (zSet 10 nd (kS d__law_slides (hr.mono (by first | decide | omega)) hx (aS (vS 9) nS)))
  have h8 : SX (cxOf (L2.CX P w) P w K mg base N64 "law" (defScope (top 64)) (He.fAd K ("law", none)) (.ref (He.codeOf K ("law", none))) A outer s H E) (clA K xs) c64 false ((defBody (top 64)).getD 8 (.Pass ⟨0, 0, 0, 0⟩)) (sIf (eNotT (eTest (eCall (law_same 40) (eCons (eTup (eCons (eCall slides_slides_of_double (eCons (eVar 9) eNil)) (eCons (eCall slides_from_slides (eCons (eVar 10) (eCons (eVar 3) (eCons (eVar 4) eNil)))) eNil))) (eCons (eTup (eCons (eVar 10) (eCons (eVar 9) eNil))) eNil))))) (sRet (eC (.bool false))) sNext) E := (sx_if (tx_not (tV (ex_bor (kS d__law_same (hr.mono (by first | decide | omega)) hx (aS (ev_tup (aS (kS d_slides_of_double (hr.mono (by first | decide | omega)) hx (aS (vS 9) nS)) (aS (kS d_from_slides (hr.mono (by first | decide | omega)) hx (aS (vS 10) (aS (vS 3) (aS (vS 4) nS)))) nS))) (aS (ev_tup (aS (vS 10) (aS (vS 9) nS))) nS)))))) (ss_one (zRet ev_bl)) ss_nil)
  have h9 : SX (cxOf (L2.CX P w) P w K mg base N64 "law" (defScope (top 64)) (He.fAd K ("law", none)) (.ref (He.codeOf K ("law", none))) A outer s H E) (clA K xs) c64 false ((defBody (top 64)).getD 9 (.Pass ⟨0, 0, 0, 0⟩)) (sSet 11 (eCallB gTuple (eCons (eLc (sRng gRng1 (eCons (eBin wAdd (eCallB gMin2 (eCons (eVar 3) (eCons (eVar 4) eNil))) (eC (.int (1)))) eNil)) [17] (gN 17) etYes (eCall law_form (eCons (eBin wAdd (eBin wFdiv (eVar 2) (eBin wAdd (eC (.int (3))) (eBin wMul (eC (.int (2))) (eVar 17)))) (eBin wFdiv (eVar 1) (eC (.int (7))))) (eCons (eBin wSub (eBin wAdd (eVar 3) (eVar 4)) (eBin wMul (eC (.int (2))) (eVar 17))) eNil)))) eNil))) E := (zSet 11 nd (fTuple T.bn (aB (ex_frd (lC [("k", 17)] nd (wR1 T.bn (aB (ex_srd (bAdd (ex_bor (fMin T.bn (aB (ex_srd (vS 3)) (aB (ex_srd (vS 4)) nB)))) (ex_bor ev_int))) nB)) (fun _ _ _ _ _ => (gV 17 nd)) (fun _ _ _ _ _ => tsx_nil) (fun _ _ _ _ _ => (kS d__law_form (hr.mono (by first | decide | omega)) passL (aS (bAdd (ex_bor (bDiv (ex_bor (vS 2)) (ex_bor (bAdd (ex_bor ev_int) (ex_bor (bMul (ex_bor ev_int) (ex_bor (vS 17)))))))) (ex_bor (bDiv (ex_bor (vS 1)) (ex_bor ev_int)))) (aS (bSub (ex_bor (bAdd (ex_bor (vS 3)) (ex_bor (vS 4)))) (ex_bor (bMul (ex_bor ev_int) (ex_bor (vS 17))))) nS)))))) nB)))
  have h10 : SX (cxOf (L2.CX P w) P w K mg base N64 "law" (defScope (top 64)) (He.fAd K ("law", none)) (.ref (He.codeOf K ("law", none))) A outer s H E) (clA K xs) c64 false ((defBody (top 64)).getD 10 (.Pass ⟨0, 0, 0, 0⟩)) (sIf (eTest (eBin wNe (eCall law_slides (eCons (eCall slides_from_slides (eCons (eVar 11) (eCons (eVar 3) (eCons (eVar 4) eNil)))) eNil)) (eVar 11))) (sRet (eC (.bool false))) sNext) E := (sx_if (tNe hr (ex_bor (kS d__law_slides (hr.mono (by first | decide | omega)) hx (aS (kS d_from_slides (hr.mono (by first | decide | omega)) hx (aS (vS 11) (aS (vS 3) (aS (vS 4) nS)))) nS))) (ex_bor (vS 11))) (ss_one (zRet ev_bl)) ss_nil)
  have h11 : SX (cxOf (L2.CX P w) P w K mg base N64 "law" (defScope (top 64)) (He.fAd K ("law", none)) (.ref (He.codeOf K ("law", none))) A outer s H E) (clA K xs) c64 false ((defBody (top 64)).getD 11 (.Pass ⟨0, 0, 0, 0⟩)) (sAsg (gTp (gsC (gN 12) (gsC (gN 13) gsN))) (eTup (eCons (eCall law_form (eCons (eBin wFdiv (eVar 1) (eC (.int (11)))) (eCons (eBin wAdd (eC (.int (1))) (eBin wMod (eVar 1) (eC (.int (5))))) eNil))) (eCons (eBin wMod (eBin wFdiv (eVar 2) (eC (.int (7)))) (eBin wAdd (eC (.int (2))) (eBin wMod (eVar 1) (eC (.int (5)))))) eNil)))) E := (zAsg (gT (gSs (gV 12 nd) (gSs (gV 13 nd) gxs_nil))) (ev_tup (aS (kS d__law_form (hr.mono (by first | decide | omega)) hx (aS (bDiv (ex_bor (vS 1)) (ex_bor ev_int)) (aS (bAdd (ex_bor ev_int) (ex_bor (bMod (ex_bor (vS 1)) (ex_bor ev_int)))) nS))) (aS (bMod (ex_bor (bDiv (ex_bor (vS 2)) (ex_bor ev_int))) (ex_bor (bAdd (ex_bor ev_int) (ex_bor (bMod (ex_bor (vS 1)) (ex_bor ev_int)))))) nS))))
  have h12 : SX (cxOf (L2.CX P w) P w K mg base N64 "law" (defScope (top 64)) (He.fAd K ("law", none)) (.ref (He.codeOf K ("law", none))) A outer s H E) (clA K xs) c64 false ((defBody (top 64)).getD 12 (.Pass ⟨0, 0, 0, 0⟩)) (sAsg (gTp (gsC (gN 14) (gsC (gN 15) gsN))) (eTup (eCons (eCall slides_polarized (eCons (eVar 12) (eCons (eVar 13) eNil))) (eCons (eBin wSub (eCallB gLen (eCons (eVar 12) eNil)) (eC (.int (1)))) eNil)))) E := (zAsg (gT (gSs (gV 14 nd) (gSs (gV 15 nd) gxs_nil))) (ev_tup (aS (kS d_polarized (hr.mono (by first | decide | omega)) hx (aS (vS 12) (aS (vS 13) nS))) (aS (bSub (ex_bor (fLen T.bn (aB (ex_srd (vS 12)) nB))) (ex_bor ev_int)) nS))))
  have h13 : SX (cxOf (L2.CX P w) P w K mg base N64 "law" (defScope (top 64)) (He.fAd K ("law", none)) (.ref (He.codeOf K ("law", none))) A outer s H E) (clA K xs) c64 false ((defBody (top 64)).getD 13 (.Pass ⟨0, 0, 0, 0⟩)) (sSet 16 (eLst eNil)) E := (zOwn 16 nd (ev_lst nS))
  have h14 : SX (cxOf (L2.CX P w) P w K mg base N64 "law" (defScope (top 64)) (He.fAd K ("law", none)) (.ref (He.codeOf K ("law", none))) A outer s H E) (clA K xs) c64 false ((defBody (top 64)).getD 14 (.Pass ⟨0, 0, 0, 0⟩)) (sFor (sRng gRng1 (eCons (eBin wAdd (eBin wSub (eVar 15) (eVar 13)) (eC (.int (1)))) eNil)) (gN 17) (sThen (sSet 18 (eLc (sRng gRng1 (eCons (eBin wAdd (eVar 13) (eC (.int (1)))) eNil)) [20] (gN 20) etYes (eCall law_div (eCons (eBin wIdx (eVar 12) (eBin wAdd (eVar 17) (eVar 20))) (eCons (eTup (eCons (eCall law_choose (eCons (eVar 15) (eCons (eBin wAdd (eVar 17) (eVar 20)) eNil))) (eCons (eC (.int (1))) eNil))) eNil))))) (sApp 16 (eCallB gTuple (eCons (eLc (sRng gRng1 (eCons (eBin wAdd (eVar 13) (eC (.int (1)))) eNil)) [20] (gN 20) etYes (eCall law_mul (eCons (eBin wIdx (eVar 18) (eVar 20)) (eCons (eTup (eCons (eBin wMul (eCall law_choose (eCons (eBin wSub (eVar 15) (eVar 13)) (eCons (eVar 17) eNil))) (eCall law_choose (eCons (eVar 13) (eCons (eVar 20) eNil)))) (eCons (eC (.int (1))) eNil))) eNil)))) eNil))))) E := (zFor hp (wR1 T.bn (aB (ex_srd (bAdd (ex_bor (bSub (ex_bor (vS 15)) (ex_bor (vS 13)))) (ex_bor ev_int))) nB)) (gV 17 nd)
      (ss_cons (zSet 18 nd (ex_safe (lC [("j", 20)] nd (wR1 T.bn (aB (ex_srd (bAdd (ex_bor (vS 13)) (ex_bor ev_int))) nB)) (fun _ _ _ _ _ => (gV 20 nd)) (fun _ _ _ _ _ => tsx_nil) (fun _ _ _ _ _ => (kS d__law_div (hr.mono (by first | decide | omega)) passL (aS (iX (ex_srd (vS 12)) (ex_bor (bAdd (ex_bor (vS 17)) (ex_bor (vS 20))))) (aS (ev_tup (aS (kS d__law_choose (hr.mono (by first | decide | omega)) passL (aS (vS 15) (aS (bAdd (ex_bor (vS 17)) (ex_bor (vS 20))) nS))) (aS ev_int nS))) nS)))))))
    (ss_one (zApp 16 (fTuple T.bn (aB (ex_frd (lC [("j", 20)] nd (wR1 T.bn (aB (ex_srd (bAdd (ex_bor (vS 13)) (ex_bor ev_int))) nB)) (fun _ _ _ _ _ => (gV 20 nd)) (fun _ _ _ _ _ => tsx_nil) (fun _ _ _ _ _ => (kS d__law_mul (hr.mono (by first | decide | omega)) passL (aS (iX (ex_srd (vS 18)) (ex_bor (vS 20))) (aS (ev_tup (aS (bMul (ex_bor (kS d__law_choose (hr.mono (by first | decide | omega)) passL (aS (bSub (ex_bor (vS 15)) (ex_bor (vS 13))) (aS (vS 17) nS)))) (ex_bor (kS d__law_choose (hr.mono (by first | decide | omega)) passL (aS (vS 13) (aS (vS 20) nS))))) (aS ev_int nS))) nS)))))) nB))))))
  have h15 : SX (cxOf (L2.CX P w) P w K mg base N64 "law" (defScope (top 64)) (He.fAd K ("law", none)) (.ref (He.codeOf K ("law", none))) A outer s H E) (clA K xs) c64 false ((defBody (top 64)).getD 15 (.Pass ⟨0, 0, 0, 0⟩)) (sIf (eNotT (eTest (eCall (law_same 40) (eCons (eVar 14) (eCons (eCallB gTuple (eCons (eVar 16) eNil)) eNil))))) (sRet (eC (.bool false))) sNext) E := (sx_if (tx_not (tV (ex_bor (kS d__law_same (hr.mono (by first | decide | omega)) hx (aS (vS 14) (aS (fTuple T.bn (aB (ex_rd (vB 16)) nB)) nS)))))) (ss_one (zRet ev_bl)) ss_nil)
  have h16 : SX (cxOf (L2.CX P w) P w K mg base N64 "law" (defScope (top 64)) (He.fAd K ("law", none)) (.ref (He.codeOf K ("law", none))) A outer s H E) (clA K xs) c64 false ((defBody (top 64)).getD 16 (.Pass ⟨0, 0, 0, 0⟩)) (sSet 19 (eBin wMulL (eLst (eCons (eTup (eCons (eC (.int (0))) (eCons (eC (.int (1))) eNil))) eNil)) (eBin wAdd (eVar 15) (eC (.int (1)))))) E := (zOwn 19 nd (bMulL (ex_fb (ev_lst (aS (ev_tup (aS ev_int (aS ev_int nS))) nS))) (ex_bor (bAdd (ex_bor (vS 15)) (ex_bor ev_int)))))
  have h17 : SX (cxOf (L2.CX P w) P w K mg base N64 "law" (defScope (top 64)) (He.fAd K ("law", none)) (.ref (He.codeOf K ("law", none))) A outer s H E) (clA K xs) c64 false ((defBody (top 64)).getD 17 (.Pass ⟨0, 0, 0, 0⟩)) (sFor (sRng gRng1 (eCons (eCallB gLen (eCons (eVar 14) eNil)) eNil)) (gN 17) (sFor (sRng gRng1 (eCons (eCallB gLen (eCons (eBin wIdx (eVar 14) (eVar 17)) eNil)) eNil)) (gN 20) (sPut 19 (eBin wAdd (eVar 17) (eVar 20)) (eCall law_add (eCons (eBin wIdx (eVar 19) (eBin wAdd (eVar 17) (eVar 20))) (eCons (eBin wIdx (eBin wIdx (eVar 14) (eVar 17)) (eVar 20)) eNil)))))) E := (zFor hp (wR1 T.bn (aB (ex_srd (fLen T.bn (aB (ex_srd (vS 14)) nB))) nB)) (gV 17 nd)
      (ss_one (zFor hp (wR1 T.bn (aB (ex_srd (fLen T.bn (aB (ex_srd (iX (ex_srd (vS 14)) (ex_bor (vS 17)))) nB))) nB)) (gV 20 nd)
      (ss_one (zPut 19 (ex_bor (bAdd (ex_bor (vS 17)) (ex_bor (vS 20)))) (kS d__law_add (hr.mono (by first | decide | omega)) hx (aS (iX (ex_rd (vB 19)) (ex_bor (bAdd (ex_bor (vS 17)) (ex_bor (vS 20))))) (aS (iX (ex_srd (iX (ex_srd (vS 14)) (ex_bor (vS 17)))) (ex_bor (vS 20))) nS))))))))
  have h18 : SX (cxOf (L2.CX P w) P w K mg base N64 "law" (defScope (top 64)) (He.fAd K ("law", none)) (.ref (He.codeOf K ("law", none))) A outer s H E) (clA K xs) c64 false ((defBody (top 64)).getD 18 (.Pass ⟨0, 0, 0, 0⟩)) (sIf (eTest (eBin wNe (eCallB gTuple (eCons (eVar 19) eNil)) (eVar 12))) (sRet (eC (.bool false))) sNext) E := (sx_if (tNe hr (ex_bor (fTuple T.bn (aB (ex_rd (vB 19)) nB))) (ex_bor (vS 12))) (ss_one (zRet ev_bl)) ss_nil)
  have h19 : SX (cxOf (L2.CX P w) P w K mg base N64 "law" (defScope (top 64)) (He.fAd K ("law", none)) (.ref (He.codeOf K ("law", none))) A outer s H E) (clA K xs) c64 false ((defBody (top 64)).getD 19 (.Pass ⟨0, 0, 0, 0⟩)) (sSet 21 (eBin wMod (eBin wFdiv (eVar 1) (eC (.int (13)))) (eC (.int (3))))) E := (zSet 21 nd (bMod (ex_bor (bDiv (ex_bor (vS 1)) (ex_bor ev_int))) (ex_bor ev_int)))
  have h20 : SX (cxOf (L2.CX P w) P w K mg base N64 "law" (defScope (top 64)) (He.fAd K ("law", none)) (.ref (He.codeOf K ("law", none))) A outer s H E) (clA K xs) c64 false ((defBody (top 64)).getD 20 (.Pass ⟨0, 0, 0, 0⟩)) (sSet 22 (eVar 9)) E := (zSet 22 nd (vS 9))
  have h21 : SX (cxOf (L2.CX P w) P w K mg base N64 "law" (defScope (top 64)) (He.fAd K ("law", none)) (.ref (He.codeOf K ("law", none))) A outer s H E) (clA K xs) c64 false ((defBody (top 64)).getD 21 (.Pass ⟨0, 0, 0, 0⟩)) (sFor (sRng gRng1 (eCons (eVar 21) eNil)) (gN 23) (sNest 24 (eRows (eLc (sRng gRng1 (eCons (eBin wAdd (eCallB gLen (eCons (eVar 22) eNil)) (eC (.int (1)))) eNil)) [17] (gN 17) etYes (eBin wMulL (eLst (eCons (eTup (eCons (eC (.int (0))) (eCons (eC (.int (1))) eNil))) eNil)) (eBin wAdd (eCallB gLen (eCons (eBin wIdx (eVar 22) (eC (.int (0)))) eNil)) (eC (.int (1))))))) (sFor (sRng gRng1 (eCons (eCallB gLen (eCons (eVar 22) eNil)) eNil)) (gN 17) (sFor (sRng gRng1 (eCons (eCallB gLen (eCons (eBin wIdx (eVar 22) (eC (.int (0)))) eNil)) eNil)) (gN 20) (sThen (sNPut (eVar 17) (eBin wAdd (eVar 20) (eC (.int (1)))) (eCall law_add (eCons (eNst (eVar 17) (eBin wAdd (eVar 20) (eC (.int (1))))) (eCons (eBin wIdx (eBin wIdx (eVar 22) (eVar 17)) (eVar 20)) eNil)))) (sNPut (eBin wAdd (eVar 17) (eC (.int (1)))) (eVar 20) (eCall law_add (eCons (eNst (eBin wAdd (eVar 17) (eC (.int (1)))) (eVar 20)) (eCons (eCall law_mul (eCons (eTup (eCons (eUn wNeg (eC (.int (1)))) (eCons (eC (.int (1))) eNil))) (eCons (eBin wIdx (eBin wIdx (eVar 22) (eVar 17)) (eVar 20)) eNil))) eNil))))))) (sSet 22 (eCallB gTuple (eCons (eLc (sSeq (eVar 24)) [27] (gN 27) etYes (eCallB gTuple (eCons (eVar 27) eNil))) eNil))))) E := (zFor hp (wR1 T.bn (aB (ex_srd (vS 21)) nB)) (gV 23 nd)
      (zNest 24 [("k", 17)] hK0 nd (wR1 T.bn (aB (ex_srd (bAdd (ex_bor (fLen T.bn (aB (ex_srd (vS 22)) nB))) (ex_bor ev_int))) nB)) (fun _ _ _ _ _ => (gV 17 nd)) (fun _ _ _ _ _ => tsx_nil) (fun _ _ _ _ _ => (bMulL (ex_fb (ev_lst (aS (ev_tup (aS ev_int (aS ev_int nS))) nS))) (ex_bor (bAdd (ex_bor (fLen T.bn (aB (ex_srd (iX (ex_srd (vS 22)) (ex_bor ev_int))) nB))) (ex_bor ev_int)))))
    (zFor hp (wR1 T.bn (aB (ex_srd (fLen T.bn (aB (ex_srd (vS 22)) nB))) nB)) (gV 17 nd)
      (ss_one (zFor hp (wR1 T.bn (aB (ex_srd (fLen T.bn (aB (ex_srd (iX (ex_srd (vS 22)) (ex_bor ev_int))) nB))) nB)) (gV 20 nd)
      (ss_cons (zNPut 24 hK0 (ex_bor (vS 17)) (ex_bor (bAdd (ex_bor (vS 20)) (ex_bor ev_int))) (kS d__law_add (hr.mono (by first | decide | omega)) hx (aS (vNst 24 hK0 (ex_bor (vS 17)) (ex_bor (bAdd (ex_bor (vS 20)) (ex_bor ev_int)))) (aS (iX (ex_srd (iX (ex_srd (vS 22)) (ex_bor (vS 17)))) (ex_bor (vS 20))) nS))))
    (ss_one (zNPut 24 hK0 (ex_bor (bAdd (ex_bor (vS 17)) (ex_bor ev_int))) (ex_bor (vS 20)) (kS d__law_add (hr.mono (by first | decide | omega)) hx (aS (vNst 24 hK0 (ex_bor (bAdd (ex_bor (vS 17)) (ex_bor ev_int))) (ex_bor (vS 20))) (aS (kS d__law_mul (hr.mono (by first | decide | omega)) hx (aS (ev_tup (aS (uNeg (ex_srd ev_int)) (aS ev_int nS))) (aS (iX (ex_srd (iX (ex_srd (vS 22)) (ex_bor (vS 17)))) (ex_bor (vS 20))) nS))) nS)))))))))
    (ss_one (zSet 22 nd (fTuple T.bn (aB (ex_frd (lC [("row", 27)] nd (wS (ex_srd (vS 24))) (fun _ _ _ _ _ => (gV 27 nd)) (fun _ _ _ _ _ => tsx_nil) (fun _ _ _ _ _ => (fTuple T.bn (aB (ex_srd (vS 27)) nB))))) nB))))))
  have h22 : SX (cxOf (L2.CX P w) P w K mg base N64 "law" (defScope (top 64)) (He.fAd K ("law", none)) (.ref (He.codeOf K ("law", none))) A outer s H E) (clA K xs) c64 false ((defBody (top 64)).getD 22 (.Pass ⟨0, 0, 0, 0⟩)) (sIf (eNotT (eTest (eCall (law_same 40) (eCons (eCall slides_times_bracket (eCons (eVar 9) (eCons (eVar 21) eNil))) (eCons (eVar 22) eNil))))) (sRet (eC (.bool false))) sNext) E := (sx_if (tx_not (tV (ex_bor (kS d__law_same (hr.mono (by first | decide | omega)) hx (aS (kS d_times_bracket (hr.mono (by first | decide | omega)) hx (aS (vS 9) (aS (vS 21) nS))) (aS (vS 22) nS)))))) (ss_one (zRet ev_bl)) ss_nil)
  have h23 : SX (cxOf (L2.CX P w) P w K mg base N64 "law" (defScope (top 64)) (He.fAd K ("law", none)) (.ref (He.codeOf K ("law", none))) A outer s H E) (clA K xs) c64 false ((defBody (top 64)).getD 23 (.Pass ⟨0, 0, 0, 0⟩)) (sIf (eAndT (eTest (eBin wGt (eVar 21) (eC (.int (0))))) (eTest (eCallB gAny (eCons (eLc (sSeq (eBin wIdx (eCall law_slides (eCons (eVar 22) eNil)) (eC (.int (0))))) [28] (gN 28) etYes (eBin wNe (eBin wIdx (eVar 28) (eC (.int (0)))) (eC (.int (0))))) eNil)))) (sRet (eC (.bool false))) sNext) E := (sx_if (tT1 (tw_and (tGt (ex_bor (vS 21)) (ex_bor ev_int)) (tw_and1 (tV (ex_bor (fAny T.bn (aB (ex_frd (lC [("item", 28)] nd (wS (ex_srd (iX (ex_srd (kS d__law_slides (hr.mono (by first | decide | omega)) hx (aS (vS 22) nS))) (ex_bor ev_int)))) (fun _ _ _ _ _ => (gV 28 nd)) (fun _ _ _ _ _ => tsx_nil) (fun _ _ _ _ _ => (ex_bool (cNe hr (ex_bor (iX (ex_srd (vS 28)) (ex_bor ev_int))) (ex_bor ev_int)) bool_ne)))) nB))))))) (ss_one (zRet ev_bl)) ss_nil)
  have h24 : SX (cxOf (L2.CX P w) P w K mg base N64 "law" (defScope (top 64)) (He.fAd K ("law", none)) (.ref (He.codeOf K ("law", none))) A outer s H E) (clA K xs) c64 false ((defBody (top 64)).getD 24 (.Pass ⟨0, 0, 0, 0⟩)) (sIf (eTest (eBin wNe (eToldA 2 [(X_BadForm, (.str "form")), (X_BadNumber, (.str "number"))] (.str "") (eCall slides_from_slides (eCons (eBin wAdd (eVar 8) (eTup (eCons (eVar 5) eNil))) (eCons (eVar 3) (eCons (eVar 4) eNil))))) (eC (.str "form")))) (sRet (eC (.bool false))) sNext) E := (sx_if (tNe hr (ex_bor (ev_toldA (k := 41) tld T.ap (by decide) rfl TBx.1 TBx.2.1 TBx.2.2.1 TBx.2.2.2 (hr.mono (by decide)) (LamX.lamS_by (by rfl)) rfl (fun _ _ _ _ _ => rfl) (fun A2 outer2 s2 H2 E2 f2 c2 hr2 => have hxl := hxL A2 outer2 s2 H2 E2 _ f2 c2; (kS d_from_slides (hr2.mono (by first | decide | omega)) hxl (aS (bAdd (ex_bor (vS 8)) (ex_bor (ev_tup (aS (vS 5) nS)))) (aS (vS 3) (aS (vS 4) nS))))) (by decide) (by decide) (by decide))) (ex_bor ev_str)) (ss_one (zRet ev_bl)) ss_nil)
  have h25 : SX (cxOf (L2.CX P w) P w K mg base N64 "law" (defScope (top 64)) (He.fAd K ("law", none)) (.ref (He.codeOf K ("law", none))) A outer s H E) (clA K xs) c64 false ((defBody (top 64)).getD 25 (.Pass ⟨0, 0, 0, 0⟩)) (sRet (eBin wEq (eToldA 2 [(X_BadForm, (.str "form")), (X_BadNumber, (.str "number"))] (.str "") (eCall slides_polarized (eCons (eVar 12) (eCons (eCallB gLen (eCons (eVar 12) eNil)) eNil)))) (eC (.str "number")))) E := (zRet (ex_bool (cEq hr (ex_bor (ev_toldA (k := 41) tld T.ap (by decide) rfl TBx.1 TBx.2.1 TBx.2.2.1 TBx.2.2.2 (hr.mono (by decide)) (LamX.lamS_by (by rfl)) rfl (fun _ _ _ _ _ => rfl) (fun A2 outer2 s2 H2 E2 f2 c2 hr2 => have hxl := hxL A2 outer2 s2 H2 E2 _ f2 c2; (kS d_polarized (hr2.mono (by first | decide | omega)) hxl (aS (vS 12) (aS (fLen T.bn (aB (ex_srd (vS 12)) nB)) nS)))) (by decide) (by decide) (by decide))) (ex_bor ev_str)) bool_eq))
  exact (ss_cons h0 (ss_cons h1 (ss_cons h2 (ss_cons h3 (ss_cons h4 (ss_cons h5 (ss_cons h6 (ss_cons h7 (ss_cons h8 (ss_cons h9 (ss_cons h10 (ss_cons h11 (ss_cons h12 (ss_cons h13 (ss_cons h14 (ss_cons h15 (ss_cons h16 (ss_cons h17 (ss_cons h18 (ss_cons h19 (ss_cons h20 (ss_cons h21 (ss_cons h22 (ss_cons h23 (ss_cons h24 (ss_one h25))))))))))))))))))))))))))
end
end G

end

section
namespace G
open PySem PySem.Spec PyProof.Rows L2 Ev
theorem tx [Tb] {K : PySem.W.Frag} {h : Heap} {mg : Str → Option Value} (X : K.In h) (G : h.Ns mainGlobals mg) (c : exB K = true) : Tx K mg := by
  unfold exB at c
  simp only [Bool.and_eq_true] at c
  obtain ⟨q0, q1, q2, q3, q4, q5, q6⟩ := c
  exact ⟨bn_ok X G q0, ap_ok q1, cst_ok X G q4, cst_ok X G q5, cst_ok X G q6, exc_ok X G q2, exc_ok X G q3⟩
theorem gl3 {Y : Cx} {sg : Scope} (h : Y.env.scope = sg) (x : Str) (e : sg.names.lookup x = some .globalImplicit) : Gl Y x := by
  subst h
  exact e
theorem tld [Tb] {K : PySem.W.Frag} {mg : Str → Option Value} {g : Addr} {fd : FuncData} (T : Tx K mg) (F : Fun K "_law_refused" "_law_refused" (top 63) g fd) (hg : mg "_law_refused" = some (.ref g)) (hb : Binds K fd ["make_it"] []) (X : Cx) (hK : X.K = K) (hm : X.mg = mg) : ToldOk X "_law_refused" "make_it" g (TA' K (clA K xs) [(X_BadForm, (.str "form")), (X_BadNumber, (.str "number"))] (.str "")) := by
  refine told_of F hg ⟨rfl, rfl, rfl, by decide +kernel, rfl, by decide +kernel, by decide +kernel⟩ (.inl rfl) hb X hK hm fun cdv => ?_
  subst hK hm
  exact gives_expr (fun _ => rfl) (fun Y y1 y2 y3 => (.cons ⟨gl3 y3 "BadForm" rfl, by decide, .inl (by rw [y2]; exact T.e_BadForm.g)⟩ (fun _ _ _ _ _ _ _ => pss_one (ps_ret pe_str)) (.cons ⟨gl3 y3 "BadNumber" rfl, by decide, .inl (by rw [y2]; exact T.e_BadNumber.g)⟩ (fun _ _ _ _ _ _ _ => pss_one (ps_ret pe_str)) .nil))) (fun _ => pe_str) (fun _ => rfl)
/-- what the mathematics has to show -/
def LawTrue : Prop := ∀ ns : List Int, ns.length ≤ 63 → (∀ z ∈ ns, Builtin.Int.intBits z ≤ 1048576) → law [.list (ns.map PyData.int)] = .ok (.bool true)
theorem lawAt (M : LawTrue) {P : Program} {w : World} {K : PySem.W.Frag} {h : Heap} {mg : Str → Option Value} {f : Addr} (X : K.In h) (G : h.Ns mainGlobals mg) (hfa : mg ("law" : Str) = some (.ref f)) (c : He.SaysX fa fn [] tf exB w h K) (hP : P = (PySem.Challenge.rw_slideforms_k04_whole_products_parted_by).prog) : LamX.LawAtS PySem.Challenge.rw_slideforms_k04_whole_products_parted_by w K (L2.CX P w) 44 63 "script" mg f h := by
  subst hP
  obtain ⟨fd_divisor, F_divisor⟩ := c.t.d.def_ 0 (d := d_divisor) rfl
  have g_divisor := He.glo_ok X G (c.t.d.fact 0 (f := .glo "divisor") rfl)
  obtain ⟨fd_is_integer, F_is_integer⟩ := c.t.d.def_ 1 (d := d_is_integer) rfl
  have g_is_integer := He.glo_ok X G (c.t.d.fact 1 (f := .glo "is_integer") rfl)
  obtain ⟨fd_is_ratio, F_is_ratio⟩ := c.t.d.def_ 2 (d := d_is_ratio) rfl
  have g_is_ratio := He.glo_ok X G (c.t.d.fact 2 (f := .glo "is_ratio") rfl)
  obtain ⟨fd_is_form, F_is_form⟩ := c.t.d.def_ 3 (d := d_is_form) rfl
  have g_is_form := He.glo_ok X G (c.t.d.fact 3 (f := .glo "is_form") rfl)
  obtain ⟨fd_check_order, F_check_order⟩ := c.t.d.def_ 4 (d := d_check_order) rfl
  have g_check_order := He.glo_ok X G (c.t.d.fact 4 (f := .glo "check_order") rfl)
  obtain ⟨fd_make, F_make⟩ := c.t.d.def_ 5 (d := d_make) rfl
  have g_make := He.glo_ok X G (c.t.d.fact 5 (f := .glo "make") rfl)
  obtain ⟨fd_multiply_ratios, F_multiply_ratios⟩ := c.t.d.def_ 6 (d := d_multiply_ratios) rfl
  have g_multiply_ratios := He.glo_ok X G (c.t.d.fact 6 (f := .glo "multiply_ratios") rfl)
  obtain ⟨fd_slope_x, F_slope_x⟩ := c.t.d.def_ 7 (d := d_slope_x) rfl
  have g_slope_x := He.glo_ok X G (c.t.d.fact 7 (f := .glo "slope_x") rfl)
  obtain ⟨fd_slope_y, F_slope_y⟩ := c.t.d.def_ 8 (d := d_slope_y) rfl
  have g_slope_y := He.glo_ok X G (c.t.d.fact 8 (f := .glo "slope_y") rfl)
  obtain ⟨fd_add_ratios, F_add_ratios⟩ := c.t.d.def_ 9 (d := d_add_ratios) rfl
  have g_add_ratios := He.glo_ok X G (c.t.d.fact 9 (f := .glo "add_ratios") rfl)
  obtain ⟨fd_check_form, F_check_form⟩ := c.t.d.def_ 10 (d := d_check_form) rfl
  have g_check_form := He.glo_ok X G (c.t.d.fact 10 (f := .glo "check_form") rfl)
  obtain ⟨fd_zero, F_zero⟩ := c.t.d.def_ 11 (d := d_zero) rfl
  have g_zero := He.glo_ok X G (c.t.d.fact 11 (f := .glo "zero") rfl)
  obtain ⟨fd_scaled, F_scaled⟩ := c.t.d.def_ 12 (d := d_scaled) rfl
  have g_scaled := He.glo_ok X G (c.t.d.fact 12 (f := .glo "scaled") rfl)
  obtain ⟨fd_order, F_order⟩ := c.t.d.def_ 13 (d := d_order) rfl
  have g_order := He.glo_ok X G (c.t.d.fact 13 (f := .glo "order") rfl)
  obtain ⟨fd_slopes, F_slopes⟩ := c.t.d.def_ 14 (d := d_slopes) rfl
  have g_slopes := He.glo_ok X G (c.t.d.fact 14 (f := .glo "slopes") rfl)
  obtain ⟨fd_add_forms, F_add_forms⟩ := c.t.d.def_ 15 (d := d_add_forms) rfl
  have g_add_forms := He.glo_ok X G (c.t.d.fact 15 (f := .glo "add_forms") rfl)
  obtain ⟨fd_factorial, F_factorial⟩ := c.t.d.def_ 16 (d := d_factorial) rfl
  have g_factorial := He.glo_ok X G (c.t.d.fact 16 (f := .glo "factorial") rfl)
  obtain ⟨fd_divide, F_divide⟩ := c.t.d.def_ 17 (d := d_divide) rfl
  have g_divide := He.glo_ok X G (c.t.d.fact 17 (f := .glo "divide") rfl)
  obtain ⟨fd_choose, F_choose⟩ := c.t.d.def_ 18 (d := d_choose) rfl
  have g_choose := He.glo_ok X G (c.t.d.fact 18 (f := .glo "choose") rfl)
  obtain ⟨fd_multiply_forms, F_multiply_forms⟩ := c.t.d.def_ 19 (d := d_multiply_forms) rfl
  have g_multiply_forms := He.glo_ok X G (c.t.d.fact 19 (f := .glo "multiply_forms") rfl)
  obtain ⟨fd_slide, F_slide⟩ := c.t.d.def_ 20 (d := d_slide) rfl
  have g_slide := He.glo_ok X G (c.t.d.fact 20 (f := .glo "slide") rfl)
  obtain ⟨fd__law_make, F__law_make⟩ := c.t.d.def_ 21 (d := d__law_make) rfl
  have g__law_make := He.glo_ok X G (c.t.d.fact 21 (f := .glo "_law_make") rfl)
  obtain ⟨fd__law_add, F__law_add⟩ := c.t.d.def_ 22 (d := d__law_add) rfl
  have g__law_add := He.glo_ok X G (c.t.d.fact 22 (f := .glo "_law_add") rfl)
  obtain ⟨fd__law_mul, F__law_mul⟩ := c.t.d.def_ 23 (d := d__law_mul) rfl
  have g__law_mul := He.glo_ok X G (c.t.d.fact 23 (f := .glo "_law_mul") rfl)
  obtain ⟨fd__law_scaled, F__law_scaled⟩ := c.t.d.def_ 24 (d := d__law_scaled) rfl
  have g__law_scaled := He.glo_ok X G (c.t.d.fact 24 (f := .glo "_law_scaled") rfl)
  obtain ⟨fd__law_plus, F__law_plus⟩ := c.t.d.def_ 25 (d := d__law_plus) rfl
  have g__law_plus := He.glo_ok X G (c.t.d.fact 25 (f := .glo "_law_plus") rfl)
  obtain ⟨fd__law_choose, F__law_choose⟩ := c.t.d.def_ 26 (d := d__law_choose) rfl
  have g__law_choose := He.glo_ok X G (c.t.d.fact 26 (f := .glo "_law_choose") rfl)
  obtain ⟨fd__law_slope, F__law_slope⟩ := c.t.d.def_ 27 (d := d__law_slope) rfl
  have g__law_slope := He.glo_ok X G (c.t.d.fact 27 (f := .glo "_law_slope") rfl)
  obtain ⟨fd__law_times, F__law_times⟩ := c.t.d.def_ 28 (d := d__law_times) rfl
  have g__law_times := He.glo_ok X G (c.t.d.fact 28 (f := .glo "_law_times") rfl)
  obtain ⟨fd__law_slide, F__law_slide⟩ := c.t.d.def_ 29 (d := d__law_slide) rfl
  have g__law_slide := He.glo_ok X G (c.t.d.fact 29 (f := .glo "_law_slide") rfl)
  obtain ⟨fd__law_same, F__law_same⟩ := c.t.d.def_ 30 (d := d__law_same) rfl
  have g__law_same := He.glo_ok X G (c.t.d.fact 30 (f := .glo "_law_same") rfl)
  obtain ⟨fd_weighed, F_weighed⟩ := c.t.d.def_ 31 (d := d_weighed) rfl
  have g_weighed := He.glo_ok X G (c.t.d.fact 31 (f := .glo "weighed") rfl)
  obtain ⟨fd_times_bracket, F_times_bracket⟩ := c.t.d.def_ 32 (d := d_times_bracket) rfl
  have g_times_bracket := He.glo_ok X G (c.t.d.fact 32 (f := .glo "times_bracket") rfl)
  obtain ⟨fd_add_doubles, F_add_doubles⟩ := c.t.d.def_ 33 (d := d_add_doubles) rfl
  have g_add_doubles := He.glo_ok X G (c.t.d.fact 33 (f := .glo "add_doubles") rfl)
  obtain ⟨fd_polarized, F_polarized⟩ := c.t.d.def_ 34 (d := d_polarized) rfl
  have g_polarized := He.glo_ok X G (c.t.d.fact 34 (f := .glo "polarized") rfl)
  obtain ⟨fd_all_slides, F_all_slides⟩ := c.t.d.def_ 35 (d := d_all_slides) rfl
  have g_all_slides := He.glo_ok X G (c.t.d.fact 35 (f := .glo "all_slides") rfl)
  obtain ⟨fd__law_slides, F__law_slides⟩ := c.t.d.def_ 36 (d := d__law_slides) rfl
  have g__law_slides := He.glo_ok X G (c.t.d.fact 36 (f := .glo "_law_slides") rfl)
  obtain ⟨fd__law_rich, F__law_rich⟩ := c.t.d.def_ 37 (d := d__law_rich) rfl
  have g__law_rich := He.glo_ok X G (c.t.d.fact 37 (f := .glo "_law_rich") rfl)
  obtain ⟨fd__law_form, F__law_form⟩ := c.t.d.def_ 38 (d := d__law_form) rfl
  have g__law_form := He.glo_ok X G (c.t.d.fact 38 (f := .glo "_law_form") rfl)
  obtain ⟨fd__law_cell, F__law_cell⟩ := c.t.d.def_ 39 (d := d__law_cell) rfl
  have g__law_cell := He.glo_ok X G (c.t.d.fact 39 (f := .glo "_law_cell") rfl)
  obtain ⟨fd_from_slides, F_from_slides⟩ := c.t.d.def_ 40 (d := d_from_slides) rfl
  have g_from_slides := He.glo_ok X G (c.t.d.fact 40 (f := .glo "from_slides") rfl)
  obtain ⟨fd__law_div, F__law_div⟩ := c.t.d.def_ 41 (d := d__law_div) rfl
  have g__law_div := He.glo_ok X G (c.t.d.fact 41 (f := .glo "_law_div") rfl)
  obtain ⟨fd_double_of, F_double_of⟩ := c.t.d.def_ 42 (d := d_double_of) rfl
  have g_double_of := He.glo_ok X G (c.t.d.fact 42 (f := .glo "double_of") rfl)
  obtain ⟨fd_slides_of_double, F_slides_of_double⟩ := c.t.d.def_ 43 (d := d_slides_of_double) rfl
  have g_slides_of_double := He.glo_ok X G (c.t.d.fact 43 (f := .glo "slides_of_double") rfl)
  obtain ⟨fd__law_refused, F__law_refused⟩ := c.t.d.def_ 44 (d := d__law_refused) rfl
  have g__law_refused := He.glo_ok X G (c.t.d.fact 44 (f := .glo "_law_refused") rfl)
  obtain ⟨fd_law, F_law⟩ := c.t.d.def_ 45 (d := d_law) rfl
  have g_law := He.glo_ok X G (c.t.d.fact 45 (f := .glo "law") rfl)
  have e := hfa.symm.trans g_law
  cases e
  let tp : Addr × Addr := He.cT K ("law", none)
  letI : Tb := ⟨[(tp.2, ("law.<locals>." : Str) ++ ("<lambda>" : Str))], K⟩
  have T := tx X G c.more
  have bL := FunD.bindsA (ps := ["script"]) F_law fun _ _ _ _ _ _ us hl => match us, hl with | [_], _ => rfl
  refine ⟨fd_law, [tp], FnC K (clA K xs) law, fun p hp => ?_, fun p hp => ?_, fun p hp => ?_, fun s v => bL s [v] rfl, fun H a ns hl hb hH hS => ?_, fun base hB hN hTB => ?_⟩
  · rw [List.mem_singleton.mp hp]; exact c.empty ("law", none) (by simp [tf])
  · rw [List.mem_singleton.mp hp]; exact c.out ("law", none) (by simp [tf])
  · rw [List.mem_singleton.mp hp]; exact PySem.W.codeHd_of_K X (c.hd ("law", none) (by simp [tf]))
  · refine law_sp (fun p hp => ?_) hS (M ns hl hb)
    have e : p = (tp.2, ("law.<locals>." : Str) ++ ("<lambda>" : Str)) := List.mem_singleton.mp hp
    rw [e]
    exact LamX.TabS.nil (hH tp List.mem_cons_self)
  · have pp : ∀ (ps : List Str), True := fun _ => trivial
    have A_divisor : FnA (PySem.Challenge.rw_slideforms_k04_whole_products_parted_by).prog w K mg base "divisor" 1 (FnS K (clA K xs) false ratios_divisor) := fnA_of (ok9 T (He5.fun_of F_divisor) ) g_divisor F_divisor.kp (F_divisor.bindsN (ps := ["one", "other"]) fun _ _ _ _ _ _ us hl => match us, hl with | [_, _], _ => rfl)
    have A_is_integer : FnA (PySem.Challenge.rw_slideforms_k04_whole_products_parted_by).prog w K mg base "is_integer" 1 (FnS K (clA K xs) false ratios_is_integer) := fnA_of (ok7 T (He5.fun_of F_is_integer) ) g_is_integer F_is_integer.kp (F_is_integer.bindsN (ps := ["value"]) fun _ _ _ _ _ _ us hl => match us, hl with | [_], _ => rfl)
    have A_is_ratio : FnA (PySem.Challenge.rw_slideforms_k04_whole_products_parted_by).prog w K mg base "is_ratio" 2 (FnS K (clA K xs) false ratios_is_ratio) := fnA_of (ok8 T (He5.fun_of F_is_ratio) A_divisor A_is_integer) g_is_ratio F_is_ratio.kp (F_is_ratio.bindsN (ps := ["value"]) fun _ _ _ _ _ _ us hl => match us, hl with | [_], _ => rfl)
    have A_is_form : FnA (PySem.Challenge.rw_slideforms_k04_whole_products_parted_by).prog w K mg base "is_form" 3 (FnS K (clA K xs) false forms_is_form) := fnA_of (ok18 T (He5.fun_of F_is_form) A_is_ratio) g_is_form F_is_form.kp (F_is_form.bindsN (ps := ["value"]) fun _ _ _ _ _ _ us hl => match us, hl with | [_], _ => rfl)
    have A_check_form : FnA (PySem.Challenge.rw_slideforms_k04_whole_products_parted_by).prog w K mg base "check_form" 4 (FnS K (clA K xs) false forms_check_form) := fnA_of (ok19 T (He5.fun_of F_check_form) A_is_form) g_check_form F_check_form.kp (F_check_form.bindsN (ps := ["value"]) fun _ _ _ _ _ _ us hl => match us, hl with | [_], _ => rfl)
    have A_check_order : FnA (PySem.Challenge.rw_slideforms_k04_whole_products_parted_by).prog w K mg base "check_order" 2 (FnS K (clA K xs) false forms_check_order) := fnA_of (ok22 T (He5.fun_of F_check_order) A_is_integer) g_check_order F_check_order.kp (F_check_order.bindsN (ps := ["size"]) fun _ _ _ _ _ _ us hl => match us, hl with | [_], _ => rfl)
    have A_zero : FnA (PySem.Challenge.rw_slideforms_k04_whole_products_parted_by).prog w K mg base "zero" 3 (FnS K (clA K xs) false forms_zero) := fnA_of (ok21 T (He5.fun_of F_zero) A_check_order) g_zero F_zero.kp (F_zero.bindsN (ps := ["size"]) fun _ _ _ _ _ _ us hl => match us, hl with | [_], _ => rfl)
    have A_make : FnA (PySem.Challenge.rw_slideforms_k04_whole_products_parted_by).prog w K mg base "make" 2 (FnS K (clA K xs) false ratios_make) := fnA_of (ok10 T (He5.fun_of F_make) A_divisor) g_make F_make.kp (F_make.bindsN (ps := ["above", "below"]) fun _ _ _ _ _ _ us hl => match us, hl with | [_, _], _ => rfl)
    have A_multiply_ratios : FnA (PySem.Challenge.rw_slideforms_k04_whole_products_parted_by).prog w K mg base "multiply_ratios" 3 (FnS K (clA K xs) false ratios_multiply) := fnA_of (ok13 T (He5.fun_of F_multiply_ratios) A_make) g_multiply_ratios F_multiply_ratios.kp (F_multiply_ratios.bindsN (ps := ["one", "other"]) fun _ _ _ _ _ _ us hl => match us, hl with | [_, _], _ => rfl)
    have A_scaled : FnA (PySem.Challenge.rw_slideforms_k04_whole_products_parted_by).prog w K mg base "scaled" 4 (FnS K (clA K xs) false forms_scaled) := fnA_of (ok25 T (He5.fun_of F_scaled) A_multiply_ratios) g_scaled F_scaled.kp (F_scaled.bindsN (ps := ["number", "one"]) fun _ _ _ _ _ _ us hl => match us, hl with | [_, _], _ => rfl)
    have A_order : FnA (PySem.Challenge.rw_slideforms_k04_whole_products_parted_by).prog w K mg base "order" 1 (FnS K (clA K xs) false forms_order) := fnA_of (ok20 T (He5.fun_of F_order) ) g_order F_order.kp (F_order.bindsN (ps := ["form"]) fun _ _ _ _ _ _ us hl => match us, hl with | [_], _ => rfl)
    have A_slope_x : FnA (PySem.Challenge.rw_slideforms_k04_whole_products_parted_by).prog w K mg base "slope_x" 4 (FnS K (clA K xs) false forms_slope_x) := fnA_of (ok28 T (He5.fun_of F_slope_x) A_multiply_ratios) g_slope_x F_slope_x.kp (F_slope_x.bindsN (ps := ["form"]) fun _ _ _ _ _ _ us hl => match us, hl with | [_], _ => rfl)
    have A_slope_y : FnA (PySem.Challenge.rw_slideforms_k04_whole_products_parted_by).prog w K mg base "slope_y" 4 (FnS K (clA K xs) false forms_slope_y) := fnA_of (ok29 T (He5.fun_of F_slope_y) A_multiply_ratios) g_slope_y F_slope_y.kp (F_slope_y.bindsN (ps := ["form"]) fun _ _ _ _ _ _ us hl => match us, hl with | [_], _ => rfl)
    have A_slopes : FnA (PySem.Challenge.rw_slideforms_k04_whole_products_parted_by).prog w K mg base "slopes" 5 (FnS K (clA K xs) false forms_slopes) := fnA_of (ok30 T (He5.fun_of F_slopes) A_slope_x A_slope_y) g_slopes F_slopes.kp (F_slopes.bindsN (ps := ["form", "by_x", "by_y"]) fun _ _ _ _ _ _ us hl => match us, hl with | [_, _, _], _ => rfl)
    have A_add_ratios : FnA (PySem.Challenge.rw_slideforms_k04_whole_products_parted_by).prog w K mg base "add_ratios" 3 (FnS K (clA K xs) false ratios_add) := fnA_of (ok11 T (He5.fun_of F_add_ratios) A_make) g_add_ratios F_add_ratios.kp (F_add_ratios.bindsN (ps := ["one", "other"]) fun _ _ _ _ _ _ us hl => match us, hl with | [_, _], _ => rfl)
    have A_add_forms : FnA (PySem.Challenge.rw_slideforms_k04_whole_products_parted_by).prog w K mg base "add_forms" 4 (FnS K (clA K xs) false forms_add) := fnA_of (ok23 T (He5.fun_of F_add_forms) A_add_ratios) g_add_forms F_add_forms.kp (F_add_forms.bindsN (ps := ["one", "other"]) fun _ _ _ _ _ _ us hl => match us, hl with | [_, _], _ => rfl)
    have A_factorial : FnA (PySem.Challenge.rw_slideforms_k04_whole_products_parted_by).prog w K mg base "factorial" 1 (FnS K (clA K xs) false forms_factorial) := fnA_of (ok32 T (He5.fun_of F_factorial) ) g_factorial F_factorial.kp (F_factorial.bindsN (ps := ["number"]) fun _ _ _ _ _ _ us hl => match us, hl with | [_], _ => rfl)
    have A_divide : FnA (PySem.Challenge.rw_slideforms_k04_whole_products_parted_by).prog w K mg base "divide" 3 (FnS K (clA K xs) false ratios_divide) := fnA_of (ok15 T (He5.fun_of F_divide) A_make) g_divide F_divide.kp (F_divide.bindsN (ps := ["one", "other"]) fun _ _ _ _ _ _ us hl => match us, hl with | [_, _], _ => rfl)
    have A_choose : FnA (PySem.Challenge.rw_slideforms_k04_whole_products_parted_by).prog w K mg base "choose" 1 (FnS K (clA K xs) false forms_choose) := fnA_of (ok31 T (He5.fun_of F_choose) ) g_choose F_choose.kp (F_choose.bindsN (ps := ["many", "few"]) fun _ _ _ _ _ _ us hl => match us, hl with | [_, _], _ => rfl)
    have A_multiply_forms : FnA (PySem.Challenge.rw_slideforms_k04_whole_products_parted_by).prog w K mg base "multiply_forms" 4 (FnS K (clA K xs) false forms_multiply) := fnA_of (ok26 T (He5.fun_of F_multiply_forms) A_add_ratios A_multiply_ratios) g_multiply_forms F_multiply_forms.kp (F_multiply_forms.bindsN (ps := ["one", "other"]) fun _ _ _ _ _ _ us hl => match us, hl with | [_, _], _ => rfl)
    have A_slide : FnA (PySem.Challenge.rw_slideforms_k04_whole_products_parted_by).prog w K mg base "slide" 6 (FnS K (clA K xs) false slides_slide) := fnA_of (ok35 T (He5.fun_of F_slide) A_check_form A_zero A_scaled A_order A_slopes A_add_forms A_factorial A_divide A_is_integer A_choose A_multiply_forms) g_slide F_slide.kp (F_slide.bindsN (ps := ["one", "other", "count"]) fun _ _ _ _ _ _ us hl => match us, hl with | [_, _, _], _ => rfl)
    have A_all_slides : FnA (PySem.Challenge.rw_slideforms_k04_whole_products_parted_by).prog w K mg base "all_slides" 7 (FnS K (clA K xs) false slides_all_slides) := fnA_of (ok36 T (He5.fun_of F_all_slides) A_slide A_order) g_all_slides F_all_slides.kp (F_all_slides.bindsN (ps := ["one", "other"]) fun _ _ _ _ _ _ us hl => match us, hl with | [_, _], _ => rfl)
    have A__law_make : FnA (PySem.Challenge.rw_slideforms_k04_whole_products_parted_by).prog w K mg base "_law_make" 1 (FnS K (clA K xs) false law_make) := fnA_of (ok47 T (He5.fun_of F__law_make) ) g__law_make F__law_make.kp (F__law_make.bindsN (ps := ["above", "under"]) fun _ _ _ _ _ _ us hl => match us, hl with | [_, _], _ => rfl)
    have A__law_add : FnA (PySem.Challenge.rw_slideforms_k04_whole_products_parted_by).prog w K mg base "_law_add" 2 (FnS K (clA K xs) false law_add) := fnA_of (ok48 T (He5.fun_of F__law_add) A__law_make) g__law_add F__law_add.kp (F__law_add.bindsN (ps := ["one", "other"]) fun _ _ _ _ _ _ us hl => match us, hl with | [_, _], _ => rfl)
    have A__law_plus : FnA (PySem.Challenge.rw_slideforms_k04_whole_products_parted_by).prog w K mg base "_law_plus" 3 (FnS K (clA K xs) false law_plus) := fnA_of (ok52 T (He5.fun_of F__law_plus) A__law_add) g__law_plus F__law_plus.kp (F__law_plus.bindsN (ps := ["one", "other"]) fun _ _ _ _ _ _ us hl => match us, hl with | [_, _], _ => rfl)
    have A__law_mul : FnA (PySem.Challenge.rw_slideforms_k04_whole_products_parted_by).prog w K mg base "_law_mul" 2 (FnS K (clA K xs) false law_mul) := fnA_of (ok49 T (He5.fun_of F__law_mul) A__law_make) g__law_mul F__law_mul.kp (F__law_mul.bindsN (ps := ["one", "other"]) fun _ _ _ _ _ _ us hl => match us, hl with | [_, _], _ => rfl)
    have A__law_scaled : FnA (PySem.Challenge.rw_slideforms_k04_whole_products_parted_by).prog w K mg base "_law_scaled" 3 (FnS K (clA K xs) false law_scaled) := fnA_of (ok53 T (He5.fun_of F__law_scaled) A__law_mul) g__law_scaled F__law_scaled.kp (F__law_scaled.bindsN (ps := ["number", "one"]) fun _ _ _ _ _ _ us hl => match us, hl with | [_, _], _ => rfl)
    have A__law_choose : FnA (PySem.Challenge.rw_slideforms_k04_whole_products_parted_by).prog w K mg base "_law_choose" 1 (FnS K (clA K xs) false law_choose) := fnA_of (ok57 T (He5.fun_of F__law_choose) ) g__law_choose F__law_choose.kp (F__law_choose.bindsN (ps := ["many", "few"]) fun _ _ _ _ _ _ us hl => match us, hl with | [_, _], _ => rfl)
    have A__law_slope : FnA (PySem.Challenge.rw_slideforms_k04_whole_products_parted_by).prog w K mg base "_law_slope" 3 (FnS K (clA K xs) false law_slope) := fnA_of (ok56 T (He5.fun_of F__law_slope) A__law_mul) g__law_slope F__law_slope.kp (F__law_slope.bindsN (ps := ["form", "by_x"]) fun _ _ _ _ _ _ us hl => match us, hl with | [_, _], _ => rfl)
    have A__law_times : FnA (PySem.Challenge.rw_slideforms_k04_whole_products_parted_by).prog w K mg base "_law_times" 3 (FnS K (clA K xs) false law_times) := fnA_of (ok51 T (He5.fun_of F__law_times) A__law_add A__law_mul) g__law_times F__law_times.kp (F__law_times.bindsN (ps := ["one", "other"]) fun _ _ _ _ _ _ us hl => match us, hl with | [_, _], _ => rfl)
    have A__law_slide : FnA (PySem.Challenge.rw_slideforms_k04_whole_products_parted_by).prog w K mg base "_law_slide" 4 (FnS K (clA K xs) false law_slide) := fnA_of (ok61 T (He5.fun_of F__law_slide) A__law_scaled A__law_plus A__law_choose A__law_slope A__law_times) g__law_slide F__law_slide.kp (F__law_slide.bindsN (ps := ["one", "other", "count"]) fun _ _ _ _ _ _ us hl => match us, hl with | [_, _, _], _ => rfl)
    have A__law_slides : FnA (PySem.Challenge.rw_slideforms_k04_whole_products_parted_by).prog w K mg base "_law_slides" 5 (FnS K (clA K xs) false law_slides) := fnA_of (ok62 T (He5.fun_of F__law_slides) A__law_plus A__law_slide) g__law_slides F__law_slides.kp (F__law_slides.bindsN (ps := ["table"]) fun _ _ _ _ _ _ us hl => match us, hl with | [_], _ => rfl)
    have A__law_rich : FnA (PySem.Challenge.rw_slideforms_k04_whole_products_parted_by).prog w K mg base "_law_rich" 1 (FnS K (clA K xs) false law_rich) := fnA_of (ok45 T (He5.fun_of F__law_rich) ) g__law_rich F__law_rich.kp (F__law_rich.bindsN (ps := ["cell", "k"]) fun _ _ _ _ _ _ us hl => match us, hl with | [_, _], _ => rfl)
    have A__law_form : FnA (PySem.Challenge.rw_slideforms_k04_whole_products_parted_by).prog w K mg base "_law_form" 2 (FnS K (clA K xs) false law_form) := fnA_of (ok58 T (He5.fun_of F__law_form) A__law_make) g__law_form F__law_form.kp (F__law_form.bindsN (ps := ["rich", "size"]) fun _ _ _ _ _ _ us hl => match us, hl with | [_, _], _ => rfl)
    have R__law_same : ∀ n : Nat, FnA (PySem.Challenge.rw_slideforms_k04_whole_products_parted_by).prog w K mg base "_law_same" (0 + n) (FnS K (clA K xs) false (law_same n)) := by
      intro n
      induction n with
      | zero => exact fnA_of ⟨fun vs H Q E h => (bad0 (fun _ => rfl) h).elim, fun A outer s H args us vs Q E _ _ _ _ h => (bad0 (fun _ => rfl) h).elim⟩ g__law_same F__law_same.kp (F__law_same.bindsN (ps := ["told", "due"]) fun _ _ _ _ _ _ us hl => match us, hl with | [_, _], _ => rfl)
      | succ n ih => exact fnA_of (ok46 T (He5.fun_of F__law_same) n ih) g__law_same F__law_same.kp (F__law_same.bindsN (ps := ["told", "due"]) fun _ _ _ _ _ _ us hl => match us, hl with | [_, _], _ => rfl)
    have A__law_same : FnA (PySem.Challenge.rw_slideforms_k04_whole_products_parted_by).prog w K mg base "_law_same" 40 (FnS K (clA K xs) false (law_same 40)) := R__law_same 40
    have A_weighed : FnA (PySem.Challenge.rw_slideforms_k04_whole_products_parted_by).prog w K mg base "weighed" 4 (FnS K (clA K xs) false forms_weighed) := fnA_of (ok33 T (He5.fun_of F_weighed) A_divide A_choose) g_weighed F_weighed.kp (F_weighed.bindsN (ps := ["form"]) fun _ _ _ _ _ _ us hl => match us, hl with | [_], _ => rfl)
    have A_polarized : FnA (PySem.Challenge.rw_slideforms_k04_whole_products_parted_by).prog w K mg base "polarized" 5 (FnS K (clA K xs) false slides_polarized) := fnA_of (ok39 T (He5.fun_of F_polarized) A_order A_weighed A_is_integer A_multiply_ratios A_choose) g_polarized F_polarized.kp (F_polarized.bindsN (ps := ["form", "second"]) fun _ _ _ _ _ _ us hl => match us, hl with | [_, _], _ => rfl)
    have A__law_cell : FnA (PySem.Challenge.rw_slideforms_k04_whole_products_parted_by).prog w K mg base "_law_cell" 1 (FnC K (clA K xs) law_cell) := fnA_of (ok44 T (He5.fun_of F__law_cell) ) g__law_cell F__law_cell.kp (F__law_cell.bindsN (ps := ["script", "k"]) fun _ _ _ _ _ _ us hl => match us, hl with | [_, _], _ => rfl)
    have A_times_bracket : FnA (PySem.Challenge.rw_slideforms_k04_whole_products_parted_by).prog w K mg base "times_bracket" 4 (FnS K (clA K xs) false slides_times_bracket) := fnA_of (ok40 T (He5.fun_of F_times_bracket) A_add_ratios rfl) g_times_bracket F_times_bracket.kp (F_times_bracket.bindsN (ps := ["table", "count"]) fun _ _ _ _ _ _ us hl => match us, hl with | [_, _], _ => rfl)
    have A_add_doubles : FnA (PySem.Challenge.rw_slideforms_k04_whole_products_parted_by).prog w K mg base "add_doubles" 4 (FnS K (clA K xs) false slides_add_doubles) := fnA_of (ok38 T (He5.fun_of F_add_doubles) A_add_ratios) g_add_doubles F_add_doubles.kp (F_add_doubles.bindsN (ps := ["one", "other"]) fun _ _ _ _ _ _ us hl => match us, hl with | [_, _], _ => rfl)
    have A_from_slides : FnA (PySem.Challenge.rw_slideforms_k04_whole_products_parted_by).prog w K mg base "from_slides" 6 (FnS K (clA K xs) false slides_from_slides) := fnA_of (ok41 T (He5.fun_of F_from_slides) A_divide A_times_bracket A_add_doubles A_polarized A_choose A_order A_multiply_ratios) g_from_slides F_from_slides.kp (F_from_slides.bindsN (ps := ["parts", "m", "n"]) fun _ _ _ _ _ _ us hl => match us, hl with | [_, _, _], _ => rfl)
    have A__law_div : FnA (PySem.Challenge.rw_slideforms_k04_whole_products_parted_by).prog w K mg base "_law_div" 2 (FnS K (clA K xs) false law_div) := fnA_of (ok50 T (He5.fun_of F__law_div) A__law_make) g__law_div F__law_div.kp (F__law_div.bindsN (ps := ["one", "other"]) fun _ _ _ _ _ _ us hl => match us, hl with | [_, _], _ => rfl)
    have A_double_of : FnA (PySem.Challenge.rw_slideforms_k04_whole_products_parted_by).prog w K mg base "double_of" 4 (FnS K (clA K xs) false slides_double_of) := fnA_of (ok37 T (He5.fun_of F_double_of) A_multiply_ratios) g_double_of F_double_of.kp (F_double_of.bindsN (ps := ["one", "other"]) fun _ _ _ _ _ _ us hl => match us, hl with | [_, _], _ => rfl)
    have A_slides_of_double : FnA (PySem.Challenge.rw_slideforms_k04_whole_products_parted_by).prog w K mg base "slides_of_double" 7 (FnS K (clA K xs) false slides_slides_of_double) := fnA_of (ok42 T (He5.fun_of F_slides_of_double) A_zero A_add_forms A_slide) g_slides_of_double F_slides_of_double.kp (F_slides_of_double.bindsN (ps := ["table"]) fun _ _ _ _ _ _ us hl => match us, hl with | [_], _ => rfl)
    exact ok64 T (He5.fun_of F_law) A_all_slides A__law_slides A__law_rich A__law_form A__law_same A_polarized A__law_cell A_from_slides A__law_div A__law_add A_times_bracket A_double_of A_slides_of_double A__law_mul A__law_choose rfl (tld T (He5.fun_of F__law_refused) g__law_refused (F__law_refused.bindsN (ps := ["make_it"]) fun _ _ _ _ _ _ us hl => match us, hl with | [_], _ => rfl)) (hTB tp List.mem_cons_self) rfl rfl
end G
open PySem PySem.W PySem.Calls PyProof.Rows
theorem G.ends (M : G.LawTrue) : PySem.Challenge.rw_slideforms_k04_whole_products_parted_by.Holds := by
  w_on; o_law
  refine HandSHeadRun.head_any (r := OpenLaw.row PySem.Challenge.rw_slideforms_k04_whole_products_parted_by) (q := view (OpenLaw.row PySem.Challenge.rw_slideforms_k04_whole_products_parted_by).prog [64]) (H := G.hk) (ob := G.ob) (M := 9000) (loose := G.loose) (d := HandSHeadRun.topDef (OpenLaw.row PySem.Challenge.rw_slideforms_k04_whole_products_parted_by).prog 64) (kwd := []) G.ob_eq
    (by kernel_rfl) (fun s => by kernel_rfl) G.run (by kernel_rfl) (by kernel_rfl) (by kernel_rfl) (by rfl) (by first | assumption | decide +kernel) (by decide +kernel) ⟨rfl, rfl, rfl, rfl, rfl, by decide +kernel⟩ ?hw ?hc
  case hw => w_witness2
  case hc =>
    refine LamX.walk_ofTsE (l := PySem.Challenge.rw_slideforms_k04_whole_products_parted_by) (n := 63) (k := 44) (x := "script") (CX := fun w => L2.CX (PySem.Challenge.rw_slideforms_k04_whole_products_parted_by).prog w) rfl (by decide) (by kernel_rfl) ⟨rfl, by decide, by decide⟩ ?F (fun w H s e s' z => ?G)
    case G => obtain ⟨_, _, _, _, _, _, _, _, _, _, _, _, z⟩ := z; exact z
    case F =>
      intro w mg fa h Y Gn hmg0
      obtain ⟨K, KX, c⟩ := Y
      have hmg : mg ("law" : PySem.Str) = some (.ref fa) := by
        have e : (HandSHeadRun.topDef (OpenLaw.row PySem.Challenge.rw_slideforms_k04_whole_products_parted_by).prog 64).name = ("law" : PySem.Str) := by kernel_rfl
        rw [← e]
        exact hmg0
      exact ⟨K, KX, G.lawAt M KX Gn hmg c rfl⟩

end

theorem PySem.Challenge.cw_slideforms_k04_whole_products_parted_by_holds : PySem.Challenge.rw_slideforms_k04_whole_products_parted_by.Holds := by
  exact G.ends fun ns h b => G.law_holds ns h
