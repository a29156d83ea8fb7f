import PyProof.Rows.All
import Wide.All
import OpenK.AllK
import Wide.FinOn
import KE.GoesEnum
import HandS.ForMost
import HandS.ForExc
import HandS.Wide
import HandS.WideBits
import HandS.WideMore
import HandS.TupAny
import HandS.TupMul
import HandS.TupLe
import HandS.Zip
import HandS.Walk
import HandS.Lambda
import HandS.EndTab
import HandS.IsInst
import HandS.DictComp
import HandS.DictEq
import HandS.Style
import HandS.TryMany
import HandS.Head0
import HandS.Head1
import HandS.Head2
import HandS.HeadEnd
import HandS.HeadHook1
import HandS.HeadHook2
import HandS.HeadHook4
import HandS.HeadNt
import HandS.HeadWalk
import HandS.Defaults
import HandS.NoneIn
import HandS.Deep
import PySem.Challenge.RW_slideforms_k31_whole_tables_of_changes
set_option Elab.async false
set_option linter.all false
set_option maxRecDepth 100000
set_option maxHeartbeats 4000000
set_option exponentiation.threshold 20000
section
/-! Ev0: rules that the layer lacks: enumerate and zip over lists and tuples in any mix, tuple * int for every int, // by any divisor. -/
namespace Ev
open PySem PySem.Spec PyProof.Rows L2

/-! ### a list or a tuple -/
def Sqx (K : PySem.W.Frag) (b : Bool) (H : Hp) (a : Addr) (xs : List V) : Prop := if b = true then SqT K H a xs else SqL K H a xs
def IsSx (b : Bool) (h : Heap) (a : Addr) (items : Array Value) : Prop := if b = true then h.IsTuple a items else h.IsList a items
def IsIx (b : Bool) (h : Heap) (it a : Addr) (i : Nat) : Prop := if b = true then h.IsTupleIter it a i else h.IsListIter it a i
def objIx (b : Bool) (a : Addr) : Obj := if b = true then { cls := .type "tuple_iterator", data := .fields #[.ref a, .int 0 0] } else { cls := .type "list_iterator", data := .fields #[.ref a, .int 0 0] }
section
variable {X : Cx} {pins : List (Addr × Obj)} {σ : L2.St} {H : Hp} {s : Shared}
theorem sqx_is {b : Bool} {a : Addr} {xs : List V} (I : Inv X pins σ H s) (h : Sqx X.K b H a xs) : ∃ its : List Value, Vals xs its ∧ IsSx b s.heap a its.toArray ∧ xs.length ≤ sizeLine ∧ a < s.heap.objs.size := by
  cases b with
  | true =>
    obtain ⟨its, r, p, z⟩ := I.tuple (show SqT X.K H a xs from h)
    exact ⟨its, r, p, z, p.lt⟩
  | false =>
    obtain ⟨its, r, p, z⟩ := I.list (show SqL X.K H a xs from h)
    exact ⟨its, r, p.isList, z, p.lt⟩
theorem sqx_inj {b : Bool} {a : Addr} {xs ys : List V} (I : Inv X pins σ H s) (h : Sqx X.K b H a xs) (h' : Sqx X.K b H a ys) : xs = ys := by
  cases b with
  | true => exact I.tuple_inj h h'
  | false => exact I.list_inj h h'
end
theorem ix_at {b : Bool} {h h' : Heap} {it a : Addr} {i : Nat} (x : IsIx b h it a i) (e : ∀ o, h.get? it = some o → h'.get? it = some o) : IsIx b h' it a i := by
  cases b with
  | true => exact Heap.IsTupleIter.at (show h.IsTupleIter it a i from x) e
  | false => exact Heap.IsListIter.at (show h.IsListIter it a i from x) e
theorem ix_obj {b : Bool} {h : Heap} {it a : Addr} {i : Nat} (x : IsIx b h it a i) : ∃ o, h.get? it = some o ∧ ∀ v, o.data ≠ .cell v := by
  cases b with
  | true =>
    obtain ⟨o, e, _, d⟩ := (show h.IsTupleIter it a i from x)
    exact ⟨o, e, fun v z => by rw [d] at z; cases z⟩
  | false =>
    obtain ⟨o, e, _, d⟩ := (show h.IsListIter it a i from x)
    exact ⟨o, e, fun v z => by rw [d] at z; cases z⟩
theorem draws_x (b : Bool) {prog : Program} {w : World} {A : Around} (hh : A.handled = none) (it l : Addr) (hne : l ≠ it) (items : Array Value) :
    Draws prog w A it [it, l] items.size (fun i v => items[i]? = some v) (fun i h => IsIx b h it l i ∧ IsSx b h l items) := by
  cases b with
  | true => exact Draws.tuple hh it l hne items
  | false => exact Draws.list hh it l hne items
theorem begins_x (b : Bool) (a : Addr) (items : Array Value) : Begins (.ref a) (objIx b a) fun h => IsSx b h a items := by
  cases b with
  | true => exact begins_tuple a items
  | false => exact begins_list a items
theorem ix_new {b : Bool} {h : Heap} {it a : Addr} (e : h.get? it = some (objIx b a)) : IsIx b h it a 0 := by
  cases b with
  | true => exact ⟨_, e, rfl, rfl⟩
  | false => exact ⟨_, e, rfl, rfl⟩

/-! ### enumerate -/
def Iex (K : PySem.W.Frag) (b : Bool) (a : Addr) : It :=
  ⟨fun i H => ∃ (xs : List V) (x : V), Sqx K b H a xs ∧ xs[i]? = some x, fun i H v H' => ∃ T x, v = .ref T ∧ H T = none ∧ H' = upd H T (.tup [.int (i : Nat), x]) ∧ ∀ xs, Sqx K b H a xs → xs[i]? = some x, fun i H => ∃ xs : List V, Sqx K b H a xs ∧ xs.length = i⟩
theorem turn_enumx {P : Program} {w : World} {K : PySem.W.Frag} {elts : List Expr} {kk : Nat} {tpos : Pos} (b : Bool) (a e it : Addr) (hai : a ≠ it) (hae : a ≠ e) :
    Turn P w K (.Tuple elts kk tpos) (Iex K b a) [e, it] e (fun i h => (∃ old, IsEnum h e it ((i : Nat) : Int) old) ∧ IsIx b h it a i ∧ e ≠ it) where
  mem := by simp
  obj := fun i h st c hb => by
    obtain ⟨⟨old, he⟩, hi, _⟩ := st
    have e' : c = e ∨ c = it := by simpa using hb
    rcases e' with z | z
    · rw [z]; exact ⟨_, he, fun v q => nomatch q⟩
    · rw [z]; exact ix_obj hi
  keep := fun i h h' st k => let ⟨⟨old, he⟩, hi, hne⟩ := st; ⟨⟨old, k e (by simp) _ he⟩, ix_at hi fun o q => k it (by simp) o q, hne⟩
  item := by
    intro X hP hw hK hc i pins s σ H E I hf st hg
    subst hP hw hK
    obtain ⟨⟨old, he⟩, hit, hne⟩ := st
    obtain ⟨xs, x, hq, hx⟩ := hg
    obtain ⟨its, rv, p, hz, hal⟩ := sqx_is I hq
    obtain ⟨u, hu, ru⟩ := rv.get hx
    have hel : e < s.heap.objs.size := Heap.lt_size he
    have hil : it < s.heap.objs.size := by obtain ⟨_, q, _⟩ := ix_obj hit; exact Heap.lt_size q
    have hd : X.A.in1.handled = none := I.ok.hd hc
    have hlt : i < its.toArray.size := by
      have q : i < its.length := (List.getElem?_eq_some_iff.mp hu).1
      simpa using q
    have hef : e ∉ [it, a] := by simp only [List.mem_cons, List.not_mem_nil, or_false, not_or]; exact ⟨hne, fun z => hae z.symm⟩
    refine wpAny_pyNext_enum_itemD (draws_x b hd it a hai its.toArray) he ⟨hit, p⟩ hlt hne hef fun y h' tk hy ho hit' hT hsz hk => ?_
    have hy' : y = u := by
      have q : its.toArray[i]? = some u := by simpa using hu
      rw [q] at hy; exact (Option.some.inj hy).symm
    subst hy'
    refine ⟨_, rfl, wpAny_letOwnedTupleGo_enum (s := { s with heap := h', toks := tk + 1 }) ho fun h'' he' sb => ?_⟩
    have hT2 : h''.get? s.heap.objs.size = some { cls := .type "tuple", data := .seq #[.int i tk, y] } := (sb.2 _ (Nat.ne_of_gt hel)).trans hT
    have new : ObjOk X.prog X.w (upd H s.heap.objs.size (.tup [.int (i : Nat), x])) h'' s.heap.objs.size (.tup [.int (i : Nat), x]) :=
      ⟨by show 2 ≤ sizeLine; decide, [.int i tk, y], .cons ⟨_, rfl⟩ (.cons ru .nil), ⟨_, hT2, rfl, _, rfl⟩⟩
    have I1 : Inv X pins σ (upd H s.heap.objs.size (.tup [.int (i : Nat), x])) { s with heap := h'', toks := tk + 1 } :=
      I.turnedNew (ch := [e, it]) (fun b ob hb q => (sb.2 b (fun z => hb (by simp [z]))).trans (hk b ob (fun z => hb (by simp [z])) (fun z => hb (by simp [z])) q)) hf (Nat.le_refl _) new
    refine ⟨.ref s.heap.objs.size, _, I1, rfl, ⟨_, x, rfl, I.hok.fresh (Nat.le_refl _), rfl, fun ys hy => by rw [sqx_inj I hy hq]; exact hx⟩, ⟨⟨y, ?_⟩, ix_at hit'.1 fun o q => (sb.2 it (Ne.symm hne)).trans q, hne⟩, fun b hb => ?_⟩
    · have e1 : ((i + 1 : Nat) : Int) = (i : Int) + 1 := by omega
      rw [e1]; exact he'
    · have hb' : b < s.heap.objs.size := by
        have e' : b = e ∨ b = it := by simpa using hb
        rcases e' with z | z
        · rw [z]; exact hel
        · rw [z]; exact hil
      rw [upd_ne (Nat.ne_of_lt hb')]
      exact (hf b hb).1
  done := by
    intro X hP hw hK hc i pins s σ H E I hf st hg
    subst hP hw hK
    obtain ⟨⟨old, he⟩, hit, hne⟩ := st
    obtain ⟨xs, hq, hx⟩ := hg
    obtain ⟨its, rv, p, hz, hal⟩ := sqx_is I hq
    obtain ⟨f0, f1, f2, f3, f4, f5⟩ := hf it (by simp)
    have hl := rv.length
    have hd : X.A.in1.handled = none := I.ok.hd hc
    have hst : IsIx b s.heap it a its.toArray.size ∧ IsSx b s.heap a its.toArray := ⟨by
      have q : its.toArray.size = i := by simp only [List.size_toArray]; omega
      rw [q]; exact hit, p⟩
    exact wpAny_pyNext_enum_endD (draws_x b hd it a hai its.toArray) he hst fun h' eb => ⟨rfl, I.turned (t' := s.toks) (fun b o hb q => eb b o hb q) f0 f1 f3 f4 f5⟩
  self := fun A i s Q E st h => let ⟨⟨_, he⟩, _⟩ := st; wpAny_pyIter_enum he h
def iEnx (K : PySem.W.Frag) (ta : TA) : TI := fun σ H R => ta σ H fun vs H1 => ∃ b a xs, vs = [.ref a] ∧ Sqx K b H1 a xs ∧ R (Iex K b a) H1
theorem meets_enumerate_newB1 {v : Value} {o : Obj} {H : Heap → Prop} (B : Begins v o H) :
    Meets (Builtin.«enumerate.__new__» ⟨[.type "enumerate", v], []⟩) (fun _ R s => H s.heap ∧
      R (.ok (.ret (.ref (s.heap.push o).objs.size))) { s with heap := (s.heap.push o).push { cls := .type "enumerate", data := .fields #[.none, .bool false, .ref s.heap.objs.size, rawInt 0, .none, .none] } }) :=
  .of_wp fun prog w A R s h => by
    obtain ⟨hp, g, d, tk, os⟩ := s; obtain ⟨h1, h⟩ := h
    have hsub := sub_enumerate
    have q1 : ∀ {A' : Around} {E : Value → Shared → Prop} {Q : Value → Shared → Prop}, Q (.ref hp.objs.size) ⟨hp.push o, g, d, tk, os⟩ → wpAny (model prog w) A' (pyIter v) Q E ⟨hp, g, d, tk, os⟩ :=
      fun q => B.iter prog w _ _ ⟨hp, g, d, tk, os⟩ _ h1 q
    wp_walk using q1
    refine wpAny_stack_any fun st => wpAny_pure ?_
    split
    · rename_i c _ _ _ _ _
      cases (c == Value.type "enumerate")
      · wp_walk using q1
        exact ⟨_, rfl, h⟩
      · wp_walk using q1
        exact ⟨_, rfl, h⟩
    · wp_walk using q1
      exact ⟨_, rfl, h⟩
theorem call_enumx {prog : Program} {w : World} {A : Around} {E : Value → Shared → Prop} {s : Shared} (b : Bool) {a : Addr} {items : Array Value} {Q : Value → Shared → Prop} (p : IsSx b s.heap a items)
    (h : ∀ h', IsEnum h' (s.heap.objs.size + 1) s.heap.objs.size 0 .none → IsIx b h' s.heap.objs.size a 0 → h'.objs.size = s.heap.objs.size + 2 →
      (∀ b o, s.heap.get? b = some o → h'.get? b = some o) → Q (.ref (s.heap.objs.size + 1)) { s with heap := h' }) :
    wpAny (model prog w) A (call (.type "enumerate") [.ref a]) Q E s := by
  refine callType_new F.called_enumerate (by decide) (F.typeCall_enumerate_1 _) (F.newCall_enumerate_1 _) (fun obj => F.args_object_init_2 obj _) F.entry_enumerate_new
    (meets_enumerate_newB1 (begins_x b a items)) ⟨p, ?_⟩
  have hz : (s.heap.push (objIx b a)).objs.size = s.heap.objs.size + 1 := Heap.size_push ..
  show _ ∧ _
  rw [hz]
  have he : IsEnum ((s.heap.push (objIx b a)).push { cls := .type "enumerate", data := .fields #[.none, .bool false, .ref s.heap.objs.size, rawInt 0, .none, .none] }) (s.heap.objs.size + 1) s.heap.objs.size 0 .none := by
    have := Heap.get?_push_size (s.heap.push (objIx b a)) (o := { cls := .type "enumerate", data := .fields #[.none, .bool false, .ref s.heap.objs.size, rawInt 0, .none, .none] }) rfl
    rw [hz] at this; exact this
  refine ⟨⟨_, he, rfl⟩, h _ he (ix_new (Heap.get?_push_of_some _ (Heap.get?_push_size _ (begins_x b a items).free))) (by rw [Heap.size_push, hz]) fun b o x => Heap.get?_push_of_some _ (Heap.get?_push_of_some _ x)⟩
theorem pi_enumx {X : Cx} {e : Expr} {ta : TA} {p pos tpos : Pos} {elts : List Expr} {kk : Nat} (hg : Gl X "enumerate") (hm : X.mg "enumerate" = none) (ha : PA X [e] ta) (hs : starEach [e] X.env = [(false, eval e X.env)] := by rfl) :
    PI X (.Tuple elts kk tpos) (.Call (.Name "enumerate" p) [e] [] pos) (iEnx X.K ta) := by
  refine ⟨fun pins s σ H R I h => ?_⟩
  refine Call_ (ld_blt I hg hm boot_enumerate (PyProof.Rows.callWith_type1 (thn (ha.run pos pins s σ H _ I h) fun us s1 ⟨vs, H1, I1, r1, q1⟩ => ?_) hs rfl))
  obtain ⟨b, a, xs, ex, hq, q⟩ := q1
  subst ex
  cases r1 with
  | cons r rr =>
    cases rr
    cases r
    obtain ⟨its, rv, p', hz, hal⟩ := sqx_is I1 hq
    refine call_enumx b p' fun h' he hit hsz hk => wpAny_pyIter_enum he ?_
    have I2 : Inv X pins σ H1 { s1 with heap := h' } := I1.kept (t' := s1.toks) hk
    refine ⟨s1.heap.objs.size + 1, [s1.heap.objs.size + 1, s1.heap.objs.size], _, _, H1, rfl, I2, turn_enumx b a (s1.heap.objs.size + 1) s1.heap.objs.size (Nat.ne_of_lt hal) (Nat.ne_of_lt (Nat.lt_succ_of_lt hal)), ⟨⟨.none, he⟩, hit, Nat.succ_ne_self _⟩, fun b hb => ?_, q⟩
    have e' : b = s1.heap.objs.size + 1 ∨ b = s1.heap.objs.size := by simpa using hb
    have hle : s1.heap.objs.size ≤ b := by
      rcases e' with z | z
      · rw [z]; exact Nat.le_add_right _ _
      · rw [z]; exact Nat.le_refl _
    exact I1.fpOk hle (I1.hok.fresh hle)

/-! ### zip -/
theorem lt5 {n m : Nat} (h : n + 4 < m) : n < m ∧ n + 1 < m ∧ n + 2 < m ∧ n + 3 < m := by omega
def Izx (K : PySem.W.Frag) (b1 b2 : Bool) (a1 a2 : Addr) : It :=
  ⟨fun i H => ∃ (xs ys : List V) (x y : V), Sqx K b1 H a1 xs ∧ Sqx K b2 H a2 ys ∧ xs[i]? = some x ∧ ys[i]? = some y,
    fun i H v H' => ∃ T x y, v = .ref T ∧ H T = none ∧ H' = upd H T (.tup [x, y]) ∧ (∀ xs, Sqx K b1 H a1 xs → xs[i]? = some x) ∧ ∀ ys, Sqx K b2 H a2 ys → ys[i]? = some y,
    fun i H => ∃ xs ys : List V, Sqx K b1 H a1 xs ∧ Sqx K b2 H a2 ys ∧ i = min xs.length ys.length⟩
theorem turn_zipx {P : Program} {w : World} {K : PySem.W.Frag} {elts : List Expr} {kk : Nat} {tpos : Pos} (b1 b2 : Bool) {a1 a2 N : Addr} (h1 : a1 < N) (h2 : a2 < N) :
    Turn P w K (.Tuple elts kk tpos) (Izx K b1 b2 a1 a2) [N + 4, N + 2, N + 3, N, N + 1] (N + 4) (fun i h => IsZip h (N + 4) (N + 2) (N + 3) .none ∧ IsTupOf2 h (N + 2) (.ref N) (.ref (N + 1)) ∧ (∃ x y, IsTupOf2 h (N + 3) x y) ∧ IsIx b1 h N a1 i ∧ IsIx b2 h (N + 1) a2 i) where
  mem := by simp
  obj := fun i h st c hc => by
    obtain ⟨hz, hTI, ⟨x, y, hTO⟩, h1, h2⟩ := st
    have e' : c = N + 4 ∨ c = N + 2 ∨ c = N + 3 ∨ c = N ∨ c = N + 1 := by simpa using hc
    rcases e' with q | q | q | q | q
    · rw [q]; exact ⟨_, hz, fun v q => nomatch q⟩
    · rw [q]; exact ⟨_, hTI, fun v q => nomatch q⟩
    · rw [q]; exact ⟨_, hTO, fun v q => nomatch q⟩
    · rw [q]; exact ix_obj h1
    · rw [q]; exact ix_obj h2
  keep := fun i h h' st k => by
    obtain ⟨hz, hTI, ⟨x, y, hTO⟩, h1, h2⟩ := st
    exact ⟨k (N + 4) (by simp) _ hz, k (N + 2) (by simp) _ hTI, ⟨x, y, k (N + 3) (by simp) _ hTO⟩, ix_at h1 fun o q => k N (by simp) o q, ix_at h2 fun o q => k (N + 1) (by simp) o q⟩
  item := by
    intro X hP hw hK hc i pins s σ H E I hf st hg
    subst hP hw hK
    obtain ⟨hz, hTI, ⟨x0, y0, hTO⟩, i1, i2⟩ := st
    obtain ⟨xs, ys, x, y, hqx, hqy, hx, hy⟩ := hg
    obtain ⟨its, rv, p, _, _⟩ := sqx_is I hqx
    obtain ⟨its2, rv2, p2, _, _⟩ := sqx_is I hqy
    obtain ⟨u, hu, ru⟩ := rv.get hx
    obtain ⟨u2, hu2, ru2⟩ := rv2.get hy
    have hzl : N + 4 < s.heap.objs.size := Heap.lt_size hz
    have hd : X.A.in1.handled = none := I.ok.hd hc
    have S := zip_sep2 (N := N) (fp1 := [a1]) (fp2 := [a2]) (by simpa using h1) (by simpa using h2)
    have l1 : i < its.toArray.size := by
      have q : i < its.length := (List.getElem?_eq_some_iff.mp hu).1
      simpa using q
    have l2 : i < its2.toArray.size := by
      have q : i < its2.length := (List.getElem?_eq_some_iff.mp hu2).1
      simpa using q
    refine wpAny_pyNext_zipD2_item S (draws_x b1 hd N a1 (Nat.ne_of_lt h1) its.toArray) (draws_x b2 hd (N + 1) a2 (Nat.ne_of_lt (Nat.lt_succ_of_lt h2)) its2.toArray) hz hTI hTO ⟨i1, p⟩ ⟨i2, p2⟩ l1 l2 fun v1 v2 h' tk e1 e2 z' TO' i1' i2' hT hsz hk => ?_
    have ev1 : v1 = u := by
      have q : its.toArray[i]? = some u := by simpa using hu
      rw [q] at e1; exact (Option.some.inj e1).symm
    have ev2 : v2 = u2 := by
      have q : its2.toArray[i]? = some u2 := by simpa using hu2
      rw [q] at e2; exact (Option.some.inj e2).symm
    subst ev1; subst ev2
    refine ⟨_, rfl, wpAny_letOwnedTupleGo_zip (s := { s with heap := h', toks := tk }) z' fun h'' z'' sb => ?_⟩
    have hT2 : h''.get? s.heap.objs.size = some { cls := .type "tuple", data := .seq #[v1, v2] } := (sb.2 _ (Nat.ne_of_gt hzl)).trans hT
    have new : ObjOk X.prog X.w (upd H s.heap.objs.size (.tup [x, y])) h'' s.heap.objs.size (.tup [x, y]) :=
      ⟨by show 2 ≤ sizeLine; decide, [v1, v2], .cons ru (.cons ru2 .nil), ⟨_, hT2, rfl, _, rfl⟩⟩
    have I1 : Inv X pins σ (upd H s.heap.objs.size (.tup [x, y])) { s with heap := h'', toks := tk } :=
      I.turnedNew (t' := tk) (ch := [N + 4, N + 2, N + 3, N, N + 1]) (fun c o hb q => (sb.2 c (fun q' => hb (by simp [q']))).trans (hk c o (fun q' => hb (by simp [q'])) (fun q' => hb (by simp [q'])) (fun q' => hb (by simp [q'])) (fun q' => hb (by simp [q'])) q)) hf (Nat.le_refl _) new
    refine ⟨.ref s.heap.objs.size, _, I1, rfl, ⟨_, x, y, rfl, I.hok.fresh (Nat.le_refl _), rfl, fun l hl => by rw [sqx_inj I hl hqx]; exact hx, fun l hl => by rw [sqx_inj I hl hqy]; exact hy⟩, ⟨z'', ?_, ⟨v1, v2, ?_⟩, ?_, ?_⟩, fun c hcm => ?_⟩
    · exact (sb.2 _ S.TIz).trans (hk _ _ S.TIz S.TITO S.TIi1 S.TIi2 hTI)
    · exact (sb.2 _ S.TOz).trans TO'
    · exact ix_at i1'.1 fun o q => (sb.2 _ (Ne.symm S.zi1)).trans q
    · exact ix_at i2'.1 fun o q => (sb.2 _ (Ne.symm S.zi2)).trans q
    · have hlt : c < s.heap.objs.size := by
        have e' : c = N + 4 ∨ c = N + 2 ∨ c = N + 3 ∨ c = N ∨ c = N + 1 := by simpa using hcm
        obtain ⟨y0, y1, y2, y3⟩ := lt5 hzl
        rcases e' with q | q | q | q | q
        · rw [q]; exact hzl
        · rw [q]; exact y2
        · rw [q]; exact y3
        · rw [q]; exact y0
        · rw [q]; exact y1
      rw [upd_ne (Nat.ne_of_lt hlt)]
      exact (hf c hcm).1
  done := by
    intro X hP hw hK hc i pins s σ H E I hf st hg
    subst hP hw hK
    obtain ⟨hz, hTI, ⟨x0, y0, hTO⟩, i1, i2⟩ := st
    obtain ⟨xs, ys, hqx, hqy, hend⟩ := hg
    obtain ⟨its, rv, p, _, _⟩ := sqx_is I hqx
    obtain ⟨its2, rv2, p2, _, _⟩ := sqx_is I hqy
    have l1 := rv.length
    have l2 := rv2.length
    have z1 : its.toArray.size = its.length := List.size_toArray
    have z2 : its2.toArray.size = its2.length := List.size_toArray
    have hd : X.A.in1.handled = none := I.ok.hd hc
    have S := zip_sep2 (N := N) (fp1 := [a1]) (fp2 := [a2]) (by simpa using h1) (by simpa using h2)
    exact wpAny_pyNext_zipD2_end S (draws_x b1 hd N a1 (Nat.ne_of_lt h1) its.toArray) (draws_x b2 hd (N + 1) a2 (Nat.ne_of_lt (Nat.lt_succ_of_lt h2)) its2.toArray) hz hTI hTO ⟨i1, p⟩ ⟨i2, p2⟩
      (by rw [z1, ← l1, hend]; exact Nat.min_le_left _ _) (by rw [z2, ← l2, hend]; exact Nat.min_le_right _ _) (by rw [z1, z2, ← l1, ← l2]; omega) fun h' tk hk => ⟨rfl, I.turnedL (t' := tk) (ch := [N + 4, N + 2, N + 3, N, N + 1]) (fun c o hb q =>
      hk c o (fun q' => hb (by simp [q'])) (fun q' => hb (by simp [q'])) (fun q' => hb (by simp [q'])) (fun q' => hb (by simp [q'])) q) hf⟩
  self := fun A i s Q E st h => wpAny_pyIter_zip st.1 h
def iZpx (K : PySem.W.Frag) (ta : TA) : TI := fun σ H R => ta σ H fun vs H1 => ∃ b1 b2 a1 a2 xs ys, vs = [.ref a1, .ref a2] ∧ Sqx K b1 H1 a1 xs ∧ Sqx K b2 H1 a2 ys ∧ R (Izx K b1 b2 a1 a2) H1
theorem pi_zipx {X : Cx} {e e2 : Expr} {ta : TA} {p pos tpos : Pos} {elts : List Expr} {kk : Nat} (hg : Gl X "zip") (hm : X.mg "zip" = none) (ha : PA X [e, e2] ta)
    (hs : starEach [e, e2] X.env = (false, eval e X.env) :: starEach [e2] X.env := by rfl) (hpl : (backTo pos (starEach [e2] X.env)).any (·.1) = false := by rfl) :
    PI X (.Tuple elts kk tpos) (.Call (.Name "zip" p) [e, e2] [] pos) (iZpx X.K ta) := by
  refine ⟨fun pins s σ H R I h => ?_⟩
  refine Call_ (ld_blt I hg hm PyProof.Rows.boot_zip (PyProof.Rows.callWith_type1 (thn (ha.run pos pins s σ H _ I h) fun us s1 ⟨vs, H1, I1, r1, q1⟩ => ?_) hs hpl))
  obtain ⟨b1, b2, a, b, xs, ys, ex, hqx, hqy, q⟩ := q1
  subst ex
  cases r1 with
  | cons r rr =>
    cases rr with
    | cons r' rr =>
      cases rr
      cases r
      cases r'
      have fresh5 : ∀ c, c ∈ [s1.heap.objs.size + 4, s1.heap.objs.size + 2, s1.heap.objs.size + 3, s1.heap.objs.size, s1.heap.objs.size + 1] → FpOk X pins H1 c := fun c hcm => by
        have e' : c = s1.heap.objs.size + 4 ∨ c = s1.heap.objs.size + 2 ∨ c = s1.heap.objs.size + 3 ∨ c = s1.heap.objs.size ∨ c = s1.heap.objs.size + 1 := by simpa using hcm
        have hle : s1.heap.objs.size ≤ c := by
          rcases e' with z | z | z | z | z
          · rw [z]; exact Nat.le_add_right _ _
          · rw [z]; exact Nat.le_add_right _ _
          · rw [z]; exact Nat.le_add_right _ _
          · rw [z]; exact Nat.le_refl _
          · rw [z]; exact Nat.le_add_right _ _
        exact I1.fpOk hle (I1.hok.fresh hle)
      obtain ⟨its, rv, p1, _, al⟩ := sqx_is I1 hqx
      obtain ⟨its2, rv2, p2, _, bl⟩ := sqx_is I1 hqy
      refine zip_begins2 (begins_x b1 a its.toArray) (begins_x b2 b its2.toArray) p1 p2 fun h' hz hTI hTO h1 h2 hsz hk => wpAny_pyIter_zip hz ?_
      have I2 : Inv X pins σ H1 { s1 with heap := h' } := I1.kept (t' := s1.toks) hk
      exact ⟨s1.heap.objs.size + 4, [s1.heap.objs.size + 4, s1.heap.objs.size + 2, s1.heap.objs.size + 3, s1.heap.objs.size, s1.heap.objs.size + 1], _, _, H1, rfl, I2, turn_zipx b1 b2 al bl, ⟨hz, hTI, ⟨_, _, hTO⟩, ix_new h1, ix_new h2⟩, fresh5, q⟩

/-! ### tuple * int -/
theorem tuple_mulSame (l : Addr) (items : Array Value) (n : Nat) (dd : Option Addr) (sl : Array (Option Value)) (x : Int) (u : Tok) (c0 : (decide (x < -(2 ^ 63)) || decide (x ≥ 2 ^ 63)) = false) (c1 : (items.isEmpty || x == 1) = true) :
    Meets (Builtin.«tuple.__mul__» ⟨[.ref l, .int x u], []⟩) (fun _ R s => s.heap.get? l = some { cls := .type "tuple", dict := dd, data := .seq items n, slots := sl } ∧ R (.ok (.ret (Value.ref l))) s) :=
  .of_wp fun prog w A R s h => by
    obtain ⟨hp, g, d, tk, os⟩ := s
    obtain ⟨hl, h⟩ := h
    have f1 := AutoSeq1.idx_int
    wp_walk using wpAny_loadPart' hl
    repeat (first
      | (refine wpAny_ite_false (decide_eq_false (by rw [c0]; exact Bool.false_ne_true)) ?_; wp_walk using wpAny_loadPart' hl)
      | (refine wpAny_ite_true (decide_eq_true c1) ?_; wp_walk using wpAny_loadPart' hl))
    exact ⟨_, rfl, h⟩
theorem tuple_mulNone (l : Addr) (items : Array Value) (n : Nat) (dd : Option Addr) (sl : Array (Option Value)) (x : Int) (u : Tok) (c0 : (decide (x < -(2 ^ 63)) || decide (x ≥ 2 ^ 63)) = false) (c1 : (items.isEmpty || x == 1) = false) (c2 : (decide (x ≤ 0) || items.isEmpty) = true) :
    Meets (Builtin.«tuple.__mul__» ⟨[.ref l, .int x u], []⟩) (fun _ R s => s.heap.get? l = some { cls := .type "tuple", dict := dd, data := .seq items n, slots := sl } ∧
      R (.ok (.ret (Value.ref s.heap.objs.size))) { s with heap := s.heap.push { cls := Value.type "tuple", data := Data.seq #[] }, toks := s.toks }) :=
  .of_wp fun prog w A R s h => by
    obtain ⟨hp, g, d, tk, os⟩ := s
    obtain ⟨hl, h⟩ := h
    have f1 := AutoSeq1.idx_int
    wp_walk using wpAny_loadPart' hl
    repeat (first
      | (refine wpAny_ite_false (decide_eq_false (by rw [c0]; exact Bool.false_ne_true)) ?_; wp_walk using wpAny_loadPart' hl)
      | (refine wpAny_ite_false (decide_eq_false (by rw [c1]; exact Bool.false_ne_true)) ?_; wp_walk using wpAny_loadPart' hl)
      | (refine wpAny_ite_true (decide_eq_true c2) ?_; wp_walk using wpAny_loadPart' hl))
    exact ⟨_, rfl, h⟩

def rRepA (K : PySem.W.Frag) : R2 := fun x y H Q => ∃ l k xs, x = .ref l ∧ y = .int k ∧ SqT K H l xs ∧ -1000 ≤ k ∧ k ≤ 1000 ∧ xs.length ≤ 1000 ∧
  (xs = [] ∨ k = 1 → Q (.ref l) H) ∧ (xs ≠ [] → k ≠ 1 → ∀ p, H p = none → Q (.ref p) (upd H p (.tup (List.replicate k.toNat xs).flatten)))
section
variable {X : Cx}
theorem op_repA : OpR X (binaryOp .Mult) (rRepA X.K) := by
  intro pins s σ H x y v u Q I rx ry h
  obtain ⟨l, k, xs, rfl, rfl, hT, h0, h2, hz, q1, q2⟩ := h
  by_cases hbig : xs ≠ [] ∧ 2 ≤ k
  · exact op_repT pins s σ H _ _ v u Q I rx ry ⟨l, k, xs, rfl, rfl, hT, hbig.1, hbig.2, h2, hz, q2 hbig.1 (by omega)⟩
  cases rx
  obtain ⟨t, rfl⟩ := ry
  obtain ⟨its, r, ⟨⟨cls, dd, data, sl⟩, ho, hc, n, hd⟩, hs⟩ := I.tuple hT
  simp only at hc hd
  subst hc hd
  have hle : its.length = xs.length := r.length.symm
  have c0 : (decide (k < -(2 ^ 63)) || decide (k ≥ 2 ^ 63)) = false := by
    rw [decide_eq_false (by omega), decide_eq_false (by omega)] <;> rfl
  by_cases hsame : xs = [] ∨ k = 1
  · have c1 : (its.toArray.isEmpty || k == 1) = true := by
      rcases hsame with e | e
      · subst e
        cases r
        rfl
      · subst e; simp
    exact wpAny_binaryOp_repeat_ref (T := "tuple") (U := "int") (by decide) ⟨_, ho, rfl⟩ (fun s' => typeIs_int s' k t) noFill_tuple_mul F.fills_int_mul F.slot_int_rmul repeat_tuple F.slot_int_index.lookup
      (call_meets F.slot_int_rmul (typeIs_int s k t) F.entry_int_rmul (F.args_int_rmul_2 _ _) (int_rmul_tuple k t l its.toArray n dd sl)
        ⟨ho, rfl, ⟨_, ho, rfl⟩, call_meets F.slot_tuple_mul ⟨_, ho, rfl⟩ F.entry_tuple_mul (F.args_tuple_mul_2 _ _) (tuple_mulSame l its.toArray n dd sl k t c0 c1) ⟨ho, .ref l, H, I, rfl, q1 hsame⟩⟩)
  · have hx : xs ≠ [] := fun e => hsame (.inl e)
    have hk1 : k ≠ 1 := fun e => hsame (.inr e)
    have hk : k ≤ 0 := by
      have z : ¬ (2 : Int) ≤ k := fun z => hbig ⟨hx, z⟩
      omega
    have hi : its.toArray.isEmpty = false := by
      cases its with
      | nil => exact absurd (List.eq_nil_of_length_eq_zero (by simpa using hle.symm)) hx
      | cons a b => rfl
    have c1 : (its.toArray.isEmpty || k == 1) = false := by
      rw [hi, Bool.false_or]
      exact beq_eq_false_iff_ne.mpr hk1
    have c2 : (decide (k ≤ 0) || its.toArray.isEmpty) = true := by
      rw [decide_eq_true hk, Bool.true_or]
    refine wpAny_binaryOp_repeat_ref (T := "tuple") (U := "int") (by decide) ⟨_, ho, rfl⟩ (fun s' => typeIs_int s' k t) noFill_tuple_mul F.fills_int_mul F.slot_int_rmul repeat_tuple F.slot_int_index.lookup
      (call_meets F.slot_int_rmul (typeIs_int s k t) F.entry_int_rmul (F.args_int_rmul_2 _ _) (int_rmul_tuple k t l its.toArray n dd sl)
        ⟨ho, rfl, ⟨_, ho, rfl⟩, call_meets F.slot_tuple_mul ⟨_, ho, rfl⟩ F.entry_tuple_mul (F.args_tuple_mul_2 _ _) (tuple_mulNone l its.toArray n dd sl k t c0 c1 c2) ⟨ho, ?_⟩⟩)
    have z : k.toNat = 0 := by omega
    have q3 := q2 hx hk1 s.heap.objs.size (I.hok.fresh (Nat.le_refl _))
    rw [z] at q3
    refine ⟨.ref s.heap.objs.size, _, I.laid (t' := s.toks) (o := .tup []) (fun b ob q => Heap.get?_push_of_some _ q) (Nat.le_refl _) ?_, rfl, q3⟩
    exact ⟨Nat.zero_le _, [], .nil, IsTup.new _ _⟩
/-! ### great ints -/
theorem op_fdivX : OpR X (binaryOp .FloorDiv) (rI (fun i j => j ≠ 0 ∧ Builtin.divisionGoesByPylong i j = false) fun i j => .int (i.fdiv j)) := opI fun _ _ _ _ _ _ _ hc q => floordiv_int hc.1 q (.inl hc.2)
theorem iop_fdivX : OpR X (inplaceOp .FloorDiv) (rI (fun i j => j ≠ 0 ∧ Builtin.divisionGoesByPylong i j = false) fun i j => .int (i.fdiv j)) := opI fun _ _ _ _ _ _ _ hc q => ifloordiv_int hc.1 q (.inl hc.2)
theorem iop_mulX : OpR X (inplaceOp .Mult) (rI CMulX fun i j => .int (i * j)) := opI fun _ _ _ _ _ _ _ hc q => imul_int q hc.ok
end
end Ev

end

section
/-! Ev1: values as data, their lie in the abstract heap, states. -/
namespace Ev
open PySem PySem.Spec PyProof.Rows L2

abbrev W := PyData
abbrev Sl := List (Option W)
abbrev Tp := Option (List Int × Int)

/-- the tables of code objects that are known -/
class Tb where
  T : List (Addr × Str)
variable [Tb]
/-- nothing is there (but perhaps a table of code) -/
def Nw (H : Hp) (a : Addr) : Prop := ∀ o, H a = some o → ∃ ps, o = .tbl ps
theorem Nw.of {H : Hp} {a : Addr} (h : H a = none) : Nw H a := fun o e => by rw [h] at e; cases e
theorem Nw.not {H : Hp} {a : Addr} {o : HO} (e : H a = some o) (n : ∀ ps, o ≠ .tbl ps) : ¬ Nw H a := fun h => by
  obtain ⟨ps, q⟩ := h o e
  exact n ps q
theorem Nw.ob {H : Hp} {a : Addr} (h : ¬ Nw H a) : ∃ o, H a = some o ∧ ∀ ps, o ≠ .tbl ps := by
  cases e : H a with
  | none => exact absurd (Nw.of e) h
  | some o => exact ⟨o, rfl, fun ps z => h fun o' e' => by rw [e] at e'; cases e'; exact ⟨ps, z⟩⟩
theorem Nw.ne {H : Hp} {a : Addr} (h : ¬ Nw H a) : H a ≠ none := fun z => h (Nw.of z)
/-- what comes of an expression -/
inductive Rs (α : Type) where
  | ok (a : α) (t : Tp)
  | exc (c : Nat) (t : Tp)
  | bad
def Rs.bind {α β : Type} (r : Rs α) (f : α → Tp → Rs β) : Rs β :=
  match r with
  | .ok a t => f a t
  | .exc c t => .exc c t
  | .bad => .bad
abbrev Ex := Sl → Tp → Rs W
abbrev Exs := Sl → Tp → Rs (List W)
abbrev Et := Sl → Tp → Rs Bool
/-- what comes of a statement -/
inductive SR where
  | next (ρ : Sl) (t : Tp)
  | ret (w : W) (t : Tp)
  | exc (c : Nat) (t : Tp)
  | bad
abbrev Sv := Sl → Tp → SR
/-- what comes of a call -/
inductive FR where
  | ok (w : W)
  | exc (c : Nat)
  | bad
abbrev Fs := List W → FR

def keyW : Key → W
  | .inl i => .int i
  | .inr x => .str x

/-- a list of the written part -/
def KL (K : PySem.W.Frag) (a : Addr) (xs : List V) : Prop :=
  ∃ (o : Obj) (its : Array Value) (n : Nat), K.lookup a = some o ∧ o.cls = .type "list" ∧ o.dict = none ∧ o.data = .seq its n ∧ its.size ≤ sizeLine ∧ Vals xs its.toList

mutual
/-- the value v is the data w; what it leads to is not hidden -/
inductive Im (K : PySem.W.Frag) (hid : Addr → Prop) (H : Hp) : W → V → Prop
  | non : Im K hid H .none .non
  | bl (b : Bool) : Im K hid H (.bool b) (.bl b)
  | int (i : Int) : Im K hid H (.int i) (.int i)
  | str (x : Str) : Im K hid H (.str x) (.str x)
  | tup {a : Addr} {vs : List V} {ws : List W} : SqT K H a vs → Ims K hid H ws vs → Im K hid H (.tuple ws) (.ref a)
  | lst {a : Addr} {vs : List V} {ws : List W} : ¬ hid a → H a = some (.lst vs) → Ims K hid H ws vs → Im K hid H (.list ws) (.ref a)
  | dK {a : Addr} {kvs : List (Key × V)} {ws : List (W × W)} : ¬ hid a → Rd H a (.dK kvs) → ImK K hid H ws kvs → Im K hid H (.dict ws) (.ref a)
  | dT {a : Addr} {kvs : List (List Key × V)} {ws : List (W × W)} : ¬ hid a → Rd H a (.dT kvs) → ImT K hid H ws kvs → Im K hid H (.dict ws) (.ref a)
inductive Ims (K : PySem.W.Frag) (hid : Addr → Prop) (H : Hp) : List W → List V → Prop
  | nil : Ims K hid H [] []
  | cons {w : W} {v : V} {ws : List W} {vs : List V} : Im K hid H w v → Ims K hid H ws vs → Ims K hid H (w :: ws) (v :: vs)
inductive ImK (K : PySem.W.Frag) (hid : Addr → Prop) (H : Hp) : List (W × W) → List (Key × V) → Prop
  | nil : ImK K hid H [] []
  | cons {k : Key} {w : W} {v : V} {ws : List (W × W)} {vs : List (Key × V)} : Im K hid H w v → ImK K hid H ws vs → ImK K hid H ((keyW k, w) :: ws) ((k, v) :: vs)
inductive ImT (K : PySem.W.Frag) (hid : Addr → Prop) (H : Hp) : List (W × W) → List (List Key × V) → Prop
  | nil : ImT K hid H [] []
  | cons {k : List Key} {w : W} {v : V} {ws : List (W × W)} {vs : List (List Key × V)} : Im K hid H w v → ImT K hid H ws vs → ImT K hid H ((.tuple (k.map keyW), w) :: ws) ((k, v) :: vs)
end

/-- dicts -/
def isDat : HO → Prop
  | .dK _ => True
  | .dT _ => True
  | _ => False
/-- what a hidden set lets through is kept -/
structure Kp (hid : Addr → Prop) (H H' : Hp) : Prop where
  lst : ∀ a vs, ¬ hid a → H a = some (.lst vs) → H' a = some (.lst vs)
  dat : ∀ a u, ¬ hid a → isDat u → Rd H a u → Rd H' a u
  tup : ∀ a xs, Rd H a (.tup xs) → Rd H' a (.tup xs)
theorem Kp.refl {hid : Addr → Prop} {H : Hp} : Kp hid H H := ⟨fun _ _ _ h => h, fun _ _ _ _ h => h, fun _ _ h => h⟩
theorem Kp.trans {hid : Addr → Prop} {H H1 H2 : Hp} (a : Kp hid H H1) (b : Kp hid H1 H2) : Kp hid H H2 :=
  ⟨fun x vs h e => b.lst x vs h (a.lst x vs h e), fun x u h d r => b.dat x u h d (a.dat x u h d r), fun x xs r => b.tup x xs (a.tup x xs r)⟩
theorem Kp.sqT {K : PySem.W.Frag} {hid : Addr → Prop} {H H' : Hp} (k : Kp hid H H') {a : Addr} {vs : List V} (h : SqT K H a vs) : SqT K H' a vs := by
  rcases h with h | h
  · exact .inl (k.tup _ _ h)
  · exact .inr h
theorem Rd_ne {H : Hp} {a : Addr} {u : HO} (h : Rd H a u) (n : ∀ ps, u ≠ .tbl ps) : ¬ Nw H a := by
  rcases h with h | ⟨o, h⟩
  · exact Nw.not h n
  · exact Nw.not h fun ps z => by cases z

section
variable {K : PySem.W.Frag} {hid hid' : Addr → Prop} {H H' : Hp}
mutual
theorem Im.mono (k : Kp hid H H') (hh : ∀ a, hid' a → hid a ∨ Nw H a) : ∀ (w : W) (v : V), Im K hid H w v → Im K hid' H' w v
  | .none, v, h => by cases h; exact .non
  | .bool b, v, h => by cases h; exact .bl b
  | .int i, v, h => by cases h; exact .int i
  | .str x, v, h => by cases h; exact .str x
  | .tuple ws, v, h => by
    cases h with
    | tup h1 h2 => exact .tup (k.sqT h1) (Ims.mono k hh ws _ h2)
  | .list ws, v, h => by
    cases h with
    | lst h1 h2 h3 => exact .lst (fun z => (hh _ z).elim h1 (Nw.not h2 fun ps z => by cases z)) (k.lst _ _ h1 h2) (Ims.mono k hh ws _ h3)
  | .dict ws, v, h => by
    cases h with
    | dK h1 h2 h3 => exact .dK (fun z => (hh _ z).elim h1 (Rd_ne h2 fun ps z => by cases z)) (k.dat _ _ h1 trivial h2) (ImK.mono k hh ws _ h3)
    | dT h1 h2 h3 => exact .dT (fun z => (hh _ z).elim h1 (Rd_ne h2 fun ps z => by cases z)) (k.dat _ _ h1 trivial h2) (ImT.mono k hh ws _ h3)
theorem Ims.mono (k : Kp hid H H') (hh : ∀ a, hid' a → hid a ∨ Nw H a) : ∀ (ws : List W) (vs : List V), Ims K hid H ws vs → Ims K hid' H' ws vs
  | [], vs, h => by cases h; exact .nil
  | w :: ws, vs, h => by
    cases h with
    | cons h1 h2 => exact .cons (Im.mono k hh w _ h1) (Ims.mono k hh ws _ h2)
theorem ImK.mono (k : Kp hid H H') (hh : ∀ a, hid' a → hid a ∨ Nw H a) : ∀ (ws : List (W × W)) (vs : List (Key × V)), ImK K hid H ws vs → ImK K hid' H' ws vs
  | [], vs, h => by cases h; exact .nil
  | (q, w) :: ws, vs, h => by
    cases h with
    | cons h1 h2 => exact .cons (Im.mono k hh w _ h1) (ImK.mono k hh ws _ h2)
theorem ImT.mono (k : Kp hid H H') (hh : ∀ a, hid' a → hid a ∨ Nw H a) : ∀ (ws : List (W × W)) (vs : List (List Key × V)), ImT K hid H ws vs → ImT K hid' H' ws vs
  | [], vs, h => by cases h; exact .nil
  | (q, w) :: ws, vs, h => by
    cases h with
    | cons h1 h2 => exact .cons (Im.mono k hh w _ h1) (ImT.mono k hh ws _ h2)
end

theorem Ims.length : ∀ {ws : List W} {vs : List V}, Ims K hid H ws vs → ws.length = vs.length
  | _, _, .nil => rfl
  | _, _, .cons _ t => by rw [List.length_cons, List.length_cons, Ims.length t]
theorem Ims.get : ∀ {ws : List W} {vs : List V} {i : Nat} {w : W}, Ims K hid H ws vs → ws[i]? = some w → ∃ v, vs[i]? = some v ∧ Im K hid H w v
  | _, _, _, _, .nil, e => by simp at e
  | _, _, 0, _, .cons r _, e => by simp at e; subst e; exact ⟨_, rfl, r⟩
  | _, _, i + 1, w, .cons _ t, e => by
    obtain ⟨v, h1, h2⟩ := Ims.get (i := i) (w := w) t (by simpa using e)
    exact ⟨v, by simpa using h1, h2⟩
theorem Ims.getV : ∀ {ws : List W} {vs : List V} {i : Nat} {v : V}, Ims K hid H ws vs → vs[i]? = some v → ∃ w, ws[i]? = some w ∧ Im K hid H w v
  | _, _, _, _, .nil, e => by simp at e
  | _, _, 0, _, .cons r _, e => by simp at e; subst e; exact ⟨_, rfl, r⟩
  | _, _, i + 1, v, .cons _ t, e => by
    obtain ⟨w, h1, h2⟩ := Ims.getV (i := i) (v := v) t (by simpa using e)
    exact ⟨w, by simpa using h1, h2⟩
theorem Ims.append : ∀ {ws ws2 : List W} {vs vs2 : List V}, Ims K hid H ws vs → Ims K hid H ws2 vs2 → Ims K hid H (ws ++ ws2) (vs ++ vs2)
  | _, _, _, _, .nil, s => s
  | _, _, _, _, .cons r t, s => .cons r (Ims.append t s)
theorem Ims.set {w : W} {v : V} (r : Im K hid H w v) : ∀ {ws : List W} {vs : List V} (i : Nat), Ims K hid H ws vs → Ims K hid H (ws.set i w) (vs.set i v)
  | _, _, _, .nil => .nil
  | _, _, 0, .cons _ t => .cons r t
  | _, _, i + 1, .cons q t => .cons q (Ims.set r i t)
theorem Ims.take : ∀ {ws : List W} {vs : List V} (n : Nat), Ims K hid H ws vs → Ims K hid H (ws.take n) (vs.take n)
  | _, _, 0, _ => .nil
  | _, _, _ + 1, .nil => .nil
  | _, _, n + 1, .cons r t => .cons r (Ims.take n t)
theorem Ims.drop : ∀ {ws : List W} {vs : List V} (n : Nat), Ims K hid H ws vs → Ims K hid H (ws.drop n) (vs.drop n)
  | _, _, 0, r => r
  | _, _, _ + 1, .nil => .nil
  | _, _, n + 1, .cons _ t => Ims.drop n t
theorem Ims.rep {ws : List W} {vs : List V} (h : Ims K hid H ws vs) : ∀ k : Nat, Ims K hid H (List.replicate k ws).flatten (List.replicate k vs).flatten
  | 0 => .nil
  | k + 1 => by rw [List.replicate_succ, List.replicate_succ, List.flatten_cons, List.flatten_cons]; exact h.append (Ims.rep h k)
end

/-- the tape: a list of the list of cells and of the seed -/
def tps (tp : Option (Addr × Addr)) (a : Addr) : Prop := ∃ x y, tp = some (x, y) ∧ (a = x ∨ a = y)
def TpOk (tp : Option (Addr × Addr)) (H : Hp) : Tp → Prop
  | none => tp = none
  | some (cells, seed) => ∃ a b, tp = some (a, b) ∧ a ≠ b ∧ H a = some (.lst [.ref b, .int seed]) ∧ H b = some (.lst (cells.map V.int))

/-- the objects but those of ex (and the tables of code) stay as they are -/
structure Sm (ex : Addr → Prop) (H H' : Hp) : Prop where
  obj : ∀ a o, ¬ ex a → H a = some o → (∀ ps, o ≠ .tbl ps) → H' a = some o
  tup : ∀ a xs, Rd H a (.tup xs) → Rd H' a (.tup xs)
  dom : ∀ a, ¬ Nw H a → ¬ Nw H' a
  tab : LamX.Tabs Tb.T H → LamX.Tabs Tb.T H'
theorem Sm.refl {ex : Addr → Prop} {H : Hp} : Sm ex H H := ⟨fun _ _ _ h _ => h, fun _ _ h => h, fun _ h => h, fun h => h⟩
theorem Sm.trans {ex : Addr → Prop} {H H1 H2 : Hp} (a : Sm ex H H1) (b : Sm ex H1 H2) : Sm ex H H2 :=
  ⟨fun x o h e n => b.obj x o h (a.obj x o h e n) n, fun x xs r => b.tup x xs (a.tup x xs r), fun x h => b.dom x (a.dom x h), fun h => b.tab (a.tab h)⟩
theorem Sm.imp {ex ex' : Addr → Prop} {H H' : Hp} (a : Sm ex H H') (h : ∀ x, ex x → ex' x) : Sm ex' H H' :=
  ⟨fun x o n e t => a.obj x o (fun z => n (h x z)) e t, a.tup, a.dom, a.tab⟩
theorem Sm.kp {ex hid : Addr → Prop} {H H' : Hp} (a : Sm ex H H') (h : ∀ x, ex x → hid x) : Kp hid H H' := by
  refine ⟨fun x vs n e => a.obj x _ (fun z => n (h x z)) e fun ps z => (by cases z), fun x u n d r => ?_, a.tup⟩
  have ne : ¬ ex x := fun z => n (h x z)
  rcases r with r | ⟨o, r⟩
  · refine .inl (a.obj x _ ne r fun ps z => ?_)
    subst z; exact d
  · exact .inr ⟨o, a.obj x _ ne r fun ps z => by cases z⟩
theorem Sm.none {ex : Addr → Prop} {H H' : Hp} (a : Sm ex H H') {p : Addr} (h : Nw H' p) : Nw H p := by
  apply Classical.byContradiction
  intro n
  exact a.dom p n h
/-- one object more -/
theorem Sm.same {ex : Addr → Prop} {H H' : Hp} (h : Same H H') : Sm ex H H' := by
  refine ⟨fun a u _ e _ => h a u e, fun a xs r => ?_, fun a e => ?_, fun t => t.ext h⟩
  · rcases r with r | ⟨ob, r⟩
    · exact .inl (h _ _ r)
    · exact .inr ⟨ob, h _ _ r⟩
  · obtain ⟨o, q, n⟩ := Nw.ob e
    exact Nw.not (h a o q) n
theorem Sm.new {ex : Addr → Prop} {H : Hp} {p : Addr} {o : HO} (h : H p = Option.none) : Sm ex H (upd H p o) :=
  Sm.same fun b u e => by rw [upd_ne (ne_of_none e h)]; exact e
theorem TpOk.of {tp : Option (Addr × Addr)} {H H' : Hp} {t : Tp} (h : TpOk tp H t) (k : ∀ a o, tps tp a → H a = some o → H' a = some o) : TpOk tp H' t := by
  cases t with
  | none => exact h
  | some p =>
    obtain ⟨a, b, e, ne, h1, h2⟩ := h
    exact ⟨a, b, e, ne, k _ _ ⟨a, b, e, .inl rfl⟩ h1, k _ _ ⟨a, b, e, .inr rfl⟩ h2⟩
theorem TpOk.new {tp : Option (Addr × Addr)} {H : Hp} {t : Tp} {p : Addr} {o : HO} (h : TpOk tp H t) (hp : H p = Option.none) : TpOk tp (upd H p o) t :=
  h.of fun a u _ e => by rw [upd_ne (ne_of_none e hp)]; exact e

/-- which slots own their list or dict; where the tape lies -/
structure Cf where
  M : List Nat
  tape : Option Nat := none
  scr : Option Nat := none

/-- an owned object -/
def Ow (K : PySem.W.Frag) (hid : Addr → Prop) (H : Hp) (w : W) (a : Addr) : Prop :=
  (∃ ws vs, w = .list ws ∧ H a = some (.lst vs) ∧ Ims K hid H ws vs) ∨
  (∃ ws kvs, w = .dict ws ∧ Rd H a (.dK kvs) ∧ ImK K hid H ws kvs) ∨
  (∃ ws kvs, w = .dict ws ∧ Rd H a (.dT kvs) ∧ ImT K hid H ws kvs)
theorem Rd_exact {H H' : Hp} {a : Addr} {u : HO} (h : Rd H a u) (nt : ∀ ps, u ≠ .tbl ps) (e : ∀ o, H a = some o → (∀ ps, o ≠ .tbl ps) → H' a = some o) : Rd H' a u := by
  rcases h with h | ⟨o, h⟩
  · exact .inl (e _ h nt)
  · exact .inr ⟨o, e _ h fun ps z => by cases z⟩
theorem Ow.mono {K : PySem.W.Frag} {hid hid' : Addr → Prop} {H H' : Hp} {w : W} {a : Addr} (h : Ow K hid H w a) (k : Kp hid H H') (hh : ∀ a, hid' a → hid a ∨ Nw H a)
    (e : ∀ o, H a = some o → (∀ ps, o ≠ .tbl ps) → H' a = some o) : Ow K hid' H' w a := by
  rcases h with ⟨ws, vs, h1, h2, h3⟩ | ⟨ws, vs, h1, h2, h3⟩ | ⟨ws, vs, h1, h2, h3⟩
  · exact .inl ⟨ws, vs, h1, e _ h2 (fun ps z => by cases z), Ims.mono k hh _ _ h3⟩
  · exact .inr (.inl ⟨ws, vs, h1, Rd_exact h2 (fun ps z => by cases z) e, ImK.mono k hh _ _ h3⟩)
  · exact .inr (.inr ⟨ws, vs, h1, Rd_exact h2 (fun ps z => by cases z) e, ImT.mono k hh _ _ h3⟩)

/-- the script: locked, or written -/
def Sc (K : PySem.W.Frag) (hid : Addr → Prop) (H : Hp) (a : Addr) (ns : List Int) : Prop := (¬ hid a ∧ Rd H a (.lst (ns.map V.int))) ∨ KL K a (ns.map V.int)
theorem Sc.sql {K : PySem.W.Frag} {hid : Addr → Prop} {H : Hp} {a : Addr} {ns : List Int} (h : Sc K hid H a ns) : SqL K H a (ns.map V.int) := by
  rcases h with ⟨_, h⟩ | h
  · exact .inl h
  · exact .inr h
theorem Sc.mono {K : PySem.W.Frag} {hid hid' : Addr → Prop} {H H' : Hp} {a : Addr} {ns : List Int} (h : Sc K hid H a ns) (hh : ∀ a, hid' a → hid a ∨ Nw H a) (e : ∀ o, ¬ hid a → H a = some o → (∀ ps, o ≠ .tbl ps) → H' a = some o) : Sc K hid' H' a ns := by
  rcases h with ⟨n, h⟩ | h
  · refine .inl ⟨fun z => ?_, Rd_exact h (fun ps z => by cases z) fun o q nt => e o n q nt⟩
    rcases hh a z with q | q
    · exact n q
    · exact Rd_ne h (fun ps z => by cases z) q
  · exact .inr h
/-- the slots and the heap, as data -/
structure StE (K : PySem.W.Frag) (c : Cf) (hT hid : Addr → Prop) (tp : Option (Addr × Addr)) (ρ : Sl) (σ : L2.St) (H : Hp) (t : Tp) : Prop where
  len : ρ.length = σ.length
  im : ∀ i w, ρ[i]? = some (some w) → i ∉ c.M → c.scr ≠ some i → ∃ v, σ[i]? = some (some v) ∧ Im K hid H w v
  scr : ∀ i w, ρ[i]? = some (some w) → c.scr = some i → ∃ a ns, σ[i]? = some (some (.ref a)) ∧ w = .list (ns.map PyData.int) ∧ Sc K hid H a ns
  own : ∀ i w, ρ[i]? = some (some w) → i ∈ c.M → ∃ a, σ[i]? = some (some (.ref a)) ∧ hid a ∧ ¬ hT a ∧ Ow K hid H w a
  sep : ∀ i j w w' a, ρ[i]? = some (some w) → ρ[j]? = some (some w') → i ∈ c.M → j ∈ c.M → σ[i]? = some (some (.ref a)) → σ[j]? = some (some (.ref a)) → i = j
  dom : ∀ a, hid a → ¬ Nw H a
  sub : ∀ a, hT a → hid a
  tph : ∀ a, tps tp a → hT a
  tap : TpOk tp H t
  slot : ∀ i, c.tape = some i → ∃ a b, tp = some (a, b) ∧ σ[i]? = some (some (.ref a))
  tbs : LamX.Tabs Tb.T H
theorem StE.sm {K : PySem.W.Frag} {c : Cf} {hT hid : Addr → Prop} {tp : Option (Addr × Addr)} {ρ : Sl} {σ : L2.St} {H H' : Hp} {t t' : Tp} (s : StE K c hT hid tp ρ σ H t) (m : Sm (tps tp) H H') (ht : TpOk tp H' t') : StE K c hT hid tp ρ σ H' t' := by
  have k : Kp hid H H' := m.kp fun x hx => s.sub x (s.tph x hx)
  refine ⟨s.len, fun i w e n n2 => ?_, fun i w e n => ?_, fun i w e n => ?_, s.sep, fun a h => m.dom a (s.dom a h), s.sub, s.tph, ht, s.slot, m.tab s.tbs⟩
  · obtain ⟨v, e1, h⟩ := s.im i w e n n2
    exact ⟨v, e1, Im.mono k (fun _ z => .inl z) _ _ h⟩
  · obtain ⟨a, ns, e1, e2, h⟩ := s.scr i w e n
    exact ⟨a, ns, e1, e2, h.mono (fun _ z => .inl z) fun o n q nt => m.obj a o (fun z => n (s.sub a (s.tph a z))) q nt⟩
  · obtain ⟨a, e1, h1, h2, h3⟩ := s.own i w e n
    exact ⟨a, e1, h1, h2, h3.mono k (fun _ z => .inl z) fun o e n => m.obj a o (fun z => h2 (s.tph a z)) e n⟩

/-- how a result lies: not hidden; at its top perhaps an owned one (to be read at once); new -/
inductive Md where
  | safe | bor | fresh
def Bo (K : PySem.W.Frag) (hT hid : Addr → Prop) (H : Hp) (w : W) (v : V) : Prop :=
  Im K hid H w v ∨ ∃ a, v = .ref a ∧ ¬ hT a ∧ Ow K hid H w a
/-- new since H0 (or of ow0) -/
def Fe (K : PySem.W.Frag) (ow0 hid : Addr → Prop) (H0 H : Hp) (w : W) (v : V) : Prop :=
  ∃ a, v = .ref a ∧ (Nw H0 a ∨ ow0 a) ∧ (∀ o u, H a ≠ some (.frz o u)) ∧ Ow K (fun x => hid x ∨ x = a) H w a
def Pm (K : PySem.W.Frag) (m : Md) (hT hid ow0 : Addr → Prop) (H0 H : Hp) (w : W) (v : V) : Prop :=
  match m with
  | .safe => Im K hid H w v
  | .bor => Bo K hT hid H w v
  | .fresh => Fe K ow0 hid H0 H w v
theorem Bo.mono {K : PySem.W.Frag} {hT hid : Addr → Prop} {H H' : Hp} {w : W} {v : V} (h : Bo K hT hid H w v) (ex : Addr → Prop) (m : Sm ex H H') (he : ∀ a, ex a → hT a) (hs : ∀ a, hT a → hid a) : Bo K hT hid H' w v := by
  have k : Kp hid H H' := m.kp fun x hx => hs x (he x hx)
  rcases h with h | ⟨a, e, n, h⟩
  · exact .inl (Im.mono k (fun _ z => .inl z) _ _ h)
  · refine .inr ⟨a, e, n, ?_⟩
    exact h.mono k (fun _ z => .inl z) fun o q nt => m.obj a o (fun z => n (he a z)) q nt
/-- a new object seen from outside -/
theorem Fe.im {K : PySem.W.Frag} {ow0 hid : Addr → Prop} {H0 H : Hp} {w : W} {v : V} (h : Fe K ow0 hid H0 H w v) (ho : ∀ a, ow0 a → ¬ hid a) (hd : ∀ a, hid a → ¬ Nw H0 a) : Im K hid H w v := by
  obtain ⟨a, e, n, _, h⟩ := h
  subst e
  have nh : ¬ hid a := fun z => n.elim (hd a z) fun y => ho a y z
  have hh : ∀ x, hid x → (hid x ∨ x = a) ∨ Nw H x := fun x z => .inl (.inl z)
  rcases h with ⟨ws, vs, h1, h2, h3⟩ | ⟨ws, vs, h1, h2, h3⟩ | ⟨ws, vs, h1, h2, h3⟩
  · subst h1; exact .lst nh h2 (Ims.mono Kp.refl hh _ _ h3)
  · subst h1; exact .dK nh h2 (ImK.mono Kp.refl hh _ _ h3)
  · subst h1; exact .dT nh h2 (ImT.mono Kp.refl hh _ _ h3)

end Ev

end

section
/-! Ev2: expressions. -/
namespace Ev
open PySem PySem.Spec PyProof.Rows L2
variable [Tb]

/-! ### what is wanted of an outcome -/
def Out {α β : Type} (cl : Nat → Addr) (tp : Option (Addr × Addr)) (E : XK) (H : Hp) (r : Rs α) (P : Hp → α → Hp → β → Prop) (Q : β → Hp → Prop) : Prop :=
  match r with
  | .ok a t' => ∀ v H', Sm (tps tp) H H' → TpOk tp H' t' → P H a H' v → Q v H'
  | .exc e t' => ∀ H', Sm (tps tp) H H' → TpOk tp H' t' → E (.ref (cl e)) none H'
  | .bad => False
/-- what holds from a later heap on holds from here on -/
def Later {α β : Type} (tp : Option (Addr × Addr)) (P : Hp → α → Hp → β → Prop) : Prop := ∀ H H1 a H' v, Sm (tps tp) H H1 → P H1 a H' v → P H a H' v
section
variable {α β γ δ : Type} {cl : Nat → Addr} {tp : Option (Addr × Addr)} {E : XK} {H H1 : Hp} {P : Hp → α → Hp → β → Prop} {Q : β → Hp → Prop}
theorem Out.later {r : Rs α} (hP : Later tp P) (h : Out cl tp E H r P Q) (m : Sm (tps tp) H H1) : Out cl tp E H1 r P Q := by
  cases r with
  | ok a t => exact fun v H' m' k p => h v H' (m.trans m') k (hP _ _ _ _ _ m p)
  | exc e t => exact fun H' m' k => h H' (m.trans m') k
  | bad => exact h
theorem Out.seq {r : Rs γ} {f : γ → Tp → Rs α} {P1 : Hp → γ → Hp → δ → Prop} {Q1 : δ → Hp → Prop} (hP : Later tp P) (h : Out cl tp E H (r.bind f) P Q)
    (k : ∀ a t1 v1 H1, r = .ok a t1 → Sm (tps tp) H H1 → TpOk tp H1 t1 → P1 H a H1 v1 → Out cl tp E H1 (f a t1) P Q → Q1 v1 H1) : Out cl tp E H r P1 Q1 := by
  cases r with
  | ok a t => exact fun v1 H1 m k1 p => k a t v1 H1 rfl m k1 p (Out.later hP h m)
  | exc e t => exact h
  | bad => exact h
theorem Out.imp {r : Rs α} {P' : Hp → α → Hp → δ → Prop} {Q' : δ → Hp → Prop} (h : Out cl tp E H r P Q) (k : ∀ a t' v H', r = .ok a t' → Sm (tps tp) H H' → TpOk tp H' t' → P' H a H' v → (∀ v, P H a H' v → Q v H') → Q' v H') : Out cl tp E H r P' Q' := by
  cases r with
  | ok a t => exact fun v H' m k1 p => k a t v H' rfl m k1 p fun v p => h v H' m k1 p
  | exc e t => exact h
  | bad => exact h
end
/-- the outcome is known -/
theorem Out.ok_ {α β : Type} {cl : Nat → Addr} {tp : Option (Addr × Addr)} {E : XK} {H H' : Hp} {P : Hp → α → Hp → β → Prop} {Q : β → Hp → Prop} {a : α} {t : Tp} {v : β} (h : Out cl tp E H (.ok a t) P Q) (k : TpOk tp H t) (m : Sm (fun _ => False) H H') (p : P H a H' v) : Q v H' := by
  refine h v H' (m.imp fun _ z => z.elim) (k.of fun a o ha e => m.obj a o (fun z => z) e fun ps z => ?_) p
  subst z
  cases t with
  | none => rw [show tp = none from k] at ha; obtain ⟨x, y, e, _⟩ := ha; cases e
  | some q =>
    obtain ⟨a', b', e', _, h1, h2⟩ := k
    obtain ⟨x, y, e'', z⟩ := ha
    rw [e'] at e''; cases e''
    rcases z with z | z <;> subst z
    · rw [e] at h1; cases h1
    · rw [e] at h2; cases h2

/-- readable: also the script -/
def Rdb (K : PySem.W.Frag) (hT hid : Addr → Prop) (H : Hp) (w : W) (v : V) : Prop :=
  Bo K hT hid H w v ∨ ∃ a ns, v = .ref a ∧ w = .list (ns.map PyData.int) ∧ Sc K hid H a ns
inductive Mo where
  | safe | bor | rd | fresh
def PWm (K : PySem.W.Frag) (m : Mo) (hT hid : Addr → Prop) : Hp → W → Hp → V → Prop := fun H w H' v =>
  match m with
  | .safe => Im K hid H' w v
  | .bor => Bo K hT hid H' w v
  | .rd => Rdb K hT hid H' w v
  | .fresh => Fe K (fun _ => False) hid H H' w v
theorem later_pw {K : PySem.W.Frag} {m : Mo} {hT hid : Addr → Prop} {tp : Option (Addr × Addr)} : Later tp (PWm K m hT hid) := by
  intro H H1 a H' v sm p
  cases m with
  | safe => exact p
  | bor => exact p
  | rd => exact p
  | fresh =>
    obtain ⟨x, e, n, h⟩ := p
    exact ⟨x, e, .inl (n.elim (fun z => sm.none z) fun z => z.elim), h⟩
def tEx (K : PySem.W.Frag) (cl : Nat → Addr) (c : Cf) (m : Mo) (s : Ex) (E : XK) : TE := fun σ H Q =>
  ∃ hT hid tp ρ t, StE K c hT hid tp ρ σ H t ∧ Out cl tp E H (s ρ t) (PWm K m hT hid) Q
def PB : Hp → Bool → Hp → Bool → Prop := fun _ b _ v => v = b
def tTs (K : PySem.W.Frag) (cl : Nat → Addr) (c : Cf) (s : Et) (E : XK) : TT := fun σ H Q =>
  ∃ hT hid tp ρ t, StE K c hT hid tp ρ σ H t ∧ Out cl tp E H (s ρ t) PB Q
theorem later_pb {tp : Option (Addr × Addr)} : Later tp PB := fun _ _ _ _ _ _ p => p
inductive Bos (K : PySem.W.Frag) (hT hid : Addr → Prop) (H : Hp) : List W → List V → Prop
  | nil : Bos K hT hid H [] []
  | cons {w : W} {v : V} {ws : List W} {vs : List V} : Rdb K hT hid H w v → Bos K hT hid H ws vs → Bos K hT hid H (w :: ws) (v :: vs)
/-- the items of a list of arguments: b: not hidden -/
def PWs (K : PySem.W.Frag) (b : Bool) (hT hid : Addr → Prop) : Hp → List W → Hp → List V → Prop := fun _ ws H' vs => if b = true then Ims K hid H' ws vs else Bos K hT hid H' ws vs
theorem later_pws {K : PySem.W.Frag} {b : Bool} {hT hid : Addr → Prop} {tp : Option (Addr × Addr)} : Later tp (PWs K b hT hid) := fun _ _ _ _ _ _ p => p
def tAs (K : PySem.W.Frag) (cl : Nat → Addr) (c : Cf) (b : Bool) (s : Exs) (E : XK) : TA := fun σ H Q =>
  ∃ hT hid tp ρ t, StE K c hT hid tp ρ σ H t ∧ Out cl tp E H (s ρ t) (PWs K b hT hid) Q

abbrev EX (X : Cx) (cl : Nat → Addr) (c : Cf) (m : Mo) (e : Expr) (s : Ex) (E : XK) : Prop := PE X e (tEx X.K cl c m s E)
abbrev TX (X : Cx) (cl : Nat → Addr) (c : Cf) (e : Expr) (s : Et) (E : XK) : Prop := PT X e (tTs X.K cl c s E)
abbrev TXw (X : Cx) (cl : Nat → Addr) (c : Cf) (e : Expr) (s : Et) (E : XK) : Prop := L2.PW X e (tTs X.K cl c s E)
abbrev AX (X : Cx) (cl : Nat → Addr) (c : Cf) (b : Bool) (es : List Expr) (s : Exs) (E : XK) : Prop := PA X es (tAs X.K cl c b s E)
end Ev
namespace Ev
open PySem PySem.Spec PyProof.Rows L2
variable [Tb]
section
variable {X : Cx}
theorem PE_imp {e : Expr} {t t' : TE} (h : PE X e t) (i : ∀ σ H Q, t' σ H Q → t σ H Q) : PE X e t' := ⟨fun pins s σ H Q I q => h.run pins s σ H Q I (i σ H Q q)⟩
theorem PT_imp {e : Expr} {t t' : TT} (h : PT X e t) (i : ∀ σ H Q, t' σ H Q → t σ H Q) : PT X e t' := ⟨fun pins s σ H Q I q => h.run pins s σ H Q I (i σ H Q q)⟩
theorem PWt_imp {e : Expr} {t t' : TT} (h : L2.PW X e t) (i : ∀ σ H Q, t' σ H Q → t σ H Q) : L2.PW X e t' := ⟨fun wh pins s σ H Q I q => h.run wh pins s σ H Q I (i σ H Q q)⟩
theorem PA_imp {es : List Expr} {t t' : TA} (h : PA X es t) (i : ∀ σ H Q, t' σ H Q → t σ H Q) : PA X es t' := ⟨fun pos pins s σ H Q I q => h.run pos pins s σ H Q I (i σ H Q q)⟩
theorem PS_imp {st : Stmt} {t t' : TS} (h : PS X st t) (i : ∀ D σ H, t' D σ H → t D σ H) : PS X st t' := ⟨fun pins s σ H D I q => h.run pins s σ H D I (i D σ H q)⟩
theorem PSs_imp {st : List Stmt} {t t' : TS} (h : PSs X st t) (i : ∀ D σ H, t' D σ H → t D σ H) : PSs X st t' := ⟨fun pins s σ H D I q => h.run pins s σ H D I (i D σ H q)⟩
variable {cl : Nat → Addr} {c : Cf} {m : Mo} {e a b : Expr} {s sa sb : Ex} {E : XK} {pos : Pos}

/-! ### modes -/
theorem pw_sub {K : PySem.W.Frag} {hT hid : Addr → Prop} {H H' : Hp} {w : W} {v : V} {tp : Option (Addr × Addr)} {ρ : Sl} {σ : L2.St} {t : Tp} (S : StE K c hT hid tp ρ σ H t) (p : PWm K .fresh hT hid H w H' v) : PWm K .safe hT hid H w H' v :=
  Fe.im p (fun a z => z.elim) S.dom
theorem ex_safe (h : EX X cl c .fresh e s E) : EX X cl c .safe e s E := PE_imp h fun σ H Q ⟨hT, hid, tp, ρ, t, S, o⟩ =>
  ⟨hT, hid, tp, ρ, t, S, o.imp fun a t' v H' _ _ _ p k => k v (pw_sub S p)⟩
theorem ex_bor (h : EX X cl c .safe e s E) : EX X cl c .bor e s E := PE_imp h fun σ H Q ⟨hT, hid, tp, ρ, t, S, o⟩ =>
  ⟨hT, hid, tp, ρ, t, S, o.imp fun a t' v H' _ _ _ p k => k v (.inl p)⟩
theorem ex_rd (h : EX X cl c .bor e s E) : EX X cl c .rd e s E := PE_imp h fun σ H Q ⟨hT, hid, tp, ρ, t, S, o⟩ =>
  ⟨hT, hid, tp, ρ, t, S, o.imp fun a t' v H' _ _ _ p k => k v (.inl p)⟩
theorem ex_srd (h : EX X cl c .safe e s E) : EX X cl c .rd e s E := ex_rd (ex_bor h)
theorem ex_fb (h : EX X cl c .fresh e s E) : EX X cl c .bor e s E := ex_bor (ex_safe h)
theorem ex_frd (h : EX X cl c .fresh e s E) : EX X cl c .rd e s E := ex_rd (ex_fb h)

/-! ### names, constants -/
def eVar (i : Nat) : Ex := fun ρ t => match ρ[i]? with
  | some (some w) => .ok w t
  | _ => .bad
theorem eVar_ok {i : Nat} {ρ : Sl} {t : Tp} {α β : Type} {tp : Option (Addr × Addr)} {H : Hp} {P : Hp → W → Hp → β → Prop} {Q : β → Hp → Prop} (o : Out cl tp E H (eVar i ρ t) P Q) : ∃ w, ρ[i]? = some (some w) ∧ Out cl tp E H (.ok w t) P Q := by
  unfold eVar at o
  split at o
  · rename_i w e
    exact ⟨w, e, o⟩
  · exact False.elim o
theorem ev_var {i : Nat} {x : Str} (hN : X.N[i]? = some x) (hv : Vis X.env.scope x) (hm : i ∉ c.M) (hs : c.scr ≠ some i) (hd : (x == ("__debug__" : Str)) = false) (hcd : (x == ("__classdict__" : Str)) = false) :
    EX X cl c .safe (.Name x pos) (eVar i) E := PE_imp (pe_var hN hv hd hcd) fun σ H Q ⟨hT, hid, tp, ρ, t, S, o⟩ => by
  obtain ⟨w, e, o⟩ := eVar_ok (α := W) o
  obtain ⟨v, e2, h⟩ := S.im i w e hm hs
  exact ⟨v, e2, o.ok_ S.tap Sm.refl h⟩
/-- any slot, to be read at once -/
theorem ev_varB {i : Nat} {x : Str} (hN : X.N[i]? = some x) (hv : Vis X.env.scope x) (hs : c.scr ≠ some i) (hd : (x == ("__debug__" : Str)) = false) (hcd : (x == ("__classdict__" : Str)) = false) :
    EX X cl c .bor (.Name x pos) (eVar i) E := PE_imp (pe_var hN hv hd hcd) fun σ H Q ⟨hT, hid, tp, ρ, t, S, o⟩ => by
  obtain ⟨w, e, o⟩ := eVar_ok (α := W) o
  by_cases hm : i ∈ c.M
  · obtain ⟨a, e2, h1, h2, h3⟩ := S.own i w e hm
    exact ⟨_, e2, o.ok_ S.tap Sm.refl (.inr ⟨a, rfl, h2, h3⟩)⟩
  · obtain ⟨v, e2, h⟩ := S.im i w e hm hs
    exact ⟨v, e2, o.ok_ S.tap Sm.refl (.inl h)⟩
/-- the script -/
theorem ev_scr {i : Nat} {x : Str} (hN : X.N[i]? = some x) (hv : Vis X.env.scope x) (hs : c.scr = some i) (hd : (x == ("__debug__" : Str)) = false) (hcd : (x == ("__classdict__" : Str)) = false) :
    EX X cl c .rd (.Name x pos) (eVar i) E := PE_imp (pe_var hN hv hd hcd) fun σ H Q ⟨hT, hid, tp, ρ, t, S, o⟩ => by
  obtain ⟨w, e, o⟩ := eVar_ok (α := W) o
  obtain ⟨a, ns, e2, ew, h⟩ := S.scr i w e hs
  exact ⟨_, e2, o.ok_ S.tap Sm.refl (.inr ⟨a, ns, rfl, ew, h⟩)⟩
def eC (w : W) : Ex := fun _ t => .ok w t
theorem ev_int {i j pos} : EX X cl c .safe (.Constant (.int i) j pos) (eC (.int i)) E := PE_imp pe_int fun σ H Q ⟨hT, hid, tp, ρ, t, S, o⟩ => o.ok_ S.tap Sm.refl (.int i)
theorem ev_bl {b j pos} : EX X cl c .safe (.Constant (.bool b) j pos) (eC (.bool b)) E := PE_imp pe_bl fun σ H Q ⟨hT, hid, tp, ρ, t, S, o⟩ => o.ok_ S.tap Sm.refl (.bl b)
theorem ev_non {j pos} : EX X cl c .safe (.Constant .none j pos) (eC .none) E := PE_imp pe_non fun σ H Q ⟨hT, hid, tp, ρ, t, S, o⟩ => o.ok_ S.tap Sm.refl .non
theorem ev_str {x j pos} : EX X cl c .safe (.Constant (.str x) j pos) (eC (.str x)) E := PE_imp pe_str fun σ H Q ⟨hT, hid, tp, ρ, t, S, o⟩ => o.ok_ S.tap Sm.refl (.str x)
/-- a constant of the module -/
def Cst (K : PySem.W.Frag) (mg : Str → Option Value) (x : Str) (w : W) : Prop := ∃ v u, mg x = some u ∧ RelV v u ∧ ∀ hid H, Im K hid H w v
theorem ev_glob {x : Str} {w : W} (hg : Gl X x) (hc : Cst X.K X.mg x w) (hd : (x == ("__debug__" : Str)) = false) : EX X cl c .safe (.Name x pos) (eC w) E := by
  obtain ⟨v, u, hm, r, h⟩ := hc
  exact PE_imp (pe_glob hg hm r hd) fun σ H Q ⟨hT, hid, tp, ρ, t, S, o⟩ => o.ok_ S.tap Sm.refl (h hid H)

/-! ### operators -/
/-- f tells what the operation r of values does to data -/
def BinOk (K : PySem.W.Frag) (r : R2) (f : W → W → Option W) (m : Mo) : Prop := ∀ (hT hid : Addr → Prop) (H : Hp) (x y : V) (a b z : W) (Q : VK), (∀ p, hid p → ¬ Nw H p) →
  Bo K hT hid H a x → Bo K hT hid H b y → f a b = some z → (∀ v H', Sm (fun _ => False) H H' → PWm K m hT hid H z H' v → Q v H') → r x y H Q
def rOf {α : Type} (o : Option α) (t : Tp) : Rs α := match o with
  | some z => .ok z t
  | none => .bad
theorem rOf_ok {α β : Type} {o : Option α} {t : Tp} {tp : Option (Addr × Addr)} {H : Hp} {P : Hp → α → Hp → β → Prop} {Q : β → Hp → Prop} (h : Out cl tp E H (rOf o t) P Q) : ∃ z, o = some z ∧ Out cl tp E H (.ok z t) P Q := by
  cases o with
  | none => exact False.elim h
  | some z => exact ⟨z, rfl, h⟩
def eBin (f : W → W → Option W) (sa sb : Ex) : Ex := fun ρ t => (sa ρ t).bind fun x t => (sb ρ t).bind fun y t => rOf (f x y) t
theorem bin_core {f : W → W → Option W} {r : R2} (hf : BinOk X.K r f m) : ∀ σ H Q, tEx X.K cl c m (eBin f sa sb) E σ H Q → tOp r (tEx X.K cl c .bor sa E) (tEx X.K cl c .bor sb E) σ H Q := by
  intro σ H Q ⟨hT, hid, tp, ρ, t, S, o⟩
  refine ⟨hT, hid, tp, ρ, t, S, o.seq later_pw fun x t1 v1 H1 e1 m1 k1 p1 o1 => ?_⟩
  have S1 := S.sm m1 k1
  refine ⟨hT, hid, tp, ρ, t1, S1, o1.seq later_pw fun y t2 v2 H2 e2 m2 k2 p2 o2 => ?_⟩
  obtain ⟨z, ez, o2⟩ := rOf_ok o2
  have S2 := S1.sm m2 k2
  exact hf hT hid H2 v1 v2 x y z Q S2.dom (Bo.mono p1 _ m2 S.tph S.sub) p2 ez fun v H' mm p => o2.ok_ k2 mm p
theorem ev_bin {op : Operator} {f : W → W → Option W} {r : R2} (ho : OpR X (binaryOp op) r) (hf : BinOk X.K r f m) (ha : EX X cl c .bor a sa E) (hb : EX X cl c .bor b sb E) : EX X cl c m (.BinOp a op b pos) (eBin f sa sb) E :=
  PE_imp (pe_op ho ha hb) (bin_core hf)
theorem ev_cmp {op : CmpOp} {f : W → W → Option W} {r : R2} (ho : OpR X (compareOp op) r) (hf : BinOk X.K r f m) (ha : EX X cl c .bor a sa E) (hb : EX X cl c .bor b sb E) (hm : behindInMarks op b = false) : EX X cl c m (.Compare a [op] [b] pos) (eBin f sa sb) E :=
  PE_imp (pe_cmpR ho ha hb hm) (bin_core hf)
/-- as a test -/
def wB : W → Option Bool
  | .bool b => some b
  | _ => none
def eTest (s : Ex) : Et := fun ρ t => (s ρ t).bind fun w t => rOf (wB w) t
theorem wB_some {w : W} {k : Bool} (h : wB w = some k) : w = .bool k := by
  cases w <;> simp [wB] at h
  subst h; rfl
theorem bl_of {K : PySem.W.Frag} {hT hid : Addr → Prop} {H : Hp} {k : Bool} {v : V} (h : Bo K hT hid H (.bool k) v) : v = .bl k := by
  rcases h with h | ⟨a, _, _, h⟩
  · cases h; rfl
  · rcases h with ⟨_, _, e, _⟩ | ⟨_, _, e, _⟩ | ⟨_, _, e, _⟩ <;> cases e
theorem test_core {t : TE} (h : ∀ σ H Q, tEx X.K cl c .bor s E σ H Q → t σ H Q) : ∀ σ H Q, tTs X.K cl c (eTest s) E σ H Q → tTest t σ H Q := by
  intro σ H Q ⟨hT, hid, tp, ρ, t, S, o⟩
  refine h _ _ _ ⟨hT, hid, tp, ρ, t, S, o.seq later_pb fun w t1 v1 H1 e1 m1 k1 p1 o1 => ?_⟩
  obtain ⟨k, ek, o1⟩ := rOf_ok o1
  have ew := wB_some ek
  subst ew
  exact ⟨k, bl_of p1, o1.ok_ k1 Sm.refl rfl⟩
theorem tx_cmp {op : CmpOp} {f : W → W → Option W} {r : R2} (ho : OpR X (compareOp op) r) (hf : BinOk X.K r f .bor) (ha : EX X cl c .bor a sa E) (hb : EX X cl c .bor b sb E) (hm : behindInMarks op b = false) : TX X cl c (.Compare a [op] [b] pos) (eTest (eBin f sa sb)) E :=
  PT_imp (pt_cmpR ho ha hb hm) (test_core (bin_core hf))
theorem tx_val (h : EX X cl c .bor e s E) (he : ∀ whole, isTrue e X.env whole = (do let v ← whole; standAt e.pos; holding [v] (truthy v))) : TX X cl c e (eTest s) E :=
  PT_imp (pt_val h he) (test_core fun _ _ _ h => h)
/-- a op1 b op2 d -/
def eChain (f g : W → W → Option W) (sa sb sc : Ex) : Ex := fun ρ t => (sa ρ t).bind fun x t => (sb ρ t).bind fun y t => (rOf (f x y) t).bind fun z t => match z with
  | .bool true => (sc ρ t).bind fun u t => rOf (g y u) t
  | .bool false => .ok (.bool false) t
  | _ => .bad
theorem chain_core {d : Expr} {sc : Ex} {f g : W → W → Option W} {r r' : R2} (hf : BinOk X.K r f .bor) (hg : BinOk X.K r' g .bor) :
    ∀ σ H Q, tEx X.K cl c .bor (eChain f g sa sb sc) E σ H Q → tChain r r' (tEx X.K cl c .bor sa E) (tEx X.K cl c .bor sb E) (tEx X.K cl c .bor sc E) σ H Q := by
  intro σ H Q ⟨hT, hid, tp, ρ, t, S, o⟩
  refine ⟨hT, hid, tp, ρ, t, S, o.seq later_pw fun x t1 v1 H1 e1 m1 k1 p1 o1 => ?_⟩
  have S1 := S.sm m1 k1
  refine ⟨hT, hid, tp, ρ, t1, S1, o1.seq later_pw fun y t2 v2 H2 e2 m2 k2 p2 o2 => ?_⟩
  have S2 := S1.sm m2 k2
  cases ef : f x y with
  | none => rw [ef] at o2; exact False.elim o2
  | some z =>
    rw [ef] at o2
    refine hf hT hid H2 v1 v2 x y z _ S2.dom (Bo.mono p1 _ m2 S.tph S.sub) p2 ef fun v H3 m3 p3 => ?_
    have o2 : Out cl tp E H2 (match z with | .bool true => (sc ρ t2).bind fun u t => rOf (g y u) t | .bool false => .ok (.bool false) t2 | _ => .bad) (PWm X.K .bor hT hid) Q := o2
    have m3' : Sm (tps tp) H2 H3 := m3.imp fun _ z => z.elim
    have k3 : TpOk tp H3 t2 := Out.ok_ (cl := cl) (E := E) (P := fun _ _ _ _ => True) (Q := fun (_ : Unit) H' => TpOk tp H' t2) (a := ()) (v := ()) (fun _ _ _ k _ => k) k2 m3 trivial
    have S3 := S2.sm m3' k3
    cases z with
    | bool q =>
      refine ⟨q, bl_of p3, ?_⟩
      cases q with
      | true =>
        rw [if_pos rfl]
        refine ⟨hT, hid, tp, ρ, t2, S3, (Out.later later_pw o2 m3').seq later_pw fun u t4 v4 H4 e4 m4 k4 p4 o4 => ?_⟩
        obtain ⟨z, ez, o4⟩ := rOf_ok o4
        exact hg hT hid H4 v2 v4 y u z Q (S3.sm m4 k4).dom (Bo.mono (Bo.mono p2 _ m3' S.tph S.sub) _ m4 S.tph S.sub) p4 ez fun v H' mm p => o4.ok_ k4 mm p
      | false =>
        rw [if_neg Bool.false_ne_true]
        exact (Out.later later_pw o2 m3').ok_ k3 Sm.refl (.inl (.bl false))
    | _ => exact False.elim o2
theorem ev_chain {op op' : CmpOp} {d : Expr} {sc : Ex} {f g : W → W → Option W} {r r' : R2} (ho : OpR X (compareOp op) r) (ho' : OpR X (compareOp op') r') (hf : BinOk X.K r f .bor) (hg : BinOk X.K r' g .bor)
    (ha : EX X cl c .bor a sa E) (hb : EX X cl c .bor b sb E) (hd : EX X cl c .bor d sc E) (hm : lastMarks [op, op'] [b, d] = false) : EX X cl c .bor (.Compare a [op, op'] [b, d] pos) (eChain f g sa sb sc) E :=
  PE_imp (pe_chain ho ho' ha hb hd hm) (chain_core (d := d) hf hg)
theorem tx_chain {op op' : CmpOp} {d : Expr} {sc : Ex} {f g : W → W → Option W} {r r' : R2} (ho : OpR X (compareOp op) r) (ho' : OpR X (compareOp op') r') (hf : BinOk X.K r f .bor) (hg : BinOk X.K r' g .bor)
    (ha : EX X cl c .bor a sa E) (hb : EX X cl c .bor b sb E) (hd : EX X cl c .bor d sc E) (hm : lastMarks [op, op'] [b, d] = false) : TX X cl c (.Compare a [op, op'] [b, d] pos) (eTest (eChain f g sa sb sc)) E :=
  PT_imp (pt_chain ho ho' ha hb hd hm) (test_core (chain_core (d := d) hf hg))

/-! ### one operand -/
def UnOk (K : PySem.W.Frag) (r : V → Hp → VK → Prop) (f : W → Option W) (m : Mo) : Prop := ∀ (hT hid : Addr → Prop) (H : Hp) (x : V) (a z : W) (Q : VK), (∀ p, hid p → ¬ Nw H p) →
  Rdb K hT hid H a x → f a = some z → (∀ v H', Sm (fun _ => False) H H' → PWm K m hT hid H z H' v → Q v H') → r x H Q
def eUn (f : W → Option W) (sa : Ex) : Ex := fun ρ t => (sa ρ t).bind fun x t => rOf (f x) t
theorem un_core {f : W → Option W} {r : V → Hp → VK → Prop} (hf : UnOk X.K r f m) : ∀ σ H Q, tEx X.K cl c m (eUn f sa) E σ H Q → tUn r (tEx X.K cl c .rd sa E) σ H Q := by
  intro σ H Q ⟨hT, hid, tp, ρ, t, S, o⟩
  refine ⟨hT, hid, tp, ρ, t, S, o.seq later_pw fun x t1 v1 H1 e1 m1 k1 p1 o1 => ?_⟩
  obtain ⟨z, ez, o1⟩ := rOf_ok o1
  exact hf hT hid H1 v1 x z Q (S.sm m1 k1).dom p1 ez fun v H' mm p => o1.ok_ k1 mm p
theorem ev_un {op : UnaryOp} {f : W → Option W} {r : V → Hp → VK → Prop} (ho : UnR X (unaryOp op) r) (hf : UnOk X.K r f m) (ha : EX X cl c .rd a sa E) : EX X cl c m (.UnaryOp op a pos) (eUn f sa) E :=
  PE_imp (pe_un ho ha) (un_core hf)

/-! ### and, or, not, if -/
def eNotT (s : Et) : Et := fun ρ t => (s ρ t).bind fun b t => .ok (!b) t
def eAndT (s u : Et) : Et := fun ρ t => (s ρ t).bind fun b t => if b = true then u ρ t else .ok false t
def eOrT (s u : Et) : Et := fun ρ t => (s ρ t).bind fun b t => if b = true then .ok true t else u ρ t
variable {ta tb : Et} {rest : List Expr}
theorem tx_not (h : TX X cl c a ta E) : TX X cl c (.UnaryOp .Not a pos) (eNotT ta) E := PT_imp (pt_not h) fun σ H Q ⟨hT, hid, tp, ρ, t, S, o⟩ =>
  ⟨hT, hid, tp, ρ, t, S, o.seq later_pb fun b t1 v1 H1 e1 m1 k1 p1 o1 => o1.ok_ k1 Sm.refl (by rw [show v1 = b from p1]; rfl)⟩
theorem tw_and1 (h : TX X cl c a ta E) : TXw X cl c (.BoolOp .And [a] pos) ta E := pw_and1 h
theorem tw_or1 (h : TX X cl c a ta E) : TXw X cl c (.BoolOp .Or [a] pos) ta E := pw_or1 h
theorem tw_and (h : TX X cl c a ta E) (h2 : TXw X cl c (.BoolOp .And (b :: rest) pos) tb E) : TXw X cl c (.BoolOp .And (a :: b :: rest) pos) (eAndT ta tb) E :=
  PWt_imp (pw_and h h2) fun σ H Q ⟨hT, hid, tp, ρ, t, S, o⟩ => ⟨hT, hid, tp, ρ, t, S, o.seq later_pb fun b t1 v1 H1 e1 m1 k1 p1 o1 => by
    have e : v1 = b := p1
    subst e
    cases v1 with
    | true => rw [if_pos rfl]; exact ⟨hT, hid, tp, ρ, t1, S.sm m1 k1, o1⟩
    | false => rw [if_neg Bool.false_ne_true]; exact Out.ok_ o1 k1 Sm.refl rfl⟩
theorem tw_or (h : TX X cl c a ta E) (h2 : TXw X cl c (.BoolOp .Or (b :: rest) pos) tb E) : TXw X cl c (.BoolOp .Or (a :: b :: rest) pos) (eOrT ta tb) E :=
  PWt_imp (pw_or h h2) fun σ H Q ⟨hT, hid, tp, ρ, t, S, o⟩ => ⟨hT, hid, tp, ρ, t, S, o.seq later_pb fun b t1 v1 H1 e1 m1 k1 p1 o1 => by
    have e : v1 = b := p1
    subst e
    cases v1 with
    | true => rw [if_pos rfl]; exact Out.ok_ o1 k1 Sm.refl rfl
    | false => rw [if_neg Bool.false_ne_true]; exact ⟨hT, hid, tp, ρ, t1, S.sm m1 k1, o1⟩⟩
theorem tx_of (h : TXw X cl c e ta E) : TX X cl c e ta E := h.pt
def eNot (s : Ex) : Ex := fun ρ t => (s ρ t).bind fun w t => match w with
  | .bool b => .ok (.bool (!b)) t
  | _ => .bad
def eAnd (s u : Ex) : Ex := fun ρ t => (s ρ t).bind fun w t => match w with
  | .bool true => u ρ t
  | .bool false => .ok (.bool false) t
  | _ => .bad
def eOr (s u : Ex) : Ex := fun ρ t => (s ρ t).bind fun w t => match w with
  | .bool true => .ok (.bool true) t
  | .bool false => u ρ t
  | _ => .bad
theorem ev_one {op} (h : EX X cl c m a sa E) : EX X cl c m (.BoolOp op [a] pos) sa E := pe_one h
theorem ev_not (h : EX X cl c .bor a sa E) : EX X cl c .safe (.UnaryOp .Not a pos) (eNot sa) E := PE_imp (pe_not h) fun σ H Q ⟨hT, hid, tp, ρ, t, S, o⟩ =>
  ⟨hT, hid, tp, ρ, t, S, o.seq later_pw fun w t1 v1 H1 e1 m1 k1 p1 o1 => by
    cases w with
    | bool k => exact ⟨k, bl_of p1, Out.ok_ o1 k1 Sm.refl (.bl _)⟩
    | _ => exact False.elim o1⟩
theorem ev_and (h : EX X cl c .bor a sa E) (h2 : EX X cl c .safe (.BoolOp .And (b :: rest) pos) sb E) : EX X cl c .safe (.BoolOp .And (a :: b :: rest) pos) (eAnd sa sb) E :=
  PE_imp (pe_and h h2) fun σ H Q ⟨hT, hid, tp, ρ, t, S, o⟩ => ⟨hT, hid, tp, ρ, t, S, o.seq later_pw fun w t1 v1 H1 e1 m1 k1 p1 o1 => by
    cases w with
    | bool k =>
      refine ⟨k, bl_of p1, ?_⟩
      cases k with
      | true => rw [if_pos rfl]; exact ⟨hT, hid, tp, ρ, t1, S.sm m1 k1, o1⟩
      | false => rw [if_neg Bool.false_ne_true]; exact Out.ok_ o1 k1 Sm.refl (.bl _)
    | _ => exact False.elim o1⟩
theorem ev_or (h : EX X cl c .bor a sa E) (h2 : EX X cl c .safe (.BoolOp .Or (b :: rest) pos) sb E) : EX X cl c .safe (.BoolOp .Or (a :: b :: rest) pos) (eOr sa sb) E :=
  PE_imp (pe_or h h2) fun σ H Q ⟨hT, hid, tp, ρ, t, S, o⟩ => ⟨hT, hid, tp, ρ, t, S, o.seq later_pw fun w t1 v1 H1 e1 m1 k1 p1 o1 => by
    cases w with
    | bool k =>
      refine ⟨k, bl_of p1, ?_⟩
      cases k with
      | true => rw [if_pos rfl]; exact Out.ok_ o1 k1 Sm.refl (.bl _)
      | false => rw [if_neg Bool.false_ne_true]; exact ⟨hT, hid, tp, ρ, t1, S.sm m1 k1, o1⟩
    | _ => exact False.elim o1⟩
def eIf (tc : Et) (s u : Ex) : Ex := fun ρ t => (tc ρ t).bind fun b t => if b = true then s ρ t else u ρ t
theorem ev_if {d : Expr} {tc : Et} (hc : TX X cl c d tc E) (ha : EX X cl c m a sa E) (hb : EX X cl c m b sb E) : EX X cl c m (.IfExp d a b pos) (eIf tc sa sb) E :=
  PE_imp (pe_ifExp hc ha hb) fun σ H Q ⟨hT, hid, tp, ρ, t, S, o⟩ => ⟨hT, hid, tp, ρ, t, S, o.seq later_pw fun k t1 v1 H1 e1 m1 k1 p1 o1 => by
    have e : v1 = k := p1
    subst e
    cases v1 with
    | true => rw [if_pos rfl]; exact ⟨hT, hid, tp, ρ, t1, S.sm m1 k1, o1⟩
    | false => rw [if_neg Bool.false_ne_true]; exact ⟨hT, hid, tp, ρ, t1, S.sm m1 k1, o1⟩⟩

/-! ### is None -/
def wIsN : W → Bool
  | .none => true
  | _ => false
theorem isN_of {K : PySem.W.Frag} {hT hid : Addr → Prop} {H : Hp} {w : W} {v : V} (h : Bo K hT hid H w v) : decide (v = .non) = wIsN w := by
  rcases h with h | ⟨a, e, _, h⟩
  · cases h <;> simp [wIsN]
  · subst e
    rcases h with ⟨_, _, e, _⟩ | ⟨_, _, e, _⟩ | ⟨_, _, e, _⟩ <;> subst e <;> simp [wIsN]
def eIsN (neg : Bool) (s : Ex) : Ex := fun ρ t => (s ρ t).bind fun w t => .ok (.bool (if neg then !wIsN w else wIsN w)) t
theorem isN_core : ∀ σ H Q, tEx X.K cl c .bor (eIsN false sa) E σ H Q → tIsN (tEx X.K cl c .bor sa E) σ H Q := by
  intro σ H Q ⟨hT, hid, tp, ρ, t, S, o⟩
  refine ⟨hT, hid, tp, ρ, t, S, o.seq later_pw fun x t1 v1 H1 e1 m1 k1 p1 o1 => Out.ok_ o1 k1 Sm.refl (.inl ?_)⟩
  rw [isN_of p1]; exact .bl _
theorem notN_core : ∀ σ H Q, tEx X.K cl c .bor (eIsN true sa) E σ H Q → tNotN (tEx X.K cl c .bor sa E) σ H Q := by
  intro σ H Q ⟨hT, hid, tp, ρ, t, S, o⟩
  refine ⟨hT, hid, tp, ρ, t, S, o.seq later_pw fun x t1 v1 H1 e1 m1 k1 p1 o1 => Out.ok_ o1 k1 Sm.refl (.inl ?_)⟩
  rw [isN_of p1]; exact .bl _
theorem ev_isN {j pos' pos} (ha : EX X cl c .bor a sa E) : EX X cl c .bor (.Compare a [.Is] [.Constant .none j pos'] pos) (eIsN false sa) E := PE_imp (pe_cmp (pc_isN ha)) isN_core
theorem ev_notN {j pos' pos} (ha : EX X cl c .bor a sa E) : EX X cl c .bor (.Compare a [.IsNot] [.Constant .none j pos'] pos) (eIsN true sa) E := PE_imp (pe_cmp (pc_notN ha)) notN_core
theorem tx_isN {j pos' pos} (ha : EX X cl c .bor a sa E) : TX X cl c (.Compare a [.Is] [.Constant .none j pos'] pos) (eTest (eIsN false sa)) E := PT_imp (pt_cmp (pc_isN ha)) (test_core isN_core)
theorem tx_notN {j pos' pos} (ha : EX X cl c .bor a sa E) : TX X cl c (.Compare a [.IsNot] [.Constant .none j pos'] pos) (eTest (eIsN true sa)) E := PT_imp (pt_cmp (pc_notN ha)) (test_core notN_core)

/-! ### arguments, displays -/
def eNil : Exs := fun _ t => .ok [] t
def eCons (s : Ex) (u : Exs) : Exs := fun ρ t => (s ρ t).bind fun w t => (u ρ t).bind fun ws t => .ok (w :: ws) t
variable {es : List Expr} {ss : Exs}
theorem as_nil {b : Bool} : AX X cl c b [] eNil E := PA_imp pa_nil fun σ H Q ⟨hT, hid, tp, ρ, t, S, o⟩ => Out.ok_ o S.tap Sm.refl (by cases b; exact .nil; exact .nil)
theorem as_consS (ha : EX X cl c .safe a sa E) (hr : AX X cl c true es ss E) (hs : starEach (a :: es) X.env = (false, eval a X.env) :: starEach es X.env) : AX X cl c true (a :: es) (eCons sa ss) E :=
  PA_imp (pa_cons ha hr hs) fun σ H Q ⟨hT, hid, tp, ρ, t, S, o⟩ => ⟨hT, hid, tp, ρ, t, S, o.seq later_pws fun w t1 v1 H1 e1 m1 k1 p1 o1 => by
    have S1 := S.sm m1 k1
    refine ⟨hT, hid, tp, ρ, t1, S1, o1.seq later_pws fun ws t2 vs H2 e2 m2 k2 p2 o2 => Out.ok_ o2 k2 Sm.refl ?_⟩
    exact .cons (Im.mono (m2.kp fun x z => S.sub x (S.tph x z)) (fun _ z => .inl z) _ _ p1) p2⟩
theorem rdb_mono {K : PySem.W.Frag} {hT hid : Addr → Prop} {tp : Option (Addr × Addr)} {ρ : Sl} {σ : L2.St} {t : Tp} {H H' : Hp} {w : W} {v : V} (S : StE K c hT hid tp ρ σ H t) (h : Rdb K hT hid H w v) (m : Sm (tps tp) H H') : Rdb K hT hid H' w v := by
  rcases h with h | ⟨a, ns, e, ew, h⟩
  · exact .inl (Bo.mono h _ m S.tph S.sub)
  · exact .inr ⟨a, ns, e, ew, h.mono (fun _ z => .inl z) fun o n q nt => m.obj a o (fun z => n (S.sub a (S.tph a z))) q nt⟩
theorem as_consB (ha : EX X cl c .rd a sa E) (hr : AX X cl c false es ss E) (hs : starEach (a :: es) X.env = (false, eval a X.env) :: starEach es X.env) : AX X cl c false (a :: es) (eCons sa ss) E :=
  PA_imp (pa_cons ha hr hs) fun σ H Q ⟨hT, hid, tp, ρ, t, S, o⟩ => ⟨hT, hid, tp, ρ, t, S, o.seq later_pws fun w t1 v1 H1 e1 m1 k1 p1 o1 => by
    have S1 := S.sm m1 k1
    refine ⟨hT, hid, tp, ρ, t1, S1, o1.seq later_pws fun ws t2 vs H2 e2 m2 k2 p2 o2 => Out.ok_ o2 k2 Sm.refl ?_⟩
    exact .cons (rdb_mono S1 p1 m2) p2⟩
/-- a new object p behind H -/
theorem im_new {K : PySem.W.Frag} {hid hid' : Addr → Prop} {H : Hp} {p : Addr} {o : HO} (hp : H p = none) (hh : ∀ a, hid' a → hid a ∨ a = p) : (∀ w v, Im K hid H w v → Im K hid' (upd H p o) w v) ∧ (∀ ws vs, Ims K hid H ws vs → Ims K hid' (upd H p o) ws vs) := by
  have k : Kp hid H (upd H p o) := (Sm.new (ex := fun _ => False) hp).kp fun _ z => z.elim
  have q : ∀ a, hid' a → hid a ∨ Nw H a := fun a z => (hh a z).imp id fun e => by rw [e]; exact Nw.of hp
  exact ⟨Im.mono k q, Ims.mono k q⟩
def few1000 (ws : List W) : Bool := decide (ws.length ≤ 1000)
def eTup (s : Exs) : Ex := fun ρ t => (s ρ t).bind fun ws t => if few1000 ws = true then .ok (.tuple ws) t else .bad
theorem few_ok {α β : Type} {p : Bool} {r : Rs α} {tp : Option (Addr × Addr)} {H : Hp} {P : Hp → α → Hp → β → Prop} {Q : β → Hp → Prop} (h : Out cl tp E H (if p = true then r else .bad) P Q) : p = true ∧ Out cl tp E H r P Q := by
  cases p with
  | true => exact ⟨rfl, h⟩
  | false => exact False.elim h
theorem line1000 {n : Nat} (h : n ≤ 1000) : n ≤ sizeLine := Nat.le_trans h (by decide)
theorem few_len {ws : List W} (h : few1000 ws = true) : ws.length ≤ 1000 := of_decide_eq_true h
theorem ev_tup {k : Nat} (h : AX X cl c true es ss E) : EX X cl c .safe (.Tuple es k pos) (eTup ss) E := PE_imp (pe_tup h) fun σ H Q ⟨hT, hid, tp, ρ, t, S, o⟩ =>
  ⟨hT, hid, tp, ρ, t, S, o.seq later_pw fun ws t1 vs H1 e1 m1 k1 p1 o1 => by
    obtain ⟨hf, o1⟩ := few_ok o1
    have p1 : Ims X.K hid H1 ws vs := p1
    refine ⟨line1000 (by rw [← p1.length]; exact few_len hf), fun p hp => Out.ok_ o1 k1 (Sm.new hp) ?_⟩
    exact .tup (.inl (.inl upd_same)) ((im_new hp fun a z => .inl z).2 _ _ p1)⟩
def eLst (s : Exs) : Ex := fun ρ t => (s ρ t).bind fun ws t => if few1000 ws = true then .ok (.list ws) t else .bad
theorem fe_lst {K : PySem.W.Frag} {hid : Addr → Prop} {H : Hp} {p : Addr} {ws : List W} {vs : List V} (hp : H p = none) (h : Ims K hid H ws vs) : Fe K (fun _ => False) hid H (upd H p (.lst vs)) (.list ws) (.ref p) :=
  ⟨p, rfl, .inl (Nw.of hp), fun o u z => (by rw [upd_same] at z; cases z), .inl ⟨ws, vs, rfl, upd_same, (im_new hp fun a z => z).2 _ _ h⟩⟩
theorem ev_lst (h : AX X cl c true es ss E) : EX X cl c .fresh (.List es pos) (eLst ss) E := PE_imp (pe_lst h) fun σ H Q ⟨hT, hid, tp, ρ, t, S, o⟩ =>
  ⟨hT, hid, tp, ρ, t, S, o.seq later_pw fun ws t1 vs H1 e1 m1 k1 p1 o1 => by
    obtain ⟨hf, o1⟩ := few_ok o1
    have p1 : Ims X.K hid H1 ws vs := p1
    exact ⟨line1000 (by rw [← p1.length]; exact few_len hf), fun p hp => Out.ok_ o1 k1 (Sm.new hp) (fe_lst hp p1)⟩⟩

/-! ### built-in functions -/
def CallOk (K : PySem.W.Frag) (r : List V → Hp → VK → Prop) (g : List W → Option W) (m : Mo) : Prop := ∀ (hT hid : Addr → Prop) (H : Hp) (vs : List V) (ws : List W) (z : W) (Q : VK), (∀ p, hid p → ¬ Nw H p) →
  Bos K hT hid H ws vs → g ws = some z → (∀ v H', Sm (fun _ => False) H H' → PWm K m hT hid H z H' v → Q v H') → r vs H Q
def eCallB (g : List W → Option W) (s : Exs) : Ex := fun ρ t => (s ρ t).bind fun ws t => rOf (g ws) t
theorem callB_core {r : List V → Hp → VK → Prop} {g : List W → Option W} (hg : CallOk X.K r g m) : ∀ σ H Q, tEx X.K cl c m (eCallB g ss) E σ H Q → tCB r (tAs X.K cl c false ss E) σ H Q := by
  intro σ H Q ⟨hT, hid, tp, ρ, t, S, o⟩
  refine ⟨hT, hid, tp, ρ, t, S, o.seq later_pw fun ws t1 vs H1 e1 m1 k1 p1 o1 => ?_⟩
  obtain ⟨z, ez, o1⟩ := rOf_ok o1
  exact hg hT hid H1 vs ws z Q (S.sm m1 k1).dom p1 ez fun v H' mm p => o1.ok_ k1 mm p
theorem ev_callB {id : String} {x : Str} {p pos : Pos} {r : List V → Hp → VK → Prop} {g : List W → Option W} (hc : CallR X (.builtin id) r) (hg : CallOk X.K r g m) (hgl : Gl X x) (hm : X.mg x = none) (hv : bootBuiltins x = some (.builtin id)) (ha : AX X cl c false (a :: es) ss E)
    (hn : x ≠ "__name__") (hdb : (x == ("__debug__" : Str)) = false) (he : starEach (a :: es) X.env = (false, eval a X.env) :: starEach es X.env) (hpl : (backTo pos (starEach es X.env)).any (·.1) = false) :
    EX X cl c m (.Call (.Name x p) (a :: es) [] pos) (eCallB g ss) E := PE_imp (pe_callB hc hgl hm hv ha hn hdb he hpl) (callB_core hg)
theorem ev_callTy {T : String} {x : Str} {p pos : Pos} {r : List V → Hp → VK → Prop} {g : List W → Option W} (hc : CallR X (.type T) r) (hg : CallOk X.K r g m) (hgl : Gl X x) (hm : X.mg x = none) (hv : bootBuiltins x = some (.type T)) (ha : AX X cl c false (a :: es) ss E)
    (hn : x ≠ "__name__") (hdb : (x == ("__debug__" : Str)) = false) (he : starEach (a :: es) X.env = (false, eval a X.env) :: starEach es X.env) (hpl : (backTo pos (starEach es X.env)).any (·.1) = false) :
    EX X cl c m (.Call (.Name x p) (a :: es) [] pos) (eCallB g ss) E := PE_imp (pe_callTy hc hgl hm hv ha hn hdb he hpl) (callB_core hg)
end
end Ev

end

section
/-! Ev3: operators and built-in functions on data. -/
namespace Ev
open PySem PySem.Spec PyProof.Rows L2
variable [Tb]
section
variable {K : PySem.W.Frag} {hT hid : Addr → Prop} {H : Hp}
theorem no_ow {w : W} {a : Addr} (h : Ow K hid H w a) : (∃ ws, w = .list ws) ∨ ∃ ws, w = .dict ws := by
  rcases h with ⟨ws, _, e, _⟩ | ⟨ws, _, e, _⟩ | ⟨ws, _, e, _⟩
  · exact .inl ⟨ws, e⟩
  · exact .inr ⟨ws, e⟩
  · exact .inr ⟨ws, e⟩
theorem bo_int {i : Int} {v : V} (h : Bo K hT hid H (.int i) v) : v = .int i := by
  rcases h with h | ⟨a, _, _, h⟩
  · cases h; rfl
  · rcases no_ow h with ⟨_, e⟩ | ⟨_, e⟩ <;> cases e
theorem bo_tup {ws : List W} {v : V} (h : Bo K hT hid H (.tuple ws) v) : ∃ a vs, v = .ref a ∧ SqT K H a vs ∧ Ims K hid H ws vs := by
  rcases h with h | ⟨a, _, _, h⟩
  · cases h with
    | tup h1 h2 => exact ⟨_, _, rfl, h1, h2⟩
  · rcases no_ow h with ⟨_, e⟩ | ⟨_, e⟩ <;> cases e
theorem bo_lst {ws : List W} {v : V} (h : Bo K hT hid H (.list ws) v) : ∃ a vs, v = .ref a ∧ H a = some (.lst vs) ∧ Ims K hid H ws vs := by
  rcases h with h | ⟨a, e, _, h⟩
  · cases h with
    | lst h1 h2 h3 => exact ⟨_, _, rfl, h2, h3⟩
  · rcases h with ⟨ws', vs, e', h2, h3⟩ | ⟨_, _, e', _⟩ | ⟨_, _, e', _⟩
    · cases e'; exact ⟨a, vs, e, h2, h3⟩
    · cases e'
    · cases e'
theorem ims_ints : ∀ {ns : List Int} {H : Hp}, Ims K hid H (ns.map PyData.int) (ns.map V.int)
  | [], _ => .nil
  | n :: ns, _ => .cons (.int n) ims_ints
/-- a readable list or tuple -/
theorem rd_lst {ws : List W} {v : V} (h : Rdb K hT hid H (.list ws) v) : ∃ a vs, v = .ref a ∧ SqL K H a vs ∧ Ims K hid H ws vs := by
  rcases h with h | ⟨a, ns, e, ew, h⟩
  · obtain ⟨a, vs, e, h1, h2⟩ := bo_lst h
    exact ⟨a, vs, e, .inl (.inl h1), h2⟩
  · cases ew
    exact ⟨a, _, e, h.sql, ims_ints⟩
theorem rd_tup {ws : List W} {v : V} (h : Rdb K hT hid H (.tuple ws) v) : ∃ a vs, v = .ref a ∧ SqT K H a vs ∧ Ims K hid H ws vs := by
  rcases h with h | ⟨a, ns, e, ew, h⟩
  · exact bo_tup h
  · cases ew
theorem rd_int {i : Int} {v : V} (h : Rdb K hT hid H (.int i) v) : v = .int i := by
  rcases h with h | ⟨a, ns, e, ew, h⟩
  · exact bo_int h
  · cases ew
theorem rd_bl {k : Bool} {v : V} (h : Rdb K hT hid H (.bool k) v) : v = .bl k := by
  rcases h with h | ⟨a, ns, e, ew, h⟩
  · exact bl_of h
  · cases ew
end

/-! ### arithmetic -/
def wAdd : W → W → Option W
  | .int i, .int j => some (.int (i + j))
  | .tuple xs, .tuple ys => if xs.length + ys.length ≤ 16777216 then some (.tuple (xs ++ ys)) else none
  | .list xs, .list ys => if xs.length + ys.length ≤ 16777216 then some (.list (xs ++ ys)) else none
  | _, _ => none
def rAddW (K : PySem.W.Frag) : R2 := fun x y H Q => rI0 (fun i j => .int (i + j)) x y H Q ∨ (fun x y H Q => rCatA K x y H Q ∨ rCat x y H Q) x y H Q
theorem op_addW {X : Cx} : OpR X (binaryOp .Add) (rAddW X.K) := op_add.or (op_catA.or op_cat)
theorem if_some {p : Prop} [Decidable p] {α : Type} {a z : α} (h : (if p then some a else none) = some z) : p ∧ a = z := by
  by_cases c : p
  · rw [if_pos c] at h; exact ⟨c, Option.some.inj h⟩
  · rw [if_neg c] at h; cases h
theorem ok_add {K : PySem.W.Frag} : BinOk K (rAddW K) wAdd .safe := by
  intro hT hid H x y a b z Q hd ha hb hz q
  cases a <;> cases b <;> simp only [wAdd] at hz <;> try cases hz
  · rw [bo_int ha, bo_int hb]
    exact .inl ⟨_, _, rfl, rfl, q _ _ Sm.refl (.int _)⟩
  · obtain ⟨c, e⟩ := if_some hz
    subst e
    obtain ⟨a1, v1, rfl, h1, i1⟩ := bo_lst ha
    obtain ⟨a2, v2, rfl, h2, i2⟩ := bo_lst hb
    refine .inr (.inr ⟨a1, a2, v1, v2, rfl, rfl, h1, h2, by rw [← i1.length, ← i2.length, sizeLine_eq]; exact c, fun p hp => q _ _ (Sm.new hp) ?_⟩)
    exact .lst (fun z => hd p z (Nw.of hp)) upd_same ((im_new hp fun a z => .inl z).2 _ _ (i1.append i2))
  · obtain ⟨c, e⟩ := if_some hz
    subst e
    obtain ⟨a1, v1, rfl, h1, i1⟩ := bo_tup ha
    obtain ⟨a2, v2, rfl, h2, i2⟩ := bo_tup hb
    refine .inr (.inl ⟨a1, a2, v1, v2, rfl, rfl, h1, h2, by rw [← i1.length, ← i2.length, sizeLine_eq]; exact c, fun e => ?_, fun _ e => ?_, fun _ _ p hp => q _ _ (Sm.new hp) ?_⟩)
    · subst e
      have e1 := i1.length
      rw [List.eq_nil_of_length_eq_zero e1, List.nil_append] at q
      exact q _ _ Sm.refl (.tup h2 i2)
    · subst e
      have e1 := i2.length
      rw [List.eq_nil_of_length_eq_zero e1, List.append_nil] at q
      exact q _ _ Sm.refl (.tup h1 i1)
    · exact .tup (.inl (.inl upd_same)) ((im_new hp fun a z => .inl z).2 _ _ (i1.append i2))
/-- list + list, new -/
def wAddL : W → W → Option W
  | .list xs, .list ys => if xs.length + ys.length ≤ 16777216 then some (.list (xs ++ ys)) else none
  | _, _ => none
theorem ok_addL {K : PySem.W.Frag} : BinOk K rCat wAddL .fresh := by
  intro hT hid H x y a b z Q hd ha hb hz q
  cases a <;> cases b <;> simp only [wAddL] at hz <;> try cases hz
  obtain ⟨c, e⟩ := if_some hz
  subst e
  obtain ⟨a1, v1, rfl, h1, i1⟩ := bo_lst ha
  obtain ⟨a2, v2, rfl, h2, i2⟩ := bo_lst hb
  exact ⟨a1, a2, v1, v2, rfl, rfl, h1, h2, by rw [← i1.length, ← i2.length, sizeLine_eq]; exact c, fun p hp => q _ _ (Sm.new hp) (fe_lst hp (i1.append i2))⟩
def wSub : W → W → Option W
  | .int i, .int j => some (.int (i - j))
  | _, _ => none
theorem ok_sub {K : PySem.W.Frag} : BinOk K (rI0 fun i j => .int (i - j)) wSub .safe := by
  intro hT hid H x y a b z Q hd ha hb hz q
  cases a <;> cases b <;> simp only [wSub] at hz <;> cases hz
  rw [bo_int ha, bo_int hb]
  exact ⟨_, _, rfl, rfl, q _ _ Sm.refl (.int _)⟩
def mulOk (i j : Int) : Bool := decide (Builtin.Int.intBits i + Builtin.Int.intBits j ≤ 134217728)
def wMul : W → W → Option W
  | .int i, .int j => if mulOk i j = true then some (.int (i * j)) else none
  | .tuple xs, .int k => if (-1000 ≤ k ∧ k ≤ 1000) ∧ xs.length ≤ 1000 then some (.tuple (List.replicate k.toNat xs).flatten) else none
  | .list xs, .int k => if (-1000000 ≤ k ∧ k ≤ 1000000) ∧ xs.length * k.toNat ≤ 16777216 then some (.list (List.replicate k.toNat xs).flatten) else none
  | _, _ => none
def rMulW (K : PySem.W.Frag) : R2 := fun x y H Q => rI CMulX (fun i j => .int (i * j)) x y H Q ∨ (fun x y H Q => rRepA K x y H Q ∨ rRep x y H Q) x y H Q
theorem op_mulW' {X : Cx} : OpR X (binaryOp .Mult) (rMulW X.K) := op_mulX.or (op_repA.or op_rep)
theorem mulOk_ok {i j : Int} (h : mulOk i j = true) : CMulX i j := by
  have q := of_decide_eq_true h
  unfold CMulX
  omega
theorem rep_eq {α : Type} {xs : List α} {k : Int} (h : xs = [] ∨ k = 1) : (List.replicate k.toNat xs).flatten = xs := by
  rcases h with e | e
  · subst e; simp
  · subst e
    show (List.replicate 1 xs).flatten = xs
    simp
theorem ok_mul {K : PySem.W.Frag} : BinOk K (rMulW K) wMul .safe := by
  intro hT hid H x y a b z Q hd ha hb hz q
  cases a <;> cases b <;> simp only [wMul] at hz <;> try cases hz
  · obtain ⟨c, e⟩ := if_some hz
    subst e
    rw [bo_int ha, bo_int hb]
    exact .inl ⟨_, _, rfl, rfl, mulOk_ok c, q _ _ Sm.refl (.int _)⟩
  · obtain ⟨c, e⟩ := if_some hz
    subst e
    obtain ⟨a1, v1, rfl, h1, i1⟩ := bo_lst ha
    rw [bo_int hb]
    refine .inr (.inr ⟨a1, _, v1, rfl, rfl, h1, by omega, by omega, by rw [← i1.length, sizeLine_eq]; exact c.2, fun p hp => q _ _ (Sm.new hp) ?_⟩)
    exact .lst (fun z => hd p z (Nw.of hp)) upd_same ((im_new hp fun a z => .inl z).2 _ _ (i1.rep _))
  · obtain ⟨c, e⟩ := if_some hz
    subst e
    obtain ⟨a1, v1, rfl, h1, i1⟩ := bo_tup ha
    rw [bo_int hb]
    refine .inr (.inl ⟨a1, _, v1, rfl, rfl, h1, c.1.1, c.1.2, by rw [← i1.length]; exact c.2, fun e => ?_, fun _ _ p hp => q _ _ (Sm.new hp) ?_⟩)
    · have e' : _ = [] ∨ _ = (1 : Int) := e.imp (fun e => List.eq_nil_of_length_eq_zero (by rw [i1.length, e]; rfl)) id
      rw [rep_eq e'] at q
      exact q _ _ Sm.refl (.tup h1 i1)
    · exact .tup (.inl (.inl upd_same)) ((im_new hp fun a z => .inl z).2 _ _ (i1.rep _))
/-- list * int, new -/
def wMulL : W → W → Option W
  | .list xs, .int k => if (-1000000 ≤ k ∧ k ≤ 1000000) ∧ xs.length * k.toNat ≤ 16777216 then some (.list (List.replicate k.toNat xs).flatten) else none
  | _, _ => none
theorem ok_mulL {K : PySem.W.Frag} : BinOk K rRep wMulL .fresh := by
  intro hT hid H x y a b z Q hd ha hb hz q
  cases a <;> cases b <;> simp only [wMulL] at hz <;> try cases hz
  obtain ⟨c, e⟩ := if_some hz
  subst e
  obtain ⟨a1, v1, rfl, h1, i1⟩ := bo_lst ha
  rw [bo_int hb]
  exact ⟨a1, _, v1, rfl, rfl, h1, by omega, by omega, by rw [← i1.length, sizeLine_eq]; exact c.2, fun p hp => q _ _ (Sm.new hp) (fe_lst hp (i1.rep _))⟩
def divOk (i j : Int) : Bool := !(j == 0) && !Builtin.divisionGoesByPylong i j
theorem divOk_ok {i j : Int} (h : divOk i j = true) : j ≠ 0 ∧ Builtin.divisionGoesByPylong i j = false := by
  unfold divOk at h
  simp only [Bool.and_eq_true, Bool.not_eq_true', beq_eq_false_iff_ne] at h
  exact h
def wFdiv : W → W → Option W
  | .int i, .int j => if divOk i j = true then some (.int (i.fdiv j)) else none
  | _, _ => none
theorem ok_fdiv {K : PySem.W.Frag} : BinOk K (rI (fun i j => j ≠ 0 ∧ Builtin.divisionGoesByPylong i j = false) fun i j => .int (i.fdiv j)) wFdiv .safe := by
  intro hT hid H x y a b z Q hd ha hb hz q
  cases a <;> cases b <;> simp only [wFdiv] at hz <;> try cases hz
  obtain ⟨c, e⟩ := if_some hz
  subst e
  rw [bo_int ha, bo_int hb]
  exact ⟨_, _, rfl, rfl, divOk_ok c, q _ _ Sm.refl (.int _)⟩
def wMod : W → W → Option W
  | .int i, .int j => if j ≠ 0 then some (.int (i.fmod j)) else none
  | _, _ => none
theorem ok_mod {K : PySem.W.Frag} : BinOk K (rI (fun _ j => j ≠ 0) fun i j => .int (i.fmod j)) wMod .safe := by
  intro hT hid H x y a b z Q hd ha hb hz q
  cases a <;> cases b <;> simp only [wMod] at hz <;> try cases hz
  obtain ⟨c, e⟩ := if_some hz
  subst e
  rw [bo_int ha, bo_int hb]
  exact ⟨_, _, rfl, rfl, c, q _ _ Sm.refl (.int _)⟩
def wNeg : W → Option W
  | .int i => some (.int (-i))
  | _ => none
theorem ok_neg {K : PySem.W.Frag} : UnOk K (rU fun i => .int (-i)) wNeg .safe := by
  intro hT hid H x a z Q hd ha hz q
  cases a <;> simp only [wNeg] at hz <;> cases hz
  rw [rd_int ha]
  exact ⟨_, rfl, q _ _ Sm.refl (.int _)⟩

/-! ### comparisons -/
def wCmp (p : Int → Int → Bool) : W → W → Option W
  | .int i, .int j => some (.bool (p i j))
  | _, _ => none
theorem ok_cmp {K : PySem.W.Frag} {p : Int → Int → Bool} : BinOk K (rI0 fun i j => .bl (p i j)) (wCmp p) .bor := by
  intro hT hid H x y a b z Q hd ha hb hz q
  cases a <;> cases b <;> simp only [wCmp] at hz <;> cases hz
  rw [bo_int ha, bo_int hb]
  exact ⟨_, _, rfl, rfl, q _ _ Sm.refl (.inl (.bl _))⟩
abbrev wLt := wCmp fun i j => decide (i < j)
abbrev wLe := wCmp fun i j => decide (i ≤ j)
abbrev wGt := wCmp fun i j => decide (j < i)
abbrev wGe := wCmp fun i j => decide (j ≤ i)
section
variable {K : PySem.W.Frag} {hid : Addr → Prop} {H : Hp}
mutual
theorem Im.dp : ∀ (w : W) (v : V), Im K hid H w v → w.canLay0 = true → Dp K H v w
  | .none, v, h, _ => by cases h; exact .non
  | .bool b, v, h, _ => by cases h; exact .bl b
  | .int i, v, h, _ => by cases h; exact .int i
  | .str x, v, h, _ => by cases h; exact .str x
  | .tuple ws, v, h, c => by
    cases h with
    | tup h1 h2 => exact .tup h1 (Ims.dp ws _ h2 (by simpa [PyData.canLay0] using c))
  | .list ws, v, h, c => by
    cases h with
    | lst h1 h2 h3 => exact .lst (.inl (.inl h2)) (Ims.dp ws _ h3 (by simpa [PyData.canLay0] using c))
  | .dict ws, v, h, c => by simp [PyData.canLay0] at c
theorem Ims.dp : ∀ (ws : List W) (vs : List V), Ims K hid H ws vs → PyData.canLayAll0 ws = true → DpAll K H vs ws
  | [], vs, h, _ => by cases h; exact .nil
  | w :: ws, vs, h, c => by
    cases h with
    | cons h1 h2 =>
      have c' : w.canLay0 = true ∧ PyData.canLayAll0 ws = true := by simpa [PyData.canLayAll0] using c
      exact .cons (Im.dp w _ h1 c'.1) (Ims.dp ws _ h2 c'.2)
end
theorem bo_dp {hT : Addr → Prop} {w : W} {v : V} (h : Bo K hT hid H w v) (c : w.canLay0 = true) : Dp K H v w := by
  rcases h with h | ⟨a, e, _, h⟩
  · exact Im.dp w v h c
  · subst e
    rcases h with ⟨ws, vs, e', h2, h3⟩ | ⟨_, _, e', _⟩ | ⟨_, _, e', _⟩
    · subst e'; exact .lst (.inl (.inl h2)) (Ims.dp ws _ h3 (by simpa [PyData.canLay0] using c))
    · subst e'; simp [PyData.canLay0] at c
    · subst e'; simp [PyData.canLay0] at c
end
def wEq (a b : W) : Option W := if (SeqAt.shaped a && SeqAt.shaped b) = true then some (.bool (PyData.eqv a b)) else none
def wNe (a b : W) : Option W := if (SeqAt.shaped a && SeqAt.shaped b) = true then some (.bool (!PyData.eqv a b)) else none
theorem ok_eq {K : PySem.W.Frag} : BinOk K (rEqD K) wEq .bor := by
  intro hT hid H x y a b z Q hd ha hb hz q
  unfold wEq at hz
  obtain ⟨c, e⟩ := if_some hz
  subst e
  rw [Bool.and_eq_true] at c
  exact ⟨a, b, bo_dp ha (SeqAt.canLay_of_shaped c.1), bo_dp hb (SeqAt.canLay_of_shaped c.2), c.1, c.2, q _ _ Sm.refl (.inl (.bl _))⟩
theorem ok_ne {K : PySem.W.Frag} : BinOk K (rNeD K) wNe .bor := by
  intro hT hid H x y a b z Q hd ha hb hz q
  unfold wNe at hz
  obtain ⟨c, e⟩ := if_some hz
  subst e
  rw [Bool.and_eq_true] at c
  exact ⟨a, b, bo_dp ha (SeqAt.canLay_of_shaped c.1), bo_dp hb (SeqAt.canLay_of_shaped c.2), c.1, c.2, q _ _ Sm.refl (.inl (.bl _))⟩
/-- is True, is False -/
def wIsB (neg : Bool) : W → W → Option W
  | .bool a, .bool b => some (.bool (if neg then !decide (a = b) else decide (a = b)))
  | _, _ => none
theorem op_is_bl {X : Cx} : OpR X (compareOp .Is) (fun x y H Q => ∃ a b, x = .bl a ∧ y = .bl b ∧ Q (.bl (decide (a = b))) H) := by
  intro pins s σ H x y v u Q I rx ry h
  obtain ⟨a, b, rfl, rfl, q⟩ := h
  cases rx
  cases ry
  exact PyProof.Rows.is_bool ⟨.bl _, H, I, by cases a <;> cases b <;> rfl, q⟩
theorem ok_isB {K : PySem.W.Frag} : BinOk K (fun x y H Q => ∃ a b, x = .bl a ∧ y = .bl b ∧ Q (.bl (decide (a = b))) H) (wIsB false) .bor := by
  intro hT hid H x y a b z Q hd ha hb hz q
  cases a <;> cases b <;> simp only [wIsB] at hz <;> cases hz
  rw [bl_of ha, bl_of hb]
  exact ⟨_, _, rfl, rfl, q _ _ Sm.refl (.inl (.bl _))⟩
theorem ok_notB {K : PySem.W.Frag} : BinOk K (fun x y H Q => ∃ a b, x = .bl a ∧ y = .bl b ∧ Q (.bl (!decide (a = b))) H) (wIsB true) .bor := by
  intro hT hid H x y a b z Q hd ha hb hz q
  cases a <;> cases b <;> simp only [wIsB] at hz <;> cases hz
  rw [bl_of ha, bl_of hb]
  exact ⟨_, _, rfl, rfl, q _ _ Sm.refl (.inl (.bl _))⟩

/-! ### items, slices -/
section
variable {X : Cx} {cl : Nat → Addr} {c : Cf} {m : Mo} {e a b : Expr} {s sa sb : Ex} {E : XK} {pos : Pos}
def IxOk (K : PySem.W.Frag) (r : R2) (f : W → W → Option W) : Prop := ∀ (hT hid : Addr → Prop) (H : Hp) (x y : V) (a b z : W) (Q : VK), Rdb K hT hid H a x → Bo K hT hid H b y → f a b = some z → (∀ v, Im K hid H z v → Q v H) → r x y H Q
theorem ix_core {f : W → W → Option W} {r : R2} (hf : IxOk X.K r f) : ∀ σ H Q, tEx X.K cl c .safe (eBin f sa sb) E σ H Q → tOp r (tEx X.K cl c .rd sa E) (tEx X.K cl c .bor sb E) σ H Q := by
  intro σ H Q ⟨hT, hid, tp, ρ, t, S, o⟩
  refine ⟨hT, hid, tp, ρ, t, S, o.seq later_pw fun x t1 v1 H1 e1 m1 k1 p1 o1 => ?_⟩
  have S1 := S.sm m1 k1
  refine ⟨hT, hid, tp, ρ, t1, S1, o1.seq later_pw fun y t2 v2 H2 e2 m2 k2 p2 o2 => ?_⟩
  obtain ⟨z, ez, o2⟩ := rOf_ok o2
  exact hf hT hid H2 v1 v2 x y z Q (rdb_mono S1 p1 m2) p2 ez fun v p => o2.ok_ k2 Sm.refl p
def wIdx : W → W → Option W
  | .tuple xs, .int i => atI xs i
  | .list xs, .int i => atI xs i
  | _, _ => none
theorem ims_at {K : PySem.W.Frag} {hid : Addr → Prop} {H : Hp} {ws : List W} {vs : List V} {i : Int} {w : W} (h : Ims K hid H ws vs) (e : atI ws i = some w) : ∃ v, atI vs i = some v ∧ Im K hid H w v := by
  unfold atI at e ⊢
  rw [h.length] at e
  cases q : ixN vs.length i with
  | none => rw [q] at e; cases e
  | some j =>
    rw [q] at e
    obtain ⟨v, e1, e2⟩ := h.get (i := j) (w := w) e
    exact ⟨v, e1, e2⟩
theorem ok_idx {K : PySem.W.Frag} : IxOk K (rIx K) wIdx := by
  intro hT hid H x y a b z Q ha hb hz q
  cases a <;> cases b <;> simp only [wIdx] at hz <;> try cases hz
  · obtain ⟨p, vs, rfl, h1, h2⟩ := rd_lst ha
    rw [bo_int hb]
    obtain ⟨v, e1, e2⟩ := ims_at h2 hz
    exact .inl ⟨p, vs, _, v, rfl, rfl, h1, e1, q v e2⟩
  · obtain ⟨p, vs, rfl, h1, h2⟩ := rd_tup ha
    rw [bo_int hb]
    obtain ⟨v, e1, e2⟩ := ims_at h2 hz
    exact .inr (.inl ⟨p, vs, _, v, rfl, rfl, h1, e1, q v e2⟩)
theorem ev_idx (ha : EX X cl c .rd a sa E) (hb : EX X cl c .bor b sb E) (hs : PlainIx b) : EX X cl c .safe (.Subscript a b pos) (eBin wIdx sa sb) E :=
  PE_imp (pe_ix ix_seq ha hb hs) (ix_core ok_idx)

abbrev Eo := Sl → Tp → Rs (Option Int)
def oNone : Eo := fun _ t => .ok none t
def wI : W → Option (Option Int)
  | .int i => some (some i)
  | _ => none
def oSome (s : Ex) : Eo := fun ρ t => (s ρ t).bind fun w t => rOf (wI w) t
def PO' : Hp → Option Int → Hp → Option Int → Prop := fun _ b _ v => v = b
theorem later_po {tp : Option (Addr × Addr)} : Later tp PO' := fun _ _ _ _ _ _ p => p
def tOx (K : PySem.W.Frag) (cl : Nat → Addr) (c : Cf) (s : Eo) (E : XK) : TO := fun σ H Q =>
  ∃ hT hid tp ρ t, StE K c hT hid tp ρ σ H t ∧ Out cl tp E H (s ρ t) PO' Q
abbrev OX (X : Cx) (cl : Nat → Addr) (c : Cf) (e : Option Expr) (s : Eo) (E : XK) : Prop := PO X e (tOx X.K cl c s E)
theorem PO_imp {e : Option Expr} {t t' : TO} (h : PO X e t) (i : ∀ σ H Q, t' σ H Q → t σ H Q) : PO X e t' := ⟨fun pins s σ H Q I q => h.run pins s σ H Q I (i σ H Q q)⟩
theorem ox_none : OX X cl c none oNone E := PO_imp po_none fun σ H Q ⟨hT, hid, tp, ρ, t, S, o⟩ => Out.ok_ o S.tap Sm.refl rfl
theorem ox_some (h : EX X cl c .bor e s E) : OX X cl c (some e) (oSome s) E := PO_imp (po_some h) fun σ H Q ⟨hT, hid, tp, ρ, t, S, o⟩ =>
  ⟨hT, hid, tp, ρ, t, S, o.seq later_po fun w t1 v1 H1 e1 m1 k1 p1 o1 => by
    obtain ⟨z, ez, o1⟩ := rOf_ok o1
    cases w <;> simp only [wI] at ez <;> cases ez
    exact ⟨_, bo_int p1, Out.ok_ o1 k1 Sm.refl rfl⟩⟩
def cutL {α : Type} (xs : List α) (lo hi : Option Int) : List α := (xs.drop (HT.sIx xs.length 0 lo)).take (HT.sIx xs.length xs.length hi - HT.sIx xs.length 0 lo)
def wSlice (lo hi : Option Int) : W → Option W
  | .tuple xs => some (.tuple (cutL xs lo hi))
  | .list xs => some (.list (cutL xs lo hi))
  | _ => none
def eSlice (s : Ex) (lo hi : Eo) : Ex := fun ρ t => (s ρ t).bind fun w t => (lo ρ t).bind fun l t => (hi ρ t).bind fun h t => rOf (wSlice l h w) t
def rSlW (K : PySem.W.Frag) : V → Option Int → Option Int → Hp → VK → Prop := fun x lo hi H Q => rSlA K x lo hi H Q ∨ rSlL K x lo hi H Q
theorem cut_ims {K : PySem.W.Frag} {hid : Addr → Prop} {H : Hp} {ws : List W} {vs : List V} {lo hi : Option Int} (h : Ims K hid H ws vs) : Ims K hid H (cutL ws lo hi) (cutV vs lo hi) := by
  unfold cutL cutV
  rw [h.length]
  exact (h.drop _).take _
theorem cut_all {α : Type} {xs : List α} {lo hi : Option Int} (h : HT.sIx xs.length 0 lo = 0 ∧ HT.sIx xs.length xs.length hi = xs.length) : cutL xs lo hi = xs := by
  unfold cutL
  rw [h.1, h.2, List.drop_zero, Nat.sub_zero, List.take_length]
theorem ev_slice {lo hi : Option Expr} {sl sh : Eo} {p2 : Pos} (he : EX X cl c .rd e s E) (hl : OX X cl c lo sl E) (hh : OX X cl c hi sh E) : EX X cl c .safe (.Subscript e (.Slice lo hi none p2) pos) (eSlice s sl sh) E :=
  PE_imp (pe_slice (r := rSlW X.K) (sl_tupA.or sl_list) he hl hh) fun σ H Q ⟨hT, hid, tp, ρ, t, S, o⟩ => by
    refine ⟨hT, hid, tp, ρ, t, S, o.seq later_pw fun w t1 v1 H1 e1 m1 k1 p1 o1 => ?_⟩
    have S1 := S.sm m1 k1
    refine ⟨hT, hid, tp, ρ, t1, S1, o1.seq later_pw fun l t2 l' H2 e2 m2 k2 p2 o2 => ?_⟩
    have S2 := S1.sm m2 k2
    have el : l' = l := p2
    subst el
    refine ⟨hT, hid, tp, ρ, t2, S2, o2.seq later_pw fun h t3 h' H3 e3 m3 k3 p3 o3 => ?_⟩
    have S3 := S2.sm m3 k3
    have eh : h' = h := p3
    subst eh
    obtain ⟨z, ez, o3⟩ := rOf_ok o3
    have p1' := rdb_mono S2 (rdb_mono S1 p1 m2) m3
    cases w <;> simp only [wSlice] at ez <;> cases ez
    · obtain ⟨a, vs, rfl, h1, h2⟩ := rd_lst p1'
      refine .inr ⟨a, vs, rfl, h1, fun p hp => Out.ok_ o3 k3 (Sm.new hp) ?_⟩
      exact .lst (fun z => S3.dom p z (Nw.of hp)) upd_same ((im_new hp fun a z => .inl z).2 _ _ (cut_ims h2))
    · obtain ⟨a, vs, rfl, h1, h2⟩ := rd_tup p1'
      refine .inl ⟨a, vs, rfl, h1, fun hw => Out.ok_ o3 k3 Sm.refl ?_, fun _ p hp => Out.ok_ o3 k3 (Sm.new hp) ?_⟩
      · rw [← h2.length] at hw
        rw [cut_all hw]; exact .tup h1 h2
      · exact .tup (.inl (.inl upd_same)) ((im_new hp fun a z => .inl z).2 _ _ (cut_ims h2))
end

/-! ### built-in functions -/
section
variable {K : PySem.W.Frag}
theorem bos1 {hT hid : Addr → Prop} {H : Hp} {w : W} {vs : List V} (h : Bos K hT hid H [w] vs) : ∃ v, vs = [v] ∧ Rdb K hT hid H w v := by
  cases h with
  | cons h1 h2 => cases h2; exact ⟨_, rfl, h1⟩
theorem bos2 {hT hid : Addr → Prop} {H : Hp} {w w' : W} {vs : List V} (h : Bos K hT hid H [w, w'] vs) : ∃ v v', vs = [v, v'] ∧ Rdb K hT hid H w v ∧ Rdb K hT hid H w' v' := by
  cases h with
  | cons h1 h2 =>
    cases h2 with
    | cons h3 h4 => cases h4; exact ⟨_, _, rfl, h1, h3⟩
def gLen : List W → Option W
  | [.tuple xs] => some (.int xs.length)
  | [.list xs] => some (.int xs.length)
  | _ => none
theorem ok_len : CallOk K (fun xs H Q => ∃ p ys, xs = [.ref p] ∧ (SqL K H p ys ∨ SqT K H p ys) ∧ Q (.int ys.length) H) gLen .safe := by
  intro hT hid H vs ws z Q hd h hz q
  unfold gLen at hz
  split at hz
  · obtain ⟨v, rfl, r⟩ := bos1 h
    obtain ⟨a, ys, rfl, h1, h2⟩ := rd_tup r
    cases hz
    rw [h2.length] at q
    exact ⟨a, ys, rfl, .inr h1, q _ _ Sm.refl (.int _)⟩
  · obtain ⟨v, rfl, r⟩ := bos1 h
    obtain ⟨a, ys, rfl, h1, h2⟩ := rd_lst r
    cases hz
    rw [h2.length] at q
    exact ⟨a, ys, rfl, .inl h1, q _ _ Sm.refl (.int _)⟩
  · cases hz
def gAbs : List W → Option W
  | [.int i] => some (.int (if i < 0 then -i else i))
  | _ => none
theorem ok_abs : CallOk K (fun xs H Q => ∃ i, xs = [.int i] ∧ Q (.int (if i < 0 then -i else i)) H) gAbs .safe := by
  intro hT hid H vs ws z Q hd h hz q
  unfold gAbs at hz
  split at hz
  · obtain ⟨v, rfl, r⟩ := bos1 h
    cases hz
    rw [rd_int r]
    exact ⟨_, rfl, q _ _ Sm.refl (.int _)⟩
  · cases hz
def gInt : List W → Option W
  | [.int i] => some (.int i)
  | _ => none
theorem ok_int : CallOk K (fun xs H Q => (∃ i, xs = [.int i] ∧ Q (.int i) H) ∨ ∃ k, xs = [.bl k] ∧ Q (.int (if k then 1 else 0)) H) gInt .safe := by
  intro hT hid H vs ws z Q hd h hz q
  unfold gInt at hz
  split at hz
  · obtain ⟨v, rfl, r⟩ := bos1 h
    cases hz
    rw [rd_int r]
    exact .inl ⟨_, rfl, q _ _ Sm.refl (.int _)⟩
  · cases hz
def gMin2 : List W → Option W
  | [.int i, .int j] => some (.int (if j < i then j else i))
  | _ => none
theorem ok_min2 : CallOk K (fun xs H Q => ∃ i j, xs = [.int i, .int j] ∧ Q (.int (if j < i then j else i)) H) gMin2 .safe := by
  intro hT hid H vs ws z Q hd h hz q
  unfold gMin2 at hz
  split at hz
  · obtain ⟨v, v', rfl, r, r'⟩ := bos2 h
    cases hz
    rw [rd_int r, rd_int r']
    exact ⟨_, _, rfl, q _ _ Sm.refl (.int _)⟩
  · cases hz
def gMax2 : List W → Option W
  | [.int i, .int j] => some (.int (if j > i then j else i))
  | _ => none
theorem ok_max2 : CallOk K (fun xs H Q => ∃ i j, xs = [.int i, .int j] ∧ Q (.int (if j > i then j else i)) H) gMax2 .safe := by
  intro hT hid H vs ws z Q hd h hz q
  unfold gMax2 at hz
  split at hz
  · obtain ⟨v, v', rfl, r, r'⟩ := bos2 h
    cases hz
    rw [rd_int r, rd_int r']
    exact ⟨_, _, rfl, q _ _ Sm.refl (.int _)⟩
  · cases hz
def gTuple : List W → Option W
  | [.tuple xs] => some (.tuple xs)
  | [.list xs] => some (.tuple xs)
  | _ => none
theorem ok_tuple : CallOk K (fun xs H Q => ∃ p ys, xs = [.ref p] ∧ ((SqL K H p ys ∧ ∀ l, H l = none → Q (.ref l) (upd H l (.tup ys))) ∨ (SqT K H p ys ∧ Q (.ref p) H))) gTuple .safe := by
  intro hT hid H vs ws z Q hd h hz q
  unfold gTuple at hz
  split at hz
  · obtain ⟨v, rfl, r⟩ := bos1 h
    obtain ⟨a, ys, rfl, h1, h2⟩ := rd_tup r
    cases hz
    exact ⟨a, ys, rfl, .inr ⟨h1, q _ _ Sm.refl (.tup h1 h2)⟩⟩
  · obtain ⟨v, rfl, r⟩ := bos1 h
    obtain ⟨a, ys, rfl, h1, h2⟩ := rd_lst r
    cases hz
    exact ⟨a, ys, rfl, .inl ⟨h1, fun p hp => q _ _ (Sm.new hp) (.tup (.inl (.inl upd_same)) ((im_new hp fun a z => .inl z).2 _ _ h2))⟩⟩
  · cases hz
def gList : List W → Option W
  | [.tuple xs] => some (.list xs)
  | [.list xs] => some (.list xs)
  | _ => none
theorem ok_list : CallOk K (fun xs H Q => ∃ p ys, xs = [.ref p] ∧ (SqL K H p ys ∨ SqT K H p ys) ∧ ∀ l, H l = none → Q (.ref l) (upd H l (.lst ys))) gList .fresh := by
  intro hT hid H vs ws z Q hd h hz q
  unfold gList at hz
  split at hz
  · obtain ⟨v, rfl, r⟩ := bos1 h
    obtain ⟨a, ys, rfl, h1, h2⟩ := rd_tup r
    cases hz
    exact ⟨a, ys, rfl, .inr h1, fun p hp => q _ _ (Sm.new hp) (fe_lst hp h2)⟩
  · obtain ⟨v, rfl, r⟩ := bos1 h
    obtain ⟨a, ys, rfl, h1, h2⟩ := rd_lst r
    cases hz
    exact ⟨a, ys, rfl, .inl h1, fun p hp => q _ _ (Sm.new hp) (fe_lst hp h2)⟩
  · cases hz
def wBs : List W → Option (List Bool)
  | [] => some []
  | .bool b :: ws => (wBs ws).map (b :: ·)
  | _ => none
theorem wBs_ims {hid : Addr → Prop} {H : Hp} : ∀ {ws : List W} {vs : List V} {bs : List Bool}, Ims K hid H ws vs → wBs ws = some bs → vs = bs.map V.bl
  | [], _, _, h, e => by cases h; cases e; rfl
  | w :: ws, _, bs, h, e => by
    cases h with
    | cons h1 h2 =>
      cases w <;> simp only [wBs] at e <;> try cases e
      rename_i b
      cases q : wBs ws with
      | none => rw [q] at e; cases e
      | some bs' =>
        rw [q] at e
        cases e
        cases h1
        rw [wBs_ims h2 q]; rfl
def gAll : List W → Option W
  | [.list xs] => (wBs xs).map fun bs => .bool (bs.all id)
  | _ => none
def gAny : List W → Option W
  | [.list xs] => (wBs xs).map fun bs => .bool (bs.any id)
  | _ => none
theorem ok_all : CallOk K (rAll K) gAll .safe := by
  intro hT hid H vs ws z Q hd h hz q
  unfold gAll at hz
  split at hz
  · obtain ⟨v, rfl, r⟩ := bos1 h
    obtain ⟨a, ys, rfl, h1, h2⟩ := rd_lst r
    rename_i xs
    cases eb : wBs xs with
    | none => rw [eb] at hz; cases hz
    | some bs =>
      rw [eb] at hz
      cases hz
      have e := wBs_ims h2 eb
      subst e
      exact ⟨a, bs, rfl, h1, q _ _ Sm.refl (.bl _)⟩
  · cases hz
theorem ok_any : CallOk K (rAny K) gAny .safe := by
  intro hT hid H vs ws z Q hd h hz q
  unfold gAny at hz
  split at hz
  · obtain ⟨v, rfl, r⟩ := bos1 h
    obtain ⟨a, ys, rfl, h1, h2⟩ := rd_lst r
    rename_i xs
    cases eb : wBs xs with
    | none => rw [eb] at hz; cases hz
    | some bs =>
      rw [eb] at hz
      cases hz
      have e := wBs_ims h2 eb
      subst e
      exact ⟨a, bs, rfl, h1, q _ _ Sm.refl (.bl _)⟩
  · cases hz
def wIs : List W → Option (List Int)
  | [] => some []
  | .int b :: ws => (wIs ws).map (b :: ·)
  | _ => none
theorem wIs_ims {hid : Addr → Prop} {H : Hp} : ∀ {ws : List W} {vs : List V} {bs : List Int}, Ims K hid H ws vs → wIs ws = some bs → vs = bs.map V.int
  | [], _, _, h, e => by cases h; cases e; rfl
  | w :: ws, _, bs, h, e => by
    cases h with
    | cons h1 h2 =>
      cases w <;> simp only [wIs] at e <;> try cases e
      rename_i b
      cases q : wIs ws with
      | none => rw [q] at e; cases e
      | some bs' =>
        rw [q] at e
        cases e
        cases h1
        rw [wIs_ims h2 q]; rfl
def gSum : List W → Option W
  | [.list xs] => (wIs xs).map fun bs => .int bs.sum
  | _ => none
theorem ok_sum : CallOk K (rSum K) gSum .safe := by
  intro hT hid H vs ws z Q hd h hz q
  unfold gSum at hz
  split at hz
  · obtain ⟨v, rfl, r⟩ := bos1 h
    obtain ⟨a, ys, rfl, h1, h2⟩ := rd_lst r
    rename_i xs
    cases eb : wIs xs with
    | none => rw [eb] at hz; cases hz
    | some bs =>
      rw [eb] at hz
      cases hz
      have e := wIs_ims h2 eb
      subst e
      exact ⟨a, bs, rfl, h1, q _ _ Sm.refl (.int _)⟩
  · cases hz
end

/-! ### isinstance(x, T) -/
def tyN : W → String
  | .none => "NoneType"
  | .bool _ => "bool"
  | .int _ => "int"
  | .str _ => "str"
  | .list _ => "list"
  | .tuple _ => "tuple"
  | .dict _ => "dict"
def isIn : String → String → Bool
  | "bool", "int" => true
  | a, b => a == b
def noDict : W → Bool
  | .dict _ => false
  | _ => true
def eIsI (T : String) (s : Ex) : Ex := fun ρ t => (s ρ t).bind fun w t => if noDict w = true then .ok (.bool (isIn (tyN w) T)) t else .bad
theorem ty_of {K : PySem.W.Frag} {hT hid : Addr → Prop} {H : Hp} {w : W} {v : V} (h : Bo K hT hid H w v) (nd : noDict w = true) : TyX K H v (.type (tyN w)) := by
  rcases h with h | ⟨a, e, _, h⟩
  · cases h with
    | non => exact .base .non
    | bl b => exact .base (.bl b)
    | int i => exact .base (.int i)
    | str x => exact .base (.str x)
    | tup h1 h2 =>
      rcases h1 with (h1 | ⟨o, h1⟩) | ⟨o, _, _, h1, h3, _⟩
      · exact .base (.tup h1)
      · exact .fTuple h1
      · exact .kTuple h1 h3
    | lst h1 h2 h3 => exact .base (.lst h2)
    | dK h1 h2 h3 => cases nd
    | dT h1 h2 h3 => cases nd
  · subst e
    rcases h with ⟨ws, vs, e', h2, h3⟩ | ⟨_, _, e', h2, _⟩ | ⟨_, _, e', h2, _⟩
    · subst e'; exact .base (.lst h2)
    · subst e'; cases nd
    · subst e'; cases nd
def kitAll (T : String) : Prop := ∀ n ∈ ["NoneType", "bool", "int", "str", "list", "tuple"], kitB n T = some (isIn n T)
theorem tyN_mem {w : W} (nd : noDict w = true) : tyN w ∈ ["NoneType", "bool", "int", "str", "list", "tuple"] := by
  cases w <;> first | simp [tyN]; done | cases nd
theorem kit_tuple : kitAll "tuple" := by unfold kitAll; decide +kernel
theorem kit_int : kitAll "int" := by unfold kitAll; decide +kernel
theorem kit_bool : kitAll "bool" := by unfold kitAll; decide +kernel
theorem kit_str : kitAll "str" := by unfold kitAll; decide +kernel
theorem kit_list : kitAll "list" := by unfold kitAll; decide +kernel
section
variable {X : Cx} {cl : Nat → Addr} {c : Cf} {a : Expr} {sa : Ex} {E : XK}
theorem ev_isi {x y : Str} {T : String} {p q pos : Pos} (hk : kitAll T) (hg : Gl X x) (hm : X.mg x = none) (hv : bootBuiltins x = some (.builtin "isinstance")) (hg2 : Gl X y) (hm2 : X.mg y = none) (hv2 : bootBuiltins y = some (.type T)) (ha : EX X cl c .bor a sa E)
    (hn : x ≠ "__name__") (hdb : (x == ("__debug__" : Str)) = false) (hn2 : y ≠ "__name__") (hdb2 : (y == ("__debug__" : Str)) = false) (he : starEach [a, .Name y q] X.env = (false, eval a X.env) :: starEach [.Name y q] X.env) (he2 : starEach [.Name y q] X.env = [(false, eval (.Name y q) X.env)])
    (hpl : (backTo pos (starEach [.Name y q] X.env)).any (·.1) = false) :
    EX X cl c .bor (.Call (.Name x p) [a, .Name y q] [] pos) (eIsI T sa) E :=
  PE_imp (pe_callB call_isi hg hm hv (pa_cons ha (pa_cons (pe_bltn (v := .ty T) hg2 hm2 hv2 rfl hn2 hdb2) pa_nil he2) he) hn hdb he hpl) fun σ H Q ⟨hT, hid, tp, ρ, t, S, o⟩ => by
    refine ⟨hT, hid, tp, ρ, t, S, o.seq later_pw fun w t1 v1 H1 e1 m1 k1 p1 o1 => ?_⟩
    obtain ⟨nd, o1⟩ := few_ok o1
    exact ⟨v1, .ty T, _, _, _, rfl, .ty T, ty_of p1 nd, kit_ty (hk _ (tyN_mem nd)), Out.ok_ o1 k1 Sm.refl (.inl (.bl _))⟩
end
end Ev

end

section
/-! Ev4: what is walked; targets; comprehensions. -/
namespace Ev
open PySem PySem.Spec PyProof.Rows L2
variable [Tb]

/-! ### slots -/
section
variable {K : PySem.W.Frag} {c : Cf} {hT hid : Addr → Prop} {tp : Option (Addr × Addr)} {ρ : Sl} {σ : L2.St} {H : Hp} {t : Tp}
theorem get_set {α : Type} {l : List (Option α)} {i j : Nat} {x : Option α} {w : α} (h : (l.set i x)[j]? = some (some w)) : (j = i ∧ x = some w ∧ i < l.length) ∨ (j ≠ i ∧ l[j]? = some (some w)) := by
  by_cases e : i = j
  · subst e
    by_cases hl : i < l.length
    · rw [List.getElem?_set_self hl] at h
      exact .inl ⟨rfl, Option.some.inj h, hl⟩
    · rw [List.getElem?_eq_none (by simpa using hl)] at h
      cases h
  · rw [List.getElem?_set_ne e] at h
    exact .inr ⟨fun z => e z.symm, h⟩
/-- a plain slot is stored -/
theorem StE.set {i : Nat} {w : W} {v : V} (S : StE K c hT hid tp ρ σ H t) (hm : i ∉ c.M) (hs : c.scr ≠ some i) (ht : c.tape ≠ some i) (h : Im K hid H w v) : StE K c hT hid tp (ρ.set i (some w)) (σ.set i (some v)) H t := by
  refine ⟨by rw [List.length_set, List.length_set, S.len], fun j w' e n n2 => ?_, fun j w' e n => ?_, fun j w' e n => ?_, fun j k w1 w2 a e1 e2 n1 n2 e3 e4 => ?_, S.dom, S.sub, S.tph, S.tap, fun j e => ?_, S.tbs⟩
  · rcases get_set e with ⟨e1, e2, e3⟩ | ⟨e1, e2⟩
    · subst e1; cases e2
      exact ⟨v, by rw [List.getElem?_set_self (by rw [← S.len]; exact e3)], h⟩
    · obtain ⟨u, h1, h2⟩ := S.im j w' e2 n n2
      exact ⟨u, by rw [List.getElem?_set_ne (fun z => e1 z.symm)]; exact h1, h2⟩
  · rcases get_set e with ⟨e1, e2, e3⟩ | ⟨e1, e2⟩
    · subst e1; exact absurd n hs
    · obtain ⟨a, ns, h1, h2⟩ := S.scr j w' e2 n
      exact ⟨a, ns, by rw [List.getElem?_set_ne (fun z => e1 z.symm)]; exact h1, h2⟩
  · rcases get_set e with ⟨e1, e2, e3⟩ | ⟨e1, e2⟩
    · subst e1; exact absurd n hm
    · obtain ⟨a, h1, h2⟩ := S.own j w' e2 n
      exact ⟨a, by rw [List.getElem?_set_ne (fun z => e1 z.symm)]; exact h1, h2⟩
  · have nj : i ≠ j := fun z => hm (z ▸ n1)
    have nk : i ≠ k := fun z => hm (z ▸ n2)
    rw [List.getElem?_set_ne nj] at e1 e3
    rw [List.getElem?_set_ne nk] at e2 e4
    exact S.sep j k w1 w2 a e1 e2 n1 n2 e3 e4
  · obtain ⟨a, b, h1, h2⟩ := S.slot j e
    exact ⟨a, b, h1, by rw [List.getElem?_set_ne (fun z => ht (by rw [z]; exact e))]; exact h2⟩
def wipeW (ρ : Sl) : List Nat → Sl
  | [] => ρ
  | v :: vs => (wipeW ρ vs).set v none
theorem StE.clear {i : Nat} (S : StE K c hT hid tp ρ σ H t) (ht : c.tape ≠ some i) : StE K c hT hid tp (ρ.set i none) (σ.set i none) H t := by
  have key : ∀ {j : Nat} {w : W}, (ρ.set i none)[j]? = some (some w) → j ≠ i ∧ ρ[j]? = some (some w) := fun {j w} e => by
    rcases get_set e with ⟨_, e2, _⟩ | e2
    · cases e2
    · exact e2
  refine ⟨by rw [List.length_set, List.length_set, S.len], fun j w' e n n2 => ?_, fun j w' e n => ?_, fun j w' e n => ?_, fun j k w1 w2 a e1 e2 n1 n2 e3 e4 => ?_, S.dom, S.sub, S.tph, S.tap, fun j e => ?_, S.tbs⟩
  · obtain ⟨e1, e2⟩ := key e
    obtain ⟨u, h1, h2⟩ := S.im j w' e2 n n2
    exact ⟨u, by rw [List.getElem?_set_ne (fun z => e1 z.symm)]; exact h1, h2⟩
  · obtain ⟨e1, e2⟩ := key e
    obtain ⟨a, ns, h1, h2⟩ := S.scr j w' e2 n
    exact ⟨a, ns, by rw [List.getElem?_set_ne (fun z => e1 z.symm)]; exact h1, h2⟩
  · obtain ⟨e1, e2⟩ := key e
    obtain ⟨a, h1, h2⟩ := S.own j w' e2 n
    exact ⟨a, by rw [List.getElem?_set_ne (fun z => e1 z.symm)]; exact h1, h2⟩
  · obtain ⟨nj, e1⟩ := key e1
    obtain ⟨nk, e2⟩ := key e2
    rw [List.getElem?_set_ne (fun z => nj z.symm)] at e3
    rw [List.getElem?_set_ne (fun z => nk z.symm)] at e4
    exact S.sep j k w1 w2 a e1 e2 n1 n2 e3 e4
  · obtain ⟨a, b, h1, h2⟩ := S.slot j e
    exact ⟨a, b, h1, by rw [List.getElem?_set_ne (fun z => ht (by rw [z]; exact e))]; exact h2⟩
theorem StE.wipe (S : StE K c hT hid tp ρ σ H t) : ∀ vs : List Nat, (∀ i ∈ vs, c.tape ≠ some i) → StE K c hT hid tp (wipeW ρ vs) (L2.wipe σ vs) H t
  | [], _ => S
  | v :: vs, h => StE.clear (StE.wipe S vs fun i hi => h i (List.mem_cons_of_mem _ hi)) (h v List.mem_cons_self)
/-- more is hidden: what is new -/
theorem StE.hide (S : StE K c hT hid tp ρ σ H t) {hid' : Addr → Prop} {H' : Hp} {t' : Tp} (h1 : ∀ a, hid a → hid' a) (h2 : ∀ a, hid' a → hid a ∨ Nw H a) (m : Sm (tps tp) H H') (k : TpOk tp H' t') (h3 : ∀ a, hid' a → ¬ Nw H' a) : StE K c hT hid' tp ρ σ H' t' := by
  have kp : Kp hid H H' := m.kp fun x hx => S.sub x (S.tph x hx)
  have S' := S.sm m k
  refine ⟨S.len, fun i w e n n2 => ?_, fun i w e n => ?_, fun i w e n => ?_, S.sep, h3, fun a z => h1 a (S.sub a z), S.tph, k, S.slot, m.tab S.tbs⟩
  · obtain ⟨v, e1, h⟩ := S.im i w e n n2
    exact ⟨v, e1, Im.mono kp h2 _ _ h⟩
  · obtain ⟨a, ns, e1, e2, h⟩ := S.scr i w e n
    exact ⟨a, ns, e1, e2, h.mono h2 fun o n q nt => m.obj a o (fun z => n (S.sub a (S.tph a z))) q nt⟩
  · obtain ⟨a, e1, y1, y2, y3⟩ := S.own i w e n
    exact ⟨a, e1, h1 a y1, y2, y3.mono kp h2 fun o e n => m.obj a o (fun z => y2 (S.tph a z)) e n⟩
end

/-! ### what is walked -/
structure SrcG (K : PySem.W.Frag) (hx hid : Addr → Prop) (H0 : Hp) (items : List W) (J : It) (G : Hp → Prop) : Prop where
  here : G H0
  go : ∀ i Ha, i < items.length → G Ha → J.go i Ha
  stop : ∀ Ha, G Ha → J.stop items.length Ha
  stay : ∀ hx' : Addr → Prop, (∀ a, hx' a → hx a ∨ Nw H0 a) → ∀ Ha Hb, Sm hx' Ha Hb → G Ha → G Hb
  yld : ∀ hid' : Addr → Prop, (∀ a, hid' a → hid a ∨ Nw H0 a) → ∀ i Ha x Hb, i < items.length → G Ha → Sm hid' H0 Ha → J.yld i Ha x Hb → Sm (fun _ => False) Ha Hb ∧ ∃ w, items[i]? = some w ∧ Im K hid' Hb w x
def SrcOk (K : PySem.W.Frag) (hx hid : Addr → Prop) (H0 : Hp) (items : List W) (J : It) : Prop := ∃ G, SrcG K hx hid H0 items J G
/-- b: it may not be one that the frame owns -/
def PSrc (K : PySem.W.Frag) (b : Bool) (hT hid : Addr → Prop) : Hp → List W → Hp → It → Prop := fun _ items H' J => SrcOk K (if b = true then hid else hT) hid H' items J
theorem later_src {K : PySem.W.Frag} {b : Bool} {hT hid : Addr → Prop} {tp : Option (Addr × Addr)} : Later tp (PSrc K b hT hid) := fun _ _ _ _ _ _ p => p
def tSrc (K : PySem.W.Frag) (cl : Nat → Addr) (c : Cf) (b : Bool) (s : Exs) (E : XK) : TI := fun σ H R =>
  ∃ hT hid tp ρ t, StE K c hT hid tp ρ σ H t ∧ Out cl tp E H (s ρ t) (PSrc K b hT hid) R
abbrev IX (X : Cx) (cl : Nat → Addr) (c : Cf) (b : Bool) (tg e : Expr) (s : Exs) (E : XK) : Prop := PI X tg e (tSrc X.K cl c b s E)
theorem PI_imp {X : Cx} {tg e : Expr} {t t' : TI} (h : PI X tg e t) (i : ∀ σ H R, t' σ H R → t σ H R) : PI X tg e t' := ⟨fun pins s σ H R I q => h.run pins s σ H R I (i σ H R q)⟩
theorem kp_of {hid hid' : Addr → Prop} {H0 Ha : Hp} (m : Sm hid' H0 Ha) (h : ∀ a, hid' a → hid a ∨ Nw H0 a) : Kp hid H0 Ha := by
  refine ⟨fun a vs n e => m.obj a _ (fun z => ?_) e fun ps z => (by cases z), fun a u n d r => ?_, m.tup⟩
  · rcases h a z with q | q
    · exact n q
    · exact Nw.not e (fun ps z => by cases z) q
  · have nh : ¬ hid' a := fun z => by
      rcases h a z with q | q
      · exact n q
      · exact Rd_ne r (fun ps z => by subst z; exact d) q
    exact Rd_exact r (fun ps z => by subst z; exact d) fun o e nt => m.obj a o nh e nt
/-- items of a list or tuple -/
def wSeq : W → Option (List W)
  | .tuple xs => some xs
  | .list xs => some xs
  | _ => none
def sSeq (s : Ex) : Exs := fun ρ t => (s ρ t).bind fun w t => rOf (wSeq w) t
section
variable {X : Cx} {cl : Nat → Addr} {c : Cf} {e a b : Expr} {s sa sb : Ex} {E : XK} {pos : Pos} {tg : Expr} {bb : Bool}
def iSeqx (K : PySem.W.Frag) (tl : TE) : TI := fun σ H R => tl σ H fun x H1 => ∃ b a, x = .ref a ∧ (∃ xs, Sqx K b H1 a xs) ∧ R (if b = true then Itt K a else Itl K a) H1
theorem pi_seqx {l : Expr} {tl : TE} (hl : PE X l tl) : PI X tg l (iSeqx X.K tl) := by
  refine ⟨fun pins s σ H R I h => ?_⟩
  refine thn (hl.run pins s σ H _ I h) fun v s1 ⟨x, H1, I1, r1, q1⟩ => ?_
  obtain ⟨b, a, e, ⟨xs, hq⟩, q⟩ := q1
  subst e
  cases r1
  cases b with
  | false =>
    obtain ⟨its, rv, p, hz⟩ := I1.list hq
    refine wpAny_pyIter_list p.isList ?_
    refine ⟨s1.heap.objs.size, [s1.heap.objs.size], _, _, H1, rfl, I1.kept (t' := s1.toks) fun b o e => Heap.get?_push_of_some _ e, turn_list a _, ⟨_, Heap.get?_push_size _ rfl, rfl, rfl⟩, fun b hb => ?_, q⟩
    have e : b = s1.heap.objs.size := by simpa using hb
    subst e
    exact I1.fpOk (Nat.le_refl _) (I1.hok.fresh (Nat.le_refl _))
  | true =>
    obtain ⟨its, rv, p, hz⟩ := I1.tuple hq
    refine wpAny_pyIter_tuple (show s1.heap.IsTuple a its.toArray from p) ?_
    refine ⟨s1.heap.objs.size, [s1.heap.objs.size], _, _, H1, rfl, I1.kept (t' := s1.toks) fun b o e => Heap.get?_push_of_some _ e, turn_tuple a _, ⟨_, Heap.get?_push_size _ rfl, rfl, rfl⟩, fun b hb => ?_, q⟩
    have e : b = s1.heap.objs.size := by simpa using hb
    subst e
    exact I1.fpOk (Nat.le_refl _) (I1.hok.fresh (Nat.le_refl _))

end
/-- a list or a tuple that stays: what says where it lies -/
structure Sts (K : PySem.W.Frag) (hx : Addr → Prop) (H0 : Hp) (b : Bool) (a : Addr) (vs : List V) (G : Hp → Prop) : Prop where
  here : G H0
  sq : ∀ Ha, G Ha → Sqx K b Ha a vs
  stay : ∀ hx' : Addr → Prop, (∀ x, hx' x → hx x ∨ Nw H0 x) → ∀ Ha Hb, Sm hx' Ha Hb → G Ha → G Hb
theorem sts_tup {K : PySem.W.Frag} {hx : Addr → Prop} {H0 : Hp} {a : Addr} {vs : List V} (h : SqT K H0 a vs) : Sts K hx H0 true a vs (fun Ha => SqT K Ha a vs) :=
  ⟨h, fun _ h => h, fun hx' _ Ha Hb m h => by
    rcases h with h | h
    · exact .inl (m.tup _ _ h)
    · exact .inr h⟩
theorem sts_lst {K : PySem.W.Frag} {hx : Addr → Prop} {H0 : Hp} {a : Addr} {vs : List V} (n : ¬ hx a) (h : H0 a = some (.lst vs)) : Sts K hx H0 false a vs (fun Ha => Ha a = some (.lst vs)) :=
  ⟨h, fun _ h => .inl (.inl h), fun hx' hh Ha Hb m e => m.obj a _ (fun z => by
    rcases hh a z with q | q
    · exact n q
    · exact Nw.not h (fun ps z => by cases z) q) e fun ps z => by cases z⟩
theorem sts_frz {K : PySem.W.Frag} {hx : Addr → Prop} {H0 : Hp} {a : Addr} {vs : List V} {o : Obj} (n : ¬ hx a) (h : H0 a = some (.frz o (.lst vs))) : Sts K hx H0 false a vs (fun Ha => Ha a = some (.frz o (.lst vs))) :=
  ⟨h, fun _ h => .inl (.inr ⟨o, h⟩), fun hx' hh Ha Hb m e => m.obj a _ (fun z => by
    rcases hh a z with q | q
    · exact n q
    · exact Nw.not h (fun ps z => by cases z) q) e fun ps z => by cases z⟩
theorem sts_kl {K : PySem.W.Frag} {hx : Addr → Prop} {H0 : Hp} {a : Addr} {vs : List V} (h : KL K a vs) : Sts K hx H0 false a vs (fun _ => True) :=
  ⟨trivial, fun _ _ => .inr h, fun _ _ _ _ _ _ => trivial⟩
/-- of a safe value (hx := hid), of a readable one (hx := hT) -/
theorem sts_safe {K : PySem.W.Frag} {hid : Addr → Prop} {H0 : Hp} {w : W} {v : V} {items : List W} (h : Im K hid H0 w v) (e : wSeq w = some items) : ∃ b a vs G, v = .ref a ∧ Ims K hid H0 items vs ∧ Sts K hid H0 b a vs G := by
  cases h with
  | tup h1 h2 => cases e; exact ⟨true, _, _, _, rfl, h2, sts_tup h1⟩
  | lst h1 h2 h3 => cases e; exact ⟨false, _, _, _, rfl, h3, sts_lst h1 h2⟩
  | _ => cases e
theorem sts_rd {K : PySem.W.Frag} {hT hid : Addr → Prop} {H0 : Hp} {w : W} {v : V} {items : List W} (hs : ∀ a, hT a → hid a) (h : Rdb K hT hid H0 w v) (e : wSeq w = some items) : ∃ b a vs G, v = .ref a ∧ Ims K hid H0 items vs ∧ Sts K hT H0 b a vs G := by
  have weak : ∀ {b a vs G}, Sts K hid H0 b a vs G → Sts K hT H0 b a vs G := fun s => ⟨s.here, s.sq, fun hx' hh => s.stay hx' fun x z => (hh x z).imp (hs x) id⟩
  rcases h with (h | ⟨a, ev, n, h⟩) | ⟨a, ns, ev, ew, h⟩
  · obtain ⟨b, a, vs, G, e1, e2, e3⟩ := sts_safe h e
    exact ⟨b, a, vs, G, e1, e2, weak e3⟩
  · rcases h with ⟨ws, vs, e', h2, h3⟩ | ⟨_, _, e', h2, _⟩ | ⟨_, _, e', h2, _⟩
    · subst e'; cases e; exact ⟨false, a, vs, _, ev, h3, sts_lst n h2⟩
    · subst e'; cases e
    · subst e'; cases e
  · subst ew; cases e
    rcases h with ⟨n, h | ⟨o, h⟩⟩ | h
    · exact ⟨false, a, _, _, ev, ims_ints, sts_lst (fun z => n (hs a z)) h⟩
    · exact ⟨false, a, _, _, ev, ims_ints, sts_frz (fun z => n (hs a z)) h⟩
    · exact ⟨false, a, _, _, ev, ims_ints, sts_kl h⟩
section
variable {X : Cx} {cl : Nat → Addr} {c : Cf} {e a b : Expr} {s sa sb : Ex} {E : XK} {pos : Pos} {tg : Expr} {bb : Bool}
/-- the mode of an expression that is walked: owned ones only within expressions -/
abbrev moOf (b : Bool) : Mo := if b = true then .safe else .rd
theorem sts_mo {K : PySem.W.Frag} {hT hid : Addr → Prop} {H0 H1 : Hp} {w : W} {v : V} {items : List W} (hs : ∀ a, hT a → hid a) (h : PWm K (moOf bb) hT hid H0 w H1 v) (e : wSeq w = some items) : ∃ b a vs G, v = .ref a ∧ Ims K hid H1 items vs ∧ Sts K (if bb = true then hid else hT) H1 b a vs G := by
  cases bb with
  | true => exact sts_safe h e
  | false => exact sts_rd hs h e
/-- the items stay what they are -/
theorem its_at {K : PySem.W.Frag} {hid hid' : Addr → Prop} {H1 Ha : Hp} {items : List W} {vs : List V} {i : Nat} {x : V} (h : Ims K hid H1 items vs) (hh : ∀ a, hid' a → hid a ∨ Nw H1 a) (m : Sm hid' H1 Ha) (hx : vs[i]? = some x) : ∃ w, items[i]? = some w ∧ Im K hid' Ha w x := by
  obtain ⟨w, e1, e2⟩ := h.getV hx
  exact ⟨w, e1, Im.mono (kp_of m hh) hh _ _ e2⟩
theorem ix_seqW (h : EX X cl c (moOf bb) e s E) : IX X cl c bb tg e (sSeq s) E := PI_imp (pi_seqx h) fun σ H R ⟨hT, hid, tp, ρ, t, S, o⟩ => by
  refine ⟨hT, hid, tp, ρ, t, S, o.seq later_src fun w t1 v1 H1 e1 m1 k1 p1 o1 => ?_⟩
  obtain ⟨items, ei, o1⟩ := rOf_ok o1
  obtain ⟨b, a, vs, G, ev, hi, st⟩ := sts_mo S.sub p1 ei
  refine ⟨b, a, ev, ⟨vs, st.sq _ st.here⟩, Out.ok_ o1 k1 Sm.refl ⟨G, st.here, ?_, ?_, st.stay, ?_⟩⟩
  · intro i Ha hl g
    have q := st.sq _ g
    have hl' : i < vs.length := by rw [← hi.length]; exact hl
    cases b with
    | true => exact walk_tup.goes i Ha hl' q
    | false => exact walk_list.goes i Ha hl' q
  · intro Ha g
    have q := st.sq _ g
    rw [hi.length]
    cases b with
    | true => exact walk_tup.stops Ha q
    | false => exact walk_list.stops Ha q
  · intro hid' hh i Ha x Hb hl g m y
    have q := st.sq _ g
    have hl' : i < vs.length := by rw [← hi.length]; exact hl
    have z : YAt vs i Ha x Hb := by
      cases b with
      | true => exact walk_tup.yields i Ha x Hb hl' q y
      | false => exact walk_list.yields i Ha x Hb hl' q y
    obtain ⟨e2, e3⟩ := z
    subst e2
    exact ⟨Sm.refl, its_at hi hh m e3⟩

/-! ### ranges -/
def rngW (lo c : Int) (n : Nat) : List W := (List.range n).map fun i => .int (lo + (i : Nat) * c)
theorem rngW_len {lo c : Int} {n : Nat} : (rngW lo c n).length = n := by unfold rngW; simp
theorem rngW_get {lo c : Int} {n i : Nat} (h : i < n) : (rngW lo c n)[i]? = some (.int (lo + (i : Nat) * c)) := by
  unfold rngW
  rw [List.getElem?_map, List.getElem?_range h]; rfl
def small62 (i : Int) : Bool := decide (-4611686018427387904 ≤ i ∧ i < 4611686018427387904)
def gRng1 : List W → Option (List W)
  | [.int j] => if small62 j = true then some (rngW 0 1 j.toNat) else none
  | _ => none
def gRng2 : List W → Option (List W)
  | [.int i, .int j] => if (small62 i && small62 j) = true then some (rngW i 1 (j - i).toNat) else none
  | _ => none
def sRng (g : List W → Option (List W)) (ss : Exs) : Exs := fun ρ t => (ss ρ t).bind fun ws t => rOf (g ws) t
theorem src_rng {K : PySem.W.Frag} {hx hid : Addr → Prop} {H : Hp} {lo : Int} {n : Nat} : SrcOk K hx hid H (rngW lo 1 n) (Itr lo n) := by
  refine ⟨fun _ => True, trivial, fun i Ha hl _ => ?_, fun Ha _ => ?_, fun _ _ _ _ _ _ => trivial, fun hid' hh i Ha x Hb hl _ m y => ?_⟩
  · rw [rngW_len] at hl; exact hl
  · rw [rngW_len]; exact Nat.le_refl _
  · rw [rngW_len] at hl
    obtain ⟨e1, e2⟩ := y
    subst e1; subst e2
    refine ⟨Sm.refl, _, rngW_get hl, ?_⟩
    rw [Int.mul_one]; exact .int _
theorem small62_ok {i : Int} (h : small62 i = true) : -(2 ^ 62) ≤ i ∧ i < 2 ^ 62 := of_decide_eq_true h
theorem bos_ints1 {K : PySem.W.Frag} {hT hid : Addr → Prop} {H : Hp} {i : Int} {vs : List V} (h : Bos K hT hid H [.int i] vs) : vs = [.int i] := by
  obtain ⟨v, rfl, r⟩ := bos1 h
  rw [rd_int r]
theorem bos_ints2 {K : PySem.W.Frag} {hT hid : Addr → Prop} {H : Hp} {i j : Int} {vs : List V} (h : Bos K hT hid H [.int i, .int j] vs) : vs = [.int i, .int j] := by
  obtain ⟨v, v', rfl, r, r'⟩ := bos2 h
  rw [rd_int r, rd_int r']
theorem ix_rng1 {p pos : Pos} {ss : Exs} (hg : Gl X "range") (hm : X.mg "range" = none) (ha : AX X cl c false [a] ss E) (hs : starEach [a] X.env = [(false, eval a X.env)]) : IX X cl c bb tg (.Call (.Name "range" p) [a] [] pos) (sRng gRng1 ss) E :=
  PI_imp (pi_range1 hg hm ha hs) fun σ H R ⟨hT, hid, tp, ρ, t, S, o⟩ => by
    refine ⟨hT, hid, tp, ρ, t, S, o.seq later_src fun ws t1 vs H1 e1 m1 k1 p1 o1 => ?_⟩
    obtain ⟨items, ei, o1⟩ := rOf_ok o1
    unfold gRng1 at ei
    split at ei
    · obtain ⟨q, e2⟩ := if_some ei
      subst e2
      obtain ⟨h1, h2⟩ := small62_ok q
      exact ⟨_, bos_ints1 p1, h1, h2, Out.ok_ o1 k1 Sm.refl src_rng⟩
    · cases ei
theorem ix_rng2 {p pos : Pos} {ss : Exs} (hg : Gl X "range") (hm : X.mg "range" = none) (ha : AX X cl c false [a, b] ss E) (hs : starEach [a, b] X.env = [(false, eval a X.env), (false, eval b X.env)]) (hs2 : starEach [b] X.env = [(false, eval b X.env)]) : IX X cl c bb tg (.Call (.Name "range" p) [a, b] [] pos) (sRng gRng2 ss) E :=
  PI_imp (pi_range2 hg hm ha hs hs2) fun σ H R ⟨hT, hid, tp, ρ, t, S, o⟩ => by
    refine ⟨hT, hid, tp, ρ, t, S, o.seq later_src fun ws t1 vs H1 e1 m1 k1 p1 o1 => ?_⟩
    obtain ⟨items, ei, o1⟩ := rOf_ok o1
    unfold gRng2 at ei
    split at ei
    · obtain ⟨q, e2⟩ := if_some ei
      subst e2
      rw [Bool.and_eq_true] at q
      obtain ⟨h1, h2⟩ := small62_ok q.1
      obtain ⟨h3, h4⟩ := small62_ok q.2
      exact ⟨_, _, bos_ints2 p1, ⟨h1, h2, h3, h4⟩, Out.ok_ o1 k1 Sm.refl src_rng⟩
    · cases ei

/-! ### enumerate, zip -/
def pairW (xs ys : List W) : List W := (xs.zip ys).map fun p => .tuple [p.1, p.2]
def sEnum (s : Ex) : Exs := fun ρ t => (s ρ t).bind fun w t => (rOf (wSeq w) t).bind fun xs t => .ok (pairW (rngW 0 1 xs.length) xs) t
theorem pairW_get {xs ys : List W} {i : Nat} {x y : W} (h1 : xs[i]? = some x) (h2 : ys[i]? = some y) : (pairW xs ys)[i]? = some (.tuple [x, y]) := by
  unfold pairW
  have e : (xs.zip ys)[i]? = some (x, y) := List.getElem?_zip_eq_some.mpr ⟨h1, h2⟩
  rw [List.getElem?_map, e]; rfl
theorem pairW_len {xs ys : List W} : (pairW xs ys).length = min xs.length ys.length := by unfold pairW; simp
theorem im_pair {K : PySem.W.Frag} {hid' : Addr → Prop} {Ha : Hp} {T : Addr} {x y : V} {w u : W} (hT : Ha T = none) (h1 : Im K hid' Ha w x) (h2 : Im K hid' Ha u y) : Im K hid' (upd Ha T (.tup [x, y])) (.tuple [w, u]) (.ref T) :=
  .tup (.inl (.inl upd_same)) (.cons ((im_new hT fun a z => .inl z).1 _ _ h1) (.cons ((im_new hT fun a z => .inl z).1 _ _ h2) .nil))
theorem ix_enum {p pos tpos : Pos} {elts : List Expr} {kk : Nat} (hg : Gl X "enumerate") (hm : X.mg "enumerate" = none) (ha : EX X cl c (moOf bb) a sa E) (hs : starEach [a] X.env = [(false, eval a X.env)]) : IX X cl c bb (.Tuple elts kk tpos) (.Call (.Name "enumerate" p) [a] [] pos) (sEnum sa) E :=
  PI_imp (pi_enumx hg hm (pa_cons ha pa_nil hs) hs) fun σ H R ⟨hT, hid, tp, ρ, t, S, o⟩ => by
    refine ⟨hT, hid, tp, ρ, t, S, o.seq later_src fun w t1 v1 H1 e1 m1 k1 p1 o1 => ?_⟩
    cases ei : wSeq w with
    | none => rw [ei] at o1; exact False.elim o1
    | some items =>
      rw [ei] at o1
      have o1 : Out cl tp E H1 (.ok (pairW (rngW 0 1 items.length) items) t1) (PSrc X.K bb hT hid) R := o1
      obtain ⟨b, a, vs, G, ev, hi, st⟩ := sts_mo S.sub p1 ei
      have en : (pairW (rngW 0 1 items.length) items).length = vs.length := by rw [pairW_len, rngW_len, Nat.min_self, hi.length]
      refine ⟨b, a, vs, by rw [ev], st.sq _ st.here, Out.ok_ o1 k1 Sm.refl ⟨G, st.here, fun i Ha hl g => ?_, fun Ha g => ?_, st.stay, fun hid' hh i Ha x Hb hl g m y => ?_⟩⟩
      · rw [en] at hl
        exact ⟨vs, vs[i], st.sq _ g, by simp [hl]⟩
      · exact ⟨vs, st.sq _ g, en.symm⟩
      · rw [en] at hl
        obtain ⟨T, x', e2, hn, e3, f⟩ := y
        subst e2; subst e3
        obtain ⟨u, e4, e5⟩ := its_at hi hh m (f vs (st.sq _ g))
        refine ⟨Sm.new hn, _, pairW_get (rngW_get (by rw [hi.length]; exact hl)) e4, ?_⟩
        rw [show (0 : Int) + (i : Nat) * 1 = (i : Nat) by omega]
        exact im_pair hn (.int _) e5
def sZip (s u : Ex) : Exs := fun ρ t => (s ρ t).bind fun w t => (u ρ t).bind fun w' t => (rOf (wSeq w) t).bind fun xs t => (rOf (wSeq w') t).bind fun ys t => .ok (pairW xs ys) t
theorem pwm_mono {K : PySem.W.Frag} {c : Cf} {hT hid : Addr → Prop} {tp : Option (Addr × Addr)} {ρ : Sl} {σ : L2.St} {t : Tp} {H0 H H' : Hp} {w : W} {v : V} (S : StE K c hT hid tp ρ σ H t) (h : PWm K (moOf bb) hT hid H0 w H v) (m : Sm (tps tp) H H') : PWm K (moOf bb) hT hid H0 w H' v := by
  cases bb with
  | true => exact Im.mono (m.kp fun x z => S.sub x (S.tph x z)) (fun _ z => .inl z) _ _ (show Im K hid H w v from h)
  | false => exact rdb_mono S (show Rdb K hT hid H w v from h) m
theorem ix_zip {p pos tpos : Pos} {elts : List Expr} {kk : Nat} (hg : Gl X "zip") (hm : X.mg "zip" = none) (ha : EX X cl c (moOf bb) a sa E) (hb : EX X cl c (moOf bb) b sb E) (hs : starEach [a, b] X.env = (false, eval a X.env) :: starEach [b] X.env) (hs2 : starEach [b] X.env = [(false, eval b X.env)]) (hpl : (backTo pos (starEach [b] X.env)).any (·.1) = false) :
    IX X cl c bb (.Tuple elts kk tpos) (.Call (.Name "zip" p) [a, b] [] pos) (sZip sa sb) E :=
  PI_imp (pi_zipx hg hm (pa_cons ha (pa_cons hb pa_nil hs2) hs) hs hpl) fun σ H R ⟨hT, hid, tp, ρ, t, S, o⟩ => by
    refine ⟨hT, hid, tp, ρ, t, S, o.seq later_src fun w t1 v1 H1 e1 m1 k1 p1 o1 => ?_⟩
    have S1 := S.sm m1 k1
    refine ⟨hT, hid, tp, ρ, t1, S1, o1.seq later_src fun w' t2 v2 H2 e2 m2 k2 p2 o2 => ?_⟩
    have p1' := pwm_mono S1 p1 m2
    cases ei : wSeq w with
    | none => rw [ei] at o2; exact False.elim o2
    | some items =>
      rw [ei] at o2
      cases ej : wSeq w' with
      | none => rw [ej] at o2; exact False.elim o2
      | some items2 =>
        rw [ej] at o2
        have o2 : Out cl tp E H2 (.ok (pairW items items2) t2) (PSrc X.K bb hT hid) R := o2
        obtain ⟨b1, a1, vs, G, ev, hi, st⟩ := sts_mo S.sub p1' ei
        obtain ⟨b2, a2, vs2, G2, ev2, hi2, st2⟩ := sts_mo S.sub p2 ej
        have en : (pairW items items2).length = min vs.length vs2.length := by rw [pairW_len, hi.length, hi2.length]
        refine ⟨b1, b2, a1, a2, vs, vs2, by rw [ev, ev2], st.sq _ st.here, st2.sq _ st2.here, Out.ok_ o2 k2 Sm.refl ⟨fun Ha => G Ha ∧ G2 Ha, ⟨st.here, st2.here⟩, fun i Ha hl g => ?_, fun Ha g => ?_, fun hx' hh Ha Hb m g => ⟨st.stay hx' hh Ha Hb m g.1, st2.stay hx' hh Ha Hb m g.2⟩, fun hid' hh i Ha x Hb hl g m y => ?_⟩⟩
        · rw [en] at hl
          exact ⟨vs, vs2, vs[i]'(by omega), vs2[i]'(by omega), st.sq _ g.1, st2.sq _ g.2, by simp [show i < vs.length by omega], by simp [show i < vs2.length by omega]⟩
        · exact ⟨vs, vs2, st.sq _ g.1, st2.sq _ g.2, en⟩
        · obtain ⟨T, x1, x2, e3, hn, e4, f1, f2⟩ := y
          subst e3; subst e4
          obtain ⟨u, e5, e6⟩ := its_at hi hh m (f1 vs (st.sq _ g.1))
          obtain ⟨u2, e7, e8⟩ := its_at hi2 hh m (f2 vs2 (st2.sq _ g.2))
          exact ⟨Sm.new hn, _, pairW_get e5 e7, im_pair hn e6 e8⟩
end
end Ev

end

section
/-! Ev5: targets, comprehensions. -/
namespace Ev
open PySem PySem.Spec PyProof.Rows L2
variable [Tb]

/-! ### targets -/
abbrev Gw := W → Sl → Option Sl
abbrev Gws := List W → Sl → Option Sl
def gN (i : Nat) : Gw := fun w ρ => some (ρ.set i (some w))
def gsN : Gws := fun ws ρ => match ws with
  | [] => some ρ
  | _ => none
def gsC (g : Gw) (gs : Gws) : Gws := fun ws ρ => match ws with
  | w :: r => (g w ρ).bind (gs r)
  | [] => none
def gTp (gs : Gws) : Gw := fun w ρ => match w with
  | .tuple ws => gs ws ρ
  | _ => none
def tGx (K : PySem.W.Frag) (c : Cf) (g : Gw) (is : List Nat) : TG := fun v σ H Q => ∃ hT hid tp ρ t w ρ', StE K c hT hid tp ρ σ H t ∧ Im K hid H w v ∧ g w ρ = some ρ' ∧
  ∀ σ', StE K c hT hid tp ρ' σ' H t → σ'.length = σ.length → (∀ j, j ∉ is → σ'[j]? = σ[j]?) → (∀ j, j ∉ is → ρ'[j]? = ρ[j]?) → Q σ' H
def tGxs (K : PySem.W.Frag) (c : Cf) (g : Gws) (is : List Nat) : TGs := fun vs σ H Q => ∃ hT hid tp ρ t ws ρ', StE K c hT hid tp ρ σ H t ∧ Ims K hid H ws vs ∧ g ws ρ = some ρ' ∧
  ∀ σ', StE K c hT hid tp ρ' σ' H t → σ'.length = σ.length → (∀ j, j ∉ is → σ'[j]? = σ[j]?) → (∀ j, j ∉ is → ρ'[j]? = ρ[j]?) → Q σ' H
abbrev GX (X : Cx) (c : Cf) (tg : Expr) (g : Gw) (is : List Nat) : Prop := PG X tg (tGx X.K c g is)
structure GXs (X : Cx) (c : Cf) (tgs : List Expr) (g : Gws) (is : List Nat) (n : Nat) : Prop where
  run : PGs X tgs (tGxs X.K c g is)
  len : ∀ ws ρ ρ', g ws ρ = some ρ' → ws.length = n
section
variable {X : Cx} {c : Cf} {pos : Pos}
theorem PG_imp {e : Expr} {t t' : TG} (h : PG X e t) (i : ∀ v σ H Q, t' v σ H Q → t v σ H Q) : PG X e t' := ⟨fun pins s σ H v u Q I r q => h.run pins s σ H v u Q I r (i v σ H Q q)⟩
theorem PGs_imp {e : List Expr} {t t' : TGs} (h : PGs X e t) (i : ∀ v σ H Q, t' v σ H Q → t v σ H Q) : PGs X e t' := ⟨fun pins s σ H v u Q I r q => h.run pins s σ H v u Q I r (i v σ H Q q)⟩
theorem gx_name {i : Nat} {x : Str} (hN : X.N.Nodup) (hi : X.N[i]? = some x) (hx : Loc X.env.scope x) (hf : X.fn x = true ∨ X.env.scope.names.lookup x = some .local) (hm : i ∉ c.M) (hs : c.scr ≠ some i) (ht : c.tape ≠ some i) : GX X c (.Name x pos) (gN i) [i] :=
  PG_imp (pg_name hN hi hx hf) fun v σ H Q ⟨hT, hid, tp, ρ, t, w, ρ', S, p, e, k⟩ => by
    cases e
    exact k _ (S.set hm hs ht p) (List.length_set ..) (fun j hj => List.getElem?_set_ne fun z => hj (by simp [z])) fun j hj => List.getElem?_set_ne fun z => hj (by simp [z])
theorem gxs_nil : GXs X c [] gsN [] 0 := by
  refine ⟨PGs_imp pgs_nil fun v σ H Q ⟨hT, hid, tp, ρ, t, ws, ρ', S, p, e, k⟩ => ?_, fun ws ρ ρ' h => ?_⟩
  · cases ws with
    | nil =>
      cases p; cases e
      exact ⟨rfl, k _ S rfl (fun _ _ => rfl) fun _ _ => rfl⟩
    | cons w ws => cases e
  · cases ws with
    | nil => rfl
    | cons w ws => cases h
theorem gxs_cons {e : Expr} {es : List Expr} {g : Gw} {gs : Gws} {is js : List Nat} {n : Nat} (h1 : GX X c e g is) (h2 : GXs X c es gs js n) (hs : (assignEach (e :: es) X.env).map (·.2) = assign e X.env :: (assignEach es X.env).map (·.2)) : GXs X c (e :: es) (gsC g gs) (is ++ js) (n + 1) := by
  refine ⟨PGs_imp (pgs_cons h1 h2.run hs) fun vs σ H Q ⟨hT, hid, tp, ρ, t, ws, ρ', S, p, e, k⟩ => ?_, fun ws ρ ρ' h => ?_⟩
  · cases ws with
    | nil => cases e
    | cons w ws =>
      cases p with
      | cons p1 p2 =>
        cases eg : g w ρ with
        | none => rw [show gsC g gs (w :: ws) ρ = (g w ρ).bind (gs ws) from rfl, eg] at e; cases e
        | some ρ1 =>
          rw [show gsC g gs (w :: ws) ρ = (g w ρ).bind (gs ws) from rfl, eg] at e
          refine ⟨_, _, rfl, hT, hid, tp, ρ, t, w, ρ1, S, p1, eg, fun σ1 S1 l1 f1 f1' => ⟨hT, hid, tp, ρ1, t, ws, ρ', S1, p2, e, fun σ2 S2 l2 f2 f2' => k σ2 S2 (l2.trans l1) (fun j hj => ?_) fun j hj => ?_⟩⟩
          · simp only [List.mem_append, not_or] at hj
            rw [f2 j hj.2, f1 j hj.1]
          · simp only [List.mem_append, not_or] at hj
            rw [f2' j hj.2, f1' j hj.1]
  · cases ws with
    | nil => cases h
    | cons w ws =>
      cases eg : g w ρ with
      | none => rw [show gsC g gs (w :: ws) ρ = (g w ρ).bind (gs ws) from rfl, eg] at h; cases h
      | some ρ1 =>
        rw [show gsC g gs (w :: ws) ρ = (g w ρ).bind (gs ws) from rfl, eg] at h
        rw [List.length_cons, h2.len ws ρ1 ρ' h]
theorem gx_tup {es : List Expr} {k : Nat} {gs : Gws} {is : List Nat} {n : Nat} (hc : X.calm = true) (h : GXs X c es gs is n) (hn : (assignEach es X.env).length = n) (hst : (assignEach es X.env).findIdx? (·.1) = none) : GX X c (.Tuple es k pos) (gTp gs) is :=
  PG_imp (pg_tup hc h.run hn hst) fun v σ H Q ⟨hT, hid, tp, ρ, t, w, ρ', S, p, e, k⟩ => by
    cases w with
    | tuple ws =>
      cases p with
      | tup h1 h2 => exact ⟨_, _, rfl, h1, by rw [← h2.length]; exact h.len _ _ _ e, hT, hid, tp, ρ, t, ws, ρ', S, h2, e, k⟩
    | _ => cases e
end

/-! ### comprehensions -/
theorem wipe_get {α : Type} (f : List (Option α) → List Nat → List (Option α)) (f0 : ∀ l, f l [] = l) (f1 : ∀ l v vs, f l (v :: vs) = (f l vs).set v none) : ∀ (vs : List Nat) (l : List (Option α)) (j : Nat), (f l vs)[j]? = if j ∈ vs ∧ j < l.length then some none else l[j]?
  | [], l, j => by rw [f0]; simp
  | v :: vs, l, j => by
    have len : ∀ (vs : List Nat), (f l vs).length = l.length := fun vs => by
      induction vs with
      | nil => rw [f0]
      | cons v vs ih => rw [f1, List.length_set, ih]
    rw [f1]
    by_cases e : v = j
    · subst e
      by_cases hl : v < l.length
      · rw [List.getElem?_set_self (by rw [len]; exact hl), if_pos ⟨List.mem_cons_self, hl⟩]
      · rw [List.getElem?_eq_none (by rw [List.length_set, len]; omega), if_neg (fun z => hl z.2), List.getElem?_eq_none (by omega)]
    · rw [List.getElem?_set_ne e, wipe_get f f0 f1 vs l j]
      have : (j ∈ v :: vs ∧ j < l.length) ↔ (j ∈ vs ∧ j < l.length) := by
        constructor
        · rintro ⟨h, h2⟩
          rcases List.mem_cons.mp h with z | z
          · exact absurd z.symm e
          · exact ⟨z, h2⟩
        · rintro ⟨h, h2⟩; exact ⟨List.mem_cons_of_mem _ h, h2⟩
      by_cases q : j ∈ vs ∧ j < l.length
      · rw [if_pos q, if_pos (this.mpr q)]
      · rw [if_neg q, if_neg (fun z => q (this.mp z))]
theorem wipe_eq {σ σ2 : L2.St} {vs is : List Nat} (hl : σ2.length = (L2.wipe σ vs).length) (hs : ∀ i ∈ is, i ∈ vs) (h : ∀ j, j ∉ is → σ2[j]? = (L2.wipe σ vs)[j]?) : L2.wipe σ2 vs = L2.wipe σ vs := by
  have q := wipe_get (α := V) L2.wipe (fun _ => rfl) (fun _ _ _ => rfl)
  rw [wipe_length] at hl
  apply List.ext_getElem?
  intro j
  rw [q vs σ2 j, q vs σ j]
  by_cases hj : j ∈ vs ∧ j < σ.length
  · rw [if_pos hj, if_pos ⟨hj.1, by rw [hl]; exact hj.2⟩]
  · rw [if_neg hj, if_neg (by rw [hl]; exact hj)]
    by_cases hi : j ∈ is
    · have h1 : ¬ j < σ.length := fun z => hj ⟨hs j hi, z⟩
      rw [List.getElem?_eq_none (by omega), List.getElem?_eq_none (by omega)]
    · rw [h j hi, q vs σ j, if_neg hj]
theorem wipeW_len (ρ : Sl) : ∀ vs, (wipeW ρ vs).length = ρ.length
  | [] => rfl
  | v :: vs => by unfold wipeW; rw [List.length_set, wipeW_len ρ vs]
def isLD : HO → Prop
  | .lst _ => True
  | .dK _ => True
  | .dT _ => True
  | _ => False
/-- a list or dict is written -/
theorem Sm.wr {ex : Addr → Prop} {H : Hp} {D : Addr} {u o : HO} (h : H D = some u) (hm : isLD u) (he : ex D) (ho : isLD o) : Sm ex H (upd H D o) := by
  have k : ∀ b v, b ≠ D → H b = some v → upd H D o b = some v := fun b v n e => by rw [upd_ne n]; exact e
  have nd : ∀ b v, H b = some v → ¬ isLD v → b ≠ D := fun b v e n z => by
    subst z; rw [h] at e; cases e; exact n hm
  refine ⟨fun a v n e _ => k a v (fun z => n (z ▸ he)) e, fun a xs r => ?_, fun a n => ?_, fun t => ?_⟩
  · rcases r with r | ⟨ob, r⟩
    · exact .inl (k _ _ (nd _ _ r fun z => z) r)
    · exact .inr ⟨ob, k _ _ (nd _ _ r fun z => z) r⟩
  · by_cases e : a = D
    · subst e; exact Nw.not upd_same fun ps z => by subst z; exact ho
    · obtain ⟨v, q, nt⟩ := Nw.ob n
      exact Nw.not (k a v e q) nt
  · intro p hp
    obtain ⟨ps, h1, h2, h3⟩ := t p hp
    refine ⟨ps, k _ _ (nd _ _ h1 fun z => z) h1, h2, fun pos cv hc => ?_⟩
    obtain ⟨cc, e1, e2⟩ := h3 pos cv hc
    exact ⟨cc, e1, k _ _ (nd _ _ e2 fun z => z) e2⟩
/-- .. one that is new since H1 -/
theorem Sm.wrNew {ex : Addr → Prop} {H1 H : Hp} {D : Addr} {u o : HO} (m : Sm ex H1 H) (hn : Nw H1 D) (h : H D = some u) (hm : isLD u) (ho : isLD o) : Sm ex H1 (upd H D o) := by
  have q : Sm (fun a => a = D) H (upd H D o) := Sm.wr h hm rfl ho
  refine ⟨fun a v n e nt => q.obj a v (fun z => ?_) (m.obj a v n e nt) nt, fun a xs r => q.tup a xs (m.tup a xs r), fun a n => q.dom a (m.dom a n), fun t => q.tab (m.tab t)⟩
  subst z; obtain ⟨ps, q⟩ := hn v e; exact nt ps q
theorem Kp.wr {hid : Addr → Prop} {H : Hp} {D : Addr} {u o : HO} (h : H D = some u) (hm : isLD u) (he : hid D) (ho : isLD o) : Kp hid H (upd H D o) := (Sm.wr (ex := hid) h hm he ho).kp fun _ z => z
theorem TpOk.wr {tp : Option (Addr × Addr)} {H : Hp} {t : Tp} {D : Addr} {o : HO} (k : TpOk tp H t) (n : ¬ tps tp D) : TpOk tp (upd H D o) t := k.of fun a u ha e => by
  rw [upd_ne (fun z => n (by subst z; exact ha))]; exact e

def noexc {α : Type} : Rs α → Rs α
  | .ok a t => .ok a t
  | _ => .bad
def lcL (g : Gw) (tt : Et) (te : Ex) : List W → Sl → Tp → Rs (List W)
  | [], _, t => .ok [] t
  | x :: xs, ρ, t => match g x ρ with
    | none => .bad
    | some ρ1 => (noexc (tt ρ1 t)).bind fun b t1 => if b = true then (noexc (te ρ1 t1)).bind fun w t2 => (lcL g tt te xs ρ t2).bind fun ws t3 => .ok (w :: ws) t3 else lcL g tt te xs ρ t1
def few1M (ws : List W) : Bool := decide (ws.length ≤ 1000000)
def eLc (src : Exs) (vs : List Nat) (g : Gw) (tt : Et) (te : Ex) : Ex := fun ρ t => (src ρ t).bind fun items t => if few1M items = true then (noexc (lcL g tt te items (wipeW ρ vs) t)).bind fun ws t => .ok (.list ws) t else .bad
theorem noexc_ok {α β : Type} {r : Rs α} {f : α → Tp → Rs β} {b : β} {t : Tp} (h : (noexc r).bind f = .ok b t) : ∃ a t1, r = .ok a t1 ∧ f a t1 = .ok b t := by
  cases r with
  | ok a t1 => exact ⟨a, t1, rfl, h⟩
  | exc c t => cases h
  | bad => cases h
theorem bind_ok {α β : Type} {r : Rs α} {f : α → Tp → Rs β} {b : β} {t : Tp} (h : r.bind f = .ok b t) : ∃ a t1, r = .ok a t1 ∧ f a t1 = .ok b t := by
  cases r with
  | ok a t1 => exact ⟨a, t1, rfl, h⟩
  | exc c t => cases h
  | bad => cases h
def etYes : Et := fun _ t => .ok true t
theorem no_tps {K : PySem.W.Frag} {c : Cf} {hT hid : Addr → Prop} {tp : Option (Addr × Addr)} {ρ : Sl} {σ : L2.St} {H : Hp} {t : Tp} {D : Addr} (S : StE K c hT hid tp ρ σ H t) (h : Nw H D) : ¬ tps tp D := fun z => S.dom D (S.sub D (S.tph D z)) h
section
variable {X : Cx} {cl : Nat → Addr} {c : Cf} {E : XK} {pos : Pos}
abbrev TsX (X : Cx) (cl : Nat → Addr) (c : Cf) (ifs : List Expr) (s : Et) (E : XK) : Prop := PTs X ifs (tTs X.K cl c s E)
theorem PTs_imp {e : List Expr} {t t' : TT} (h : PTs X e t) (i : ∀ σ H Q, t' σ H Q → t σ H Q) : PTs X e t' := ⟨fun pins s σ H Q I q => h.run pins s σ H Q I (i σ H Q q)⟩
theorem tsx_nil : TsX X cl c [] etYes E := PTs_imp pts_nil fun σ H Q ⟨hT, hid, tp, ρ, t, S, o⟩ => Out.ok_ o S.tap Sm.refl rfl
theorem tsx_one {e : Expr} {s : Et} (h : TX X cl c e s E) : TsX X cl c [e] s E := pts_one h
theorem lc_core' {K : PySem.W.Frag} {src : Exs} {vs is : List Nat} {g : Gw} {tt : Et} {te : Ex} {cT : Cf} (his : ∀ i ∈ is, i ∈ vs) (hvt : ∀ i ∈ vs, c.tape ≠ some i) :
    ∀ σ H Q, tEx K cl c .fresh (eLc src vs g tt te) E σ H Q → tLc (tSrc K cl c false src E) (tGx K c g is) (tTs K cl c tt E0) (tEx K cl c .safe te E0) vs σ H Q := by
  intro σ H Q ⟨hT, hid, tp, ρ, t, S, o⟩
  refine ⟨hT, hid, tp, ρ, t, S, o.seq later_pw fun items t1 J H1 e1 m1 k1 p1 o1 => ?_⟩
  obtain ⟨hf, o1⟩ := few_ok o1
  have S1 := S.sm m1 k1
  obtain ⟨G, g0⟩ := (show SrcOk K hT hid H1 items J from p1)
  intro D hD
  -- what the loop makes
  obtain ⟨ws, tE, eL, o1⟩ : ∃ ws tE, lcL g tt te items (wipeW ρ vs) t1 = .ok ws tE ∧ Out cl tp E H1 (.ok (.list ws) tE) (PWm K .fresh hT hid) Q := by
    cases q : lcL g tt te items (wipeW ρ vs) t1 with
    | ok ws tE => rw [q] at o1; exact ⟨ws, tE, rfl, o1⟩
    | exc e t => rw [q] at o1; exact False.elim o1
    | bad => rw [q] at o1; exact False.elim o1
  have hlen : items.length ≤ 1000000 := of_decide_eq_true hf
  let hid' : Addr → Prop := fun a => hid a ∨ a = D
  have hh' : ∀ a, hid' a → hid a ∨ Nw H1 a := fun a z => z.imp id fun e => by rw [e]; exact Nw.of hD
  have nD : ¬ tps tp D := no_tps S1 (Nw.of hD)
  have hx1 : ∀ a, tps tp a → hT a ∨ Nw H1 a := fun a z => .inl (S.tph a z)
  have hxD : ∀ a, (tps tp a ∨ a = D) → hT a ∨ Nw H1 a := fun a z => z.elim (fun z => .inl (S.tph a z)) fun e => .inr (by rw [e]; exact Nw.of hD)
  let Pv : Nat → Hp → Prop := fun i Ha => ∃ ti done dv rest, G Ha ∧ Sm (tps tp) H1 Ha ∧ TpOk tp Ha ti ∧ Ha D = some (.lst dv) ∧ Ims K hid' Ha done dv ∧ done.length ≤ i ∧ lcL g tt te (items.drop i) (wipeW ρ vs) ti = .ok rest tE ∧ done ++ rest = ws
  have fin : ∀ Ha, Pv items.length Ha → J.stop items.length Ha ∧ Q (.ref D) Ha := fun Ha ⟨ti, done, dv, rest, hG, hS, hk, hDa, hI, _, eR, ew⟩ => by
    refine ⟨g0.stop Ha hG, ?_⟩
    rw [List.drop_length] at eR
    cases eR
    rw [List.append_nil] at ew
    subst ew
    exact o1 _ _ hS hk ⟨D, rfl, .inl (Nw.of hD), fun o u z => (by rw [hDa] at z; cases z), .inl ⟨done, dv, rfl, hDa, hI⟩⟩
  refine ⟨fun i m Ha => m = items.length - i ∧ i ≤ items.length ∧ Pv i Ha, ⟨_, rfl, Nat.zero_le _, ?_⟩, ?_⟩
  · refine ⟨t1, [], [], ws, g0.stay (fun _ => False) (fun _ z => z.elim) _ _ (Sm.new hD) g0.here, Sm.new hD, k1.new hD, upd_same, .nil, Nat.zero_le _, eL, rfl⟩
  rintro i m Ha ⟨rfl, hi, p⟩
  by_cases hlt : i < items.length
  · refine .inr ⟨g0.go i Ha hlt (by obtain ⟨_, _, _, _, hG, _⟩ := p; exact hG), Pv (i + 1), fun H' p' => ⟨items.length - (i + 1), by omega, rfl, hlt, p'⟩, fun x H' y => ?_⟩
    obtain ⟨ti, done, dv, rest, hG, hS, hk, hDa, hI, hdl, eR, ew⟩ := p
    obtain ⟨mF, w, ei, iw⟩ := g0.yld hid' hh' i Ha x H' hlt hG (hS.imp fun a z => .inl (S.sub a (S.tph a z))) y
    have hdrop : items.drop i = w :: items.drop (i + 1) := by
      rw [List.drop_eq_getElem_cons hlt]
      rw [List.getElem?_eq_getElem hlt] at ei
      rw [Option.some.inj ei]
    rw [hdrop] at eR
    cases eg : g w (wipeW ρ vs) with
    | none => rw [show lcL g tt te (w :: items.drop (i + 1)) (wipeW ρ vs) ti = .bad by unfold lcL; rw [eg]] at eR; cases eR
    | some ρ1 =>
      have eR : ((noexc (tt ρ1 ti)).bind fun b t1 => if b = true then (noexc (te ρ1 t1)).bind fun w t2 => (lcL g tt te (items.drop (i + 1)) (wipeW ρ vs) t2).bind fun ws t3 => .ok (w :: ws) t3 else lcL g tt te (items.drop (i + 1)) (wipeW ρ vs) t1) = .ok rest tE := by
        rw [← eR]
        show _ = (match g w (wipeW ρ vs) with | none => _ | some ρ1 => _)
        rw [eg]
      obtain ⟨b, t2, et, eR⟩ := noexc_ok eR
      have mF' : Sm (tps tp) Ha H' := mF.imp fun _ z => z.elim
      have k2 : TpOk tp H' ti := Out.ok_ (cl := cl) (E := E) (P := fun _ _ _ _ => True) (Q := fun (_ : Unit) H' => TpOk tp H' ti) (a := ()) (v := ()) (fun _ _ _ k _ => k) hk mF trivial
      have dD : H' D = some (.lst dv) := mF.obj D _ (fun z => z) hDa fun ps z => by cases z
      have SB : StE K c hT hid' tp (wipeW ρ vs) (L2.wipe σ vs) H' ti := (S1.wipe vs hvt).hide (fun a z => .inl z) hh' (hS.trans mF') k2 fun a z => by
        rcases z with z | z
        · exact (hS.trans mF').dom a (S1.dom a z)
        · rw [z]; exact Nw.not dD fun ps z => by cases z
      refine ⟨hT, hid', tp, wipeW ρ vs, ti, w, ρ1, SB, iw, eg, fun σ2 S2 l2 f2 _ => ⟨wipe_eq l2 his f2, ?_⟩⟩
      refine ⟨hT, hid', tp, ρ1, ti, S2, ?_⟩
      rw [et]
      intro b' H3 m3 k3 eb
      have eb : b' = b := eb
      subst eb
      have S3 := S2.sm m3 k3
      have dD3 : H3 D = some (.lst dv) := m3.obj D _ nD dD fun ps z => by cases z
      have hI3 : Ims K hid' H3 done dv := Ims.mono ((mF'.trans m3).kp fun a z => .inl (S.sub a (S.tph a z))) (fun _ z => .inl z) _ _ hI
      cases b' with
      | false =>
        rw [if_neg Bool.false_ne_true] at eR ⊢
        exact ⟨t2, done, dv, rest, g0.stay (tps tp) hx1 _ _ (mF'.trans m3) hG, (hS.trans mF').trans m3, k3, dD3, hI3, by omega, eR, ew⟩
      | true =>
        rw [if_pos rfl] at eR ⊢
        obtain ⟨u, t3, ee, eR⟩ := noexc_ok eR
        obtain ⟨rs, t4, eR, e5⟩ := bind_ok eR
        cases e5
        refine ⟨hT, hid', tp, ρ1, t2, S3, ?_⟩
        rw [ee]
        intro y4 H4 m4 k4 p4
        have dD4 : H4 D = some (.lst dv) := m4.obj D _ nD dD3 fun ps z => by cases z
        have p4 : Im K hid' H4 u y4 := p4
        have hI4 : Ims K hid' H4 done dv := Ims.mono (m4.kp fun a z => .inl (S.sub a (S.tph a z))) (fun _ z => .inl z) _ _ hI3
        have kw : Kp hid' H4 (upd H4 D (.lst (dv ++ [y4]))) := Kp.wr dD4 trivial (.inr rfl) trivial
        refine ⟨dv, dD4, ?_, t3, done ++ [u], dv ++ [y4], rs, ?_, ?_, TpOk.wr k4 nD, upd_same, Ims.mono kw (fun _ z => .inl z) _ _ (hI4.append (.cons p4 .nil)), ?_, eR, ?_⟩
        · rw [← hI.length, sizeLine_eq]; omega
        · exact g0.stay (fun a => tps tp a ∨ a = D) hxD _ _ (((mF'.trans m3).trans m4).imp (fun a z => .inl z) |>.trans (Sm.wr dD4 trivial (.inr rfl) trivial)) hG
        · exact Sm.wrNew (((hS.trans mF').trans m3).trans m4) (Nw.of hD) dD4 trivial trivial
        · rw [List.length_append, List.length_singleton]; omega
        · rw [List.append_assoc]; exact ew
  · have e : i = items.length := by omega
    subst e
    exact .inl (fin Ha p)
/-- [elt for tg in iter if ..] -/
theorem ev_lc {elt tg iter : Expr} {ifs : List Expr} {scope : Scope} {own : List (Str × Nat)} {src : Exs} {is : List Nat} {g : Gw} {tt : Et} {te : Ex} (hc : X.calm = true) (hN : X.N.Nodup) (hi : IX X cl c false tg iter src E) (ok : BlkOk X.N X.env.scope scope own)
    (hg : ∀ (s : Shared) (H : Hp) (C : Addr) (cl : List (Str × Addr)) (fp : List Addr), GX (X.blk s H scope (compEnvC scope cl C X.env) fp) c tg g is)
    (ht : ∀ (s : Shared) (H : Hp) (C : Addr) (cl' : List (Str × Addr)) (fp : List Addr), TsX (X.blk s H scope (compEnvC scope cl' C X.env) fp) cl c ifs tt E0)
    (he : ∀ (s : Shared) (H : Hp) (C : Addr) (cl' : List (Str × Addr)) (fp : List Addr), EX (X.blk s H scope (compEnvC scope cl' C X.env) fp) cl c .safe elt te E0)
    (hs : ∀ x, foldedSetIterable iter X.env x = pure x) (his : ∀ i ∈ is, i ∈ own.map (·.2)) (hvt : ∀ i ∈ own.map (·.2), c.tape ≠ some i) :
    EX X cl c .fresh (.ListComp elt [⟨tg, iter, ifs, 0⟩] scope pos) (eLc src (own.map (·.2)) g tt te) E :=
  PE_imp (pe_lc hc hN hi ok hg ht he hs) (lc_core' (cT := c) his hvt)
end
end Ev

end

section
/-! Ev6: statements. -/
namespace Ev
open PySem PySem.Spec PyProof.Rows L2
variable [Tb]

def Wrt (H : Hp) (a : Addr) : Prop := ∃ o, H a = some o ∧ isLD o
/-- the slots and the heap within a def's (or a loop's) work: what was there at H0 stays, but the tape and ow0 -/
structure StS (K : PySem.W.Frag) (c : Cf) (H0 : Hp) (ow0 hb hT hid : Addr → Prop) (tp : Option (Addr × Addr)) (ρ : Sl) (σ : L2.St) (H : Hp) (t : Tp) : Prop where
  st : StE K c hT hid tp ρ σ H t
  hid0 : ∀ a, hid a → hb a ∨ Nw H0 a
  sm : Sm (fun a => tps tp a ∨ ow0 a) H0 H
  own : ∀ i w a, ρ[i]? = some (some w) → i ∈ c.M → σ[i]? = some (some (.ref a)) → (Nw H0 a ∨ ow0 a) ∧ Wrt H a
theorem Ow.wrt {K : PySem.W.Frag} {hid : Addr → Prop} {H : Hp} {w : W} {a : Addr} (h : Ow K hid H w a) (nf : ∀ o u, H a ≠ some (.frz o u)) : Wrt H a := by
  rcases h with ⟨ws, vs, h1, h2, h3⟩ | ⟨ws, vs, h1, h2, h3⟩ | ⟨ws, vs, h1, h2, h3⟩
  · exact ⟨_, h2, trivial⟩
  · rcases h2 with h2 | ⟨o, h2⟩
    · exact ⟨_, h2, trivial⟩
    · exact absurd h2 (nf _ _)
  · rcases h2 with h2 | ⟨o, h2⟩
    · exact ⟨_, h2, trivial⟩
    · exact absurd h2 (nf _ _)
theorem Wrt.nf {H : Hp} {a : Addr} (h : Wrt H a) : ∀ o u, H a ≠ some (.frz o u) := by
  obtain ⟨o, h, l⟩ := h
  intro o' u z
  rw [h] at z; cases z; exact l
section
variable {K : PySem.W.Frag} {c : Cf} {H0 : Hp} {ow0 hb hT hid : Addr → Prop} {tp : Option (Addr × Addr)} {ρ : Sl} {σ : L2.St} {H H' : Hp} {t t' : Tp}
theorem StS.next (S : StS K c H0 ow0 hb hT hid tp ρ σ H t) (m : Sm (tps tp) H H') (k : TpOk tp H' t') : StS K c H0 ow0 hb hT hid tp ρ σ H' t' := by
  refine ⟨S.st.sm m k, S.hid0, S.sm.trans (m.imp fun a z => .inl z), fun i w a e hi hs => ?_⟩
  obtain ⟨h1, o, h2, l⟩ := S.own i w a e hi hs
  refine ⟨h1, o, m.obj a o (fun z => ?_) h2 fun ps z => (by subst z; exact l), l⟩
  obtain ⟨a', e', _, n, _⟩ := S.st.own i w e hi
  rw [hs] at e'; cases e'
  exact n (S.st.tph a z)
theorem StS.set {i : Nat} {w : W} {v : V} (S : StS K c H0 ow0 hb hT hid tp ρ σ H t) (hm : i ∉ c.M) (hs : c.scr ≠ some i) (ht : c.tape ≠ some i) (h : Im K hid H w v) : StS K c H0 ow0 hb hT hid tp (ρ.set i (some w)) (σ.set i (some v)) H t := by
  refine ⟨S.st.set hm hs ht h, S.hid0, S.sm, fun j w' a e hj hsj => ?_⟩
  have nj : i ≠ j := fun z => hm (z ▸ hj)
  rw [List.getElem?_set_ne nj] at e hsj
  exact S.own j w' a e hj hsj
theorem StS.clear {i : Nat} (S : StS K c H0 ow0 hb hT hid tp ρ σ H t) : StS K c H0 ow0 hb hT hid tp (ρ.set i none) σ H t := by
  have key : ∀ {j : Nat} {w : W}, (ρ.set i none)[j]? = some (some w) → ρ[j]? = some (some w) := fun {j w} e => by
    rcases get_set e with ⟨_, e2, _⟩ | e2
    · cases e2
    · exact e2.2
  refine ⟨⟨by rw [List.length_set]; exact S.st.len, fun j w e => S.st.im j w (key e), fun j w e => S.st.scr j w (key e), fun j w e => S.st.own j w (key e), fun j k w w' a e e' => S.st.sep j k w w' a (key e) (key e'), S.st.dom, S.st.sub, S.st.tph, S.st.tap, S.st.slot, S.st.tbs⟩, S.hid0, S.sm, fun j w a e => S.own j w a (key e)⟩
/-- a slot comes to own what is new -/
theorem StS.take {i : Nat} {w : W} {a : Addr} (S : StS K c H0 ow0 hb hT hid tp ρ σ H t) (hi : i ∈ c.M) (hs : c.scr ≠ some i) (ht : c.tape ≠ some i) (hn : Nw H0 a ∨ ow0 a) (hh : hid a) (hnT : ¬ hT a) (ho : Ow K hid H w a) (hw : Wrt H a)
    (hsep : ∀ j w', ρ[j]? = some (some w') → j ∈ c.M → j ≠ i → σ[j]? ≠ some (some (.ref a))) : StS K c H0 ow0 hb hT hid tp (ρ.set i (some w)) (σ.set i (some (.ref a))) H t := by
  have len := S.st.len
  refine ⟨⟨by rw [List.length_set, List.length_set, len], fun j w' e n n2 => ?_, fun j w' e n => ?_, fun j w' e n => ?_, fun j k w1 w2 b e1 e2 n1 n2 e3 e4 => ?_, S.st.dom, S.st.sub, S.st.tph, S.st.tap, fun j e => ?_, S.st.tbs⟩, S.hid0, S.sm, fun j w' b e hj hsj => ?_⟩
  · rcases get_set e with ⟨e1, e2, e3⟩ | ⟨e1, e2⟩
    · subst e1; exact absurd hi n
    · obtain ⟨u, h1, h2⟩ := S.st.im j w' e2 n n2
      exact ⟨u, by rw [List.getElem?_set_ne (fun z => e1 z.symm)]; exact h1, h2⟩
  · rcases get_set e with ⟨e1, e2, e3⟩ | ⟨e1, e2⟩
    · subst e1; exact absurd n hs
    · obtain ⟨b, ns, h1, h2⟩ := S.st.scr j w' e2 n
      exact ⟨b, ns, by rw [List.getElem?_set_ne (fun z => e1 z.symm)]; exact h1, h2⟩
  · rcases get_set e with ⟨e1, e2, e3⟩ | ⟨e1, e2⟩
    · subst e1; cases e2
      exact ⟨a, by rw [List.getElem?_set_self (by rw [← len]; exact e3)], hh, hnT, ho⟩
    · obtain ⟨b, h1, h2⟩ := S.st.own j w' e2 n
      exact ⟨b, by rw [List.getElem?_set_ne (fun z => e1 z.symm)]; exact h1, h2⟩
  · rcases get_set e1 with ⟨q1, q2, q3⟩ | ⟨q1, q2⟩
    · rcases get_set e2 with ⟨r1, r2, r3⟩ | ⟨r1, r2⟩
      · rw [q1, r1]
      · subst q1
        rw [List.getElem?_set_self (by rw [← len]; exact q3)] at e3
        rw [List.getElem?_set_ne (fun z => r1 z.symm)] at e4
        cases e3
        exact absurd e4 (hsep k w2 r2 n2 r1)
    · rcases get_set e2 with ⟨r1, r2, r3⟩ | ⟨r1, r2⟩
      · subst r1
        rw [List.getElem?_set_self (by rw [← len]; exact r3)] at e4
        rw [List.getElem?_set_ne (fun z => q1 z.symm)] at e3
        cases e4
        exact absurd e3 (hsep j w1 q2 n1 q1)
      · rw [List.getElem?_set_ne (fun z => q1 z.symm)] at e3
        rw [List.getElem?_set_ne (fun z => r1 z.symm)] at e4
        exact S.st.sep j k w1 w2 b q2 r2 n1 n2 e3 e4
  · obtain ⟨x, y, h1, h2⟩ := S.st.slot j e
    exact ⟨x, y, h1, by rw [List.getElem?_set_ne (fun z => ht (by rw [z]; exact e))]; exact h2⟩
  · rcases get_set e with ⟨e1, e2, e3⟩ | ⟨e1, e2⟩
    · subst e1
      rw [List.getElem?_set_self (by rw [← len]; exact e3)] at hsj
      cases hsj
      exact ⟨hn, hw⟩
    · rw [List.getElem?_set_ne (fun z => e1 z.symm)] at hsj
      exact S.own j w' b e2 hj hsj
/-- more is hidden -/
theorem StS.hide (S : StS K c H0 ow0 hb hT hid tp ρ σ H t) {hid' : Addr → Prop} (h1 : ∀ a, hid a → hid' a) (h2 : ∀ a, hid' a → hid a ∨ Nw H a) (m : Sm (tps tp) H H') (k : TpOk tp H' t') (h3 : ∀ a, hid' a → ¬ Nw H' a) : StS K c H0 ow0 hb hT hid' tp ρ σ H' t' :=
  ⟨S.st.hide h1 h2 m k h3, fun a z => (h2 a z).elim (S.hid0 a) fun e => .inr (S.sm.none e), (S.next m k).sm, (S.next m k).own⟩
/-- a slot takes what an expression made -/
theorem StS.fresh {i : Nat} {w : W} {v : V} (S : StS K c H0 ow0 hb hT hid tp ρ σ H t) (hi : i ∈ c.M) (hs : c.scr ≠ some i) (ht : c.tape ≠ some i) (m : Sm (tps tp) H H') (k : TpOk tp H' t') (p : Fe K (fun _ => False) hid H H' w v) : ∃ hid', StS K c H0 ow0 hb hT hid' tp (ρ.set i (some w)) (σ.set i (some v)) H' t' := by
  obtain ⟨a, e, n, nf, ho⟩ := p
  subst e
  have hn : Nw H a := n.elim id fun z => z.elim
  have hw := ho.wrt nf
  have ha : ¬ Nw H' a := by obtain ⟨o, h, l⟩ := hw; exact Nw.not h fun ps z => by subst z; exact l
  let hid' : Addr → Prop := fun x => hid x ∨ x = a
  have S' : StS K c H0 ow0 hb hT hid' tp ρ σ H' t' := S.hide (fun x z => .inl z) (fun x z => z.imp id fun e => by rw [e]; exact hn) m k fun x z => by
    rcases z with z | z
    · exact m.dom x (S.st.dom x z)
    · rw [z]; exact ha
  refine ⟨hid', S'.take hi hs ht (.inl (S.sm.none hn)) (.inr rfl) (fun z => S.st.dom a (S.st.sub a z) hn) ho hw fun j w' e hj _ z => ?_⟩
  obtain ⟨b, e1, h1, _⟩ := S.st.own j w' e hj
  rw [z] at e1; cases e1
  exact S.st.dom _ h1 hn
/-- an owned list is written -/
theorem StS.wr {i : Nat} {w w' : W} {D : Addr} {o : HO} (S : StS K c H0 ow0 hb hT hid tp ρ σ H t) (hi : i ∈ c.M) (hsc : c.scr ≠ some i) (hρ : ρ[i]? = some (some w)) (hσ : σ[i]? = some (some (.ref D))) (ho : isLD o) (hd : Ow K hid (upd H D o) w' D) :
    StS K c H0 ow0 hb hT hid tp (ρ.set i (some w')) σ (upd H D o) t := by
  obtain ⟨D', e, hh, hn, _⟩ := S.st.own i w hρ hi
  rw [hσ] at e; cases e
  obtain ⟨hb, u, hu, l⟩ := S.own i w D hρ hi hσ
  have kp : Kp hid H (upd H D o) := Kp.wr hu l hh ho
  have ne : ∀ x v, x ≠ D → H x = some v → upd H D o x = some v := fun x v n e => by rw [upd_ne n]; exact e
  have nt : ¬ tps tp D := fun z => hn (S.st.tph D z)
  refine ⟨⟨by rw [List.length_set]; exact S.st.len, fun j w1 e n n2 => ?_, fun j w1 e n => ?_, fun j w1 e n => ?_, fun j k w1 w2 b e1 e2 n1 n2 e3 e4 => ?_, fun a z => ?_, S.st.sub, S.st.tph, S.st.tap.wr nt, S.st.slot, (Sm.wr (ex := fun _ => True) hu l trivial ho).tab S.st.tbs⟩, S.hid0, ?_, fun j w1 b e hj hs => ?_⟩
  · rcases get_set e with ⟨e1, e2, e3⟩ | ⟨e1, e2⟩
    · subst e1; exact absurd hi n
    · obtain ⟨x, h1, h2⟩ := S.st.im j w1 e2 n n2
      exact ⟨x, h1, Im.mono kp (fun _ z => .inl z) _ _ h2⟩
  · rcases get_set e with ⟨e1, e2, e3⟩ | ⟨e1, e2⟩
    · subst e1; exact absurd n hsc
    · obtain ⟨a, ns, h1, h2, h3⟩ := S.st.scr j w1 e2 n
      exact ⟨a, ns, h1, h2, h3.mono (fun _ z => .inl z) fun v nh q nt' => ne a v (fun z => nh (z ▸ hh)) q⟩
  · rcases get_set e with ⟨e1, e2, e3⟩ | ⟨e1, e2⟩
    · subst e1; cases e2
      exact ⟨D, hσ, hh, hn, hd⟩
    · obtain ⟨b, h1, h2, h3, h4⟩ := S.st.own j w1 e2 n
      have nb : b ≠ D := fun z => e1 (S.st.sep j i w1 w b e2 hρ n hi h1 (by rw [z]; exact hσ))
      exact ⟨b, h1, h2, h3, h4.mono kp (fun _ z => .inl z) fun v q nt' => ne b v nb q⟩
  · have key : ∀ {j : Nat} {x : W}, (ρ.set i (some w'))[j]? = some (some x) → ∃ y, ρ[j]? = some (some y) := fun {j x} e => by
      rcases get_set e with ⟨q1, q2, q3⟩ | ⟨q1, q2⟩
      · subst q1; exact ⟨w, hρ⟩
      · exact ⟨x, q2⟩
    obtain ⟨y1, f1⟩ := key e1
    obtain ⟨y2, f2⟩ := key e2
    exact S.st.sep j k y1 y2 b f1 f2 n1 n2 e3 e4
  · by_cases q : a = D
    · rw [q]; exact Nw.not upd_same fun ps z => by subst z; exact ho
    · obtain ⟨v, q1, q2⟩ := Nw.ob (S.st.dom a z)
      exact Nw.not (ne a v q q1) q2
  · rcases hb with hb | hb
    · exact Sm.wrNew S.sm hb hu l ho
    · exact S.sm.trans (Sm.wr hu l (.inr hb) ho)
  · have key : ∃ y, ρ[j]? = some (some y) := by
      rcases get_set e with ⟨q1, q2, q3⟩ | ⟨q1, q2⟩
      · subst q1; exact ⟨w, hρ⟩
      · exact ⟨w1, q2⟩
    obtain ⟨y, f⟩ := key
    obtain ⟨g1, v, g2, g3⟩ := S.own j y b f hj hs
    refine ⟨g1, ?_⟩
    by_cases q : b = D
    · subst q; exact ⟨o, upd_same, ho⟩
    · exact ⟨v, ne b v q g2, g3⟩
/-- less is hidden -/
theorem StE.show {K : PySem.W.Frag} {c c' : Cf} {hT hid hid' : Addr → Prop} {tp : Option (Addr × Addr)} {ρ : Sl} {σ : L2.St} {H : Hp} {t : Tp} (S : StE K c hT hid tp ρ σ H t) (h1 : ∀ a, hid' a → hid a) (h2 : ∀ a, hT a → hid' a)
    (hM : ∀ i, i ∈ c'.M → i ∈ c.M) (hsc : c'.scr = c.scr) (htp : c'.tape = c.tape) (hin : ∀ i w a, ρ[i]? = some (some w) → i ∈ c'.M → σ[i]? = some (some (.ref a)) → hid' a)
    (hout : ∀ i w a, ρ[i]? = some (some w) → i ∈ c.M → i ∉ c'.M → σ[i]? = some (some (.ref a)) → c.scr ≠ some i → ¬ hid' a) : StE K c' hT hid' tp ρ σ H t := by
  have hh : ∀ a, hid' a → hid a ∨ Nw H a := fun a z => .inl (h1 a z)
  refine ⟨S.len, fun i w e n n2 => ?_, fun i w e n => ?_, fun i w e n => ?_, fun i j w w' a e1 e2 m1 m2 => S.sep i j w w' a e1 e2 (hM i m1) (hM j m2), fun a z => S.dom a (h1 a z), h2, S.tph, S.tap, fun i e => S.slot i (by rw [← htp]; exact e), S.tbs⟩
  · rw [hsc] at n2
    by_cases q : i ∈ c.M
    · obtain ⟨a, e1, y1, y2, y3⟩ := S.own i w e q
      have nh := hout i w a e q n e1 n2
      refine ⟨_, e1, ?_⟩
      rcases y3 with ⟨ws, vs, g1, g2, g3⟩ | ⟨ws, vs, g1, g2, g3⟩ | ⟨ws, vs, g1, g2, g3⟩
      · subst g1; exact .lst nh g2 (Ims.mono Kp.refl hh _ _ g3)
      · subst g1; exact .dK nh g2 (ImK.mono Kp.refl hh _ _ g3)
      · subst g1; exact .dT nh g2 (ImT.mono Kp.refl hh _ _ g3)
    · obtain ⟨v, e1, h⟩ := S.im i w e q n2
      exact ⟨v, e1, Im.mono Kp.refl hh _ _ h⟩
  · obtain ⟨a, ns, e1, e2, h⟩ := S.scr i w e (by rw [← hsc]; exact n)
    exact ⟨a, ns, e1, e2, h.mono hh fun o _ q _ => q⟩
  · obtain ⟨a, e1, y1, y2, y3⟩ := S.own i w e (hM i n)
    exact ⟨a, e1, hin i w a e n e1, y2, y3.mono Kp.refl hh fun o q _ => q⟩
/-- at a return: nothing is owned any more -/
theorem StE.loose (S : StE K c hT hid tp ρ σ H t) : StE K { c with M := [] } hT hT tp ρ σ H t :=
  S.show S.sub (fun _ z => z) (fun i z => by cases z) rfl rfl (fun i w a _ z => by cases z) fun i w a e hi _ hs _ z => by
    obtain ⟨b, e1, _, n, _⟩ := S.own i w e hi
    rw [hs] at e1; cases e1
    exact n z
/-- a slot gives what it owns to another one -/
theorem StS.move {i j : Nat} {w : W} {v : V} (S : StS K c H0 ow0 hb hT hid tp ρ σ H t) (hi : i ∈ c.M) (hj : j ∈ c.M) (hij : i ≠ j) (hs : c.scr ≠ some i) (ht : c.tape ≠ some i) (hρ : ρ[j]? = some (some w)) (hσ : σ[j]? = some (some v)) :
    StS K c H0 ow0 hb hT hid tp ((ρ.set i (some w)).set j none) (σ.set i (some v)) H t := by
  obtain ⟨a, e1, h1, h2, h3⟩ := S.st.own j w hρ hj
  rw [hσ] at e1; cases e1
  obtain ⟨g1, g2⟩ := S.own j w a hρ hj hσ
  rw [List.set_comm _ _ hij]
  refine (S.clear (i := j)).take hi hs ht g1 h1 h2 h3 g2 fun k w' e hk ni z => ?_
  rcases get_set e with ⟨_, q, _⟩ | ⟨q1, q2⟩
  · cases q
  · exact q1 (S.st.sep k j w' w a q2 hρ hk hj z hσ)
/-- a slot gives what it owns to a plain one: it is written no more -/
theorem StS.freeze {i j : Nat} {w : W} {v : V} (S : StS K c H0 ow0 hb hT hid tp ρ σ H t) (hi : i ∉ c.M) (hj : j ∈ c.M) (hs : c.scr ≠ some i) (ht : c.tape ≠ some i) (hρ : ρ[j]? = some (some w)) (hσ : σ[j]? = some (some v)) :
    ∃ hid', StS K c H0 ow0 hb hT hid' tp ((ρ.set i (some w)).set j none) (σ.set i (some v)) H t := by
  obtain ⟨a, e1, h1, h2, h3⟩ := S.st.own j w hρ hj
  rw [hσ] at e1; cases e1
  let hid' : Addr → Prop := fun x => hid x ∧ x ≠ a
  have hh : ∀ x, hid' x → hid x ∨ Nw H x := fun x z => .inl z.1
  have hij : i ≠ j := fun z => hi (z ▸ hj)
  have S1 := S.clear (i := j)
  have E1 : StE K c hT hid' tp (ρ.set j none) σ H t := S1.st.show (fun x z => z.1) (fun x z => ⟨S.st.sub x z, fun e => h2 (e ▸ z)⟩) (fun _ z => z) rfl rfl (fun k w' b e hk z => by
      obtain ⟨b', q1, q2, _⟩ := S1.st.own k w' e hk
      rw [z] at q1; cases q1
      refine ⟨q2, fun e' => ?_⟩
      subst e'
      rcases get_set e with ⟨_, q, _⟩ | ⟨r1, r2⟩
      · cases q
      · exact r1 (S.st.sep k j w' w b r2 hρ hk hj z hσ)) fun k w' b e hk nk => absurd hk nk
  have S2 : StS K c H0 ow0 hb hT hid' tp (ρ.set j none) σ H t := ⟨E1, fun x z => S.hid0 x z.1, S1.sm, S1.own⟩
  refine ⟨hid', ?_⟩
  rw [List.set_comm _ _ hij]
  refine S2.set hi hs ht ?_
  have nh : ¬ hid' a := fun z => z.2 rfl
  rcases h3 with ⟨ws, vs, g1, g2, g3⟩ | ⟨ws, vs, g1, g2, g3⟩ | ⟨ws, vs, g1, g2, g3⟩
  · subst g1; exact .lst nh g2 (Ims.mono Kp.refl hh _ _ g3)
  · subst g1; exact .dK nh g2 (ImK.mono Kp.refl hh _ _ g3)
  · subst g1; exact .dT nh g2 (ImT.mono Kp.refl hh _ _ g3)
end
end Ev

end

section
/-! Ev7: rules of statements. -/
namespace Ev
open PySem PySem.Spec PyProof.Rows L2
variable [Tb]

structure Bs where
  H0 : Hp
  ow0 : Addr → Prop
  hb : Addr → Prop
  hT : Addr → Prop
  tp : Option (Addr × Addr)
abbrev Bs.ex (B : Bs) : Addr → Prop := fun a => tps B.tp a ∨ B.ow0 a
abbrev SB (K : PySem.W.Frag) (c : Cf) (B : Bs) (hid : Addr → Prop) (ρ : Sl) (σ : L2.St) (H : Hp) (t : Tp) : Prop := StS K c B.H0 B.ow0 B.hb B.hT hid B.tp ρ σ H t
def PR (K : PySem.W.Frag) (fr : Bool) (B : Bs) (H : Hp) (w : W) (v : V) : Prop := if fr = true then Fe K B.ow0 B.hT B.H0 H w v else Im K B.hT H w v
def OutS (K : PySem.W.Frag) (cl : Nat → Addr) (c : Cf) (fr : Bool) (E : XK) (B : Bs) (D : Ends) (r : SR) : Prop :=
  match r with
  | .next ρ t => ∀ hid σ H, SB K c B hid ρ σ H t → D.nx σ H
  | .ret w t => ∀ v H, Sm B.ex B.H0 H → TpOk B.tp H t → PR K fr B H w v → D.rt v H
  | .exc e t => ∀ H, Sm B.ex B.H0 H → TpOk B.tp H t → E (.ref (cl e)) none H
  | .bad => False
def tSv (K : PySem.W.Frag) (cl : Nat → Addr) (c : Cf) (fr : Bool) (s : Sv) (E : XK) : TS := fun D σ H => ∃ B hid ρ t, SB K c B hid ρ σ H t ∧ OutS K cl c fr E B D (s ρ t)
abbrev SX (X : Cx) (cl : Nat → Addr) (c : Cf) (fr : Bool) (st : Stmt) (s : Sv) (E : XK) : Prop := PS X st (tSv X.K cl c fr s E)
abbrev SsX (X : Cx) (cl : Nat → Addr) (c : Cf) (fr : Bool) (sts : List Stmt) (s : Sv) (E : XK) : Prop := PSs X sts (tSv X.K cl c fr s E)
def toS {α : Type} (r : Rs α) (f : α → Tp → SR) : SR := match r with
  | .ok a t => f a t
  | .exc e t => .exc e t
  | .bad => .bad
section
variable {K : PySem.W.Frag} {cl : Nat → Addr} {c : Cf} {fr : Bool} {E : XK} {B : Bs} {D : Ends} {hid : Addr → Prop} {ρ : Sl} {σ : L2.St} {H H1 : Hp} {t t1 : Tp}
theorem OutS.seq {α β : Type} {r : Rs α} {f : α → Tp → SR} {P1 : Hp → α → Hp → β → Prop} {Q1 : β → Hp → Prop} (S : SB K c B hid ρ σ H t) (h : OutS K cl c fr E B D (toS r f))
    (k : ∀ a t1 v1 H1, r = .ok a t1 → Sm (tps B.tp) H H1 → TpOk B.tp H1 t1 → P1 H a H1 v1 → OutS K cl c fr E B D (f a t1) → Q1 v1 H1) : Out cl B.tp E H r P1 Q1 := by
  cases r with
  | ok a t => exact fun v1 H1 m k1 p => k a t v1 H1 rfl m k1 p h
  | exc e t => exact fun H' m k1 => h H' (S.sm.trans (m.imp fun a z => .inl z)) k1
  | bad => exact h
theorem SB.run (S : SB K c B hid ρ σ H t) {m : Mo} {s : Ex} {f : W → Tp → SR} {Q : VK} (h : OutS K cl c fr E B D (toS (s ρ t) f))
    (k : ∀ a t1 v1 H1, Sm (tps B.tp) H H1 → TpOk B.tp H1 t1 → PWm K m B.hT hid H a H1 v1 → OutS K cl c fr E B D (f a t1) → Q v1 H1) : tEx K cl c m s E σ H Q :=
  ⟨B.hT, hid, B.tp, ρ, t, S.st, OutS.seq S h fun a t1 v1 H1 _ => k a t1 v1 H1⟩
end

section
variable {X : Cx} {cl : Nat → Addr} {c : Cf} {fr : Bool} {E : XK} {pos : Pos} {st : Stmt} {rest : List Stmt} {e a b : Expr} {s sa sb : Ex} {u v : Sv}

/-! ### blocks -/
def sNext : Sv := fun ρ t => .next ρ t
def sThen (u v : Sv) : Sv := fun ρ t => match u ρ t with
  | .next ρ t => v ρ t
  | .ret w t => .ret w t
  | .exc e t => .exc e t
  | .bad => .bad
theorem ss_nil : SsX X cl c fr [] sNext E := PSs_imp pss_nil fun D σ H ⟨B, hid, ρ, t, S, o⟩ => o hid σ H S
theorem ss_one (h : SX X cl c fr st u E) : SsX X cl c fr [st] u E := pss_one h
theorem ss_cons (h1 : SX X cl c fr st u E) (h2 : SsX X cl c fr rest v E) : SsX X cl c fr (st :: rest) (sThen u v) E :=
  PSs_imp (pss_cons h1 h2) fun D σ H ⟨B, hid, ρ, t, S, o⟩ => by
    refine ⟨B, hid, ρ, t, S, ?_⟩
    have o : OutS X.K cl c fr E B D (match u ρ t with | .next ρ t => v ρ t | .ret w t => .ret w t | .exc e t => .exc e t | .bad => .bad) := o
    cases q : u ρ t with
    | next ρ1 t1 => rw [q] at o; exact fun hid1 σ1 H1 S1 => ⟨B, hid1, ρ1, t1, S1, o⟩
    | ret w t1 => rw [q] at o; exact o
    | exc k t1 => rw [q] at o; exact o
    | bad => rw [q] at o; exact o
theorem sx_pass : SX X cl c fr (.Pass pos) sNext E := PS_imp ps_pass fun D σ H ⟨B, hid, ρ, t, S, o⟩ => o hid σ H S
theorem sx_doc {x j pos'} : SX X cl c fr (.Expr (.Constant (.str x) j pos) pos') sNext E := PS_imp ps_doc fun D σ H ⟨B, hid, ρ, t, S, o⟩ => o hid σ H S

/-! ### names are set -/
def sSet (i : Nat) (s : Ex) : Sv := fun ρ t => toS (s ρ t) fun w t => .next (ρ.set i (some w)) t
structure NmOk (X : Cx) (c : Cf) (i : Nat) (x : Str) : Prop where
  nd : X.N.Nodup
  at_ : X.N[i]? = some x
  loc : Loc X.env.scope x
  fn : X.fn x = true ∨ X.env.scope.names.lookup x = some .local
  scr : c.scr ≠ some i
  tape : c.tape ≠ some i
theorem sx_set {i : Nat} {x : Str} {pos' : Pos} (n : NmOk X c i x) (hm : i ∉ c.M) (he : EX X cl c .safe e s E) (hs : swapsWith e (some (.Name x pos')) pos.line X.env = pure false) : SX X cl c fr (.Assign [.Name x pos'] e pos) (sSet i s) E :=
  PS_imp (ps_set n.nd n.at_ n.loc he hs n.fn) fun D σ H ⟨B, hid, ρ, t, S, o⟩ => S.run o fun w t1 v1 H1 m1 k1 p1 o1 =>
    o1 hid _ H1 ((S.next m1 k1).set hm n.scr n.tape p1)
theorem sx_own {i : Nat} {x : Str} {pos' : Pos} (n : NmOk X c i x) (hm : i ∈ c.M) (he : EX X cl c .fresh e s E) (hs : swapsWith e (some (.Name x pos')) pos.line X.env = pure false) : SX X cl c fr (.Assign [.Name x pos'] e pos) (sSet i s) E :=
  PS_imp (ps_set n.nd n.at_ n.loc he hs n.fn) fun D σ H ⟨B, hid, ρ, t, S, o⟩ => S.run o fun w t1 v1 H1 m1 k1 p1 o1 => by
    obtain ⟨hid', S'⟩ := S.fresh hm n.scr n.tape m1 k1 p1
    exact o1 hid' _ H1 S'
/-- x = y, y's list goes over to x -/
def sMove (i j : Nat) : Sv := fun ρ t => match ρ[j]? with
  | some (some w) => .next ((ρ.set i (some w)).set j none) t
  | _ => .bad
theorem mv_ok {K : PySem.W.Frag} {B : Bs} {D : Ends} {ρ : Sl} {t : Tp} {i j : Nat} (o : OutS K cl c fr E B D (sMove i j ρ t)) : ∃ w, ρ[j]? = some (some w) ∧ OutS K cl c fr E B D (.next ((ρ.set i (some w)).set j none) t) := by
  unfold sMove at o
  split at o
  · rename_i w q
    exact ⟨w, q, o⟩
  · exact False.elim o
theorem sx_move {i j : Nat} {x y : Str} {pos' p : Pos} (n : NmOk X c i x) (hi : i ∈ c.M) (hj : j ∈ c.M) (hij : i ≠ j) (hN : X.N[j]? = some y) (hv : Vis X.env.scope y) (hd : (y == ("__debug__" : Str)) = false) (hcd : (y == ("__classdict__" : Str)) = false)
    (hs : swapsWith (.Name y p) (some (.Name x pos')) pos.line X.env = pure false) : SX X cl c fr (.Assign [.Name x pos'] (.Name y p) pos) (sMove i j) E :=
  PS_imp (ps_set n.nd n.at_ n.loc (pe_var hN hv hd hcd) hs n.fn) fun D σ H ⟨B, hid, ρ, t, S, o⟩ => by
    obtain ⟨w, q, o⟩ := mv_ok o
    obtain ⟨a, e1, _⟩ := S.st.own j w q hj
    exact ⟨_, e1, o hid _ H (S.move hi hj hij n.scr n.tape q e1)⟩
theorem sx_freeze {i j : Nat} {x y : Str} {pos' p : Pos} (n : NmOk X c i x) (hi : i ∉ c.M) (hj : j ∈ c.M) (hN : X.N[j]? = some y) (hv : Vis X.env.scope y) (hd : (y == ("__debug__" : Str)) = false) (hcd : (y == ("__classdict__" : Str)) = false)
    (hs : swapsWith (.Name y p) (some (.Name x pos')) pos.line X.env = pure false) : SX X cl c fr (.Assign [.Name x pos'] (.Name y p) pos) (sMove i j) E :=
  PS_imp (ps_set n.nd n.at_ n.loc (pe_var hN hv hd hcd) hs n.fn) fun D σ H ⟨B, hid, ρ, t, S, o⟩ => by
    obtain ⟨w, q, o⟩ := mv_ok o
    obtain ⟨a, e1, _⟩ := S.st.own j w q hj
    obtain ⟨hid', S'⟩ := S.freeze hi hj n.scr n.tape q e1
    exact ⟨_, e1, o hid' _ H S'⟩
/-- target = value -/
def sAsg (g : Gw) (s : Ex) : Sv := fun ρ t => toS (s ρ t) fun w t => match g w ρ with
  | some ρ' => .next ρ' t
  | none => .bad
theorem SB.tgt {K : PySem.W.Frag} {B : Bs} {hid : Addr → Prop} {ρ ρ' : Sl} {σ σ' : L2.St} {H : Hp} {t : Tp} {is : List Nat} (S : SB K c B hid ρ σ H t) (S' : StE K c B.hT hid B.tp ρ' σ' H t) (hm : ∀ i ∈ is, i ∉ c.M)
    (f : ∀ j, j ∉ is → σ'[j]? = σ[j]?) (f' : ∀ j, j ∉ is → ρ'[j]? = ρ[j]?) : SB K c B hid ρ' σ' H t :=
  ⟨S', S.hid0, S.sm, fun i w a e hi hs => by
    have ni : i ∉ is := fun z => hm i z hi
    rw [f' i ni] at e
    rw [f i ni] at hs
    exact S.own i w a e hi hs⟩
theorem sx_asg {tg : Expr} {g : Gw} {is : List Nat} (hg : GX X c tg g is) (hm : ∀ i ∈ is, i ∉ c.M) (he : EX X cl c .safe e s E) (hs : swapsWithSole [tg] e pos.line X.env = pure false) (hw : swappedStores [tg] e X.env = pure none)
    (h1 : (assignEach [tg] X.env).map (·.2) = [assign tg X.env]) : SX X cl c fr (.Assign [tg] e pos) (sAsg g s) E :=
  PS_imp (ps_asg he hg hs hw h1) fun D σ H ⟨B, hid, ρ, t, S, o⟩ => S.run o fun w t1 v1 H1 m1 k1 p1 o1 => by
    have S1 := S.next m1 k1
    cases q : g w ρ with
    | none =>
      have o1 : OutS X.K cl c fr E B D (match g w ρ with | some ρ' => .next ρ' t1 | none => .bad) := o1
      rw [q] at o1; exact False.elim o1
    | some ρ' =>
      have o1 : OutS X.K cl c fr E B D (match g w ρ with | some ρ' => .next ρ' t1 | none => .bad) := o1
      rw [q] at o1
      exact ⟨B.hT, hid, B.tp, ρ, t1, w, ρ', S1.st, p1, q, fun σ' S' _ f f' => o1 hid σ' H1 (SB.tgt S1 S' hm f f')⟩
/-- a, b = x, y: b's slot is stored first, but the values are there before -/
def sPar2 (i j : Nat) (sa sb : Ex) : Sv := fun ρ t => toS (sa ρ t) fun w t => toS (sb ρ t) fun w' t => .next ((ρ.set i (some w)).set j (some w')) t
def mo (b : Bool) : Mo := if b = true then .fresh else .safe
theorem SB.put {K : PySem.W.Frag} {B : Bs} {hid : Addr → Prop} {ρ ρ' : Sl} {σ σ' : L2.St} {H H1 : Hp} {t t1 : Tp} {i : Nat} {x : Str} {b : Bool} {w : W} {v : V} (S0 : SB K c B hid ρ σ H t) (S : SB K c B hid ρ' σ' H t) (n : NmOk X c i x) (hb : (decide (i ∈ c.M)) = b) (m : Sm (tps B.tp) H H1) (k : TpOk B.tp H1 t1)
    (p : PWm K (mo b) B.hT hid H w H1 v) : ∃ hid', SB K c B hid' ρ σ H1 t1 ∧ SB K c B hid' (ρ'.set i (some w)) (σ'.set i (some v)) H1 t1 := by
  cases b with
  | false =>
    have hm : i ∉ c.M := of_decide_eq_false hb
    exact ⟨hid, S0.next m k, (S.next m k).set hm n.scr n.tape p⟩
  | true =>
    have hm : i ∈ c.M := of_decide_eq_true hb
    obtain ⟨a, e, nw, nf, ho⟩ := (show Fe K (fun _ => False) hid H H1 w v from p)
    subst e
    have hn : Nw H a := nw.elim id fun z => z.elim
    have hw := ho.wrt nf
    have ha : ¬ Nw H1 a := by obtain ⟨o, h, l⟩ := hw; exact Nw.not h fun ps z => by subst z; exact l
    let hid' : Addr → Prop := fun x => hid x ∨ x = a
    have h2 : ∀ x, hid' x → hid x ∨ Nw H x := fun x z => z.imp id fun e => by rw [e]; exact hn
    have h3 : ∀ x, hid' x → ¬ Nw H1 x := fun x z => by
      rcases z with z | z
      · exact m.dom x (S.st.dom x z)
      · rw [z]; exact ha
    have S' : SB K c B hid' ρ' σ' H1 t1 := StS.hide S (fun x z => .inl z) h2 m k h3
    refine ⟨hid', StS.hide S0 (fun x z => .inl z) h2 m k h3, StS.take S' hm n.scr n.tape (.inl (S.sm.none hn)) (.inr rfl) (fun z => S.st.dom a (S.st.sub a z) hn) ho hw fun j w' e hj _ z => ?_⟩
    obtain ⟨b, e1, h1, _⟩ := S.st.own j w' e hj
    rw [z] at e1; cases e1
    exact S.st.dom _ h1 hn
/-- a, b evaluated one after another -/
def tTwo (ta tb : TE) : TA := fun σ H Q => ta σ H fun v H1 => tb σ H1 fun w H2 => Q [v, w] H2
theorem pa_two {ta tb : TE} (ha : PE X a ta) (hb : PE X b tb) (h1 : starEach [a, b] X.env = (false, eval a X.env) :: starEach [b] X.env) (h2 : starEach [b] X.env = [(false, eval b X.env)]) : PA X [a, b] (tTwo ta tb) :=
  PA_imp (pa_cons ha (pa_cons hb pa_nil h2) h1) fun σ H Q h => h
theorem sx_par2 {i j : Nat} {x y : Str} {px py pt : Pos} {kt k2 pt2} {b1 b2 : Bool} (hc : X.calm = true) (n1 : NmOk X c i x) (n2 : NmOk X c j y) (hij : i ≠ j) (l1 : X.env.scope.names.lookup x = some .local) (l2 : X.env.scope.names.lookup y = some .local) (m1 : decide (i ∈ c.M) = b1) (m2 : decide (j ∈ c.M) = b2)
    (ha : EX X cl c (mo b1) a sa E) (hb : EX X cl c (mo b2) b sb E) (h1 : starEach [a, b] X.env = (false, eval a X.env) :: starEach [b] X.env) (h2 : starEach [b] X.env = [(false, eval b X.env)])
    (hw : swappedStores [.Tuple [.Name x px, .Name y py] kt pt] (.Tuple [a, b] k2 pt2) X.env = pure (some [x, y]))
    (hs : swapsWithSole [.Tuple [.Name x px, .Name y py] kt pt] (.Tuple [a, b] k2 pt2) pos.line X.env = pure false) :
    SX X cl c fr (.Assign [.Tuple [.Name x px, .Name y py] kt pt] (.Tuple [a, b] k2 pt2) pos) (sPar2 i j sa sb) E :=
  PS_imp (ps_par hc n1.nd n1.at_ n2.at_ hij l1 l2 (pa_two ha hb h1 h2) hw hs) fun D σ H ⟨B, hid, ρ, t, S, o⟩ => S.run o fun w t1 v1 H1 sm1 k1 p1 o1 => by
    obtain ⟨hid1, S1, S2⟩ := SB.put S S n1 m1 sm1 k1 p1
    refine SB.run S1 o1 fun w' t2 v2 H2 sm2 k2 p2 o2 => ?_
    obtain ⟨hid2, _, S4⟩ := SB.put S1 S2 n2 m2 sm2 k2 p2
    exact ⟨v1, v2, rfl, o2 hid2 _ H2 S4⟩
def sPar3 (i j l : Nat) (sa sb sc : Ex) : Sv := fun ρ t => toS (sa ρ t) fun w t => toS (sb ρ t) fun w' t => toS (sc ρ t) fun w'' t => .next (((ρ.set i (some w)).set j (some w')).set l (some w'')) t
def tThree (ta tb tc : TE) : TA := fun σ H Q => ta σ H fun u H1 => tb σ H1 fun v H2 => tc σ H2 fun w H3 => Q [u, v, w] H3
theorem pa_three {d : Expr} {ta tb tc : TE} (ha : PE X a ta) (hb : PE X b tb) (hc : PE X d tc) (h1 : starEach [a, b, d] X.env = (false, eval a X.env) :: starEach [b, d] X.env) (h2 : starEach [b, d] X.env = (false, eval b X.env) :: starEach [d] X.env) (h3 : starEach [d] X.env = [(false, eval d X.env)]) : PA X [a, b, d] (tThree ta tb tc) :=
  PA_imp (pa_cons ha (pa_cons hb (pa_cons hc pa_nil h3) h2) h1) fun σ H Q h => h
theorem sx_par3 {i j l : Nat} {x y z : Str} {d : Expr} {sc : Ex} {px py pz pt : Pos} {kt k2 pt2} {b1 b2 b3 : Bool} (hc : X.calm = true) (n1 : NmOk X c i x) (n2 : NmOk X c j y) (n3 : NmOk X c l z) (hij : i ≠ j) (hil : i ≠ l) (hjl : j ≠ l) (l1 : X.env.scope.names.lookup x = some .local) (l2 : X.env.scope.names.lookup y = some .local) (l3 : X.env.scope.names.lookup z = some .local) (m1 : decide (i ∈ c.M) = b1) (m2 : decide (j ∈ c.M) = b2) (m3 : decide (l ∈ c.M) = b3)
    (ha : EX X cl c (mo b1) a sa E) (hb : EX X cl c (mo b2) b sb E) (hd : EX X cl c (mo b3) d sc E) (h1 : starEach [a, b, d] X.env = (false, eval a X.env) :: starEach [b, d] X.env) (h2 : starEach [b, d] X.env = (false, eval b X.env) :: starEach [d] X.env) (h3 : starEach [d] X.env = [(false, eval d X.env)])
    (hw : swappedStores [.Tuple [.Name x px, .Name y py, .Name z pz] kt pt] (.Tuple [a, b, d] k2 pt2) X.env = pure (some [x, y, z]))
    (hs : swapsWithSole [.Tuple [.Name x px, .Name y py, .Name z pz] kt pt] (.Tuple [a, b, d] k2 pt2) pos.line X.env = pure false) :
    SX X cl c fr (.Assign [.Tuple [.Name x px, .Name y py, .Name z pz] kt pt] (.Tuple [a, b, d] k2 pt2) pos) (sPar3 i j l sa sb sc) E :=
  PS_imp (ps_par3 hc n1.nd n1.at_ n2.at_ n3.at_ hij hil hjl l1 l2 l3 (pa_three ha hb hd h1 h2 h3) hw hs) fun D σ H ⟨B, hid, ρ, t, S, o⟩ => S.run o fun w t1 v1 H1 sm1 k1 p1 o1 => by
    obtain ⟨hid1, S1, T1⟩ := SB.put S S n1 m1 sm1 k1 p1
    refine SB.run S1 o1 fun w' t2 v2 H2 sm2 k2 p2 o2 => ?_
    obtain ⟨hid2, S2, T2⟩ := SB.put S1 T1 n2 m2 sm2 k2 p2
    refine SB.run S2 o2 fun w'' t3 v3 H3 sm3 k3 p3 o3 => ?_
    obtain ⟨hid3, _, T3⟩ := SB.put S2 T2 n3 m3 sm3 k3 p3
    exact ⟨v1, v2, v3, rfl, o3 hid3 _ H3 T3⟩
end
end Ev

end

section
/-! Ev8: rules of statements, 2. -/
namespace Ev
open PySem PySem.Spec PyProof.Rows L2
variable [Tb]
section
variable {K : PySem.W.Frag} {cl : Nat → Addr} {c : Cf} {fr : Bool} {E : XK} {B : Bs} {D : Ends} {hid : Addr → Prop} {ρ : Sl} {σ : L2.St} {H H1 : Hp} {t t1 : Tp}
/-- an owned list, to be written -/
theorem SB.lst {i : Nat} {ws : List W} (S : SB K c B hid ρ σ H t) (hi : i ∈ c.M) (hsc : c.scr ≠ some i) (hρ : ρ[i]? = some (some (.list ws))) :
    ∃ a dv, σ[i]? = some (some (.ref a)) ∧ H a = some (.lst dv) ∧ Ims K hid H ws dv ∧
      ∀ ws' dv', Ims K hid H ws' dv' → SB K c B hid (ρ.set i (some (.list ws'))) σ (upd H a (.lst dv')) t := by
  obtain ⟨a, e1, hh, hn, ho⟩ := S.st.own i _ hρ hi
  obtain ⟨hb, u, hu, l⟩ := S.own i _ a hρ hi e1
  rcases ho with ⟨ws1, dv, e, h2, h3⟩ | ⟨_, _, e, _⟩ | ⟨_, _, e, _⟩
  · cases e
    refine ⟨a, dv, e1, h2, h3, fun ws' dv' h => StS.wr S hi hsc hρ e1 trivial (.inl ⟨ws', dv', rfl, upd_same, ?_⟩)⟩
    exact Ims.mono (Kp.wr (o := .lst dv') h2 trivial hh trivial) (fun _ z => .inl z) _ _ h
  · cases e
  · cases e
end
section
variable {X : Cx} {cl : Nat → Addr} {c : Cf} {fr : Bool} {E : XK} {pos : Pos} {st : Stmt} {rest : List Stmt} {e a b : Expr} {s sa sb : Ex} {u v : Sv}
/-! ### name op= e -/
def sAug (f : W → W → Option W) (i : Nat) (s : Ex) : Sv := fun ρ t => match ρ[i]? with
  | some (some x) => toS (s ρ t) fun y t => match f x y with
    | some z => .next (ρ.set i (some z)) t
    | none => .bad
  | _ => .bad
theorem sx_aug {i : Nat} {x : Str} {pos' : Pos} {op : Operator} {f : W → W → Option W} {r : R2} (n : NmOk X c i x) (hm : i ∉ c.M) (he : EX X cl c .bor e s E) (ho : OpR X (inplaceOp op) r) (hf : BinOk X.K r f .safe) :
    SX X cl c fr (.AugAssign (.Name x pos') op e pos) (sAug f i s) E :=
  PS_imp (ps_aug n.nd n.at_ n.loc he ho n.fn) fun D σ H ⟨B, hid, ρ, t, S, o⟩ => by
    have o : OutS X.K cl c fr E B D (match ρ[i]? with | some (some x) => toS (s ρ t) fun y t => (match f x y with | some z => .next (ρ.set i (some z)) t | none => .bad) | _ => .bad) := o
    split at o
    · rename_i w q
      obtain ⟨x1, e1, h1⟩ := S.st.im i w q hm n.scr
      refine ⟨x1, e1, S.run o fun y t1 v1 H1 m1 k1 p1 o1 => ?_⟩
      have S1 := S.next m1 k1
      obtain ⟨x2, e2, h2⟩ := S1.st.im i w q hm n.scr
      rw [e1] at e2; cases e2
      cases ef : f w y with
      | none => rw [ef] at o1; exact False.elim o1
      | some z =>
        rw [ef] at o1
        refine hf B.hT hid H1 x1 v1 w y z _ S1.st.dom (.inl h2) p1 ef fun v H2 m2 p2 => ?_
        have k2 : TpOk B.tp H2 t1 := Out.ok_ (cl := cl) (E := E) (P := fun _ _ _ _ => True) (Q := fun (_ : Unit) H' => TpOk B.tp H' t1) (a := ()) (v := ()) (fun _ _ _ k _ => k) k1 m2 trivial
        exact o1 hid _ H2 ((S1.next (m2.imp fun _ z => z.elim) k2).set hm n.scr n.tape p2)
    · exact False.elim o
def wIAdd : W → W → Option W
  | .int i, .int j => some (.int (i + j))
  | _, _ => none
theorem ok_iadd {K : PySem.W.Frag} : BinOk K (ipI fun i j => i + j) wIAdd .safe := by
  intro hT hid H x y a b z Q hd ha hb hz q
  cases a <;> cases b <;> simp only [wIAdd] at hz <;> cases hz
  rw [bo_int ha, bo_int hb]
  exact ⟨_, _, rfl, rfl, q _ _ Sm.refl (.int _)⟩
theorem ok_isub {K : PySem.W.Frag} : BinOk K (ipI fun i j => i - j) wSub .safe := by
  intro hT hid H x y a b z Q hd ha hb hz q
  cases a <;> cases b <;> simp only [wSub] at hz <;> cases hz
  rw [bo_int ha, bo_int hb]
  exact ⟨_, _, rfl, rfl, q _ _ Sm.refl (.int _)⟩
def wIMul : W → W → Option W
  | .int i, .int j => if mulOk i j = true then some (.int (i * j)) else none
  | _, _ => none
theorem ok_imul {K : PySem.W.Frag} : BinOk K (rI CMulX fun i j => .int (i * j)) wIMul .safe := by
  intro hT hid H x y a b z Q hd ha hb hz q
  cases a <;> cases b <;> simp only [wIMul] at hz <;> try cases hz
  obtain ⟨c, e⟩ := if_some hz
  subst e
  rw [bo_int ha, bo_int hb]
  exact ⟨_, _, rfl, rfl, mulOk_ok c, q _ _ Sm.refl (.int _)⟩

/-! ### x[i] = e -/
def wPut : W → W → W → Option W
  | .list xs, .int k, w => (ixN xs.length k).map fun j => .list (xs.set j w)
  | _, _, _ => none
def sPut (i : Nat) (si s : Ex) : Sv := fun ρ t => toS (s ρ t) fun w t => match ρ[i]? with
  | some (some x) => toS (si ρ t) fun k t => match wPut x k w with
    | some x' => .next (ρ.set i (some x')) t
    | none => .bad
  | _ => .bad
theorem sx_put {i : Nat} {x : Str} {ix : Expr} {si : Ex} {px p : Pos} (hN : X.N[i]? = some x) (hv : Vis X.env.scope x) (hm : i ∈ c.M) (hsc : c.scr ≠ some i) (hd : (x == ("__debug__" : Str)) = false) (hcd : (x == ("__classdict__" : Str)) = false) (hix : EX X cl c .bor ix si E) (he : EX X cl c .safe e s E)
    (ha : ∀ v, assign (.Subscript (.Name x px) ix p) X.env v = (do
      let ov ← holding [v] (eval (.Name x px) X.env)
      let iv ← holding [v, ov] (eval ix X.env)
      standAt p
      holding [v, ov, iv] (setItem ov iv v)
      release [v, ov, iv] []))
    (hs : swapsWithSole [.Subscript (.Name x px) ix p] e pos.line X.env = pure false) (hw : swappedStores [.Subscript (.Name x px) ix p] e X.env = pure none)
    (h1 : (assignEach [.Subscript (.Name x px) ix p] X.env).map (·.2) = [assign (.Subscript (.Name x px) ix p) X.env]) : SX X cl c fr (.Assign [.Subscript (.Name x px) ix p] e pos) (sPut i si s) E :=
  PS_imp (ps_asg he (pg_sub (pe_var hN hv hd hcd) hix set_list ha) hs hw h1) fun D σ H ⟨B, hid, ρ, t, S, o⟩ => S.run o fun w t1 v1 H1 m1 k1 p1 o1 => by
    have S1 := S.next m1 k1
    have o1 : OutS X.K cl c fr E B D (match ρ[i]? with | some (some x) => toS (si ρ t1) fun k t => (match wPut x k w with | some x' => .next (ρ.set i (some x')) t | none => .bad) | _ => .bad) := o1
    split at o1
    · rename_i y q
      obtain ⟨a, e1, zz⟩ := S1.st.own i y q hm; clear zz
      refine ⟨.ref a, e1, SB.run S1 o1 fun kk t2 v2 H2 m2 k2 p2 o2 => ?_⟩
      have S2 := StS.next S1 m2 k2
      cases y <;> simp only [wPut] at o2 <;> try exact False.elim o2
      rename_i ws
      cases kk <;> simp only [wPut] at o2 <;> try exact False.elim o2
      rename_i k
      cases ej : ixN ws.length k with
      | none => rw [ej] at o2; exact False.elim o2
      | some j =>
        rw [ej] at o2
        obtain ⟨a', dv, e2, h2, h3, go⟩ := SB.lst S2 hm hsc q
        rw [e1] at e2; cases e2
        refine ⟨a, dv, k, j, rfl, bo_int p2, h2, by rw [← h3.length]; exact ej, ?_⟩
        have p1' : Im X.K hid H2 w v1 := Im.mono (m2.kp fun x z => S.st.sub x (S.st.tph x z)) (fun _ z => .inl z) _ _ p1
        exact o2 hid _ _ (go _ _ (Ims.set p1' j h3))
    · exact False.elim o1
/-! ### xs.append(e), xs.extend(e), xs.pop() -/
def sApp (i : Nat) (s : Ex) : Sv := fun ρ t => match ρ[i]? with
  | some (some (.list xs)) => toS (s ρ t) fun w t => if decide (xs.length < 16777216) = true then .next (ρ.set i (some (.list (xs ++ [w])))) t else .bad
  | _ => .bad
theorem fewS {α : Type} {K : PySem.W.Frag} {B : Bs} {D : Ends} {p : Bool} {r : SR} (h : OutS K cl c fr E B D (if p = true then r else .bad)) : p = true ∧ OutS K cl c fr E B D r := by
  cases p with
  | true => exact ⟨rfl, h⟩
  | false => exact False.elim h
theorem sx_app {i : Nat} {x : Str} {px apos cpos : Pos} (hN : X.N[i]? = some x) (hv : Vis X.env.scope x) (hm : i ∈ c.M) (hsc : c.scr ≠ some i) (hd : (x == ("__debug__" : Str)) = false) (hcd : (x == ("__classdict__" : Str)) = false) (he : EX X cl c .safe e s E)
    (hbase : attributeBase (.Name x px) "append" X.env (eval (.Name x px) X.env) = eval (.Name x px) X.env)
    (hfew : ((backTo cpos (starEach [e] X.env)).all (fun x => !x.1) && (backToKw cpos (keywordEach [] X.env)).all (fun x => x.1.isSome)
      && decide ([e].length + ([] : List Keyword).length + (if ([] : List Keyword).isEmpty then 0 else 1) < 30)) = true)
    (hline : (apos.endLine == cpos.line) = true) (hst : starEach [e] X.env = [(false, eval e X.env)]) (hplain : (backTo cpos (starEach [] X.env)).any (·.1) = false)
    (hsw : swapsWith (.Call (.Attribute (.Name x px) "append" apos) [e] [] cpos) none pos.line X.env = pure false) :
    SX X cl c fr (.Expr (.Call (.Attribute (.Name x px) "append" apos) [e] [] cpos) pos) (sApp i s) E :=
  PS_imp (ps_expr (pe_bm PySem.F.plainAttrs_list PySem.F.slot_list_append PySem.F.type_list_append mt_append (pe_var hN hv hd hcd) (pa_cons he pa_nil hst) hbase hfew hline hst hplain) hsw) fun D σ H ⟨B, hid, ρ, t, S, o⟩ => by
    have o : OutS X.K cl c fr E B D (match ρ[i]? with | some (some (.list xs)) => toS (s ρ t) fun w t => (if decide (xs.length < 16777216) = true then .next (ρ.set i (some (.list (xs ++ [w])))) t else .bad) | _ => .bad) := o
    split at o
    · rename_i ws q
      obtain ⟨a, dv, e1, h1, h2, _⟩ := SB.lst S hm hsc q
      refine ⟨.ref a, e1, .inl ⟨rfl, dv, .inl (.inl h1)⟩, SB.run S o fun w t1 v1 H1 m1 k1 p1 o1 => ?_⟩
      obtain ⟨hf, o1⟩ := fewS (α := Unit) o1
      have S1 := StS.next S m1 k1
      obtain ⟨a', dv', e1', h1', h2', go⟩ := SB.lst S1 hm hsc q
      rw [e1] at e1'; cases e1'
      refine ⟨a, dv', v1, rfl, rfl, h1', by rw [← h2'.length, sizeLine_eq]; exact of_decide_eq_true hf, ?_⟩
      exact o1 hid _ _ (go _ _ (h2'.append (.cons p1 .nil)))
    · exact False.elim o
def wLst : W → Option (List W)
  | .list xs => some xs
  | _ => none
def sExt (i : Nat) (s : Ex) : Sv := fun ρ t => match ρ[i]? with
  | some (some (.list xs)) => toS (s ρ t) fun w t => match w with
    | .list ys => if decide (xs.length + ys.length ≤ 16777216) = true then .next (ρ.set i (some (.list (xs ++ ys)))) t else .bad
    | _ => .bad
  | _ => .bad
theorem sx_ext {i : Nat} {x : Str} {px apos cpos : Pos} (hN : X.N[i]? = some x) (hv : Vis X.env.scope x) (hm : i ∈ c.M) (hsc : c.scr ≠ some i) (hd : (x == ("__debug__" : Str)) = false) (hcd : (x == ("__classdict__" : Str)) = false) (he : EX X cl c .bor e s E)
    (hbase : attributeBase (.Name x px) "extend" X.env (eval (.Name x px) X.env) = eval (.Name x px) X.env)
    (hfew : ((backTo cpos (starEach [e] X.env)).all (fun x => !x.1) && (backToKw cpos (keywordEach [] X.env)).all (fun x => x.1.isSome)
      && decide ([e].length + ([] : List Keyword).length + (if ([] : List Keyword).isEmpty then 0 else 1) < 30)) = true)
    (hline : (apos.endLine == cpos.line) = true) (hst : starEach [e] X.env = [(false, eval e X.env)]) (hplain : (backTo cpos (starEach [] X.env)).any (·.1) = false)
    (hsw : swapsWith (.Call (.Attribute (.Name x px) "extend" apos) [e] [] cpos) none pos.line X.env = pure false) :
    SX X cl c fr (.Expr (.Call (.Attribute (.Name x px) "extend" apos) [e] [] cpos) pos) (sExt i s) E :=
  PS_imp (ps_expr (pe_bm PySem.F.plainAttrs_list PySem.F.slot_list_extend PySem.F.type_list_extend mt_extend (pe_var hN hv hd hcd) (pa_cons he pa_nil hst) hbase hfew hline hst hplain) hsw) fun D σ H ⟨B, hid, ρ, t, S, o⟩ => by
    have o : OutS X.K cl c fr E B D (match ρ[i]? with | some (some (.list xs)) => toS (s ρ t) fun w t => (match w with | .list ys => if decide (xs.length + ys.length ≤ 16777216) = true then .next (ρ.set i (some (.list (xs ++ ys)))) t else .bad | _ => .bad) | _ => .bad) := o
    split at o
    · rename_i ws q
      obtain ⟨a, dv, e1, h1, h2, _⟩ := SB.lst S hm hsc q
      refine ⟨.ref a, e1, .inl ⟨rfl, dv, .inl (.inl h1)⟩, SB.run S o fun w t1 v1 H1 m1 k1 p1 o1 => ?_⟩
      cases w <;> try exact False.elim o1
      rename_i ys
      obtain ⟨hf, o1⟩ := fewS (α := Unit) o1
      have S1 := StS.next S m1 k1
      obtain ⟨a', dv', e1', h1', h2', go⟩ := SB.lst S1 hm hsc q
      rw [e1] at e1'; cases e1'
      obtain ⟨b, yv, rfl, hb, ib⟩ := bo_lst p1
      refine ⟨a, b, dv', yv, rfl, rfl, h1', hb, by rw [← h2'.length, ← ib.length, sizeLine_eq]; exact of_decide_eq_true hf, ?_⟩
      exact o1 hid _ _ (go _ _ (h2'.append ib))
    · exact False.elim o
def sPop (i : Nat) : Sv := fun ρ t => match ρ[i]? with
  | some (some (.list xs)) => if decide (0 < xs.length) = true then .next (ρ.set i (some (.list xs.dropLast))) t else .bad
  | _ => .bad
theorem sx_pop {i : Nat} {x : Str} {px apos cpos : Pos} (hN : X.N[i]? = some x) (hv : Vis X.env.scope x) (hm : i ∈ c.M) (hsc : c.scr ≠ some i) (hd : (x == ("__debug__" : Str)) = false) (hcd : (x == ("__classdict__" : Str)) = false)
    (hbase : attributeBase (.Name x px) "pop" X.env (eval (.Name x px) X.env) = eval (.Name x px) X.env) (hline : (apos.endLine == cpos.line) = true)
    (hsw : swapsWith (.Call (.Attribute (.Name x px) "pop" apos) [] [] cpos) none pos.line X.env = pure false) :
    SX X cl c fr (.Expr (.Call (.Attribute (.Name x px) "pop" apos) [] [] cpos) pos) (sPop i) E :=
  PS_imp (ps_expr (pe_bm0 PySem.F.plainAttrs_list PySem.F.slot_list_pop PySem.F.type_list_pop mt_pop (pe_var hN hv hd hcd) hbase hline) hsw) fun D σ H ⟨B, hid, ρ, t, S, o⟩ => by
    have o : OutS X.K cl c fr E B D (match ρ[i]? with | some (some (.list xs)) => (if decide (0 < xs.length) = true then .next (ρ.set i (some (.list xs.dropLast))) t else .bad) | _ => .bad) := o
    split at o
    · rename_i ws q
      obtain ⟨hf, o⟩ := fewS (α := Unit) o
      obtain ⟨a, dv, e1, h1, h2, go⟩ := SB.lst S hm hsc q
      have hf : 0 < ws.length := of_decide_eq_true hf
      have hl := h2.length
      have hy : dv[dv.length - 1]? = some (dv[dv.length - 1]'(by omega)) := List.getElem?_eq_getElem (by omega)
      refine ⟨.ref a, e1, .inl ⟨rfl, dv, .inl (.inl h1)⟩, a, dv, _, rfl, rfl, h1, hy, ?_⟩
      refine o hid _ _ (go _ _ ?_)
      rw [List.dropLast_eq_take, List.dropLast_eq_take, ← hl]
      exact h2.take _
    · exact False.elim o

/-! ### an expression by itself -/
def sDrop (s : Ex) : Sv := fun ρ t => toS (s ρ t) fun _ t => .next ρ t
theorem sx_drop (he : EX X cl c .bor e s E) (hs : swapsWith e none pos.line X.env = pure false) : SX X cl c fr (.Expr e pos) (sDrop s) E :=
  PS_imp (ps_expr he hs) fun D σ H ⟨B, hid, ρ, t, S, o⟩ => S.run o fun w t1 v1 H1 m1 k1 p1 o1 => o1 hid _ H1 (S.next m1 k1)
/-! ### if -/
def sIf (tc : Et) (u v : Sv) : Sv := fun ρ t => toS (tc ρ t) fun b t => if b = true then u ρ t else v ρ t
theorem sx_if {d : Expr} {p q : List Stmt} {tc : Et} (hc : TX X cl c d tc E) (hp : SsX X cl c fr p u E) (hq : SsX X cl c fr q v E) : SX X cl c fr (.If d p q pos) (sIf tc u v) E :=
  PS_imp (ps_if hc hp hq) fun D σ H ⟨B, hid, ρ, t, S, o⟩ => ⟨B.hT, hid, B.tp, ρ, t, S.st, OutS.seq S o fun b t1 v1 H1 _ m1 k1 p1 o1 => by
    have eb : v1 = b := p1
    subst eb
    have S1 := S.next m1 k1
    cases v1 with
    | true => rw [if_pos rfl] at o1 ⊢; exact ⟨B, hid, ρ, t1, S1, o1⟩
    | false => rw [if_neg Bool.false_ne_true] at o1 ⊢; exact ⟨B, hid, ρ, t1, S1, o1⟩⟩
/-! ### return -/
def sRet (s : Ex) : Sv := fun ρ t => toS (s ρ t) fun w t => .ret w t
theorem sx_ret (he : EX X cl { c with M := [] } (mo fr) e s E) : SX X cl c fr (.Return (some e) pos) (sRet s) E :=
  PS_imp (ps_ret he) fun D σ H ⟨B, hid, ρ, t, S, o⟩ => by
    refine ⟨B.hT, B.hT, B.tp, ρ, t, S.st.loose, OutS.seq S o fun w t1 v1 H1 _ m1 k1 p1 o1 => ?_⟩
    refine o1 v1 H1 (S.sm.trans (m1.imp fun a z => .inl z)) k1 ?_
    cases fr with
    | false => exact p1
    | true =>
      obtain ⟨a, e1, n, h⟩ := (show Fe X.K (fun _ => False) B.hT H H1 w v1 from p1)
      exact ⟨a, e1, .inl (S.sm.none (n.elim id fun z => z.elim)), h⟩
def sRetN : Sv := fun _ t => .ret .none t
theorem sx_retN : SX X cl c false (.Return none pos) sRetN E := PS_imp ps_retN fun D σ H ⟨B, hid, ρ, t, S, o⟩ => o .non H S.sm S.st.tap .non
/-- return x, of a list that x owns: the caller may own it -/
theorem sx_retOwn {i : Nat} {x : Str} {p : Pos} (hN : X.N[i]? = some x) (hv : Vis X.env.scope x) (hm : i ∈ c.M) (hd : (x == ("__debug__" : Str)) = false) (hcd : (x == ("__classdict__" : Str)) = false) : SX X cl c true (.Return (some (.Name x p)) pos) (sRet (eVar i)) E :=
  PS_imp (ps_ret (pe_var hN hv hd hcd)) fun D σ H ⟨B, hid, ρ, t, S, o⟩ => by
    have o : OutS X.K cl c true E B D (toS (eVar i ρ t) fun w t => .ret w t) := o
    unfold eVar at o
    split at o
    · rename_i w q
      obtain ⟨a, e1, hh, hn, ho⟩ := S.st.own i w q hm
      obtain ⟨hb, hw⟩ := S.own i w a q hm e1
      refine ⟨_, e1, o _ H S.sm S.st.tap ⟨a, rfl, hb, hw.nf, ho.mono Kp.refl (fun x z => .inl ?_) fun o q _ => q⟩⟩
      rcases z with z | z
      · exact S.st.sub x z
      · rw [z]; exact hh
    · exact False.elim o
/-! ### raise -/
def sRaise (k : Nat) : Sv := fun _ t => .exc k t
theorem sx_raise {k : Nat} (h : PS X st fun _ _ H => E (.ref (cl k)) none H) : SX X cl c fr st (sRaise k) E := PS_imp h fun D σ H ⟨B, hid, ρ, t, S, o⟩ => o H S.sm S.st.tap
end
end Ev

end

section
/-! Ev9: loops. -/
namespace Ev
open PySem PySem.Spec PyProof.Rows L2
variable [Tb]
theorem Sm.transN {ex ex' : Addr → Prop} {H0 H H' : Hp} (a : Sm ex H0 H) (b : Sm ex' H H') (h : ∀ x, ex' x → ex x ∨ Nw H0 x) : Sm ex H0 H' := by
  refine ⟨fun x o n e nt => b.obj x o (fun z => ?_) (a.obj x o n e nt) nt, fun x xs r => b.tup x xs (a.tup x xs r), fun x z => b.dom x (a.dom x z), fun z => b.tab (a.tab z)⟩
  rcases h x z with z | z
  · exact n z
  · obtain ⟨ps, q⟩ := z o e; exact nt ps q
/-- what a loop stands on -/
def ow1 (c : Cf) (ρ : Sl) (σ : L2.St) : Addr → Prop := fun a => ∃ i w, ρ[i]? = some (some w) ∧ i ∈ c.M ∧ σ[i]? = some (some (.ref a))
def Bs.re (B : Bs) (c : Cf) (hid : Addr → Prop) (ρ : Sl) (σ : L2.St) (H : Hp) : Bs := { H0 := H, ow0 := ow1 c ρ σ, hb := hid, hT := B.hT, tp := B.tp }
section
variable {K : PySem.W.Frag} {cl : Nat → Addr} {c : Cf} {fr : Bool} {E : XK} {B : Bs} {D : Ends} {hid hid' : Addr → Prop} {ρ ρ' : Sl} {σ σ' : L2.St} {H H' : Hp} {t t' : Tp}
theorem SB.re (S : SB K c B hid ρ σ H t) : SB K c (B.re c hid ρ σ H) hid ρ σ H t :=
  ⟨S.st, fun a z => .inl z, Sm.refl, fun i w a e hi hs => ⟨.inr ⟨i, w, e, hi, hs⟩, (S.own i w a e hi hs).2⟩⟩
theorem SB.exs (S : SB K c B hid ρ σ H t) : ∀ a, (B.re c hid ρ σ H).ex a → B.ex a ∨ Nw B.H0 a := fun a z => by
  rcases z with z | ⟨i, w, e, hi, hs⟩
  · exact .inl (.inl z)
  · exact (S.own i w a e hi hs).1.elim .inr fun z => .inl (.inr z)
theorem SB.exh (S : SB K c B hid ρ σ H t) : ∀ a, (B.re c hid ρ σ H).ex a → hid a := fun a z => by
  rcases z with z | ⟨i, w, e, hi, hs⟩
  · exact S.st.sub a (S.st.tph a z)
  · obtain ⟨b, e1, h, _⟩ := S.st.own i w e hi
    rw [hs] at e1; cases e1
    exact h
theorem SB.un (S : SB K c B hid ρ σ H t) (S' : SB K c (B.re c hid ρ σ H) hid' ρ' σ' H' t') : SB K c B hid' ρ' σ' H' t' := by
  refine ⟨S'.st, fun a z => ?_, S.sm.transN S'.sm S.exs, fun i w a e hi hs => ?_⟩
  · rcases S'.hid0 a z with q | q
    · exact S.hid0 a q
    · exact .inr (S.sm.none q)
  · obtain ⟨h1, h2⟩ := S'.own i w a e hi hs
    refine ⟨?_, h2⟩
    rcases h1 with h1 | ⟨j, w', e', hj, hs'⟩
    · exact .inl (S.sm.none h1)
    · exact (S.own j w' a e' hj hs').1
theorem PR.un {b : Bool} {w : W} {v : V} (S : SB K c B hid ρ σ H t) (h : PR K b (B.re c hid ρ σ H) H' w v) : PR K b B H' w v := by
  cases b with
  | false => exact h
  | true =>
    obtain ⟨a, e, n, h⟩ := (show Fe K (ow1 c ρ σ) B.hT H H' w v from h)
    refine ⟨a, e, ?_, h⟩
    rcases n with n | ⟨j, w', e', hj, hs'⟩
    · exact .inl (S.sm.none n)
    · exact (S.own j w' a e' hj hs').1
/-- a turn's outcome, by the loop's own base -/
theorem OutS.re {r : SR} {D' : Ends} (S : SB K c B hid ρ σ H t) (hr : D'.rt = D.rt) (hn : ∀ ρ1 t1, r = .next ρ1 t1 → ∀ hid1 σ1 H1, SB K c (B.re c hid ρ σ H) hid1 ρ1 σ1 H1 t1 → D'.nx σ1 H1) (h : (∀ ρ1 t1, r ≠ .next ρ1 t1) → OutS K cl c fr E B D r) (hb : r ≠ .bad) : OutS K cl c fr E (B.re c hid ρ σ H) D' r := by
  cases r with
  | next ρ1 t1 => exact hn ρ1 t1 rfl
  | ret w t1 =>
    intro v H1 m k p
    rw [hr]
    exact h (fun _ _ z => (by cases z)) v H1 (S.sm.transN m S.exs) k (PR.un S p)
  | exc e t1 => exact fun H1 m k => h (fun _ _ z => (by cases z)) H1 (S.sm.transN m S.exs) k
  | bad => exact absurd rfl hb
end

def forL (g : Gw) (body : Sv) : List W → Sl → Tp → SR
  | [], ρ, t => .next ρ t
  | x :: xs, ρ, t => match g x ρ with
    | none => .bad
    | some ρ1 => sThen body (forL g body xs) ρ1 t
def sFor (src : Exs) (g : Gw) (body : Sv) : Sv := fun ρ t => toS (src ρ t) fun items t => forL g body items ρ t
def whL (tc : Et) (body : Sv) (n : Nat) : Sv := Nat.rec (motive := fun _ => Sv) (fun _ _ => .bad) (fun _ ih ρ t => toS (tc ρ t) fun b t => if b = true then sThen body ih ρ t else .next ρ t) n
def sWhile (n : Nat) (tc : Et) (body : Sv) : Sv := whL tc body n
section
variable {X : Cx} {cl : Nat → Addr} {c : Cf} {fr : Bool} {E : XK} {pos : Pos} {body : List Stmt} {v : Sv}
theorem then_out {K : PySem.W.Frag} {B : Bs} {D : Ends} {u w : Sv} {ρ : Sl} {t : Tp} (o : OutS K cl c fr E B D (sThen u w ρ t)) :
    u ρ t ≠ .bad ∧ (∀ ρ1 t1, u ρ t = .next ρ1 t1 → OutS K cl c fr E B D (w ρ1 t1)) ∧ ((∀ ρ1 t1, u ρ t ≠ .next ρ1 t1) → OutS K cl c fr E B D (u ρ t)) := by
  have o : OutS K cl c fr E B D (match u ρ t with | .next ρ t => w ρ t | .ret w t => .ret w t | .exc e t => .exc e t | .bad => .bad) := o
  cases q : u ρ t with
  | next ρ1 t1 => rw [q] at o; exact ⟨fun z => (by cases z), fun ρ2 t2 e => (by cases e; exact o), fun n => False.elim (n _ _ rfl)⟩
  | ret x t1 => rw [q] at o; exact ⟨fun z => (by cases z), fun ρ2 t2 e => (by cases e), fun _ => o⟩
  | exc k t1 => rw [q] at o; exact ⟨fun z => (by cases z), fun ρ2 t2 e => (by cases e), fun _ => o⟩
  | bad => rw [q] at o; exact False.elim o
/-- for tg in iter: -/
theorem sx_for {tg iter : Expr} {src : Exs} {g : Gw} {is : List Nat} (hp : PassesOwn (model X.prog X.w) X.A X.env X.xe) (hc : X.calm = true) (hi : IX X cl c true tg iter src E) (hg : GX X c tg g is) (hm : ∀ i ∈ is, i ∉ c.M) (hb : SsX X cl c fr body v E)
    (hs : ∀ x, foldedSetIterable iter X.env x = pure x) : SX X cl c fr (.For tg iter body [] pos) (sFor src g v) E :=
  PS_imp (ps_for hp hc hi hg hb hs) fun D σ H ⟨B, hid, ρ, t, S, o⟩ => by
    refine ⟨B.hT, hid, B.tp, ρ, t, S.st, OutS.seq S o fun items t1 J H1 _ m1 k1 p1 o1 => ?_⟩
    have S1 : SB X.K c B hid ρ σ H1 t1 := S.next m1 k1
    obtain ⟨G, g0⟩ := (show SrcOk X.K hid hid H1 items J from p1)
    have stay : ∀ H', Sm (B.re c hid ρ σ H1).ex H1 H' → G H' := fun H' m => g0.stay _ (fun a z => .inl (SB.exh S1 a z)) H1 H' m g0.here
    refine ⟨fun i m σ' H' => m = items.length - i ∧ i ≤ items.length ∧ ∃ hid' ρ' t', SB X.K c (B.re c hid ρ σ H1) hid' ρ' σ' H' t' ∧ OutS X.K cl c fr E B D (forL g v (items.drop i) ρ' t'), ⟨_, rfl, Nat.zero_le _, hid, ρ, t1, SB.re S1, o1⟩, ?_⟩
    rintro i m σ' H' ⟨rfl, hi, hid', ρ', t', S', o'⟩
    have gH := stay H' S'.sm
    by_cases hlt : i < items.length
    · rw [List.drop_eq_getElem_cons hlt] at o'
      have o' : OutS X.K cl c fr E B D (match g items[i] ρ' with | none => .bad | some ρ1 => sThen v (forL g v (items.drop (i + 1))) ρ1 t') := o'
      refine .inr ⟨g0.go i H' hlt gH, fun σ2 H2 => ∃ hid2 ρ2 t2, SB X.K c (B.re c hid ρ σ H1) hid2 ρ2 σ2 H2 t2 ∧ OutS X.K cl c fr E B D (forL g v (items.drop (i + 1)) ρ2 t2), fun σ2 H2 z => ⟨_, ?_, rfl, hlt, z⟩, fun x H2 y => ?_⟩
      · omega
      · have hY : ∀ a, (hid' a ∨ hid a) → hid a ∨ Nw H1 a := fun a z => z.elim (S'.hid0 a) .inl
        obtain ⟨mF, w, ei, iw⟩ := g0.yld (fun a => hid' a ∨ hid a) hY i H' x H2 hlt gH (S'.sm.imp fun a z => .inr (SB.exh S1 a z)) y
        have ew : w = items[i] := by
          rw [List.getElem?_eq_getElem hlt] at ei
          exact (Option.some.inj ei).symm
        subst ew
        cases eg : g items[i] ρ' with
        | none => rw [eg] at o'; exact False.elim o'
        | some ρ1 =>
          rw [eg] at o'
          have mF' : Sm (tps B.tp) H' H2 := mF.imp fun _ z => z.elim
          have k2 : TpOk B.tp H2 t' := Out.ok_ (cl := cl) (E := E) (P := fun _ _ _ _ => True) (Q := fun (_ : Unit) H' => TpOk B.tp H' t') (a := ()) (v := ()) (fun _ _ _ k _ => k) S'.st.tap mF trivial
          have S2 : SB X.K c (B.re c hid ρ σ H1) hid' ρ' σ' H2 t' := StS.next S' mF' k2
          refine ⟨B.hT, hid', B.tp, ρ', t', items[i], ρ1, S2.st, Im.mono Kp.refl (fun a z => .inl (.inl z)) _ _ iw, eg, fun σ3 S3 _ f f' => ?_⟩
          have S4 : SB X.K c (B.re c hid ρ σ H1) hid' ρ1 σ3 H2 t' := SB.tgt S2 S3 hm f f'
          refine ⟨B.re c hid ρ σ H1, hid', ρ1, t', S4, ?_⟩
          obtain ⟨nb, o2, o3⟩ := then_out o'
          exact OutS.re S1 (by rfl) (fun ρ2 t2 q hid2 σ4 H4 S5 => ⟨hid2, ρ2, t2, S5, o2 ρ2 t2 q⟩) o3 nb
    · have e : i = items.length := by omega
      subst e
      rw [List.drop_length] at o'
      exact .inl ⟨g0.stop H' gH, o' hid' σ' H' (SB.un S1 S')⟩
/-- while -/
theorem sx_while {d : Expr} {tc : Et} {n : Nat} (hp : PassesOwn (model X.prog X.w) X.A X.env X.xe) (hc : TX X cl c d tc E) (hb : SsX X cl c fr body v E) : SX X cl c fr (.While d body [] pos) (sWhile n tc v) E :=
  PS_imp (ps_while hp hc hb) fun D σ H ⟨B, hid, ρ, t, S, o⟩ => by
    refine ⟨fun m σ' H' => ∃ hid' ρ' t', SB X.K c B hid' ρ' σ' H' t' ∧ OutS X.K cl c fr E B D (whL tc v m ρ' t'), ⟨n, hid, ρ, t, S, o⟩, ?_⟩
    rintro m σ' H' ⟨hid', ρ', t', S', o'⟩
    cases m with
    | zero => exact False.elim o'
    | succ m =>
      have o' : OutS X.K cl c fr E B D (toS (tc ρ' t') fun b t => if b = true then sThen v (whL tc v m) ρ' t else .next ρ' t) := o'
      refine ⟨B.hT, hid', B.tp, ρ', t', S'.st, OutS.seq S' o' fun b t1 v1 H1 _ m1 k1 p1 o1 => ?_⟩
      have eb : v1 = b := p1
      subst eb
      have S1 : SB X.K c B hid' ρ' σ' H1 t1 := StS.next S' m1 k1
      cases v1 with
      | false => rw [if_neg Bool.false_ne_true] at o1 ⊢; exact o1 hid' σ' H1 S1
      | true =>
        rw [if_pos rfl] at o1 ⊢
        refine ⟨fun σ2 H2 => ∃ hid2 ρ2 t2, SB X.K c B hid2 ρ2 σ2 H2 t2 ∧ OutS X.K cl c fr E B D (whL tc v m ρ2 t2), fun σ2 H2 z => ⟨m, Nat.lt_succ_self m, z⟩, B, hid', ρ', t1, S1, ?_⟩
        obtain ⟨nb, o2, o3⟩ := then_out o1
        · cases q : v ρ' t1 with
          | next ρ2 t2 => exact fun hid2 σ2 H2 S2 => ⟨hid2, ρ2, t2, S2, o2 ρ2 t2 q⟩
          | ret w t2 => have := o3 (fun _ _ z => by rw [q] at z; cases z); rw [q] at this; exact this
          | exc k t2 => have := o3 (fun _ _ z => by rw [q] at z; cases z); rw [q] at this; exact this
          | bad => exact absurd q nb
end
end Ev

end

section
/-! EvA: name = [..]; functions and their calls. -/
namespace Ev
open PySem PySem.Spec PyProof.Rows L2
variable [Tb]
section
variable {X : Cx} {cl : Nat → Addr} {c : Cf} {fr : Bool} {E : XK} {pos : Pos}
/-- y = [elt for tg in iter if ..] -/
theorem sx_setLc {i : Nat} {y : Str} {py : Pos} {elt tg iter : Expr} {ifs : List Expr} {scope : Scope} {own : List (Str × Nat)} {src : Exs} {is : List Nat} {g : Gw} {tt : Et} {te : Ex} {spos : Pos} {b : Bool} (hc : X.calm = true) (n : NmOk X c i y) (hl : X.env.scope.names.lookup y = some .local) (hb : decide (i ∈ c.M) = b)
    (hsw : swapsWith (.ListComp elt [⟨tg, iter, ifs, 0⟩] scope pos) (some (.Name y py)) spos.line X.env = pure true) (hi : IX X cl c false tg iter src E) (ok : BlkOk X.N X.env.scope scope own)
    (hg : ∀ (s : Shared) (H : Hp) (C : Addr) (cl : List (Str × Addr)) (fp : List Addr), GX (X.blk s H scope (compEnvC scope cl C X.env) fp) c tg g is)
    (ht : ∀ (s : Shared) (H : Hp) (C : Addr) (cl' : List (Str × Addr)) (fp : List Addr), TsX (X.blk s H scope (compEnvC scope cl' C X.env) fp) cl c ifs tt E0)
    (he : ∀ (s : Shared) (H : Hp) (C : Addr) (cl' : List (Str × Addr)) (fp : List Addr), EX (X.blk s H scope (compEnvC scope cl' C X.env) fp) cl c .safe elt te E0)
    (hs : ∀ x, foldedSetIterable iter X.env x = pure x) (his : ∀ i ∈ is, i ∈ own.map (·.2)) (hvt : ∀ i ∈ own.map (·.2), c.tape ≠ some i) :
    SX X cl c fr (.Assign [.Name y py] (.ListComp elt [⟨tg, iter, ifs, 0⟩] scope pos) spos) (sSet i (eLc src (own.map (·.2)) g tt te)) E :=
  PS_imp (ps_setLc hc n.nd n.at_ hl hsw hi ok hg ht he hs) fun D σ H ⟨B, hid, ρ, t, S, o⟩ => by
    refine lc_core' (cT := c) his hvt σ H _ (S.run o fun w t1 v1 H1 m1 k1 p1 o1 => ?_)
    cases b with
    | true =>
      obtain ⟨hid', S'⟩ := S.fresh (of_decide_eq_true hb) n.scr n.tape m1 k1 p1
      exact o1 hid' _ H1 S'
    | false => exact o1 hid _ H1 ((S.next m1 k1).set (of_decide_eq_false hb) n.scr n.tape (pw_sub S.st p1))
end

/-! ### functions -/
def retF (fr : Bool) (w : W) (v : V) (K : PySem.W.Frag) (hT : Addr → Prop) (H H' : Hp) : Prop := if fr = true then Fe K (fun _ => False) hT H H' w v else Im K hT H' w v
def EndF (K : PySem.W.Frag) (cl : Nat → Addr) (fr : Bool) (hT : Addr → Prop) (H : Hp) (r : FR) (Q : VK) (E : XK) : Prop :=
  match r with
  | .ok w => ∀ v H', Sm (fun _ => False) H H' → retF fr w v K hT H H' → Q v H'
  | .exc e => ∀ H', Sm (fun _ => False) H H' → E (.ref (cl e)) none H'
  | .bad => False
/-- what a def promises: f of its arguments -/
def FnS (K : PySem.W.Frag) (cl : Nat → Addr) (fr : Bool) (f : Fs) : Sp := fun vs H Q E => ∃ hT ws, (LamX.Tabs Tb.T H ∧ ∀ a, hT a → ¬ Nw H a) ∧ Ims K hT H ws vs ∧ EndF K cl fr hT H (f ws) Q E
/-- .. the first argument is the script -/
def FnC (K : PySem.W.Frag) (cl : Nat → Addr) (f : Fs) : Sp := fun vs H Q E => ∃ hT a ns ws us, vs = .ref a :: us ∧ (LamX.Tabs Tb.T H ∧ ∀ a, hT a → ¬ Nw H a) ∧ Sc K hT H a ns ∧ Ims K hT H ws us ∧ EndF K cl false hT H (f (.list (ns.map PyData.int) :: ws)) Q E
def endF (fr : Bool) : SR → FR
  | .next _ _ => if fr = true then .bad else .ok .none
  | .ret w _ => .ok w
  | .exc e _ => .exc e
  | .bad => .bad
def startW (m : Nat) (ws : List W) : Sl := ws.map some ++ List.replicate (m - ws.length) none
def runF (n m : Nat) (fr : Bool) (body : Sv) : Fs := fun ws => if ws.length = n then endF fr (body (startW m ws) none) else .bad
theorem runF_len {n m : Nat} {fr : Bool} {body : Sv} {ws : List W} {K : PySem.W.Frag} {cl : Nat → Addr} {hT : Addr → Prop} {H : Hp} {Q : VK} {E : XK} {b : Bool} (h : EndF K cl b hT H (runF n m fr body ws) Q E) : ws.length = n ∧ EndF K cl b hT H (endF fr (body (startW m ws) none)) Q E := by
  by_cases e : ws.length = n
  · refine ⟨e, ?_⟩
    rw [show runF n m fr body ws = endF fr (body (startW m ws) none) from if_pos e] at h
    exact h
  · rw [show runF n m fr body ws = .bad from if_neg e] at h
    exact False.elim h
theorem startW_get {m : Nat} {ws : List W} {i : Nat} {w : W} (h : (startW m ws)[i]? = some (some w)) : i < ws.length ∧ ws[i]? = some w := by
  unfold startW at h
  by_cases hi : i < ws.length
  · rw [List.getElem?_append_left (by simpa using hi), List.getElem?_map] at h
    refine ⟨hi, ?_⟩
    cases e : ws[i]? with
    | none => rw [e] at h; cases h
    | some a => rw [e] at h; cases h; rfl
  · rw [List.getElem?_append_right (by simpa using hi), List.getElem?_replicate] at h
    split at h <;> cases h
theorem start_get {N : List Str} {vs : List V} {i : Nat} {v : V} (h : vs[i]? = some v) : (L2.start N vs)[i]? = some (some v) := by
  have hi : i < vs.length := by
    by_cases hi : i < vs.length
    · exact hi
    · rw [List.getElem?_eq_none (by omega)] at h; cases h
  unfold L2.start
  rw [List.getElem?_append_left (by simpa using hi), List.getElem?_map, h] <;> rfl
def B0 (H : Hp) (hT : Addr → Prop) : Bs := { H0 := H, ow0 := fun _ => False, hb := hT, hT := hT, tp := none }
theorem tps0 {a : Addr} (h : tps none a) : False := by obtain ⟨x, y, e, _⟩ := h; cases e
theorem sm0 {B : Bs} {H0 H : Hp} (hb : B.ex = (B0 H0 B.hT).ex) (h : Sm B.ex H0 H) : Sm (fun _ => False) H0 H := h.imp fun a z => by
  rw [hb] at z
  exact z.elim (fun z => tps0 z) id
section
variable {P : Program} {w : World} {K : PySem.W.Frag} {mg : Str → Option Value} {base : Heap} {cl : Nat → Addr}
theorem end_out {c : Cf} {fr : Bool} {E : XK} {Q : VK} {hT : Addr → Prop} {H : Hp} {r : SR} (h : EndF K cl fr hT H (endF fr r) Q E) : OutS K cl c fr E (B0 H hT) { nx := fun _ H' => Q .non H', rt := Q } r := by
  have q : ∀ {H' : Hp}, Sm (B0 H hT).ex H H' → Sm (fun _ => False) H H' := fun m => m.imp fun a z => z.elim (fun z => tps0 z) id
  cases r with
  | next ρ t =>
    intro hid σ H' S
    cases fr with
    | true => exact False.elim h
    | false => exact h .non H' (q S.sm) .non
  | ret w t => exact fun v H' m _ p => h v H' (q m) p
  | exc e t => exact fun H' m _ => h H' (q m)
  | bad => exact h
theorem fn_ok {x qual : Str} {st : Stmt} {f : Addr} {fd : FuncData} {N ps : List Str} {k : Nat} {c : Cf} {fr : Bool} {body : Sv} (F : Fun K x qual st f fd) (S : FnScope N ps (defScope st)) (hM : ∀ i ∈ c.M, ps.length ≤ i) (hsc : c.scr = none) (htp : c.tape = none)
    (hb : ∀ (cdv : Value) (A : Around) (outer : List Env) (s : Shared) (H : Hp) (E : XK), Room k (A.deeper (envOfC qual (defScope st) s.heap.objs.size f cdv)) →
      SsX (cxOf (L2.CX P w) P w K mg base N qual (defScope st) f cdv A outer s H E) cl c fr (defBody st) body E) : FnOk P w K mg base (L2.CX P w) (k + 1) f fd ps (FnS K cl fr (runF ps.length N.length fr body)) := by
  refine F.okX S (fun vs H Q E h => ?_) fun cdv A outer s H vs Q E hr h => ⟨_, hb cdv A outer s H E hr, ?_⟩
  · obtain ⟨hT, ws, _, h2, h3⟩ := h
    rw [← h2.length]; exact (runF_len h3).1
  · obtain ⟨hT, ws, h1, h2, h3⟩ := h
    obtain ⟨hl, h3⟩ := runF_len h3
    have hlv : vs.length = ps.length := by rw [← h2.length]; exact hl
    refine ⟨B0 H hT, hT, startW N.length ws, none, ⟨⟨?_, fun i w e n n2 => ?_, fun i w e n => ?_, fun i w e n => ?_, fun i j w w' a e1 e2 n1 => ?_, h1.2, fun _ z => z, fun a z => (tps0 z).elim, rfl, fun i e => ?_, h1.1⟩, fun a z => .inl z, Sm.refl, fun i w a e n => ?_⟩, end_out h3⟩
    · unfold startW L2.start
      rw [List.length_append, List.length_append, List.length_map, List.length_map, List.length_replicate, List.length_replicate, h2.length]
    · obtain ⟨e1, e2⟩ := startW_get e
      obtain ⟨v, h4, h5⟩ := h2.get e2
      exact ⟨v, start_get h4, h5⟩
    · rw [hsc] at n; cases n
    · have := (startW_get e).1
      have := hM i n
      omega
    · have := (startW_get e1).1
      have := hM i n1
      omega
    · rw [htp] at e; cases e
    · have := (startW_get e).1
      have := hM i n
      omega
theorem begC {N ps : List Str} {c : Cf} {body : Sv} {vs : List V} {H : Hp} {Q : VK} {E : XK} (hM : ∀ i ∈ c.M, ps.length ≤ i) (hsc : c.scr = some 0) (htp : c.tape = none) (h : FnC K cl (runF ps.length N.length false body) vs H Q E) :
    vs.length = ps.length ∧ tSv K cl c false body E { nx := fun _ H' => Q .non H', rt := Q } (L2.start N vs) H := by
  obtain ⟨hT, a, ns, ws, us, e, h1, h4, h2, h3⟩ := h
  subst e
  obtain ⟨hl, h3⟩ := runF_len h3
  have hlv : us.length + 1 = ps.length := by rw [← h2.length]; exact hl
  refine ⟨hlv, B0 H hT, hT, startW N.length (.list (ns.map PyData.int) :: ws), none, ⟨⟨?_, fun i w e n n2 => ?_, fun i w e n => ?_, fun i w e n => ?_, fun i j w w' a e1 e2 n1 => ?_, h1.2, fun _ z => z, fun a z => (tps0 z).elim, rfl, fun i e => ?_, h1.1⟩, fun a z => .inl z, Sm.refl, fun i w a e n => ?_⟩, end_out h3⟩
  · unfold startW L2.start
    rw [List.length_append, List.length_append, List.length_map, List.length_map, List.length_replicate, List.length_replicate, List.length_cons, List.length_cons, h2.length]
  · obtain ⟨e1, e2⟩ := startW_get e
    cases i with
    | zero => rw [hsc] at n2; exact absurd rfl n2
    | succ i =>
      obtain ⟨v, h5, h6⟩ := h2.get (i := i) (by simpa using e2)
      exact ⟨v, start_get (by simpa using h5), h6⟩
  · rw [hsc] at n; cases n
    obtain ⟨e1, e2⟩ := startW_get e
    have ew : w = .list (ns.map PyData.int) := by simpa using e2.symm
    exact ⟨a, ns, start_get rfl, ew, h4⟩
  · have := (startW_get e).1
    have := hM i n
    omega
  · have := (startW_get e1).1
    have := hM i n1
    omega
  · rw [htp] at e; cases e
  · have := (startW_get e).1
    have := hM i n
    omega
theorem fn_okC {x qual : Str} {st : Stmt} {f : Addr} {fd : FuncData} {N ps : List Str} {k : Nat} {c : Cf} {body : Sv} (F : Fun K x qual st f fd) (S : FnScope N ps (defScope st)) (hM : ∀ i ∈ c.M, ps.length ≤ i) (hsc : c.scr = some 0) (htp : c.tape = none)
    (hb : ∀ (cdv : Value) (A : Around) (outer : List Env) (s : Shared) (H : Hp) (E : XK), Room k (A.deeper (envOfC qual (defScope st) s.heap.objs.size f cdv)) →
      SsX (cxOf (L2.CX P w) P w K mg base N qual (defScope st) f cdv A outer s H E) cl c false (defBody st) body E) : FnOk P w K mg base (L2.CX P w) (k + 1) f fd ps (FnC K cl (runF ps.length N.length false body)) :=
  F.okX S (fun vs H Q E h => (begC (c := c) hM hsc htp h).1) fun cdv A outer s H vs Q E hr h => ⟨_, hb cdv A outer s H E hr, (begC hM hsc htp h).2⟩
/-- .. the code object is known -/
theorem fn_okL {x qual : Str} {st : Stmt} {f : Addr} {fd : FuncData} {N ps : List Str} {k : Nat} {c : Cf} {body : Sv} (F : Fun K x qual st f fd) (S : FnScope N ps (defScope st)) (hM : ∀ i ∈ c.M, ps.length ≤ i) (hsc : c.scr = some 0) (htp : c.tape = none)
    (hb : ∀ (cdv : Value) (A : Around) (outer : List Env) (s : Shared) (H : Hp) (E : XK), (∃ (oc : Value) (od : Option Addr) (kV doc pm : Value) (an : Option Addr) (ct : Value) (osl : Array (Option Value)), K.lookup f = some ⟨oc, od, .func (PySem.W.fnOf x qual (defArgs st) (defBody st) (defScope st) .none kV doc pm an cdv ct), osl⟩ ∧ PySem.W.codeIn K cdv qual = true) →
      Room k (A.deeper (envOfC qual (defScope st) s.heap.objs.size f cdv)) → SsX (cxOf (L2.CX P w) P w K mg base N qual (defScope st) f cdv A outer s H E) cl c false (defBody st) body E) : FnOk P w K mg base (L2.CX P w) (k + 1) f fd ps (FnC K cl (runF ps.length N.length false body)) := by
  obtain ⟨oc, od, kV, doc, pm, an, cdv, ct, osl, rfl, lk, hcd⟩ := F.ex
  exact fn_of lk hcd S (fun vs H Q E h => (begC (c := c) hM hsc htp h).1) fun A outer s H vs Q E hr h => ⟨_, hb cdv A outer s H E ⟨oc, od, kV, doc, pm, an, ct, osl, lk, hcd⟩ hr, (begC hM hsc htp h).2⟩
end

/-! ### calls -/
def fR (t : Tp) : FR → Rs W
  | .ok w => .ok w t
  | .exc e => .exc e t
  | .bad => .bad
def eCall (f : Fs) (s : Exs) : Ex := fun ρ t => (s ρ t).bind fun ws t => fR t (f ws)
theorem TpOk.smF {tp : Option (Addr × Addr)} {H H' : Hp} {t : Tp} (k : TpOk tp H t) (m : Sm (fun _ => False) H H') : TpOk tp H' t :=
  Out.ok_ (cl := fun _ => 0) (E := fun _ _ _ => True) (P := fun _ _ _ _ => True) (Q := fun (_ : Unit) H' => TpOk tp H' t) (a := ()) (v := ()) (fun _ _ _ k _ => k) k m trivial
theorem end_call {cl : Nat → Addr} {fr : Bool} {tp : Option (Addr × Addr)} {E : XK} {K : PySem.W.Frag} {hT hid : Addr → Prop} {H : Hp} {r : FR} {t : Tp} {Q : VK} (k : TpOk tp H t) (o : Out cl tp E H (fR t r) (PWm K (mo fr) hT hid) Q) : EndF K cl fr hid H r Q E := by
  cases r with
  | ok w => exact fun v H' m p => o v H' (m.imp fun _ z => z.elim) (k.smF m) (by cases fr; exact p; exact p)
  | exc e => exact fun H' m => o H' (m.imp fun _ z => z.elim) (k.smF m)
  | bad => exact o
/-- a function of the program, to be called -/
structure FnA (P : Program) (w : World) (K : PySem.W.Frag) (mg : Str → Option Value) (base : Heap) (x : Str) (k : Nat) (sp : Sp) : Prop where
  ex : ∃ f fd ps, FnOk P w K mg base (L2.CX P w) k f fd ps sp ∧ mg x = some (.ref f) ∧ PySem.W.keepIn K (.ref f) = true ∧ Binds K fd ps []
section
variable {X : Cx} {cl : Nat → Addr} {c : Cf} {fr : Bool} {E : XK} {x : Str} {k : Nat} {fn : Fs} {e : Expr} {es : List Expr} {ss : Exs} {p pos : Pos}
theorem ev_call (F : FnA X.prog X.w X.K X.mg X.base x k (FnS X.K cl fr fn)) (hr : Room k X.A) (hg : Gl X x) (hx : Passes (L2.CX X.prog X.w) X E) (ha : AX X cl c true (e :: es) ss E)
    (hdb : (x == ("__debug__" : Str)) = false) (he : starEach (e :: es) X.env = (false, eval e X.env) :: starEach es X.env) (hpl : (backTo pos (starEach es X.env)).any (·.1) = false) : EX X cl c (mo fr) (.Call (.Name x p) (e :: es) [] pos) (eCall fn ss) E := by
  obtain ⟨f, fd, ps, F1, F2, F3, F4⟩ := F.ex
  refine PE_imp (pe_call F1 hr hg F2 F3 F4 .nil hx ha hdb he hpl) fun σ H Q ⟨hT, hid, tp, ρ, t, S, o⟩ => ?_
  refine ⟨hT, hid, tp, ρ, t, S, o.seq later_pw fun ws t1 vs H1 e1 m1 k1 p1 o1 => ?_⟩
  show FnS X.K cl fr fn (vs ++ []) H1 Q E
  rw [List.append_nil]
  exact ⟨hid, ws, ⟨(S.sm m1 k1).tbs, (S.sm m1 k1).dom⟩, p1, end_call k1 o1⟩
theorem ev_call0 (F : FnA X.prog X.w X.K X.mg X.base x k (FnS X.K cl fr fn)) (hr : Room k X.A) (hg : Gl X x) (hx : Passes (L2.CX X.prog X.w) X E) (hdb : (x == ("__debug__" : Str)) = false) : EX X cl c (mo fr) (.Call (.Name x p) [] [] pos) (eCall fn eNil) E := by
  obtain ⟨f, fd, ps, F1, F2, F3, F4⟩ := F.ex
  refine PE_imp (pe_call0 F1 hr hg F2 F3 F4 .nil hx hdb) fun σ H Q ⟨hT, hid, tp, ρ, t, S, o⟩ => ?_
  exact ⟨hid, [], ⟨S.tbs, S.dom⟩, .nil, end_call S.tap o⟩
mutual
/-- no list, no dict within -/
def pureW : W → Bool
  | .list _ => false
  | .dict _ => false
  | .tuple ws => pureWs ws
  | _ => true
def pureWs : List W → Bool
  | [] => true
  | w :: ws => pureW w && pureWs ws
end
mutual
theorem im_pure {K : PySem.W.Frag} {hid hid' : Addr → Prop} {H : Hp} : ∀ (w : W) (v : V), pureW w = true → Im K hid H w v → Im K hid' H w v
  | .none, v, _, h => by cases h; exact .non
  | .bool b, v, _, h => by cases h; exact .bl b
  | .int i, v, _, h => by cases h; exact .int i
  | .str x, v, _, h => by cases h; exact .str x
  | .tuple ws, v, q, h => by
    cases h with
    | tup h1 h2 => exact .tup h1 (ims_pure ws _ q h2)
  | .list ws, v, q, h => by cases q
  | .dict ws, v, q, h => by cases q
theorem ims_pure {K : PySem.W.Frag} {hid hid' : Addr → Prop} {H : Hp} : ∀ (ws : List W) (vs : List V), pureWs ws = true → Ims K hid H ws vs → Ims K hid' H ws vs
  | [], vs, _, h => by cases h; exact .nil
  | w :: ws, vs, q, h => by
    cases h with
    | cons h1 h2 =>
      have q : (pureW w && pureWs ws) = true := q
      rw [Bool.and_eq_true] at q
      exact .cons (im_pure w _ q.1 h1) (ims_pure ws _ q.2 h2)
end
def pOk (t : Tp) : FR → Rs W
  | .ok w => if pureW w = true then .ok w t else .bad
  | .exc e => .exc e t
  | .bad => .bad
def eCallB' (f : Fs) (s : Exs) : Ex := fun ρ t => (s ρ t).bind fun ws t => pOk t (f ws)
/-- arguments that may be owned lists: read only; nothing of them comes back -/
inductive Bos' (K : PySem.W.Frag) (hT hid : Addr → Prop) (H : Hp) : List W → List V → Prop
  | nil : Bos' K hT hid H [] []
  | cons {w : W} {v : V} {ws : List W} {vs : List V} : Bo K hT hid H w v → Bos' K hT hid H ws vs → Bos' K hT hid H (w :: ws) (v :: vs)
theorem bo_im {K : PySem.W.Frag} {hT hid : Addr → Prop} {H : Hp} {w : W} {v : V} (hs : ∀ a, hT a → hid a) (h : Bo K hT hid H w v) : Im K hT H w v := by
  have hh : ∀ a, hT a → hid a ∨ Nw H a := fun a z => .inl (hs a z)
  rcases h with h | ⟨a, e, n, h⟩
  · exact Im.mono Kp.refl hh _ _ h
  · subst e
    rcases h with ⟨ws, vs, g1, g2, g3⟩ | ⟨ws, vs, g1, g2, g3⟩ | ⟨ws, vs, g1, g2, g3⟩
    · subst g1; exact .lst n g2 (Ims.mono Kp.refl hh _ _ g3)
    · subst g1; exact .dK n g2 (ImK.mono Kp.refl hh _ _ g3)
    · subst g1; exact .dT n g2 (ImT.mono Kp.refl hh _ _ g3)
theorem bos_ims {K : PySem.W.Frag} {hT hid : Addr → Prop} {H : Hp} (hs : ∀ a, hT a → hid a) : ∀ {ws : List W} {vs : List V}, Bos' K hT hid H ws vs → Ims K hT H ws vs
  | _, _, .nil => .nil
  | _, _, .cons h1 h2 => .cons (bo_im hs h1) (bos_ims hs h2)
def PBs (K : PySem.W.Frag) (hT hid : Addr → Prop) : Hp → List W → Hp → List V → Prop := fun _ ws H' vs => Bos' K hT hid H' ws vs
theorem later_pbs {K : PySem.W.Frag} {hT hid : Addr → Prop} {tp : Option (Addr × Addr)} : Later tp (PBs K hT hid) := fun _ _ _ _ _ _ p => p
def tBs (K : PySem.W.Frag) (cl : Nat → Addr) (c : Cf) (s : Exs) (E : XK) : TA := fun σ H Q =>
  ∃ hT hid tp ρ t, StE K c hT hid tp ρ σ H t ∧ Out cl tp E H (s ρ t) (PBs K hT hid) Q
abbrev AB (X : Cx) (cl : Nat → Addr) (c : Cf) (es : List Expr) (s : Exs) (E : XK) : Prop := PA X es (tBs X.K cl c s E)
theorem ab_nil : AB X cl c [] eNil E := PA_imp pa_nil fun σ H Q ⟨hT, hid, tp, ρ, t, S, o⟩ => Out.ok_ o S.tap Sm.refl .nil
theorem ab_cons {sa : Ex} (ha : EX X cl c .bor e sa E) (hr : AB X cl c es ss E) (hs : starEach (e :: es) X.env = (false, eval e X.env) :: starEach es X.env) : AB X cl c (e :: es) (eCons sa ss) E :=
  PA_imp (pa_cons ha hr hs) fun σ H Q ⟨hT, hid, tp, ρ, t, S, o⟩ => ⟨hT, hid, tp, ρ, t, S, o.seq later_pbs fun w t1 v1 H1 e1 m1 k1 p1 o1 => by
    have S1 := S.sm m1 k1
    refine ⟨hT, hid, tp, ρ, t1, S1, o1.seq later_pbs fun ws t2 vs H2 e2 m2 k2 p2 o2 => Out.ok_ o2 k2 Sm.refl ?_⟩
    exact .cons (Bo.mono p1 _ m2 S.tph S.sub) p2⟩
theorem ev_callB' (F : FnA X.prog X.w X.K X.mg X.base x k (FnS X.K cl false fn)) (hr : Room k X.A) (hg : Gl X x) (hx : Passes (L2.CX X.prog X.w) X E) (ha : AB X cl c (e :: es) ss E)
    (hdb : (x == ("__debug__" : Str)) = false) (he : starEach (e :: es) X.env = (false, eval e X.env) :: starEach es X.env) (hpl : (backTo pos (starEach es X.env)).any (·.1) = false) : EX X cl c .safe (.Call (.Name x p) (e :: es) [] pos) (eCallB' fn ss) E := by
  obtain ⟨f, fd, ps, F1, F2, F3, F4⟩ := F.ex
  refine PE_imp (pe_call F1 hr hg F2 F3 F4 .nil hx ha hdb he hpl) fun σ H Q ⟨hT, hid, tp, ρ, t, S, o⟩ => ?_
  refine ⟨hT, hid, tp, ρ, t, S, o.seq later_pw fun ws t1 vs H1 e1 m1 k1 p1 o1 => ?_⟩
  show FnS X.K cl false fn (vs ++ []) H1 Q E
  rw [List.append_nil]
  have S1 := S.sm m1 k1
  refine ⟨hT, ws, ⟨S1.tbs, fun a z => S1.dom a (S.sub a z)⟩, bos_ims S.sub p1, ?_⟩
  cases q : fn ws with
  | ok w =>
    rw [q] at o1
    obtain ⟨hp, o1⟩ := few_ok o1
    exact fun v H' m r => o1 v H' (m.imp fun _ z => z.elim) (k1.smF m) (im_pure w v hp r)
  | exc n => rw [q] at o1; exact fun H' m => o1 H' (m.imp fun _ z => z.elim) (k1.smF m)
  | bad => rw [q] at o1; exact o1
/-- f(script, ..) -/
def eScr (f : Fs) (i : Nat) (s : Exs) : Ex := fun ρ t => match ρ[i]? with
  | some (some w) => (s ρ t).bind fun ws t => fR t (f (w :: ws))
  | _ => .bad
theorem ev_callC {i : Nat} {y : Str} {q : Pos} (F : FnA X.prog X.w X.K X.mg X.base x k (FnC X.K cl fn)) (hr : Room k X.A) (hg : Gl X x) (hx : Passes (L2.CX X.prog X.w) X E) (hN : X.N[i]? = some y) (hv : Vis X.env.scope y) (hs : c.scr = some i) (ha : AX X cl c true es ss E)
    (hd : (y == ("__debug__" : Str)) = false) (hcd : (y == ("__classdict__" : Str)) = false)
    (hdb : (x == ("__debug__" : Str)) = false) (he : starEach (.Name y q :: es) X.env = (false, eval (.Name y q) X.env) :: starEach es X.env) (hpl : (backTo pos (starEach es X.env)).any (·.1) = false) : EX X cl c .safe (.Call (.Name x p) (.Name y q :: es) [] pos) (eScr fn i ss) E := by
  obtain ⟨f, fd, ps, F1, F2, F3, F4⟩ := F.ex
  refine PE_imp (pe_call F1 hr hg F2 F3 F4 .nil hx (pa_cons (pe_var hN hv hd hcd) ha he) hdb he hpl) fun σ H Q ⟨hT, hid, tp, ρ, t, S, o⟩ => ?_
  have o : Out cl tp E H (match ρ[i]? with | some (some w) => (ss ρ t).bind fun ws t => fR t (fn (w :: ws)) | _ => .bad) (PWm X.K .safe hT hid) Q := o
  split at o
  · rename_i w qw
    obtain ⟨a, ns, e1, ew, hS⟩ := S.scr i w qw hs
    subst ew
    refine ⟨.ref a, e1, hT, hid, tp, ρ, t, S, o.seq later_pw fun ws t1 vs H1 e2 m1 k1 p1 o1 => ?_⟩
    have S1 := S.sm m1 k1
    show FnC X.K cl fn ((.ref a :: vs) ++ []) H1 Q E
    rw [List.append_nil]
    exact ⟨hid, a, ns, ws, vs, rfl, ⟨S1.tbs, S1.dom⟩, hS.mono (fun _ z => .inl z) fun o n q nt => m1.obj a o (fun z => n (S.sub a (S.tph a z))) q nt, p1, end_call (fr := false) k1 o1⟩
  · exact False.elim o
end
end Ev

end

section
/-! EvB: errors: raised, and told by a def that gets a lambda. -/
namespace Ev
open PySem PySem.Spec PyProof.Rows L2
variable [Tb]

/-! ### raise X() -/
/-- an own class over ValueError (or another) without __init__: what the top has written -/
structure ExC (K : PySem.W.Frag) (mg : Str → Option Value) (x : Str) (C : Addr) : Prop where
  g : mg x = some (.ref C)
  x : ∃ (B newId initId : String) (bm : List Value), ExcBaseFacts B newId initId bm ∧ PySem.W.excIn K C bm newId = true
  k : PySem.W.keepIn K (.ref C) = true
  b : PySem.W.subIn K (.ref C) (.type "BaseException") = some true
  t : PySem.W.typeIn K (.ref C) = some (.type "type")
section
variable {X : Cx}
theorem pmk_own0 {C : Addr} {x : Str} {p pos : Pos} (F : ExC X.K X.mg x C) (hg : Gl X x) (hdb : (x == ("__debug__" : Str)) = false) : PMk X (.Call (.Name x p) [] [] pos) (fun _ H Q => Q (.ref C) none H) := by
  obtain ⟨B, newId, initId, bmB, F1, q⟩ := F.x
  intro pins s σ H Q I h
  refine wpAny_Call_Name_kw (ld_glob I hg F.g ?_ hdb)
  refine PySem.W.callWith_K0 I.kIn F.k ?_
  show wpAny _ _ (call (.ref C) []) _ _ _
  obtain ⟨bm, N, nm, qn, bs, hdct, sn, sub, ab, col, dd, k0, k1, k2, k3, k5, mN, hC, hN, hni, T⟩ := exc_obj I.kIn q
  refine wpAny_call_exc_subT F1 T hC hN hni (fun h' e hm => ?_) (by show 0 ≤ sizeLine; omega)
  exact mk_of I hm (raises_own F.b F.t) h (I.hok.gone hm.new)
theorem sx_raise0 {cl : Nat → Addr} {c : Cf} {fr : Bool} {E : XK} {j : Nat} {x : Str} {p pos pos' : Pos} (hc : X.calm = true) (tk : Takes X (fun cls d _ H => E cls d H)) (F : ExC X.K X.mg x (cl j)) (hg : Gl X x) (hdb : (x == ("__debug__" : Str)) = false) :
    SX X cl c fr (.Raise (some (.Call (.Name x p) [] [] pos)) none pos') (sRaise j) E := sx_raise (ps_raise hc tk (pmk_own0 F hg hdb))
end

/-! ### a def that tells what a lambda does -/
def cV : W → V
  | .str x => .str x
  | .bool b => .bl b
  | .int i => .int i
  | _ => .non
def isC : W → Bool
  | .str _ => true
  | .bool _ => true
  | .int _ => true
  | .none => true
  | _ => false
theorem im_c {K : PySem.W.Frag} {hid : Addr → Prop} {H : Hp} {w : W} (h : isC w = true) : Im K hid H w (cV w) := by
  cases w <;> first | exact .non | exact .bl _ | exact .int _ | exact .str _ | cases h
/-- the classes are told apart -/
def Apart (K : PySem.W.Frag) (cl : Nat → Addr) (n : Nat) : Prop := ∀ i j, i < n → j < n → PySem.W.exmOne K (.ref (cl i)) (.ref (cl j)) = some (decide (i = j))
def wish (K : PySem.W.Frag) (cl : Nat → Addr) (Q : VK) : List (Nat × W) → Value → Hp → Prop
  | [], _, _ => False
  | (j, w) :: r, cls, H => ∃ b, PySem.W.exmOne K cls (.ref (cl j)) = some b ∧ (b = true → Q (cV w) H) ∧ (b = false → wish K cl Q r cls H)
def TA' (K : PySem.W.Frag) (cl : Nat → Addr) (hs : List (Nat × W)) (w : W) : (XK → Hp → VK → Prop) → Hp → VK → Prop := fun tl H Q => tl (fun cls _ H' => wish K cl Q hs cls H') H fun _ H1 => Q (cV w) H1
def TB' (K : PySem.W.Frag) (cl : Nat → Addr) (hs : List (Nat × W)) : (XK → Hp → VK → Prop) → Hp → VK → Prop := fun tl H Q => tl (fun cls _ H' => wish K cl Q hs cls H') H Q
abbrev hl (cl : Nat → Addr) (hs : List (Nat × W)) : List (Value × (Addr → Value → Option Addr → TS)) := hs.map fun p => (.ref (cl p.1), fun _ _ _ => tRet (tC (cV p.2)))
theorem wish_many {K : PySem.W.Frag} {cl : Nat → Addr} {D : Ends} {cls : Value} {d : Option Addr} {σ : L2.St} {H : Hp} : ∀ {hs : List (Nat × W)}, wish K cl D.rt hs cls H → wMany K (fun _ _ _ _ => False) D (hl cl hs) cls d σ H
  | [], h => h
  | (j, w) :: r, ⟨b, h1, h2, h3⟩ => ⟨b, h1, fun e _ _ => h2 e, fun e => wish_many (h3 e)⟩
theorem pe_c {X : Cx} {w : W} {k : Const} {j pos} (h : (w, k) ∈ [(w, k)]) (e : (∃ x, w = .str x ∧ k = .str x) ∨ (∃ b, w = .bool b ∧ k = .bool b) ∨ (∃ i, w = .int i ∧ k = .int i) ∨ (w = .none ∧ k = .none)) : PE X (.Constant k j pos) (tC (cV w)) := by
  rcases e with ⟨x, rfl, rfl⟩ | ⟨b, rfl, rfl⟩ | ⟨i, rfl, rfl⟩ | ⟨rfl, rfl⟩
  · exact pe_str
  · exact pe_bl
  · exact pe_int
  · exact pe_non
section
variable {X : Cx} {cl : Nat → Addr} {Ng : List Str} {x a q : Str} {sg : Scope} {g : Addr} {cdg : Value} {hs : List (Nat × W)} {h₀ : ExceptHandler} {hds : List ExceptHandler} {p1 p2 p3 p6 p8 : Pos}
/-- try: a() / except ..: return .. / return w -/
theorem gives_expr {w : W} {e : Expr} (h0 : ∀ f : Addr, (L2.start Ng [V.ref f])[0]? = some (some (V.ref f))) (hh : ∀ Y : Cx, Y.K = X.K → Y.mg = X.mg → Y.env.scope = sg → HdsOk Y (h₀ :: hds) (hl cl hs)) (he : ∀ Y : Cx, PE Y e (tC (cV w)))
    (hsw : ∀ (en : Env), swapsWith (.Call (.Name a p1) [] [] p2) none p3.line en = pure false) :
    LamX.GivesTo X Ng x sg g cdg [.Try [.Expr (.Call (.Name a p1) [] [] p2) p3] (h₀ :: hds) [] [] p8, .Return (some e) p6] a q (TA' X.K cl hs w) := by
  intro f c' s H Q tl act hc h
  refine ⟨_, pss_cons (ps_try_many (X := (cxOf C8.CX0 X.prog X.w X.K X.mg X.base Ng x sg g cdg X.A X.stack s H C8.E0).nox) (l := hl cl hs)
      (tb := fun W D σ H => ∃ Ech : XK, (∀ cls d σ' H', Ech cls d H' → W cls d σ' H') ∧ σ[0]? = some (some (.ref f)) ∧ H c' = some (LamX.CodeO c' q) ∧ tl Ech H fun _ H1 => D.nx σ H1)
      (Wout := fun _ _ _ _ => False) rfl rfl LamX.takes0 (fun W pn xe tk _ => ?_) (hh _ rfl rfl rfl)) (pss_one (ps_ret (he _))), ?_⟩
  · refine ⟨fun pins s' σ H' D I h' => ?_⟩
    obtain ⟨Ech, hW, h1, h2, h3⟩ := h'
    have hp := act W pn xe Ech p1 p2 tk hW
    have hq := pss_one (ps_expr (pos := p3) hp (hsw _))
    exact hq.run pins s' σ H' D I ⟨h1, h2, h3⟩
  · exact ⟨_, fun cls d σ' H' z => wish_many z, h0 f, hc, h⟩
/-- try: return a() / except ..: return .. -/
theorem gives_ret (h0 : ∀ f : Addr, (L2.start Ng [V.ref f])[0]? = some (some (V.ref f))) (hh : ∀ Y : Cx, Y.K = X.K → Y.mg = X.mg → Y.env.scope = sg → HdsOk Y (h₀ :: hds) (hl cl hs)) :
    LamX.GivesTo X Ng x sg g cdg [.Try [.Return (some (.Call (.Name a p1) [] [] p2)) p3] (h₀ :: hds) [] [] p8] a q (TB' X.K cl hs) := by
  intro f c' s H Q tl act hc h
  refine ⟨_, pss_one (ps_try_many (X := (cxOf C8.CX0 X.prog X.w X.K X.mg X.base Ng x sg g cdg X.A X.stack s H C8.E0).nox) (l := hl cl hs)
      (tb := fun W D σ H => ∃ Ech : XK, (∀ cls d σ' H', Ech cls d H' → W cls d σ' H') ∧ σ[0]? = some (some (.ref f)) ∧ H c' = some (LamX.CodeO c' q) ∧ tl Ech H D.rt)
      (Wout := fun _ _ _ _ => False) rfl rfl LamX.takes0 (fun W pn xe tk _ => ?_) (hh _ rfl rfl rfl)), ?_⟩
  · refine ⟨fun pins s' σ H' D I h' => ?_⟩
    obtain ⟨Ech, hW, h1, h2, h3⟩ := h'
    have hp := act W pn xe Ech p1 p2 tk hW
    have hq := pss_one (ps_ret (pos := p3) hp)
    exact hq.run pins s' σ H' D I ⟨h1, h2, h3⟩
  · exact ⟨_, fun cls d σ' H' z => wish_many z, h0 f, hc, h⟩
end
def exC (n : Nat) (hs : List (Nat × W)) (e : Nat) (t : Tp) : Rs W := if e < n then (match hs.lookup e with
  | some w => if isC w = true then .ok w t else .bad
  | none => .bad) else .bad
def eToldA (n : Nat) (hs : List (Nat × W)) (w : W) (s : Ex) : Ex := fun ρ t => match s ρ t with
  | .ok _ t => if isC w = true then .ok w t else .bad
  | .exc e t => exC n hs e t
  | .bad => .bad
def eToldB (n : Nat) (hs : List (Nat × W)) (s : Ex) : Ex := fun ρ t => match s ρ t with
  | .ok w t => .ok w t
  | .exc e t => exC n hs e t
  | .bad => .bad
theorem wish_of {K : PySem.W.Frag} {cl : Nat → Addr} {n : Nat} (A : Apart K cl n) {Q : VK} {H : Hp} {e : Nat} {w : W} (he : e < n) : ∀ {hs : List (Nat × W)}, (∀ p ∈ hs, p.1 < n) → hs.lookup e = some w → Q (cV w) H → wish K cl Q hs (.ref (cl e)) H
  | [], _, h, _ => by cases h
  | (j, u) :: r, hn, h, q => by
    have hj : j < n := hn (j, u) List.mem_cons_self
    refine ⟨_, A e j he hj, fun e1 => ?_, fun e1 => ?_⟩
    · have e1 : e = j := of_decide_eq_true e1
      subst e1
      rw [List.lookup_cons_self] at h
      cases h; exact q
    · have e1 : ¬ e = j := of_decide_eq_false e1
      rw [List.lookup_cons, show (e == j) = false from beq_false_of_ne e1] at h
      exact wish_of A he (fun p hp => hn p (List.mem_cons_of_mem _ hp)) h q
theorem sm_ext {H H1 : Hp} (h : LamX.ExtN H H1) (t : LamX.Tabs Tb.T H1) : Sm (fun _ => False) H H1 := by
  refine ⟨fun a o _ e n => h a o e n, fun a xs r => ?_, fun a n => ?_, fun _ => t⟩
  · rcases r with r | ⟨ob, r⟩
    · exact .inl (h _ _ r fun ps z => by cases z)
    · exact .inr ⟨ob, h _ _ r fun ps z => by cases z⟩
  · obtain ⟨o, e, nt⟩ := Nw.ob n
    exact Nw.not (h a o e nt) nt
/-- a def that gets a lambda and tells what it does: f its text -/
structure ToldOk (X : Cx) (x a : Str) (g : Addr) (TT : (XK → Hp → VK → Prop) → Hp → VK → Prop) : Prop where
  gm : X.mg x = some (.ref g)
  kp : PySem.W.keepIn X.K (.ref g) = true
  ex : ∃ (Ng : List Str) (pg : Arguments) (bg : List Stmt) (sg : Scope) (dV kV doc pm cdv ct oc : Value) (an od : Option Addr) (osl : Array (Option Value)),
    X.K.lookup g = some ⟨oc, od, .func (PySem.W.fnOf x x pg bg sg dV kV doc pm an cdv ct), osl⟩ ∧ PySem.W.codeIn X.K cdv x = true ∧ L2.Binds X.K (PySem.W.fnOf x x pg bg sg dV kV doc pm an cdv ct) [a] [] ∧ FnScope Ng [a] sg ∧ Ng[0]? = some a ∧ Vis sg a ∧
    LamX.GivesTo X Ng x sg g cdv bg a (X.env.qual ++ "<lambda>") TT
section
variable {X : Cx} {cl : Nat → Addr} {c : Cf} {E : XK} {x a : Str} {g co P : Addr} {k n : Nat} {hs : List (Nat × W)} {w : W} {te : Ex} {params : Arguments} {body : Expr} {scope : Scope} {p lpos pos : Pos} {m : Mo}
theorem told_core {m : Mo} {cc : Cf} {f : Rs W → Rs W} {TT : (XK → Hp → VK → Prop) → Hp → VK → Prop} (hA : Apart X.K cl n) (hn : ∀ p ∈ hs, p.1 < n)
    (hf : ∀ {tp : Option (Addr × Addr)} {hT hid : Addr → Prop} {tl : XK → Hp → VK → Prop} {H1 : Hp} {Q : VK} (r : Rs W), Out cl tp E H1 (f r) (PWm X.K m hT hid) Q →
      (∀ Q' : VK, Out cl tp (fun cls _ H' => wish X.K cl Q hs cls H') H1 r (PWm X.K .safe hT hid) Q' → tl (fun cls _ H' => wish X.K cl Q hs cls H') H1 Q') → TT tl H1 Q) :
    ∀ σ H Q, tEx X.K cl c m (fun ρ t => f (te ρ t)) E σ H Q → LamX.tLam Tb.T TT (fun E' => tEx X.K cl c .safe te E') σ H Q := by
  intro σ H Q ⟨hT, hid, tp, ρ, t, S, o⟩
  refine ⟨S.tbs, fun H1 e1 t1 => ?_⟩
  have m0 := sm_ext e1 t1
  have m1 : Sm (tps tp) H H1 := m0.imp fun _ z => z.elim
  have S1 := S.sm m1 (S.tap.smF m0)
  exact hf (te ρ t) (Out.later later_pw o m1) fun Q' o' => ⟨hT, hid, tp, ρ, t, S1, o'⟩
theorem ev_toldA (F : ToldOk X x a g (TA' X.K cl hs w)) (hA : Apart X.K cl n) (hn : ∀ p ∈ hs, p.1 < n) (hg : Gl X x) (TB : LamX.TabB X.base X.mg co P) (hcode : X.env.code = .ref co) (hmT : (P, X.env.qual ++ "<lambda>") ∈ Tb.T) (hu : ∀ p ∈ Tb.T, p.1 = P → p.2 = X.env.qual ++ "<lambda>")
    (hr : Room (k + 2) X.A) (L : LamX.LamS X.env.scope scope) (hdef : defaultsOf params X.env = ([], [])) (hbind : ∀ (q : Str) (cl : List (Str × Addr)) (pm cv ctv : Value), bindArgs (PySem.W.kla_fn "<lambda>" q params body scope cl pm cv ctv) ⟨[], []⟩ = pure [])
    (hbody : ∀ (A : Around) (outer : List Env) (s : Shared) (H : Hp) (E : XK) (f c' : Addr), Room k (A.deeper (LamX.lamEnv X scope s.heap.objs.size f c')) → EX (LamX.lamCx X A outer s H E scope f c') cl c .safe body te E)
    (hdb : (x == ("__debug__" : Str)) = false) (hd : (a == ("__debug__" : Str)) = false) (hcd : (a == ("__classdict__" : Str)) = false) :
    EX X cl c .safe (.Call (.Name x p) [.Lambda params body scope lpos] [] pos) (eToldA n hs w te) E := by
  obtain ⟨Ng, pg, bg, sg, dV, kV, doc, pm, cdv, ct, oc, an, od, osl, h1, h2, h3, h4, h5, h6, h7⟩ := F.ex
  refine PE_imp (LamX.pe_lamcall (T := Tb.T) (t := fun E' => tEx X.K cl c .safe te E') hg F.gm F.kp h1 h2 h3 h4 h5 h6 h7 TB hcode hmT hu hr L hdef hbind hbody hdb hd hcd) (told_core (m := .safe) (cc := c) (f := fun r => match r with | .ok _ t => if isC w = true then .ok w t else .bad | .exc e t => exC n hs e t | .bad => .bad) hA hn ?_)
  intro tp hT hid tl H1 Q r o go
  refine go _ ?_
  cases r with
  | ok u t =>
    obtain ⟨hc, o⟩ := few_ok o
    exact fun v H' m k _ => o _ H' m k (im_c hc)
  | exc e t =>
    have o : Out cl tp E H1 (exC n hs e t) (PWm X.K .safe hT hid) Q := o
    intro H' m k
    obtain ⟨he, o⟩ : e < n ∧ Out cl tp E H1 (match hs.lookup e with | some w => if isC w = true then .ok w t else .bad | none => .bad) (PWm X.K .safe hT hid) Q := by
      by_cases he : e < n
      · exact ⟨he, by rw [show exC n hs e t = _ from if_pos he] at o; exact o⟩
      · rw [show exC n hs e t = .bad from if_neg he] at o; exact False.elim o
    cases q : hs.lookup e with
    | none => rw [q] at o; exact False.elim o
    | some u =>
      rw [q] at o
      obtain ⟨hc, o⟩ := few_ok o
      exact wish_of hA he hn q (o _ H' m k (im_c hc))
  | bad => exact o
theorem ev_toldB (F : ToldOk X x a g (TB' X.K cl hs)) (hA : Apart X.K cl n) (hn : ∀ p ∈ hs, p.1 < n) (hg : Gl X x) (TB : LamX.TabB X.base X.mg co P) (hcode : X.env.code = .ref co) (hmT : (P, X.env.qual ++ "<lambda>") ∈ Tb.T) (hu : ∀ p ∈ Tb.T, p.1 = P → p.2 = X.env.qual ++ "<lambda>")
    (hr : Room (k + 2) X.A) (L : LamX.LamS X.env.scope scope) (hdef : defaultsOf params X.env = ([], [])) (hbind : ∀ (q : Str) (cl : List (Str × Addr)) (pm cv ctv : Value), bindArgs (PySem.W.kla_fn "<lambda>" q params body scope cl pm cv ctv) ⟨[], []⟩ = pure [])
    (hbody : ∀ (A : Around) (outer : List Env) (s : Shared) (H : Hp) (E : XK) (f c' : Addr), Room k (A.deeper (LamX.lamEnv X scope s.heap.objs.size f c')) → EX (LamX.lamCx X A outer s H E scope f c') cl c .safe body te E)
    (hdb : (x == ("__debug__" : Str)) = false) (hd : (a == ("__debug__" : Str)) = false) (hcd : (a == ("__classdict__" : Str)) = false) :
    EX X cl c .safe (.Call (.Name x p) [.Lambda params body scope lpos] [] pos) (eToldB n hs te) E := by
  obtain ⟨Ng, pg, bg, sg, dV, kV, doc, pm, cdv, ct, oc, an, od, osl, h1, h2, h3, h4, h5, h6, h7⟩ := F.ex
  refine PE_imp (LamX.pe_lamcall (T := Tb.T) (t := fun E' => tEx X.K cl c .safe te E') hg F.gm F.kp h1 h2 h3 h4 h5 h6 h7 TB hcode hmT hu hr L hdef hbind hbody hdb hd hcd) (told_core (m := .safe) (cc := c) (f := fun r => match r with | .ok w t => .ok w t | .exc e t => exC n hs e t | .bad => .bad) hA hn ?_)
  intro tp hT hid tl H1 Q r o go
  refine go _ ?_
  cases r with
  | ok u t => exact o
  | exc e t =>
    have o : Out cl tp E H1 (exC n hs e t) (PWm X.K .safe hT hid) Q := o
    intro H' m k
    obtain ⟨he, o⟩ : e < n ∧ Out cl tp E H1 (match hs.lookup e with | some w => if isC w = true then .ok w t else .bad | none => .bad) (PWm X.K .safe hT hid) Q := by
      by_cases he : e < n
      · exact ⟨he, by rw [show exC n hs e t = _ from if_pos he] at o; exact o⟩
      · rw [show exC n hs e t = .bad from if_neg he] at o; exact False.elim o
    cases q : hs.lookup e with
    | none => rw [q] at o; exact False.elim o
    | some u =>
      rw [q] at o
      obtain ⟨hc, o⟩ := few_ok o
      exact wish_of hA he hn q (o _ H' m k (im_c hc))
  | bad => exact o
end
end Ev

end

section
/-! EvC: the rules in short, for printed derivations. -/
namespace Ev
open PySem PySem.Spec PyProof.Rows L2
variable [Tb]
theorem boot_len' : bootBuiltins "len" = some (.builtin "len") := by decide +kernel
theorem boot_abs' : bootBuiltins "abs" = some (.builtin "abs") := by decide +kernel
theorem boot_all' : bootBuiltins "all" = some (.builtin "all") := by decide +kernel
theorem boot_any' : bootBuiltins "any" = some (.builtin "any") := by decide +kernel
theorem boot_sum' : bootBuiltins "sum" = some (.builtin "sum") := by decide +kernel
theorem boot_min' : bootBuiltins "min" = some (.builtin "min") := by decide +kernel
theorem boot_max' : bootBuiltins "max" = some (.builtin "max") := by decide +kernel
theorem boot_isi' : bootBuiltins "isinstance" = some (.builtin "isinstance") := by decide +kernel
theorem boot_int' : bootBuiltins "int" = some (.type "int") := by decide +kernel
theorem boot_bool' : bootBuiltins "bool" = some (.type "bool") := by decide +kernel
theorem boot_str' : bootBuiltins "str" = some (.type "str") := by decide +kernel
theorem boot_tuple' : bootBuiltins "tuple" = some (.type "tuple") := by decide +kernel
theorem boot_list' : bootBuiltins "list" = some (.type "list") := by decide +kernel
/-- the built-in names stand for themselves -/
structure Bn (mg : Str → Option Value) : Prop where
  len : mg "len" = none
  abs : mg "abs" = none
  all : mg "all" = none
  any : mg "any" = none
  sum : mg "sum" = none
  min : mg "min" = none
  max : mg "max" = none
  isi : mg "isinstance" = none
  int : mg "int" = none
  bool : mg "bool" = none
  tuple : mg "tuple" = none
  list : mg "list" = none
  range : mg "range" = none
  enum : mg "enumerate" = none
  zip : mg "zip" = none
def bnNames : List Str := ["len", "abs", "all", "any", "sum", "min", "max", "isinstance", "int", "bool", "tuple", "list", "range", "enumerate", "zip"]
section
variable {X : Cx} {cl : Nat → Addr} {c : Cf} {E : XK} {pos p : Pos} {a b d e : Expr} {es : List Expr} {sa sb sc : Ex} {ss : Exs} {ta tb tc : Et} {m : Mo} {k : Nat} {bb : Bool}
theorem vS (i : Nat) {x : Str} (hN : X.N[i]? = some x := by rfl) (hv : Vis X.env.scope x := by first | exact .inl rfl | exact .inr (.inl rfl) | exact .inr (.inr rfl)) (hm : i ∉ c.M := by decide) (hs : c.scr ≠ some i := by decide) (hd : (x == ("__debug__" : Str)) = false := by decide) (hcd : (x == ("__classdict__" : Str)) = false := by decide) :
    EX X cl c .safe (.Name x pos) (eVar i) E := ev_var hN hv hm hs hd hcd
theorem vB (i : Nat) {x : Str} (hN : X.N[i]? = some x := by rfl) (hv : Vis X.env.scope x := by first | exact .inl rfl | exact .inr (.inl rfl) | exact .inr (.inr rfl)) (hs : c.scr ≠ some i := by decide) (hd : (x == ("__debug__" : Str)) = false := by decide) (hcd : (x == ("__classdict__" : Str)) = false := by decide) :
    EX X cl c .bor (.Name x pos) (eVar i) E := ev_varB hN hv hs hd hcd
theorem vC (i : Nat) {x : Str} (hN : X.N[i]? = some x := by rfl) (hv : Vis X.env.scope x := by first | exact .inl rfl | exact .inr (.inl rfl) | exact .inr (.inr rfl)) (hs : c.scr = some i := by rfl) (hd : (x == ("__debug__" : Str)) = false := by decide) (hcd : (x == ("__classdict__" : Str)) = false := by decide) :
    EX X cl c .rd (.Name x pos) (eVar i) E := ev_scr hN hv hs hd hcd
theorem gC {x : Str} {w : W} (hc : Cst X.K X.mg x w) (hg : Gl X x := by rfl) (hd : (x == ("__debug__" : Str)) = false := by decide) : EX X cl c .safe (.Name x pos) (eC w) E := ev_glob hg hc hd
/-! operators -/
theorem bAdd (ha : EX X cl c .bor a sa E) (hb : EX X cl c .bor b sb E) : EX X cl c .safe (.BinOp a .Add b pos) (eBin wAdd sa sb) E := ev_bin op_addW ok_add ha hb
theorem bAddL (ha : EX X cl c .bor a sa E) (hb : EX X cl c .bor b sb E) : EX X cl c .fresh (.BinOp a .Add b pos) (eBin wAddL sa sb) E := ev_bin op_cat ok_addL ha hb
theorem bSub (ha : EX X cl c .bor a sa E) (hb : EX X cl c .bor b sb E) : EX X cl c .safe (.BinOp a .Sub b pos) (eBin wSub sa sb) E := ev_bin op_sub ok_sub ha hb
theorem bMul (ha : EX X cl c .bor a sa E) (hb : EX X cl c .bor b sb E) : EX X cl c .safe (.BinOp a .Mult b pos) (eBin wMul sa sb) E := ev_bin op_mulW' ok_mul ha hb
theorem bMulL (ha : EX X cl c .bor a sa E) (hb : EX X cl c .bor b sb E) : EX X cl c .fresh (.BinOp a .Mult b pos) (eBin wMulL sa sb) E := ev_bin op_rep ok_mulL ha hb
theorem bDiv (ha : EX X cl c .bor a sa E) (hb : EX X cl c .bor b sb E) : EX X cl c .safe (.BinOp a .FloorDiv b pos) (eBin wFdiv sa sb) E := ev_bin op_fdivX ok_fdiv ha hb
theorem bMod (ha : EX X cl c .bor a sa E) (hb : EX X cl c .bor b sb E) : EX X cl c .safe (.BinOp a .Mod b pos) (eBin wMod sa sb) E := ev_bin op_modN ok_mod ha hb
theorem uNeg (ha : EX X cl c .rd a sa E) : EX X cl c .safe (.UnaryOp .USub a pos) (eUn wNeg sa) E := ev_un un_neg ok_neg ha
/-! comparisons -/
theorem cEq (hr : Room k X.A) (ha : EX X cl c .bor a sa E) (hb : EX X cl c .bor b sb E) : EX X cl c .bor (.Compare a [.Eq] [b] pos) (eBin wEq sa sb) E := ev_cmp (op_eqD hr.units) ok_eq ha hb (nomark _)
theorem cNe (hr : Room k X.A) (ha : EX X cl c .bor a sa E) (hb : EX X cl c .bor b sb E) : EX X cl c .bor (.Compare a [.NotEq] [b] pos) (eBin wNe sa sb) E := ev_cmp (op_neD hr.units) ok_ne ha hb (nomark _)
theorem cLt (ha : EX X cl c .bor a sa E) (hb : EX X cl c .bor b sb E) : EX X cl c .bor (.Compare a [.Lt] [b] pos) (eBin wLt sa sb) E := ev_cmp op_lt ok_cmp ha hb (nomark _)
theorem cLe (ha : EX X cl c .bor a sa E) (hb : EX X cl c .bor b sb E) : EX X cl c .bor (.Compare a [.LtE] [b] pos) (eBin wLe sa sb) E := ev_cmp op_le ok_cmp ha hb (nomark _)
theorem cGt (ha : EX X cl c .bor a sa E) (hb : EX X cl c .bor b sb E) : EX X cl c .bor (.Compare a [.Gt] [b] pos) (eBin wGt sa sb) E := ev_cmp op_gt ok_cmp ha hb (nomark _)
theorem cGe (ha : EX X cl c .bor a sa E) (hb : EX X cl c .bor b sb E) : EX X cl c .bor (.Compare a [.GtE] [b] pos) (eBin wGe sa sb) E := ev_cmp op_ge ok_cmp ha hb (nomark _)
theorem cIsB (ha : EX X cl c .bor a sa E) (hb : EX X cl c .bor b sb E) : EX X cl c .bor (.Compare a [.Is] [b] pos) (eBin (wIsB false) sa sb) E := ev_cmp op_is_bl ok_isB ha hb (nomark _)
theorem cNotB (ha : EX X cl c .bor a sa E) (hb : EX X cl c .bor b sb E) : EX X cl c .bor (.Compare a [.IsNot] [b] pos) (eBin (wIsB true) sa sb) E := ev_cmp op_notBl ok_notB ha hb (nomark _)
theorem tEq (hr : Room k X.A) (ha : EX X cl c .bor a sa E) (hb : EX X cl c .bor b sb E) : TX X cl c (.Compare a [.Eq] [b] pos) (eTest (eBin wEq sa sb)) E := tx_cmp (op_eqD hr.units) ok_eq ha hb (nomark _)
theorem tNe (hr : Room k X.A) (ha : EX X cl c .bor a sa E) (hb : EX X cl c .bor b sb E) : TX X cl c (.Compare a [.NotEq] [b] pos) (eTest (eBin wNe sa sb)) E := tx_cmp (op_neD hr.units) ok_ne ha hb (nomark _)
theorem tLt (ha : EX X cl c .bor a sa E) (hb : EX X cl c .bor b sb E) : TX X cl c (.Compare a [.Lt] [b] pos) (eTest (eBin wLt sa sb)) E := tx_cmp op_lt ok_cmp ha hb (nomark _)
theorem tLe (ha : EX X cl c .bor a sa E) (hb : EX X cl c .bor b sb E) : TX X cl c (.Compare a [.LtE] [b] pos) (eTest (eBin wLe sa sb)) E := tx_cmp op_le ok_cmp ha hb (nomark _)
theorem tGt (ha : EX X cl c .bor a sa E) (hb : EX X cl c .bor b sb E) : TX X cl c (.Compare a [.Gt] [b] pos) (eTest (eBin wGt sa sb)) E := tx_cmp op_gt ok_cmp ha hb (nomark _)
theorem tGe (ha : EX X cl c .bor a sa E) (hb : EX X cl c .bor b sb E) : TX X cl c (.Compare a [.GtE] [b] pos) (eTest (eBin wGe sa sb)) E := tx_cmp op_ge ok_cmp ha hb (nomark _)
theorem tIsB (ha : EX X cl c .bor a sa E) (hb : EX X cl c .bor b sb E) : TX X cl c (.Compare a [.Is] [b] pos) (eTest (eBin (wIsB false) sa sb)) E := tx_cmp op_is_bl ok_isB ha hb (nomark _)
theorem tNotB (ha : EX X cl c .bor a sa E) (hb : EX X cl c .bor b sb E) : TX X cl c (.Compare a [.IsNot] [b] pos) (eTest (eBin (wIsB true) sa sb)) E := tx_cmp op_notBl ok_notB ha hb (nomark _)
theorem tLtLe (ha : EX X cl c .bor a sa E) (hb : EX X cl c .bor b sb E) (hd : EX X cl c .bor d sc E) : TX X cl c (.Compare a [.Lt, .LtE] [b, d] pos) (eTest (eChain wLt wLe sa sb sc)) E := tx_chain op_lt op_le ok_cmp ok_cmp ha hb hd (nomark _)
theorem cLtLe (ha : EX X cl c .bor a sa E) (hb : EX X cl c .bor b sb E) (hd : EX X cl c .bor d sc E) : EX X cl c .bor (.Compare a [.Lt, .LtE] [b, d] pos) (eChain wLt wLe sa sb sc) E := ev_chain op_lt op_le ok_cmp ok_cmp ha hb hd (nomark _)
theorem tV (h : EX X cl c .bor e sa E) (he : ∀ whole, isTrue e X.env whole = (do let v ← whole; standAt e.pos; holding [v] (truthy v)) := by intro _; rfl) : TX X cl c e (eTest sa) E := tx_val h he
theorem tT1 {whole : Expr} {t : Et} (h : TXw X cl c whole t E) : TX X cl c whole t E := tx_of h
/-! items -/
theorem iX (ha : EX X cl c .rd a sa E) (hb : EX X cl c .bor b sb E) (hs : PlainIx b := by intro _ _; rfl) : EX X cl c .safe (.Subscript a b pos) (eBin wIdx sa sb) E := ev_idx ha hb hs
/-! arguments -/
theorem aS (ha : EX X cl c .safe a sa E) (hr : AX X cl c true es ss E) (hs : starEach (a :: es) X.env = (false, eval a X.env) :: starEach es X.env := by rfl) : AX X cl c true (a :: es) (eCons sa ss) E := as_consS ha hr hs
theorem aB (ha : EX X cl c .rd a sa E) (hr : AX X cl c false es ss E) (hs : starEach (a :: es) X.env = (false, eval a X.env) :: starEach es X.env := by rfl) : AX X cl c false (a :: es) (eCons sa ss) E := as_consB ha hr hs
theorem aO (ha : EX X cl c .bor a sa E) (hr : AB X cl c es ss E) (hs : starEach (a :: es) X.env = (false, eval a X.env) :: starEach es X.env := by rfl) : AB X cl c (a :: es) (eCons sa ss) E := ab_cons ha hr hs
theorem nS : AX X cl c true [] eNil E := as_nil
theorem nB : AX X cl c false [] eNil E := as_nil
/-! built-in functions -/
theorem fLen (B : Bn X.mg) (ha : AX X cl c false (a :: es) ss E) (hg : Gl X "len" := by rfl) (he : starEach (a :: es) X.env = (false, eval a X.env) :: starEach es X.env := by rfl) (hpl : (backTo pos (starEach es X.env)).any (·.1) = false := by rfl) : EX X cl c .safe (.Call (.Name "len" p) (a :: es) [] pos) (eCallB gLen ss) E :=
  ev_callB call_len_seq ok_len hg B.len boot_len' ha (by decide) (by decide) he hpl
theorem fAbs (B : Bn X.mg) (ha : AX X cl c false (a :: es) ss E) (hg : Gl X "abs" := by rfl) (he : starEach (a :: es) X.env = (false, eval a X.env) :: starEach es X.env := by rfl) (hpl : (backTo pos (starEach es X.env)).any (·.1) = false := by rfl) : EX X cl c .safe (.Call (.Name "abs" p) (a :: es) [] pos) (eCallB gAbs ss) E :=
  ev_callB call_abs ok_abs hg B.abs boot_abs' ha (by decide) (by decide) he hpl
theorem fAll (B : Bn X.mg) (ha : AX X cl c false (a :: es) ss E) (hc : X.calm = true := by rfl) (hg : Gl X "all" := by rfl) (he : starEach (a :: es) X.env = (false, eval a X.env) :: starEach es X.env := by rfl) (hpl : (backTo pos (starEach es X.env)).any (·.1) = false := by rfl) : EX X cl c .safe (.Call (.Name "all" p) (a :: es) [] pos) (eCallB gAll ss) E :=
  ev_callB (cr_all hc) ok_all hg B.all boot_all' ha (by decide) (by decide) he hpl
theorem fAny (B : Bn X.mg) (ha : AX X cl c false (a :: es) ss E) (hc : X.calm = true := by rfl) (hg : Gl X "any" := by rfl) (he : starEach (a :: es) X.env = (false, eval a X.env) :: starEach es X.env := by rfl) (hpl : (backTo pos (starEach es X.env)).any (·.1) = false := by rfl) : EX X cl c .safe (.Call (.Name "any" p) (a :: es) [] pos) (eCallB gAny ss) E :=
  ev_callB (cr_any hc) ok_any hg B.any boot_any' ha (by decide) (by decide) he hpl
theorem fSum (B : Bn X.mg) (ha : AX X cl c false (a :: es) ss E) (hc : X.calm = true := by rfl) (hg : Gl X "sum" := by rfl) (he : starEach (a :: es) X.env = (false, eval a X.env) :: starEach es X.env := by rfl) (hpl : (backTo pos (starEach es X.env)).any (·.1) = false := by rfl) : EX X cl c .safe (.Call (.Name "sum" p) (a :: es) [] pos) (eCallB gSum ss) E :=
  ev_callB (cr_sum hc) ok_sum hg B.sum boot_sum' ha (by decide) (by decide) he hpl
theorem fMin (B : Bn X.mg) (ha : AX X cl c false (a :: es) ss E) (hc : X.calm = true := by rfl) (hg : Gl X "min" := by rfl) (he : starEach (a :: es) X.env = (false, eval a X.env) :: starEach es X.env := by rfl) (hpl : (backTo pos (starEach es X.env)).any (·.1) = false := by rfl) : EX X cl c .safe (.Call (.Name "min" p) (a :: es) [] pos) (eCallB gMin2 ss) E :=
  ev_callB (call_min2 hc) ok_min2 hg B.min boot_min' ha (by decide) (by decide) he hpl
theorem fMax (B : Bn X.mg) (ha : AX X cl c false (a :: es) ss E) (hc : X.calm = true := by rfl) (hg : Gl X "max" := by rfl) (he : starEach (a :: es) X.env = (false, eval a X.env) :: starEach es X.env := by rfl) (hpl : (backTo pos (starEach es X.env)).any (·.1) = false := by rfl) : EX X cl c .safe (.Call (.Name "max" p) (a :: es) [] pos) (eCallB gMax2 ss) E :=
  ev_callB (call_max2 hc) ok_max2 hg B.max boot_max' ha (by decide) (by decide) he hpl
theorem fInt (B : Bn X.mg) (ha : AX X cl c false (a :: es) ss E) (hg : Gl X "int" := by rfl) (he : starEach (a :: es) X.env = (false, eval a X.env) :: starEach es X.env := by rfl) (hpl : (backTo pos (starEach es X.env)).any (·.1) = false := by rfl) : EX X cl c .safe (.Call (.Name "int" p) (a :: es) [] pos) (eCallB gInt ss) E :=
  ev_callTy call_int1 ok_int hg B.int boot_int' ha (by decide) (by decide) he hpl
theorem fTuple (B : Bn X.mg) (ha : AX X cl c false (a :: es) ss E) (hg : Gl X "tuple" := by rfl) (he : starEach (a :: es) X.env = (false, eval a X.env) :: starEach es X.env := by rfl) (hpl : (backTo pos (starEach es X.env)).any (·.1) = false := by rfl) : EX X cl c .safe (.Call (.Name "tuple" p) (a :: es) [] pos) (eCallB gTuple ss) E :=
  ev_callTy call_tuple_of ok_tuple hg B.tuple boot_tuple' ha (by decide) (by decide) he hpl
theorem fList (B : Bn X.mg) (ha : AX X cl c false (a :: es) ss E) (hg : Gl X "list" := by rfl) (he : starEach (a :: es) X.env = (false, eval a X.env) :: starEach es X.env := by rfl) (hpl : (backTo pos (starEach es X.env)).any (·.1) = false := by rfl) : EX X cl c .fresh (.Call (.Name "list" p) (a :: es) [] pos) (eCallB gList ss) E :=
  ev_callTy call_list_of ok_list hg B.list boot_list' ha (by decide) (by decide) he hpl
theorem isT {q : Pos} (B : Bn X.mg) (ha : EX X cl c .bor a sa E) (hg : Gl X "isinstance" := by rfl) (hg2 : Gl X "tuple" := by rfl) (he : starEach [a, .Name "tuple" q] X.env = (false, eval a X.env) :: starEach [.Name "tuple" q] X.env := by rfl) (he2 : starEach [.Name "tuple" q] X.env = [(false, eval (.Name "tuple" q) X.env)] := by rfl) (hpl : (backTo pos (starEach [.Name "tuple" q] X.env)).any (·.1) = false := by rfl) :
    EX X cl c .bor (.Call (.Name "isinstance" p) [a, .Name "tuple" q] [] pos) (eIsI "tuple" sa) E := ev_isi kit_tuple hg B.isi boot_isi' hg2 B.tuple boot_tuple' ha (by decide) (by decide) (by decide) (by decide) he he2 hpl
theorem isI {q : Pos} (B : Bn X.mg) (ha : EX X cl c .bor a sa E) (hg : Gl X "isinstance" := by rfl) (hg2 : Gl X "int" := by rfl) (he : starEach [a, .Name "int" q] X.env = (false, eval a X.env) :: starEach [.Name "int" q] X.env := by rfl) (he2 : starEach [.Name "int" q] X.env = [(false, eval (.Name "int" q) X.env)] := by rfl) (hpl : (backTo pos (starEach [.Name "int" q] X.env)).any (·.1) = false := by rfl) :
    EX X cl c .bor (.Call (.Name "isinstance" p) [a, .Name "int" q] [] pos) (eIsI "int" sa) E := ev_isi kit_int hg B.isi boot_isi' hg2 B.int boot_int' ha (by decide) (by decide) (by decide) (by decide) he he2 hpl
theorem isB {q : Pos} (B : Bn X.mg) (ha : EX X cl c .bor a sa E) (hg : Gl X "isinstance" := by rfl) (hg2 : Gl X "bool" := by rfl) (he : starEach [a, .Name "bool" q] X.env = (false, eval a X.env) :: starEach [.Name "bool" q] X.env := by rfl) (he2 : starEach [.Name "bool" q] X.env = [(false, eval (.Name "bool" q) X.env)] := by rfl) (hpl : (backTo pos (starEach [.Name "bool" q] X.env)).any (·.1) = false := by rfl) :
    EX X cl c .bor (.Call (.Name "isinstance" p) [a, .Name "bool" q] [] pos) (eIsI "bool" sa) E := ev_isi kit_bool hg B.isi boot_isi' hg2 B.bool boot_bool' ha (by decide) (by decide) (by decide) (by decide) he he2 hpl
/-! what is walked -/
variable {tg : Expr}
theorem wR1 {q : Pos} (B : Bn X.mg) (ha : AX X cl c false [a] ss E) (hg : Gl X "range" := by rfl) (hs : starEach [a] X.env = [(false, eval a X.env)] := by rfl) : IX X cl c bb tg (.Call (.Name "range" q) [a] [] pos) (sRng gRng1 ss) E := ix_rng1 hg B.range ha hs
theorem wR2 {q : Pos} (B : Bn X.mg) (ha : AX X cl c false [a, b] ss E) (hg : Gl X "range" := by rfl) (hs : starEach [a, b] X.env = [(false, eval a X.env), (false, eval b X.env)] := by rfl) (hs2 : starEach [b] X.env = [(false, eval b X.env)] := by rfl) : IX X cl c bb tg (.Call (.Name "range" q) [a, b] [] pos) (sRng gRng2 ss) E := ix_rng2 hg B.range ha hs hs2
theorem wEn {q tpos : Pos} {elts : List Expr} {kk : Nat} (B : Bn X.mg) (ha : EX X cl c (moOf bb) a sa E) (hg : Gl X "enumerate" := by rfl) (hs : starEach [a] X.env = [(false, eval a X.env)] := by rfl) : IX X cl c bb (.Tuple elts kk tpos) (.Call (.Name "enumerate" q) [a] [] pos) (sEnum sa) E := ix_enum hg B.enum ha hs
theorem wZ {q tpos : Pos} {elts : List Expr} {kk : Nat} (B : Bn X.mg) (ha : EX X cl c (moOf bb) a sa E) (hb : EX X cl c (moOf bb) b sb E) (hg : Gl X "zip" := by rfl) (hs : starEach [a, b] X.env = (false, eval a X.env) :: starEach [b] X.env := by rfl) (hs2 : starEach [b] X.env = [(false, eval b X.env)] := by rfl) (hpl : (backTo pos (starEach [b] X.env)).any (·.1) = false := by rfl) :
    IX X cl c bb (.Tuple elts kk tpos) (.Call (.Name "zip" q) [a, b] [] pos) (sZip sa sb) E := ix_zip hg B.zip ha hb hs hs2 hpl
theorem wS (h : EX X cl c (moOf bb) e sa E) : IX X cl c bb tg e (sSeq sa) E := ix_seqW h
/-! targets -/
theorem gV (i : Nat) {x : Str} (hN : X.N.Nodup) (hi : X.N[i]? = some x := by rfl) (hx : Loc X.env.scope x := by first | exact .inl rfl | exact .inr rfl) (hf : X.fn x = true ∨ X.env.scope.names.lookup x = some .local := by first | exact .inl rfl | exact .inr rfl) (hm : i ∉ c.M := by decide) (hs : c.scr ≠ some i := by decide) (ht : c.tape ≠ some i := by decide) : GX X c (.Name x pos) (gN i) [i] := gx_name hN hi hx hf hm hs ht
theorem gSs {e : Expr} {es : List Expr} {g : Gw} {gs : Gws} {is js : List Nat} {n : Nat} (h1 : GX X c e g is) (h2 : GXs X c es gs js n) (hs : (assignEach (e :: es) X.env).map (·.2) = assign e X.env :: (assignEach es X.env).map (·.2) := by rfl) : GXs X c (e :: es) (gsC g gs) (is ++ js) (n + 1) := gxs_cons h1 h2 hs
theorem gT {es : List Expr} {k : Nat} {gs : Gws} {is : List Nat} {n : Nat} (h : GXs X c es gs is n) (hc : X.calm = true := by rfl) (hn : (assignEach es X.env).length = n := by rfl) (hst : (assignEach es X.env).findIdx? (·.1) = none := by rfl) : GX X c (.Tuple es k pos) (gTp gs) is := gx_tup hc h hn hst
/-! comprehensions -/
theorem lC {elt tg iter : Expr} {ifs : List Expr} {scope : Scope} (own : List (Str × Nat)) {src : Exs} {is : List Nat} {g : Gw} {tt : Et} {te : Ex} (hN : X.N.Nodup) (hi : IX X cl c false tg iter src E)
    (hg : ∀ (s : Shared) (H : Hp) (C : Addr) (cl : List (Str × Addr)) (fp : List Addr), GX (X.blk s H scope (compEnvC scope cl C X.env) fp) c tg g is)
    (ht : ∀ (s : Shared) (H : Hp) (C : Addr) (cl' : List (Str × Addr)) (fp : List Addr), TsX (X.blk s H scope (compEnvC scope cl' C X.env) fp) cl c ifs tt E0)
    (he : ∀ (s : Shared) (H : Hp) (C : Addr) (cl' : List (Str × Addr)) (fp : List Addr), EX (X.blk s H scope (compEnvC scope cl' C X.env) fp) cl c .safe elt te E0)
    (ok : blkC X.N X.env.scope scope own = true := by rfl)
    (hc : X.calm = true := by rfl) (hs : ∀ x, foldedSetIterable iter X.env x = pure x := by intro _; rfl) (his : ∀ i ∈ is, i ∈ own.map (·.2) := by decide) (hvt : ∀ i ∈ own.map (·.2), c.tape ≠ some i := by decide) :
    EX X cl c .fresh (.ListComp elt [⟨tg, iter, ifs, 0⟩] scope pos) (eLc src (own.map (·.2)) g tt te) E := ev_lc hc hN hi (blkOk_by ok) hg ht he hs his hvt
/-! calls -/
variable {fn : Fs} {x : Str} {fr : Bool}
theorem kS (F : FnA X.prog X.w X.K X.mg X.base x k (FnS X.K cl false fn)) (hr : Room k X.A) (hx : Passes (L2.CX X.prog X.w) X E) (ha : AX X cl c true (e :: es) ss E) (hg : Gl X x := by rfl)
    (hdb : (x == ("__debug__" : Str)) = false := by decide) (he : starEach (e :: es) X.env = (false, eval e X.env) :: starEach es X.env := by rfl) (hpl : (backTo pos (starEach es X.env)).any (·.1) = false := by rfl) : EX X cl c .safe (.Call (.Name x p) (e :: es) [] pos) (eCall fn ss) E := ev_call F hr hg hx ha hdb he hpl
theorem kF (F : FnA X.prog X.w X.K X.mg X.base x k (FnS X.K cl true fn)) (hr : Room k X.A) (hx : Passes (L2.CX X.prog X.w) X E) (ha : AX X cl c true (e :: es) ss E) (hg : Gl X x := by rfl)
    (hdb : (x == ("__debug__" : Str)) = false := by decide) (he : starEach (e :: es) X.env = (false, eval e X.env) :: starEach es X.env := by rfl) (hpl : (backTo pos (starEach es X.env)).any (·.1) = false := by rfl) : EX X cl c .fresh (.Call (.Name x p) (e :: es) [] pos) (eCall fn ss) E := ev_call F hr hg hx ha hdb he hpl
theorem k0 (F : FnA X.prog X.w X.K X.mg X.base x k (FnS X.K cl false fn)) (hr : Room k X.A) (hx : Passes (L2.CX X.prog X.w) X E) (hg : Gl X x := by rfl) (hdb : (x == ("__debug__" : Str)) = false := by decide) : EX X cl c .safe (.Call (.Name x p) [] [] pos) (eCall fn eNil) E := ev_call0 F hr hg hx hdb
theorem kO (F : FnA X.prog X.w X.K X.mg X.base x k (FnS X.K cl false fn)) (hr : Room k X.A) (hx : Passes (L2.CX X.prog X.w) X E) (ha : AB X cl c (e :: es) ss E) (hg : Gl X x := by rfl)
    (hdb : (x == ("__debug__" : Str)) = false := by decide) (he : starEach (e :: es) X.env = (false, eval e X.env) :: starEach es X.env := by rfl) (hpl : (backTo pos (starEach es X.env)).any (·.1) = false := by rfl) : EX X cl c .safe (.Call (.Name x p) (e :: es) [] pos) (eCallB' fn ss) E := ev_callB' F hr hg hx ha hdb he hpl
theorem kC (i : Nat) {y : Str} {q : Pos} (F : FnA X.prog X.w X.K X.mg X.base x k (FnC X.K cl fn)) (hr : Room k X.A) (hx : Passes (L2.CX X.prog X.w) X E) (ha : AX X cl c true es ss E) (hN : X.N[i]? = some y := by rfl) (hv : Vis X.env.scope y := by first | exact .inl rfl | exact .inr (.inl rfl) | exact .inr (.inr rfl)) (hs : c.scr = some i := by rfl) (hg : Gl X x := by rfl)
    (hd : (y == ("__debug__" : Str)) = false := by decide) (hcd : (y == ("__classdict__" : Str)) = false := by decide)
    (hdb : (x == ("__debug__" : Str)) = false := by decide) (he : starEach (.Name y q :: es) X.env = (false, eval (.Name y q) X.env) :: starEach es X.env := by rfl) (hpl : (backTo pos (starEach es X.env)).any (·.1) = false := by rfl) : EX X cl c .safe (.Call (.Name x p) (.Name y q :: es) [] pos) (eScr fn i ss) E := ev_callC F hr hg hx hN hv hs ha hd hcd hdb he hpl
/-! statements -/
variable {st : Stmt} {rest : List Stmt} {s : Ex} {u v : Sv}
theorem nm {i : Nat} {x : Str} (nd : X.N.Nodup) (h : X.N[i]? = some x := by rfl) (l : Loc X.env.scope x := by first | exact .inl rfl | exact .inr rfl) (f : X.fn x = true ∨ X.env.scope.names.lookup x = some .local := by first | exact .inl rfl | exact .inr rfl) (s : c.scr ≠ some i := by decide) (t : c.tape ≠ some i := by decide) : NmOk X c i x := ⟨nd, h, l, f, s, t⟩
theorem zSet (i : Nat) {x : Str} {pos' : Pos} (nd : X.N.Nodup) (he : EX X cl c .safe e s E) (n : NmOk X c i x := by exact nm (by assumption)) (hm : i ∉ c.M := by decide) (hs : swapsWith e (some (.Name x pos')) pos.line X.env = pure false := by rfl) : SX X cl c fr (.Assign [.Name x pos'] e pos) (sSet i s) E := sx_set n hm he hs
theorem zOwn (i : Nat) {x : Str} {pos' : Pos} (nd : X.N.Nodup) (he : EX X cl c .fresh e s E) (n : NmOk X c i x := by exact nm (by assumption)) (hm : i ∈ c.M := by decide) (hs : swapsWith e (some (.Name x pos')) pos.line X.env = pure false := by rfl) : SX X cl c fr (.Assign [.Name x pos'] e pos) (sSet i s) E := sx_own n hm he hs
theorem zMove (i j : Nat) {x y : Str} {pos' p : Pos} (nd : X.N.Nodup) (n : NmOk X c i x := by exact nm (by assumption)) (hi : i ∈ c.M := by decide) (hj : j ∈ c.M := by decide) (hij : i ≠ j := by decide) (hN : X.N[j]? = some y := by rfl) (hv : Vis X.env.scope y := by first | exact .inl rfl | exact .inr (.inl rfl) | exact .inr (.inr rfl)) (hd : (y == ("__debug__" : Str)) = false := by decide) (hcd : (y == ("__classdict__" : Str)) = false := by decide)
    (hs : swapsWith (.Name y p) (some (.Name x pos')) pos.line X.env = pure false := by rfl) : SX X cl c fr (.Assign [.Name x pos'] (.Name y p) pos) (sMove i j) E := sx_move n hi hj hij hN hv hd hcd hs
theorem zFreeze (i j : Nat) {x y : Str} {pos' p : Pos} (nd : X.N.Nodup) (n : NmOk X c i x := by exact nm (by assumption)) (hi : i ∉ c.M := by decide) (hj : j ∈ c.M := by decide) (hN : X.N[j]? = some y := by rfl) (hv : Vis X.env.scope y := by first | exact .inl rfl | exact .inr (.inl rfl) | exact .inr (.inr rfl)) (hd : (y == ("__debug__" : Str)) = false := by decide) (hcd : (y == ("__classdict__" : Str)) = false := by decide)
    (hs : swapsWith (.Name y p) (some (.Name x pos')) pos.line X.env = pure false := by rfl) : SX X cl c fr (.Assign [.Name x pos'] (.Name y p) pos) (sMove i j) E := sx_freeze n hi hj hN hv hd hcd hs
theorem zAsg {tg : Expr} {g : Gw} {is : List Nat} (hg : GX X c tg g is) (he : EX X cl c .safe e s E) (hm : ∀ i ∈ is, i ∉ c.M := by decide) (hs : swapsWithSole [tg] e pos.line X.env = pure false := by rfl) (hw : swappedStores [tg] e X.env = pure none := by rfl) (h1 : (assignEach [tg] X.env).map (·.2) = [assign tg X.env] := by rfl) : SX X cl c fr (.Assign [tg] e pos) (sAsg g s) E := sx_asg hg hm he hs hw h1
theorem zPar2 (i j : Nat) (b1 b2 : Bool) {x y : Str} {px py pt : Pos} {kt k2 pt2} (nd : X.N.Nodup) (ha : EX X cl c (mo b1) a sa E) (hb : EX X cl c (mo b2) b sb E) (n1 : NmOk X c i x := by exact nm (by assumption)) (n2 : NmOk X c j y := by exact nm (by assumption)) (hij : i ≠ j := by decide) (l1 : X.env.scope.names.lookup x = some .local := by rfl) (l2 : X.env.scope.names.lookup y = some .local := by rfl) (m1 : decide (i ∈ c.M) = b1 := by rfl) (m2 : decide (j ∈ c.M) = b2 := by rfl)
    (h1 : starEach [a, b] X.env = (false, eval a X.env) :: starEach [b] X.env := by rfl) (h2 : starEach [b] X.env = [(false, eval b X.env)] := by rfl)
    (hw : swappedStores [.Tuple [.Name x px, .Name y py] kt pt] (.Tuple [a, b] k2 pt2) X.env = pure (some [x, y]) := by rfl)
    (hs : swapsWithSole [.Tuple [.Name x px, .Name y py] kt pt] (.Tuple [a, b] k2 pt2) pos.line X.env = pure false := by rfl) (hc : X.calm = true := by rfl) :
    SX X cl c fr (.Assign [.Tuple [.Name x px, .Name y py] kt pt] (.Tuple [a, b] k2 pt2) pos) (sPar2 i j sa sb) E := sx_par2 hc n1 n2 hij l1 l2 m1 m2 ha hb h1 h2 hw hs
theorem zPar3 (i j l : Nat) (b1 b2 b3 : Bool) {x y z : Str} {px py pz pt : Pos} {kt k2 pt2} (nd : X.N.Nodup) (ha : EX X cl c (mo b1) a sa E) (hb : EX X cl c (mo b2) b sb E) (hd : EX X cl c (mo b3) d sc E) (n1 : NmOk X c i x := by exact nm (by assumption)) (n2 : NmOk X c j y := by exact nm (by assumption)) (n3 : NmOk X c l z := by exact nm (by assumption)) (hij : i ≠ j := by decide) (hil : i ≠ l := by decide) (hjl : j ≠ l := by decide) (l1 : X.env.scope.names.lookup x = some .local := by rfl) (l2 : X.env.scope.names.lookup y = some .local := by rfl) (l3 : X.env.scope.names.lookup z = some .local := by rfl) (m1 : decide (i ∈ c.M) = b1 := by rfl) (m2 : decide (j ∈ c.M) = b2 := by rfl) (m3 : decide (l ∈ c.M) = b3 := by rfl)
    (h1 : starEach [a, b, d] X.env = (false, eval a X.env) :: starEach [b, d] X.env := by rfl) (h2 : starEach [b, d] X.env = (false, eval b X.env) :: starEach [d] X.env := by rfl) (h3 : starEach [d] X.env = [(false, eval d X.env)] := by rfl)
    (hw : swappedStores [.Tuple [.Name x px, .Name y py, .Name z pz] kt pt] (.Tuple [a, b, d] k2 pt2) X.env = pure (some [x, y, z]) := by rfl)
    (hs : swapsWithSole [.Tuple [.Name x px, .Name y py, .Name z pz] kt pt] (.Tuple [a, b, d] k2 pt2) pos.line X.env = pure false := by rfl) (hc : X.calm = true := by rfl) :
    SX X cl c fr (.Assign [.Tuple [.Name x px, .Name y py, .Name z pz] kt pt] (.Tuple [a, b, d] k2 pt2) pos) (sPar3 i j l sa sb sc) E := sx_par3 hc n1 n2 n3 hij hil hjl l1 l2 l3 m1 m2 m3 ha hb hd h1 h2 h3 hw hs
theorem zIAdd (i : Nat) {x : Str} {pos' : Pos} (nd : X.N.Nodup) (he : EX X cl c .bor e s E) (n : NmOk X c i x := by exact nm (by assumption)) (hm : i ∉ c.M := by decide) : SX X cl c fr (.AugAssign (.Name x pos') .Add e pos) (sAug wIAdd i s) E := sx_aug n hm he ip_add ok_iadd
theorem zIMul (i : Nat) {x : Str} {pos' : Pos} (nd : X.N.Nodup) (he : EX X cl c .bor e s E) (n : NmOk X c i x := by exact nm (by assumption)) (hm : i ∉ c.M := by decide) : SX X cl c fr (.AugAssign (.Name x pos') .Mult e pos) (sAug wIMul i s) E := sx_aug n hm he iop_mulX ok_imul
theorem zIDiv (i : Nat) {x : Str} {pos' : Pos} (nd : X.N.Nodup) (he : EX X cl c .bor e s E) (n : NmOk X c i x := by exact nm (by assumption)) (hm : i ∉ c.M := by decide) : SX X cl c fr (.AugAssign (.Name x pos') .FloorDiv e pos) (sAug wFdiv i s) E := sx_aug n hm he iop_fdivX ok_fdiv
theorem zPut (i : Nat) {x : Str} {ix : Expr} {si : Ex} {px p : Pos} (hix : EX X cl c .bor ix si E) (he : EX X cl c .safe e s E) (hN : X.N[i]? = some x := by rfl) (hv : Vis X.env.scope x := by first | exact .inl rfl | exact .inr (.inl rfl) | exact .inr (.inr rfl)) (hm : i ∈ c.M := by decide) (hsc : c.scr ≠ some i := by decide) (hd : (x == ("__debug__" : Str)) = false := by decide) (hcd : (x == ("__classdict__" : Str)) = false := by decide)
    (ha : ∀ v, assign (.Subscript (.Name x px) ix p) X.env v = (do
      let ov ← holding [v] (eval (.Name x px) X.env)
      let iv ← holding [v, ov] (eval ix X.env)
      standAt p
      holding [v, ov, iv] (setItem ov iv v)
      release [v, ov, iv] []) := by intro _; rfl)
    (hs : swapsWithSole [.Subscript (.Name x px) ix p] e pos.line X.env = pure false := by rfl) (hw : swappedStores [.Subscript (.Name x px) ix p] e X.env = pure none := by rfl)
    (h1 : (assignEach [.Subscript (.Name x px) ix p] X.env).map (·.2) = [assign (.Subscript (.Name x px) ix p) X.env] := by rfl) : SX X cl c fr (.Assign [.Subscript (.Name x px) ix p] e pos) (sPut i si s) E := sx_put hN hv hm hsc hd hcd hix he ha hs hw h1
theorem zApp (i : Nat) {x : Str} {px apos cpos : Pos} (he : EX X cl c .safe e s E) (hN : X.N[i]? = some x := by rfl) (hv : Vis X.env.scope x := by first | exact .inl rfl | exact .inr (.inl rfl) | exact .inr (.inr rfl)) (hm : i ∈ c.M := by decide) (hsc : c.scr ≠ some i := by decide) (hd : (x == ("__debug__" : Str)) = false := by decide) (hcd : (x == ("__classdict__" : Str)) = false := by decide)
    (hbase : attributeBase (.Name x px) "append" X.env (eval (.Name x px) X.env) = eval (.Name x px) X.env := by rfl)
    (hfew : ((backTo cpos (starEach [e] X.env)).all (fun x => !x.1) && (backToKw cpos (keywordEach [] X.env)).all (fun x => x.1.isSome)
      && decide ([e].length + ([] : List Keyword).length + (if ([] : List Keyword).isEmpty then 0 else 1) < 30)) = true := by rfl)
    (hline : (apos.endLine == cpos.line) = true := by rfl) (hst : starEach [e] X.env = [(false, eval e X.env)] := by rfl) (hplain : (backTo cpos (starEach [] X.env)).any (·.1) = false := by rfl)
    (hsw : swapsWith (.Call (.Attribute (.Name x px) "append" apos) [e] [] cpos) none pos.line X.env = pure false := by rfl) :
    SX X cl c fr (.Expr (.Call (.Attribute (.Name x px) "append" apos) [e] [] cpos) pos) (sApp i s) E := sx_app hN hv hm hsc hd hcd he hbase hfew hline hst hplain hsw
theorem zExt (i : Nat) {x : Str} {px apos cpos : Pos} (he : EX X cl c .bor e s E) (hN : X.N[i]? = some x := by rfl) (hv : Vis X.env.scope x := by first | exact .inl rfl | exact .inr (.inl rfl) | exact .inr (.inr rfl)) (hm : i ∈ c.M := by decide) (hsc : c.scr ≠ some i := by decide) (hd : (x == ("__debug__" : Str)) = false := by decide) (hcd : (x == ("__classdict__" : Str)) = false := by decide)
    (hbase : attributeBase (.Name x px) "extend" X.env (eval (.Name x px) X.env) = eval (.Name x px) X.env := by rfl)
    (hfew : ((backTo cpos (starEach [e] X.env)).all (fun x => !x.1) && (backToKw cpos (keywordEach [] X.env)).all (fun x => x.1.isSome)
      && decide ([e].length + ([] : List Keyword).length + (if ([] : List Keyword).isEmpty then 0 else 1) < 30)) = true := by rfl)
    (hline : (apos.endLine == cpos.line) = true := by rfl) (hst : starEach [e] X.env = [(false, eval e X.env)] := by rfl) (hplain : (backTo cpos (starEach [] X.env)).any (·.1) = false := by rfl)
    (hsw : swapsWith (.Call (.Attribute (.Name x px) "extend" apos) [e] [] cpos) none pos.line X.env = pure false := by rfl) :
    SX X cl c fr (.Expr (.Call (.Attribute (.Name x px) "extend" apos) [e] [] cpos) pos) (sExt i s) E := sx_ext hN hv hm hsc hd hcd he hbase hfew hline hst hplain hsw
theorem zPop (i : Nat) {x : Str} {px apos cpos : Pos} (hN : X.N[i]? = some x := by rfl) (hv : Vis X.env.scope x := by first | exact .inl rfl | exact .inr (.inl rfl) | exact .inr (.inr rfl)) (hm : i ∈ c.M := by decide) (hsc : c.scr ≠ some i := by decide) (hd : (x == ("__debug__" : Str)) = false := by decide) (hcd : (x == ("__classdict__" : Str)) = false := by decide)
    (hbase : attributeBase (.Name x px) "pop" X.env (eval (.Name x px) X.env) = eval (.Name x px) X.env := by rfl) (hline : (apos.endLine == cpos.line) = true := by rfl)
    (hsw : swapsWith (.Call (.Attribute (.Name x px) "pop" apos) [] [] cpos) none pos.line X.env = pure false := by rfl) :
    SX X cl c fr (.Expr (.Call (.Attribute (.Name x px) "pop" apos) [] [] cpos) pos) (sPop i) E := sx_pop hN hv hm hsc hd hcd hbase hline hsw
theorem zDrop (he : EX X cl c .bor e s E) (hs : swapsWith e none pos.line X.env = pure false := by rfl) : SX X cl c fr (.Expr e pos) (sDrop s) E := sx_drop he hs
theorem zFor {tg iter : Expr} {body : List Stmt} {src : Exs} {g : Gw} {is : List Nat} (hp : PassesOwn (model X.prog X.w) X.A X.env X.xe) (hi : IX X cl c true tg iter src E) (hg : GX X c tg g is) (hb : SsX X cl c fr body v E)
    (hm : ∀ i ∈ is, i ∉ c.M := by decide) (hs : ∀ x, foldedSetIterable iter X.env x = pure x := by intro _; rfl) (hc : X.calm = true := by rfl) : SX X cl c fr (.For tg iter body [] pos) (sFor src g v) E := sx_for hp hc hi hg hm hb hs
theorem zWhile {d : Expr} {body : List Stmt} (n : Nat) {tc : Et} (hp : PassesOwn (model X.prog X.w) X.A X.env X.xe) (hc : TX X cl c d tc E) (hb : SsX X cl c fr body v E) : SX X cl c fr (.While d body [] pos) (sWhile n tc v) E := sx_while hp hc hb
theorem zRet (he : EX X cl { c with M := [] } .safe e s E) : SX X cl c false (.Return (some e) pos) (sRet s) E := sx_ret (fr := false) he
theorem zRetF (he : EX X cl { c with M := [] } .fresh e s E) : SX X cl c true (.Return (some e) pos) (sRet s) E := sx_ret (fr := true) he
theorem zRetO (i : Nat) {x : Str} {p : Pos} (hN : X.N[i]? = some x := by rfl) (hv : Vis X.env.scope x := by first | exact .inl rfl | exact .inr (.inl rfl) | exact .inr (.inr rfl)) (hm : i ∈ c.M := by decide) (hd : (x == ("__debug__" : Str)) = false := by decide) (hcd : (x == ("__classdict__" : Str)) = false := by decide) : SX X cl c true (.Return (some (.Name x p)) pos) (sRet (eVar i)) E := sx_retOwn hN hv hm hd hcd
theorem zRaise (j : Nat) {x : Str} {p pos pos' : Pos} (F : ExC X.K X.mg x (cl j)) (tk : Takes X (fun cls d _ H => E cls d H)) (hg : Gl X x := by rfl) (hc : X.calm = true := by rfl) (hdb : (x == ("__debug__" : Str)) = false := by decide) : SX X cl c fr (.Raise (some (.Call (.Name x p) [] [] pos)) none pos') (sRaise j) E := sx_raise0 hc tk F hg hdb
theorem zSetLc (i : Nat) (b : Bool) {y : Str} {py : Pos} {elt tg iter : Expr} {ifs : List Expr} {scope : Scope} (own : List (Str × Nat)) {src : Exs} {is : List Nat} {g : Gw} {tt : Et} {te : Ex} {spos : Pos} (nd : X.N.Nodup) (hi : IX X cl c false tg iter src E)
    (hg : ∀ (s : Shared) (H : Hp) (C : Addr) (cl : List (Str × Addr)) (fp : List Addr), GX (X.blk s H scope (compEnvC scope cl C X.env) fp) c tg g is)
    (ht : ∀ (s : Shared) (H : Hp) (C : Addr) (cl' : List (Str × Addr)) (fp : List Addr), TsX (X.blk s H scope (compEnvC scope cl' C X.env) fp) cl c ifs tt E0)
    (he : ∀ (s : Shared) (H : Hp) (C : Addr) (cl' : List (Str × Addr)) (fp : List Addr), EX (X.blk s H scope (compEnvC scope cl' C X.env) fp) cl c .safe elt te E0)
    (n : NmOk X c i y := by exact nm (by assumption)) (hl : X.env.scope.names.lookup y = some .local := by rfl) (hb : decide (i ∈ c.M) = b := by rfl)
    (hsw : swapsWith (.ListComp elt [⟨tg, iter, ifs, 0⟩] scope pos) (some (.Name y py)) spos.line X.env = pure true := by exact sw_true rfl rfl rfl (by decide +kernel)) (ok : blkC X.N X.env.scope scope own = true := by rfl)
    (hs : ∀ x, foldedSetIterable iter X.env x = pure x := by intro _; rfl) (hc : X.calm = true := by rfl) (his : ∀ i ∈ is, i ∈ own.map (·.2) := by decide) (hvt : ∀ i ∈ own.map (·.2), c.tape ≠ some i := by decide) :
    SX X cl c fr (.Assign [.Name y py] (.ListComp elt [⟨tg, iter, ifs, 0⟩] scope pos) spos) (sSet i (eLc src (own.map (·.2)) g tt te)) E := sx_setLc hc n hl hb hsw hi (blkOk_by ok) hg ht he hs his hvt
end
end Ev
namespace Ev
open PySem PySem.Spec PyProof.Rows L2
variable [Tb]
section
variable {X : Cx} {cl : Nat → Addr} {c : Cf} {E : XK} {pos p : Pos} {a b d e : Expr} {es : List Expr} {sa sb sc s : Ex}
/-- a truth -/
def BoolEx (s : Ex) : Prop := ∀ ρ t w t', s ρ t = .ok w t' → ∃ k, w = .bool k
theorem ex_bool (h : EX X cl c .bor e s E) (hb : BoolEx s) : EX X cl c .safe e s E := PE_imp h fun σ H Q ⟨hT, hid, tp, ρ, t, S, o⟩ =>
  ⟨hT, hid, tp, ρ, t, S, o.imp fun a t' v H' e1 m k p go => by
    obtain ⟨q, e2⟩ := hb ρ t a t' e1
    subst e2
    rw [bl_of p]
    exact go _ (.bl q)⟩
theorem rOf_inv {α : Type} {o : Option α} {t t' : Tp} {z : α} (h : rOf o t = .ok z t') : o = some z := by
  cases o with
  | none => cases h
  | some y => cases h; rfl
theorem bool_bin {f : W → W → Option W} (hf : ∀ a b z, f a b = some z → ∃ k, z = .bool k) : BoolEx (eBin f sa sb) := fun ρ t w t' h => by
  obtain ⟨x, t1, _, h⟩ := bind_ok h
  obtain ⟨y, t2, _, h⟩ := bind_ok h
  exact hf x y w (rOf_inv h)
theorem isb_eq : ∀ a b z, wEq a b = some z → ∃ k, z = .bool k := fun a b z h => by unfold wEq at h; obtain ⟨_, e⟩ := if_some h; exact ⟨_, e.symm⟩
theorem isb_ne : ∀ a b z, wNe a b = some z → ∃ k, z = .bool k := fun a b z h => by unfold wNe at h; obtain ⟨_, e⟩ := if_some h; exact ⟨_, e.symm⟩
theorem isb_cmp {p : Int → Int → Bool} : ∀ a b z, wCmp p a b = some z → ∃ k, z = .bool k := fun a b z h => by
  cases a <;> cases b <;> simp only [wCmp] at h <;> cases h
  exact ⟨_, rfl⟩
theorem isb_is {n : Bool} : ∀ a b z, wIsB n a b = some z → ∃ k, z = .bool k := fun a b z h => by
  cases a <;> cases b <;> simp only [wIsB] at h <;> cases h
  exact ⟨_, rfl⟩
theorem bool_eq : BoolEx (eBin wEq sa sb) := bool_bin isb_eq
theorem bool_ne : BoolEx (eBin wNe sa sb) := bool_bin isb_ne
theorem bool_cmp {p : Int → Int → Bool} : BoolEx (eBin (wCmp p) sa sb) := bool_bin isb_cmp
theorem bool_is {n : Bool} : BoolEx (eBin (wIsB n) sa sb) := bool_bin isb_is
theorem bool_chain {p q : Int → Int → Bool} : BoolEx (eChain (wCmp p) (wCmp q) sa sb sc) := fun ρ t w t' h => by
  obtain ⟨x, t1, _, h⟩ := bind_ok h
  obtain ⟨y, t2, _, h⟩ := bind_ok h
  obtain ⟨z, t3, ez, h⟩ := bind_ok h
  clear ez
  cases z with
  | bool k =>
    cases k with
    | false => cases h; exact ⟨_, rfl⟩
    | true =>
      obtain ⟨u, t4, _, h⟩ := bind_ok h
      exact isb_cmp y u w (rOf_inv h)
  | _ => cases h
theorem bool_isi {T : String} : BoolEx (eIsI T sa) := fun ρ t w t' h => by
  obtain ⟨x, t1, _, h⟩ := bind_ok h
  by_cases c : noDict x = true
  · rw [if_pos c] at h; cases h; exact ⟨_, rfl⟩
  · rw [if_neg c] at h; cases h
theorem bool_isN {n : Bool} : BoolEx (eIsN n sa) := fun ρ t w t' h => by
  obtain ⟨x, t1, _, h⟩ := bind_ok h
  cases h; exact ⟨_, rfl⟩
end
mutual
/-- the constants of the top -/
def datB (K : PySem.W.Frag) : W → Value → Bool
  | .none, .none => true
  | .bool b, .bool c => b == c
  | .int i, .int j _ => decide (i = j)
  | .str x, .str y _ => decide (x = y)
  | .tuple ws, .ref a => (match K.lookup a with
    | some o => decide (o.cls = .type "tuple") && o.dict.isNone && (match o.data with
      | .seq its n => decide (its.size ≤ 1000) && datsB K ws its.toList
      | _ => false)
    | none => false)
  | _, _ => false
def datsB (K : PySem.W.Frag) : List W → List Value → Bool
  | [], [] => true
  | w :: ws, v :: vs => datB K w v && datsB K ws vs
  | _, _ => false
end

mutual
theorem datB_ok {K : PySem.W.Frag} : ∀ (w : W) (u : Value), datB K w u = true → ∃ v, RelV v u ∧ ∀ hid H, Im K hid H w v
  | .none, u, h => by
    cases u <;> first | exact ⟨.non, rfl, fun _ _ => .non⟩ | simp [datB] at h
  | .bool b, u, h => by
    cases u <;> simp [datB] at h
    subst h
    exact ⟨.bl _, rfl, fun _ _ => .bl _⟩
  | .int i, u, h => by
    cases u <;> simp [datB] at h
    subst h
    exact ⟨.int _, ⟨_, rfl⟩, fun _ _ => .int _⟩
  | .str x, u, h => by
    cases u <;> simp [datB] at h
    subst h
    exact ⟨.str _, ⟨_, rfl⟩, fun _ _ => .str _⟩
  | .tuple ws, u, h => by
    cases u with
    | ref a =>
      unfold datB at h
      cases e : K.lookup a with
      | none => rw [e] at h; cases h
      | some o =>
        rw [e] at h
        obtain ⟨h1, h2⟩ := Bool.and_eq_true_iff.mp h
        obtain ⟨h3, h4⟩ := Bool.and_eq_true_iff.mp h1
        cases ed : o.data with
        | seq its n =>
          rw [ed] at h2
          obtain ⟨h5, h6⟩ := Bool.and_eq_true_iff.mp h2
          obtain ⟨vs, r, im⟩ := datsB_ok ws its.toList h6
          exact ⟨.ref a, rfl, fun hid H => .tup (.inr ⟨o, its, n, e, of_decide_eq_true h3, ed, Nat.le_trans (of_decide_eq_true h5) (by decide), r⟩) (im hid H)⟩
        | _ => rw [ed] at h2; cases h2
    | _ => simp [datB] at h
  | .list ws, u, h => by cases u <;> simp [datB] at h
  | .dict ws, u, h => by cases u <;> simp [datB] at h
theorem datsB_ok {K : PySem.W.Frag} : ∀ (ws : List W) (us : List Value), datsB K ws us = true → ∃ vs, Vals vs us ∧ ∀ hid H, Ims K hid H ws vs
  | [], us, h => by
    cases us with
    | nil => exact ⟨[], .nil, fun _ _ => .nil⟩
    | cons u us => cases h
  | w :: ws, us, h => by
    cases us with
    | nil => cases h
    | cons u us =>
      obtain ⟨h1, h2⟩ := Bool.and_eq_true_iff.mp h
      obtain ⟨v, r, im⟩ := datB_ok w u h1
      obtain ⟨vs, rs, ims⟩ := datsB_ok ws us h2
      exact ⟨v :: vs, .cons r rs, fun hid H => .cons (im hid H) (ims hid H)⟩
end
/-- the name x stands for the data w -/
def cstB (K : PySem.W.Frag) (x : Str) (w : W) : Bool := match PySem.W.nsIn K mainGlobals x with
  | some (some u) => datB K w u
  | _ => false
theorem cst_ok {K : PySem.W.Frag} {h : Heap} {mg : Str → Option Value} (X : K.In h) (G : h.Ns mainGlobals mg) {x : Str} {w : W} (c : cstB K x w = true) : Cst K mg x w := by
  unfold cstB at c
  split at c
  · rename_i u e
    obtain ⟨v, r, im⟩ := datB_ok w u c
    exact ⟨v, u, PySem.W.mg_of X G e, r, im⟩
  · cases c
/-- an own error over ValueError -/
def excB (K : PySem.W.Frag) (x : Str) : Bool := He.eqO (PySem.W.nsIn K mainGlobals x) (some (some (.ref (He.ga K x)))) && (PySem.W.excIn K (He.ga K x) He.veBase "ValueError.__new__" && (PySem.W.keepIn K (.ref (He.ga K x)) && (decide (PySem.W.subIn K (.ref (He.ga K x)) (.type "BaseException") = some true) && decide (PySem.W.typeIn K (.ref (He.ga K x)) = some (.type "type")))))
theorem exc_ok {K : PySem.W.Frag} {h : Heap} {mg : Str → Option Value} (X : K.In h) (G : h.Ns mainGlobals mg) {x : Str} (c : excB K x = true) : ExC K mg x (He.ga K x) := by
  unfold excB at c
  simp only [Bool.and_eq_true, decide_eq_true_eq] at c
  obtain ⟨c1, c2, c3, c4, c5⟩ := c
  exact ⟨PySem.W.mg_of X G (He.eqO_ok c1), ⟨_, _, _, _, PySem.F.excBase_ValueError, c2⟩, c3, c4, c5⟩
/-- classes told apart, by names -/
def apB (K : PySem.W.Frag) (xs : List Str) : Bool := (List.range xs.length).all fun i => (List.range xs.length).all fun j => decide (PySem.W.exmOne K (.ref (He.ga K (xs.getD i ""))) (.ref (He.ga K (xs.getD j ""))) = some (decide (i = j)))
def clA (K : PySem.W.Frag) (xs : List Str) : Nat → Addr := fun i => He.ga K (xs.getD i "")
theorem ap_ok {K : PySem.W.Frag} {xs : List Str} (c : apB K xs = true) : Apart K (clA K xs) xs.length := fun i j hi hj =>
  of_decide_eq_true (List.all_eq_true.mp (List.all_eq_true.mp c i (List.mem_range.mpr hi)) j (List.mem_range.mpr hj))
/-- the built-in names -/
def bnB (K : PySem.W.Frag) : Bool := bnNames.all fun x => He.eqO (PySem.W.nsIn K mainGlobals x) (some none)
theorem bn_ok {K : PySem.W.Frag} {h : Heap} {mg : Str → Option Value} (X : K.In h) (G : h.Ns mainGlobals mg) (c : bnB K = true) : Bn mg := by
  have k : ∀ x ∈ bnNames, mg x = none := fun x hx => PySem.W.mg_none_of X G (He.eqO_ok (List.all_eq_true.mp c x hx))
  exact ⟨k _ (by decide +kernel), k _ (by decide +kernel), k _ (by decide +kernel), k _ (by decide +kernel), k _ (by decide +kernel), k _ (by decide +kernel), k _ (by decide +kernel), k _ (by decide +kernel), k _ (by decide +kernel), k _ (by decide +kernel), k _ (by decide +kernel), k _ (by decide +kernel), k _ (by decide +kernel), k _ (by decide +kernel), k _ (by decide +kernel)⟩
end Ev

end

section
/-! EvD: the end. -/
namespace Ev
open PySem PySem.Spec PyProof.Rows L2
variable [Tb]
theorem co_of {K : PySem.W.Frag} {p : Str × Option Str} {x qual : Str} {st : Stmt} {cdv : Value} (h : ∃ (oc : Value) (od : Option Addr) (kV doc pm : Value) (an : Option Addr) (ct : Value) (osl : Array (Option Value)), K.lookup (He.fAd K p) = some ⟨oc, od, .func (PySem.W.fnOf x qual (defArgs st) (defBody st) (defScope st) .none kV doc pm an cdv ct), osl⟩ ∧ PySem.W.codeIn K cdv qual = true) :
    cdv = .ref (He.codeOf K p) := by
  obtain ⟨oc, od, kV, doc, pm, an, ct, osl, lk, hc⟩ := h
  obtain ⟨c, e⟩ := He.codeIn_ref hc
  subst e
  rw [He.codeOf_eq (c := c) lk rfl]
/-- a def of the text, to be called -/
theorem fnA_of {P : Program} {w : World} {K : PySem.W.Frag} {mg : Str → Option Value} {base : Heap} {x : Str} {k : Nat} {sp : Sp} {f : Addr} {fd : FuncData} {ps : List Str} (F : FnOk P w K mg base (L2.CX P w) k f fd ps sp) (hm : mg x = some (.ref f)) (hk : PySem.W.keepIn K (.ref f) = true) (hb : Binds K fd ps []) : FnA P w K mg base x k sp := ⟨f, fd, ps, F, hm, hk, hb⟩
theorem told_of {K : PySem.W.Frag} {mg : Str → Option Value} {x a : Str} {st : Stmt} {g : Addr} {fd : FuncData} {TT : (XK → Hp → VK → Prop) → Hp → VK → Prop} (F : Fun K x x st g fd) (hg : mg x = some (.ref g)) (S : FnScope [a] [a] (defScope st)) (hv : Vis (defScope st) a) (hb : Binds K fd [a] [])
    (X : Cx) (hK : X.K = K) (hm : X.mg = mg) (hG : ∀ cdv, LamX.GivesTo X [a] x (defScope st) g cdv (defBody st) a (X.env.qual ++ "<lambda>") TT) : ToldOk X x a g TT := by
  subst hK hm
  have kp := F.kp
  obtain ⟨oc, od, kV, doc, pm, an, cdv, ct, osl, rfl, lk, hcd⟩ := F.ex
  exact ⟨hg, kp, [a], _, _, _, _, _, _, _, _, _, _, _, _, _, lk, hcd, hb, S, rfl, hv, hG _⟩
/-- what the law's promise is at the entry -/
theorem law_sp {K : PySem.W.Frag} {cl : Nat → Addr} {f : Fs} {H : Hp} {a : Addr} {ns : List Int} (hT : LamX.Tabs Tb.T H) (hS : SqL K H a (ns.map V.int)) (hf : f [.list (ns.map PyData.int)] = .ok (.bool true)) : FnC K cl f [.ref a] H (fun v _ => v = .bl true) fun _ _ _ => False := by
  refine ⟨fun _ => False, a, ns, [], [], rfl, ⟨hT, fun _ z => z.elim⟩, ?_, .nil, ?_⟩
  · rcases hS with h | h
    · exact .inl ⟨fun z => z, h⟩
    · exact .inr h
  · rw [hf]
    intro v H' _ r
    cases (show Im K _ H' (.bool true) v from r)
    rfl
theorem bad0 {K : PySem.W.Frag} {cl : Nat → Addr} {fr : Bool} {f : Fs} {vs : List V} {H : Hp} {Q : VK} {E : XK} (hf : ∀ ws, f ws = .bad) (h : FnS K cl fr f vs H Q E) : False := by
  obtain ⟨hT, ws, _, _, h⟩ := h
  rw [hf ws] at h
  exact h
end Ev

end

section
namespace Ev
open PySem PySem.Spec PyProof.Rows L2
variable [Tb]
/-! ### range with a step -/
def gRng3 : List W → Option (List W)
  | [.int i, .int j, .int c] => if (!(c == 0) && decide (c.natAbs < 1073741824) && Builtin.Range.small i j c && decide (0 ≤ Builtin.Range.rangeSize i j c)) = true then some (rngW i c (Builtin.Range.rangeSize i j c).toNat) else none
  | _ => none
theorem src_rngC {K : PySem.W.Frag} {hx hid : Addr → Prop} {H : Hp} {lo c : Int} {n : Nat} : SrcOk K hx hid H (rngW lo c n) (Itc lo c n) := by
  refine ⟨fun _ => True, trivial, fun i Ha hl _ => ?_, fun Ha _ => ?_, fun _ _ _ _ _ _ => trivial, fun hid' hh i Ha x Hb hl _ m y => ?_⟩
  · rw [rngW_len] at hl; exact hl
  · rw [rngW_len]; exact Nat.le_refl _
  · rw [rngW_len] at hl
    obtain ⟨e1, e2⟩ := y
    subst e1; subst e2
    exact ⟨Sm.refl, _, rngW_get hl, .int _⟩
theorem bos_ints3 {K : PySem.W.Frag} {hT hid : Addr → Prop} {H : Hp} {i j k : Int} {vs : List V} (h : Bos K hT hid H [.int i, .int j, .int k] vs) : vs = [.int i, .int j, .int k] := by
  cases h with
  | cons h1 h2 =>
    cases h2 with
    | cons h3 h4 =>
      cases h4 with
      | cons h5 h6 => cases h6; rw [rd_int h1, rd_int h3, rd_int h5]
section
variable {X : Cx} {cl : Nat → Addr} {c : Cf} {a b d : Expr} {E : XK} {pos : Pos} {tg : Expr} {bb : Bool}
theorem ix_rng3 {p : Pos} {ss : Exs} (hg : Gl X "range") (hm : X.mg "range" = none) (ha : AX X cl c false [a, b, d] ss E) (hs : starEach [a, b, d] X.env = (false, eval a X.env) :: starEach [b, d] X.env) (hpl : (backTo pos (starEach [b, d] X.env)).any (·.1) = false) : IX X cl c bb tg (.Call (.Name "range" p) [a, b, d] [] pos) (sRng gRng3 ss) E :=
  PI_imp (pi_range3 hg hm ha hs hpl) fun σ H R ⟨hT, hid, tp, ρ, t, S, o⟩ => by
    refine ⟨hT, hid, tp, ρ, t, S, o.seq later_src fun ws t1 vs H1 e1 m1 k1 p1 o1 => ?_⟩
    obtain ⟨items, ei, o1⟩ := rOf_ok o1
    unfold gRng3 at ei
    split at ei
    · obtain ⟨q, e2⟩ := if_some ei
      subst e2
      simp only [Bool.and_eq_true, Bool.not_eq_true', beq_eq_false_iff_ne, decide_eq_true_eq] at q
      obtain ⟨⟨⟨q1, q2⟩, q3⟩, q4⟩ := q
      exact ⟨_, _, _, _, bos_ints3 p1, ⟨q1, q2, q3, by omega⟩, Out.ok_ o1 k1 Sm.refl src_rngC⟩
    · cases ei
theorem wR3 {q : Pos} {ss : Exs} (B : Bn X.mg) (ha : AX X cl c false [a, b, d] ss E) (hg : Gl X "range" := by rfl) (hs : starEach [a, b, d] X.env = (false, eval a X.env) :: starEach [b, d] X.env := by rfl) (hpl : (backTo pos (starEach [b, d] X.env)).any (·.1) = false := by rfl) : IX X cl c bb tg (.Call (.Name "range" q) [a, b, d] [] pos) (sRng gRng3 ss) E := ix_rng3 hg B.range ha hs hpl
end
end Ev

end

section
/-! EvF: the tape: defs that get it, its making. -/
namespace Ev
open PySem PySem.Spec PyProof.Rows L2
variable [Tb]
abbrev Ft := List W → Tp → Rs W
/-- what a def promises whose first argument is the tape -/
def FnT (K : PySem.W.Frag) (cl : Nat → Addr) (f : Ft) : Sp := fun vs H Q E => ∃ hT a b t ws us, vs = .ref a :: us ∧ (LamX.Tabs Tb.T H ∧ ∀ x, hT x → ¬ Nw H x) ∧ hT a ∧ hT b ∧ TpOk (some (a, b)) H t ∧ Ims K hT H ws us ∧ Out cl (some (a, b)) E H (f ws t) (PWm K .safe hT hT) Q
def endT : SR → Rs W
  | .next _ t => .ok .none t
  | .ret w t => .ok w t
  | .exc e t => .exc e t
  | .bad => .bad
def startT (m : Nat) (ws : List W) : Sl := none :: startW (m - 1) ws
def runT (n m : Nat) (body : Sv) : Ft := fun ws t => if ws.length + 1 = n then endT (body (startT m ws) t) else .bad
def BT (H : Hp) (hT : Addr → Prop) (a b : Addr) : Bs := { H0 := H, ow0 := fun _ => False, hb := hT, hT := hT, tp := some (a, b) }
section
variable {P : Program} {w : World} {K : PySem.W.Frag} {mg : Str → Option Value} {base : Heap} {cl : Nat → Addr}
theorem end_outT {c : Cf} {E : XK} {Q : VK} {hT : Addr → Prop} {H : Hp} {a b : Addr} {r : SR} (h : Out cl (some (a, b)) E H (endT r) (PWm K .safe hT hT) Q) : OutS K cl c false E (BT H hT a b) { nx := fun _ H' => Q .non H', rt := Q } r := by
  have q : ∀ {H' : Hp}, Sm (BT H hT a b).ex H H' → Sm (tps (some (a, b))) H H' := fun m => m.imp fun x z => z.elim id fun z => z.elim
  cases r with
  | next ρ t => exact fun hid σ H' S => h .non H' (q S.sm) S.st.tap .non
  | ret w t => exact fun v H' m k p => h v H' (q m) k p
  | exc e t => exact fun H' m k => h H' (q m) k
  | bad => exact h
theorem runT_len {n m : Nat} {body : Sv} {ws : List W} {t : Tp} {hT : Addr → Prop} {H : Hp} {a b : Addr} {Q : VK} {E : XK} (h : Out cl (some (a, b)) E H (runT n m body ws t) (PWm K .safe hT hT) Q) : ws.length + 1 = n ∧ Out cl (some (a, b)) E H (endT (body (startT m ws) t)) (PWm K .safe hT hT) Q := by
  by_cases e : ws.length + 1 = n
  · refine ⟨e, ?_⟩
    rw [show runT n m body ws t = _ from if_pos e] at h
    exact h
  · rw [show runT n m body ws t = .bad from if_neg e] at h
    exact False.elim h
theorem fn_okT {x qual : Str} {st : Stmt} {f : Addr} {fd : FuncData} {N ps : List Str} {k : Nat} {c : Cf} {body : Sv} (F : Fun K x qual st f fd) (S : FnScope N ps (defScope st)) (hNl : ps.length ≤ N.length) (hM : ∀ i ∈ c.M, ps.length ≤ i) (hsc : c.scr = none) (htp : c.tape = some 0)
    (hb : ∀ (cdv : Value) (A : Around) (outer : List Env) (s : Shared) (H : Hp) (E : XK), Room k (A.deeper (envOfC qual (defScope st) s.heap.objs.size f cdv)) →
      SsX (cxOf (L2.CX P w) P w K mg base N qual (defScope st) f cdv A outer s H E) cl c false (defBody st) body E) : FnOk P w K mg base (L2.CX P w) (k + 1) f fd ps (FnT K cl (runT ps.length N.length body)) := by
  refine F.okX S (fun vs H Q E h => ?_) fun cdv A outer s H vs Q E hr h => ⟨_, hb cdv A outer s H E hr, ?_⟩
  · obtain ⟨hT, a, b, t, ws, us, e, _, _, _, _, h2, h3⟩ := h
    subst e
    rw [List.length_cons, ← h2.length]; exact (runT_len h3).1
  · obtain ⟨hT, a, b, t, ws, us, e, h1, ha, hbb, htt, h2, h3⟩ := h
    subst e
    obtain ⟨hl, h3⟩ := runT_len h3
    have hlv : us.length + 1 = ps.length := by rw [← h2.length]; exact hl
    refine ⟨BT H hT a b, hT, startT N.length ws, t, ⟨⟨?_, fun i w e n n2 => ?_, fun i w e n => ?_, fun i w e n => ?_, fun i j w w' x e1 e2 n1 => ?_, h1.2, fun _ z => z, fun x z => ?_, htt, fun i e => ?_, h1.1⟩, fun x z => .inl z, Sm.refl, fun i w x e n => ?_⟩, end_outT h3⟩
    · unfold startT startW L2.start
      rw [List.length_cons, List.length_append, List.length_append, List.length_map, List.length_map, List.length_replicate, List.length_replicate, List.length_cons, h2.length]
      omega
    · cases i with
      | zero => cases e
      | succ i =>
        obtain ⟨e1, e2⟩ := startW_get (show (startW (N.length - 1) ws)[i]? = some (some w) from by simpa [startT] using e)
        obtain ⟨v, h4, h5⟩ := h2.get e2
        exact ⟨v, start_get (by simpa using h4), h5⟩
    · rw [hsc] at n; cases n
    · cases i with
      | zero => cases e
      | succ i =>
        have := (startW_get (show (startW (N.length - 1) ws)[i]? = some (some w) from by simpa [startT] using e)).1
        have := hM _ n
        omega
    · cases i with
      | zero => cases e1
      | succ i =>
        have := (startW_get (show (startW (N.length - 1) ws)[i]? = some (some w) from by simpa [startT] using e1)).1
        have := hM _ n1
        omega
    · obtain ⟨p, q, e, z⟩ := z
      cases e
      rcases z with z | z <;> subst z
      · exact ha
      · exact hbb
    · rw [htp] at e
      cases e
      exact ⟨a, b, rfl, start_get rfl⟩
    · cases i with
      | zero => cases e
      | succ i =>
        have := (startW_get (show (startW (N.length - 1) ws)[i]? = some (some w) from by simpa [startT] using e)).1
        have := hM _ n
        omega
end
/-- f(tape, ..) -/
def eCallT (f : Ft) (s : Exs) : Ex := fun ρ t => (s ρ t).bind fun ws t => f ws t
section
variable {X : Cx} {cl : Nat → Addr} {c : Cf} {E : XK} {x : Str} {k : Nat} {fn : Ft} {es : List Expr} {ss : Exs} {p pos : Pos}
theorem ev_callT {i : Nat} {y : Str} {q : Pos} (F : FnA X.prog X.w X.K X.mg X.base x k (FnT X.K cl fn)) (hr : Room k X.A) (hg : Gl X x) (hx : Passes (L2.CX X.prog X.w) X E) (hN : X.N[i]? = some y) (hv : Vis X.env.scope y) (ht : c.tape = some i) (ha : AX X cl c true es ss E)
    (hd : (y == ("__debug__" : Str)) = false) (hcd : (y == ("__classdict__" : Str)) = false)
    (hdb : (x == ("__debug__" : Str)) = false) (he : starEach (.Name y q :: es) X.env = (false, eval (.Name y q) X.env) :: starEach es X.env) (hpl : (backTo pos (starEach es X.env)).any (·.1) = false) : EX X cl c .safe (.Call (.Name x p) (.Name y q :: es) [] pos) (eCallT fn ss) E := by
  obtain ⟨f, fd, ps, F1, F2, F3, F4⟩ := F.ex
  refine PE_imp (pe_call F1 hr hg F2 F3 F4 .nil hx (pa_cons (pe_var hN hv hd hcd) ha he) hdb he hpl) fun σ H Q ⟨hT, hid, tp, ρ, t, S, o⟩ => ?_
  obtain ⟨a, b, rfl, e1⟩ := S.slot i ht
  refine ⟨.ref a, e1, hT, hid, some (a, b), ρ, t, S, Out.seq (P := PWm X.K .safe hT hid) later_pw o fun ws t1 vs H1 e2 m1 k1 p1 o1 => ?_⟩
  have S1 := S.sm m1 k1
  show FnT X.K cl fn ((.ref a :: vs) ++ []) H1 Q E
  rw [List.append_nil]
  exact ⟨hid, a, b, t1, ws, vs, rfl, ⟨S1.tbs, S1.dom⟩, S.sub a (S.tph a ⟨a, b, rfl, .inl rfl⟩), S.sub b (S.tph b ⟨a, b, rfl, .inr rfl⟩), k1, p1, o1⟩
end
end Ev
namespace Ev
open PySem PySem.Spec PyProof.Rows L2
variable [Tb]
/-! ### the tape is made -/
def intsW : List W → Option (List Int)
  | [] => some []
  | .int i :: ws => (intsW ws).map (i :: ·)
  | _ => none
theorem intsW_map : ∀ {ws : List W} {ns : List Int}, intsW ws = some ns → ws = ns.map PyData.int
  | [], ns, h => by cases h; rfl
  | w :: ws, ns, h => by
    cases w <;> simp only [intsW] at h <;> try cases h
    rename_i i
    cases e : intsW ws with
    | none => rw [e] at h; cases h
    | some ms => rw [e] at h; cases h; rw [List.map_cons, ← intsW_map e]
/-- what a def promises that makes the tape of the script -/
def FnM (K : PySem.W.Frag) (f : List Int → Option (List Int × Int)) : Sp := fun vs H Q _ => ∃ hT a ns, vs = [.ref a] ∧ (LamX.Tabs Tb.T H ∧ ∀ x, hT x → ¬ Nw H x) ∧ Sc K hT H a ns ∧ ∃ cells seed, f ns = some (cells, seed) ∧
  ∀ x y H', x ≠ y → Nw H x → Nw H y → H' x = some (.lst [.ref y, .int seed]) → H' y = some (.lst (cells.map V.int)) → Sm (fun _ => False) H H' → Q (.ref x) H'
/-- the law with its tape -/
def runL (n m : Nat) (f : List Int → Option (List Int × Int)) (body : Sv) : Fs := fun ws => match ws with
  | [.list xs] => match intsW xs with
    | some ns => match f ns with
      | some t => if n = 1 then endF false (body (startW m [.list xs]) (some t)) else .bad
      | none => .bad
    | none => .bad
  | _ => .bad
theorem intsW_ok : ∀ ns : List Int, intsW (ns.map PyData.int) = some ns
  | [] => rfl
  | n :: ns => by rw [List.map_cons]; show (intsW (ns.map PyData.int)).map _ = _; rw [intsW_ok ns]; rfl
section
variable {P : Program} {w : World} {K : PySem.W.Frag} {mg : Str → Option Value} {base : Heap} {cl : Nat → Addr}
theorem begL {N ps : List Str} {c : Cf} {i : Nat} {f : List Int → Option (List Int × Int)} {body : Sv} {vs : List V} {H : Hp} {Q : VK} {E : XK} {rest : TS} (hN : 1 < N.length) (hM : ∀ i ∈ c.M, ps.length ≤ i) (hps : ps.length = 1) (hsc : c.scr = some 0) (htp : c.tape = some i) (hi : i ≠ 0) (hiN : i < N.length)
    (hr : rest = tSv K cl c false body E) (h : FnC K cl (runL ps.length N.length f body) vs H Q E) :
    vs.length = ps.length ∧ tSeq (tAsg (tCall (FnM K f) [] E (tCons (tVar 0) tNil)) (gName i)) rest { nx := fun _ H' => Q .non H', rt := Q } (L2.start N vs) H := by
  obtain ⟨hT, a, ns, ws, us, e, h1, h4, h2, h3⟩ := h
  subst e
  have h3 : EndF K cl false hT H (match (.list (ns.map PyData.int) :: ws : List W) with
    | [.list xs] => match intsW xs with
      | some ns => match f ns with
        | some t => if ps.length = 1 then endF false (body (startW N.length [.list xs]) (some t)) else .bad
        | none => .bad
      | none => .bad
    | _ => .bad) Q E := h3
  cases ws with
  | cons w ws => exact False.elim h3
  | nil =>
    cases h2
    refine ⟨by rw [hps]; rfl, ?_⟩
    have h3 : EndF K cl false hT H (match intsW (ns.map PyData.int) with
      | some ns' => match f ns' with
        | some t => if ps.length = 1 then endF false (body (startW N.length [.list (ns.map PyData.int)]) (some t)) else .bad
        | none => .bad
      | none => .bad) Q E := h3
    rw [intsW_ok] at h3
    have h3 : EndF K cl false hT H (match f ns with
        | some t => if ps.length = 1 then endF false (body (startW N.length [.list (ns.map PyData.int)]) (some t)) else .bad
        | none => .bad) Q E := h3
    cases ef : f ns with
    | none => rw [ef] at h3; exact False.elim h3
    | some t =>
      rw [ef] at h3
      have h3 : EndF K cl false hT H (if ps.length = 1 then endF false (body (startW N.length [.list (ns.map PyData.int)]) (some t)) else .bad) Q E := h3
      rw [if_pos hps] at h3
      obtain ⟨cells, seed⟩ := t
      refine ⟨.ref a, start_get rfl, hT, a, ns, rfl, h1, h4, cells, seed, ef, fun x y H' hxy hx hy ex ey m => ?_⟩
      subst hr
      let hT' : Addr → Prop := fun z => hT z ∨ z = x ∨ z = y
      have hh : ∀ z, hT' z → hT z ∨ Nw H z := fun z q => by
        rcases q with q | q | q
        · exact .inl q
        · rw [q]; exact .inr hx
        · rw [q]; exact .inr hy
      have nx : ¬ Nw H' x := Nw.not ex fun ps z => by cases z
      have ny : ¬ Nw H' y := Nw.not ey fun ps z => by cases z
      have lenS : (L2.start N [V.ref a]).length = N.length := by
        unfold L2.start; rw [List.length_append, List.length_map, List.length_replicate, List.length_singleton]; omega
      have key : ∀ {j : Nat} {w : W}, (startW N.length [.list (ns.map PyData.int)])[j]? = some (some w) → j = 0 ∧ w = .list (ns.map PyData.int) := fun {j w} e => by
        obtain ⟨e1, e2⟩ := startW_get e
        have : j = 0 := by simpa using e1
        subst this
        exact ⟨rfl, by simpa using e2.symm⟩
      have dm : ∀ z, hT' z → ¬ Nw H' z := fun z q => by
        rcases q with q | q | q
        · exact m.dom z (h1.2 z q)
        · rw [q]; exact nx
        · rw [q]; exact ny
      refine ⟨BT H' hT' x y, hT', startW N.length [.list (ns.map PyData.int)], some (cells, seed), ⟨⟨?_, fun j w e n n2 => ?_, fun j w e n => ?_, fun j w e n => ?_, fun j k w w' z e1 e2 n1 => ?_, dm, fun _ z => z, fun z q => ?_, ⟨x, y, rfl, hxy, ex, ey⟩, fun j e => ?_, m.tab h1.1⟩, fun z q => .inl q, Sm.refl, fun j w z e n => ?_⟩, ?_⟩
      · rw [List.length_set, lenS]
        unfold startW
        rw [List.length_append, List.length_map, List.length_replicate, List.length_singleton]; omega
      · exact absurd (by rw [hsc, (key e).1]) n2
      · obtain ⟨e1, e2⟩ := key e
        subst e1
        exact ⟨a, ns, by rw [List.getElem?_set_ne hi]; exact start_get rfl, e2, h4.mono hh fun o _ q nt => m.obj a o (fun z => z) q nt⟩
      · have := hM j n; have := (key e).1; omega
      · have := hM j n1; have := (key e1).1; omega
      · obtain ⟨p, q', e, z⟩ := q
        cases e
        rcases z with z | z <;> subst z
        · exact .inr (.inl rfl)
        · exact .inr (.inr rfl)
      · rw [htp] at e; cases e
        exact ⟨x, y, rfl, by rw [List.getElem?_set_self (by rw [lenS]; exact hiN)]⟩
      · have := hM j n; have := (key e).1; omega
      · have sm : ∀ {H2 : Hp}, Sm (BT H' hT' x y).ex H' H2 → Sm (fun _ => False) H H2 := fun m2 => m.transN m2 fun z q => by
          rcases q with q | q
          · obtain ⟨p, q', e, z⟩ := q
            cases e
            rcases z with z | z <;> subst z
            · exact .inr hx
            · exact .inr hy
          · exact q.elim
        generalize hb : body (startW N.length [.list (ns.map PyData.int)]) (some (cells, seed)) = r at h3
        cases r with
        | next ρ t => exact fun hid σ H2 S => h3 .non H2 (sm S.sm) .non
        | ret w t => exact fun v H2 m2 k p => h3 v H2 (sm m2) (Im.mono Kp.refl (fun z q => .inl (.inl q)) _ _ (show Im K hT' H2 w v from p))
        | exc e t => exact fun H2 m2 k => h3 H2 (sm m2)
        | bad => exact h3
/-- the law: its first statement makes the tape -/
theorem fn_okLT {x qual : Str} {st s0 : Stmt} {rest : List Stmt} {g : Addr} {fd : FuncData} {N ps : List Str} {k i : Nat} {c : Cf} {f : List Int → Option (List Int × Int)} {body : Sv} (F : Fun K x qual st g fd) (S : FnScope N ps (defScope st)) (hM : ∀ i ∈ c.M, ps.length ≤ i) (hps : ps.length = 1) (hsc : c.scr = some 0) (htp : c.tape = some i) (hi : i ≠ 0) (hiN : i < N.length) (hst : defBody st = s0 :: rest)
    (hb : ∀ (cdv : Value) (A : Around) (outer : List Env) (s : Shared) (H : Hp) (E : XK), (∃ (oc : Value) (od : Option Addr) (kV doc pm : Value) (an : Option Addr) (ct : Value) (osl : Array (Option Value)), K.lookup g = some ⟨oc, od, .func (PySem.W.fnOf x qual (defArgs st) (defBody st) (defScope st) .none kV doc pm an cdv ct), osl⟩ ∧ PySem.W.codeIn K cdv qual = true) →
      Room k (A.deeper (envOfC qual (defScope st) s.heap.objs.size g cdv)) →
      PS (cxOf (L2.CX P w) P w K mg base N qual (defScope st) g cdv A outer s H E) s0 (tAsg (tCall (FnM K f) [] E (tCons (tVar 0) tNil)) (gName i)) ∧ SsX (cxOf (L2.CX P w) P w K mg base N qual (defScope st) g cdv A outer s H E) cl c false rest body E) :
    FnOk P w K mg base (L2.CX P w) (k + 1) g fd ps (FnC K cl (runL ps.length N.length f body)) := by
  obtain ⟨oc, od, kV, doc, pm, an, cdv, ct, osl, rfl, lk, hcd⟩ := F.ex
  refine fn_of lk hcd S (fun vs H Q E h => (begL (c := c) (i := i) (rest := tSv K cl c false body E) (by omega) hM hps hsc htp hi hiN rfl h).1) fun A outer s H vs Q E hr h => ?_
  obtain ⟨h0, h1⟩ := hb cdv A outer s H E ⟨oc, od, kV, doc, pm, an, ct, osl, lk, hcd⟩ hr
  exact ⟨_, by rw [hst]; exact pss_cons h0 h1, (begL (c := c) (i := i) (by omega) hM hps hsc htp hi hiN rfl h).2⟩
end
/-! ### for x in script -/
section
variable {X : Cx} {cl : Nat → Addr} {c : Cf} {E : XK} {pos : Pos} {tg : Expr}
theorem ix_scr {i : Nat} {x : Str} (hN : X.N[i]? = some x) (hv : Vis X.env.scope x) (hs : c.scr = some i) (hd : (x == ("__debug__" : Str)) = false) (hcd : (x == ("__classdict__" : Str)) = false) : IX X cl c true tg (.Name x pos) (sSeq (eVar i)) E := PI_imp (pi_seqx (pe_var hN hv hd hcd)) fun σ H R ⟨hT, hid, tp, ρ, t, S, o⟩ => by
  have o : Out cl tp E H ((match ρ[i]? with | some (some w) => (.ok w t : Rs W) | _ => .bad).bind fun w t => rOf (wSeq w) t) (PSrc X.K true hT hid) R := o
  split at o
  rotate_left
  · exact False.elim o
  rename_i w e
  obtain ⟨a, ns, e1, ew, h⟩ := S.scr i w e hs
  subst ew
  refine ⟨_, e1, false, a, rfl, ?_⟩
  have o : Out cl tp E H (.ok (ns.map PyData.int) t) (PSrc X.K true hT hid) R := o
  have go : ∀ G, Sts X.K hid H false a (ns.map V.int) G → (∃ xs, Sqx X.K false H a xs) ∧ R (Itl X.K a) H := fun G st => by
    have hi : Ims X.K hid H (ns.map PyData.int) (ns.map V.int) := ims_ints
    refine ⟨⟨_, st.sq _ st.here⟩, Out.ok_ o S.tap Sm.refl ⟨G, st.here, ?_, ?_, st.stay, ?_⟩⟩
    · intro i Ha hl g
      exact walk_list.goes i Ha (by rw [← hi.length]; exact hl) (st.sq _ g)
    · intro Ha g
      rw [hi.length]
      exact walk_list.stops Ha (st.sq _ g)
    · intro hid' hh i Ha x Hb hl g m y
      obtain ⟨e2, e3⟩ := walk_list.yields i Ha x Hb (by rw [← hi.length]; exact hl) (st.sq _ g) y
      subst e2
      exact ⟨Sm.refl, its_at hi hh m e3⟩
  rcases h with ⟨n, h | ⟨ob, h⟩⟩ | h
  · exact go _ (sts_lst n h)
  · exact go _ (sts_frz n h)
  · exact go _ (sts_kl h)
end
end Ev
namespace Ev
open PySem PySem.Spec PyProof.Rows L2
variable [Tb]
/-! ### a draw -/
def rLenD (K : PySem.W.Frag) : List V → Hp → VK → Prop := fun xs H Q => ∃ p ys, xs = [V.ref p] ∧ (SqL K H p ys ∨ SqT K H p ys) ∧ Q (V.int ↑ys.length) H
def rIntD : List V → Hp → VK → Prop := fun xs H Q => (∃ i, xs = [V.int i] ∧ Q (V.int i) H) ∨ ∃ k, xs = [V.bl k] ∧ Q (V.int (if k = true then 1 else 0)) H
abbrev rDivD : R2 := rI (fun i j => j ≠ 0 ∧ Builtin.divisionGoesByPylong i j = false) fun i j => V.int (i.fdiv j)
abbrev rModD : R2 := rI (fun _ j => j ≠ 0) fun i j => V.int (i.fmod j)
def tDrawT (K : PySem.W.Frag) : TS :=
  tSeq (tAsg (tOp (rIx K) (tVar 0) (tC (.int 0))) (gName 2))
    (tSeq (tWhile (tAnd (tB (L2.tGt (tCB (rLenD K) (tCons (tVar 2) tNil)) (tC (.int 0)))) (tB (tEqI (tOp (rIx K) (tVar 2) (tC (.int 0))) (tC (.int 0))))) (tDrop (tBM K "list" rPopAt (tVar 2) (tCons (tC (.int 0)) tNil))))
      (tSeq (tIfS (tB (L2.tGt (tCB (rLenD K) (tCons (tVar 2) tNil)) (tC (.int 0))))
          (tSeq (tAsg (tOp (rIx K) (tVar 2) (tC (.int 0))) (gName 3))
            (tSeq (tAsg (tOp rDivD (tVar 3) (tVar 1)) (gSub (tVar 2) (tC (.int 0)) rSetL)) (tRet (tOp rModD (tCB rIntD (tCons (tVar 3) tNil)) (tVar 1))))) tNext)
        (tSeq (tAsg (tOp rModD (tCB rIntD (tCons (tOp (rAddW K) (tOp (rMulW K) (tOp (rIx K) (tVar 0) (tC (.int 1))) (tC (.int 48271))) (tC (.int 12345))) tNil)) (tC (.int 2147483647))) (gSub (tVar 0) (tC (.int 1)) rSetL))
          (tRet (tOp rModD (tCB rIntD (tCons (tOp rDivD (tOp (rIx K) (tVar 0) (tC (.int 1))) (tC (.int 64))) tNil)) (tVar 1))))))
def nextS (seed : Int) : Int := (seed * 48271 + 12345).fmod 2147483647
/-- what a draw tells, and the tape behind it -/
def drawD (m : Int) (cells : List Int) (seed : Int) : Option (Int × List Int × Int) :=
  match cells.dropWhile (· == 0) with
  | [] => if (!(m == 0) && (mulOk seed 48271 && divOk (nextS seed) 64)) = true then some (((nextS seed).fdiv 64).fmod m, [], nextS seed) else none
  | n :: r => if divOk n m = true then some (n.fmod m, n.fdiv m :: r, seed) else none
def drawF : Ft := fun ws t => match ws, t with
  | [.int m], some (cells, seed) => match drawD m cells seed with
    | some (r, cs, sd) => .ok (.int r) (some (cs, sd))
    | none => .bad
  | _, _ => .bad
theorem Sm.wr2 {ex : Addr → Prop} {H H1 : Hp} {D : Addr} {u o : HO} (m : Sm ex H H1) (h : H1 D = some u) (hm : isLD u) (he : ex D) (ho : isLD o) : Sm ex H (upd H1 D o) := m.trans (Sm.wr h hm he ho)
theorem at0 {α : Type} {y : α} {ys : List α} : atI (y :: ys) 0 = some y := by
  unfold atI ixN
  rw [if_pos (by decide), if_pos (by simp)]
  rfl
theorem ix0 {α : Type} {y : α} {ys : List α} : ixN (y :: ys).length 0 = some 0 := by
  unfold ixN
  rw [if_pos (by decide), if_pos (by simp)]
  rfl
theorem draw_core {K : PySem.W.Frag} {a b : Addr} {m : Int} {cells : List Int} {seed r sd : Int} {cs : List Int} {D : Ends} {H : Hp} (hab : a ≠ b) (ha : H a = some (.lst [.ref b, .int seed])) (hb : H b = some (.lst (cells.map V.int))) (hd : drawD m cells seed = some (r, cs, sd))
    (hQ : ∀ H', Sm (tps (some (a, b))) H H' → H' a = some (.lst [.ref b, .int sd]) → H' b = some (.lst (cs.map V.int)) → D.rt (.int r) H') :
    tDrawT K D [some (.ref a), some (.int m), none, none] H := by
  have ta : tps (some (a, b)) a := ⟨a, b, rfl, .inl rfl⟩
  have tb : tps (some (a, b)) b := ⟨a, b, rfl, .inr rfl⟩
  refine ⟨.ref a, rfl, .inl ⟨a, _, 0, .ref b, rfl, rfl, .inl (.inl ha), rfl, ?_⟩⟩
  show tWhile _ _ _ [some (.ref a), some (.int m), some (.ref b), none] H
  refine ⟨fun n σ' H' => σ' = [some (.ref a), some (.int m), some (.ref b), none] ∧ ∃ c : List Int, n = c.length ∧ H' a = some (.lst [.ref b, .int seed]) ∧ H' b = some (.lst (c.map V.int)) ∧ Sm (tps (some (a, b))) H H' ∧ c.dropWhile (· == 0) = cells.dropWhile (· == 0), ⟨_, rfl, cells, rfl, ha, hb, Sm.refl, rfl⟩, ?_⟩
  rintro n σ' H' ⟨rfl, c, rfl, ha', hb', sm, dw⟩
  refine ⟨.ref b, rfl, b, c.map V.int, rfl, .inl (.inl (.inl hb')), _, _, rfl, rfl, _, rfl, ?_⟩
  rw [List.length_map]
  cases c with
  | nil =>
    rw [if_neg (by simp)]
    simp only [Bool.false_eq_true, if_false]
    refine ⟨.ref b, rfl, b, _, rfl, .inl (.inl (.inl hb')), _, _, rfl, rfl, _, rfl, ?_⟩
    dsimp only
    rw [if_neg (by simp)]
    have dw' : cells.dropWhile (· == 0) = [] := by rw [← dw]; rfl
    unfold drawD at hd
    rw [dw'] at hd
    have hd : (if (!(m == 0) && (mulOk seed 48271 && divOk (nextS seed) 64)) = true then some (((nextS seed).fdiv 64).fmod m, ([] : List Int), nextS seed) else none) = some (r, cs, sd) := hd
    obtain ⟨hc, e⟩ := if_some hd
    simp only [Bool.and_eq_true, Bool.not_eq_true', beq_eq_false_iff_ne] at hc
    obtain ⟨c1, c2, c3⟩ := hc
    cases e
    refine ⟨.ref a, rfl, .inl ⟨a, _, 1, .int seed, rfl, rfl, .inl (.inl ha'), rfl, .inl ⟨seed, 48271, rfl, rfl, mulOk_ok c2, .inl ⟨_, 12345, rfl, rfl, .inl ⟨_, rfl, _, 2147483647, rfl, rfl, (show (2147483647 : Int) ≠ 0 by decide), ?_⟩⟩⟩⟩⟩
    refine ⟨.ref a, rfl, a, _, 1, 1, rfl, rfl, ha', rfl, ?_⟩
    have hA : (upd H' a (.lst [.ref b, .int (nextS seed)])) a = some (.lst [.ref b, .int (nextS seed)]) := upd_same
    refine ⟨.ref a, rfl, .inl ⟨a, _, 1, .int (nextS seed), rfl, rfl, .inl (.inl hA), rfl, _, 64, rfl, rfl, divOk_ok c3, .inl ⟨_, rfl, .int m, rfl, _, m, rfl, rfl, c1, ?_⟩⟩⟩
    refine hQ _ (sm.wr2 ha' trivial ta trivial) hA ?_
    show upd H' a _ b = _
    rw [upd_ne (fun z => hab z.symm)]
    exact hb'
  | cons x c =>
    rw [if_pos (by simp)]
    refine ⟨.ref b, rfl, .inl ⟨b, _, 0, .int x, rfl, rfl, .inl (.inl hb'), at0, x, 0, rfl, rfl, _, rfl, ?_⟩⟩
    by_cases hx : x = 0
    · dsimp only
      rw [if_pos (decide_eq_true hx)]
      refine ⟨fun σ'' H'' => σ'' = [some (.ref a), some (.int m), some (.ref b), none] ∧ H'' a = some (.lst [.ref b, .int seed]) ∧ H'' b = some (.lst (c.map V.int)) ∧ Sm (tps (some (a, b))) H H'', ?_, ?_⟩
      · rintro σ'' H'' ⟨rfl, h1, h2, h3⟩
        refine ⟨c.length, by simp, rfl, c, rfl, h1, h2, h3, ?_⟩
        rw [← dw, List.dropWhile_cons, if_pos (by simp [hx])]
      · refine ⟨.ref b, rfl, .inl ⟨rfl, _, .inl (.inl hb')⟩, b, _, 0, 0, _, rfl, rfl, hb', by decide, by decide, ?_, rfl, rfl, ?_, upd_same, sm.wr2 hb' trivial tb trivial⟩
        · unfold seqIndex?
          simp
        · show upd H' b _ a = _
          rw [upd_ne hab]; exact ha'
    · dsimp only
      rw [if_neg (by simp [hx])]
      refine ⟨.ref b, rfl, b, _, rfl, .inl (.inl (.inl hb')), _, _, rfl, rfl, _, rfl, ?_⟩
      dsimp only
      rw [if_pos (by simp)]
      have dw' : cells.dropWhile (· == 0) = x :: c := by rw [← dw, List.dropWhile_cons, if_neg (by simp [hx])]
      unfold drawD at hd
      rw [dw'] at hd
      have hd : (if divOk x m = true then some (x.fmod m, x.fdiv m :: c, seed) else none) = some (r, cs, sd) := hd
      obtain ⟨hc, e⟩ := if_some hd
      cases e
      refine ⟨.ref b, rfl, .inl ⟨b, _, 0, .int x, rfl, rfl, .inl (.inl hb'), at0, ?_⟩⟩
      refine ⟨.int x, rfl, .int m, rfl, x, m, rfl, rfl, divOk_ok hc, .ref b, rfl, b, _, 0, 0, rfl, rfl, hb', ix0, ?_⟩
      refine ⟨.int x, rfl, .inl ⟨x, rfl, .int m, rfl, x, m, rfl, rfl, (divOk_ok hc).1, ?_⟩⟩
      refine hQ _ (sm.wr2 hb' trivial tb trivial) ?_ upd_same
      show upd H' b _ a = _
      rw [upd_ne hab]; exact ha'
section
variable {P : Program} {w : World} {K : PySem.W.Frag} {mg : Str → Option Value} {base : Heap} {cl : Nat → Addr}
theorem fn_okD {x qual : Str} {st : Stmt} {f : Addr} {fd : FuncData} {N ps : List Str} {k : Nat} (F : Fun K x qual st f fd) (S : FnScope N ps (defScope st)) (hN : N.length = 4) (hps : ps.length = 2)
    (hb : ∀ (cdv : Value) (A : Around) (outer : List Env) (s : Shared) (H : Hp) (E : XK), Room k (A.deeper (envOfC qual (defScope st) s.heap.objs.size f cdv)) →
      PSs (cxOf (L2.CX P w) P w K mg base N qual (defScope st) f cdv A outer s H E) (defBody st) (tDrawT K)) : FnOk P w K mg base (L2.CX P w) (k + 1) f fd ps (FnT K cl drawF) := by
  have inv : ∀ {vs H Q E}, FnT K cl drawF vs H Q E → ∃ a b m cells seed r cs sd, vs = [.ref a, .int m] ∧ a ≠ b ∧ H a = some (.lst [.ref b, .int seed]) ∧ H b = some (.lst (cells.map V.int)) ∧ drawD m cells seed = some (r, cs, sd) ∧
      ∀ H', Sm (tps (some (a, b))) H H' → H' a = some (.lst [.ref b, .int sd]) → H' b = some (.lst (cs.map V.int)) → Q (.int r) H' := by
    rintro vs H Q E ⟨hT, a, b, t, ws, us, e, h1, ha, hbb, htt, h2, h3⟩
    subst e
    unfold drawF at h3
    split at h3
    · rename_i m cells seed
      cases h2 with
      | cons q1 q2 =>
        cases q2
        cases q1
        obtain ⟨a', b', e, hab, e1, e2⟩ := htt
        cases e
        cases ed : drawD m cells seed with
        | none => rw [ed] at h3; exact False.elim h3
        | some v =>
          obtain ⟨r, cs, sd⟩ := v
          rw [ed] at h3
          exact ⟨a, b, m, cells, seed, r, cs, sd, rfl, hab, e1, e2, ed, fun H' m1 m2 m3 => h3 _ _ m1 ⟨a, b, rfl, hab, m2, m3⟩ (.int _)⟩
    · exact False.elim h3
  refine F.okX S (fun vs H Q E h => ?_) fun cdv A outer s H vs Q E hr h => ⟨_, hb cdv A outer s H E hr, ?_⟩
  · obtain ⟨a, b, m, cells, seed, r, cs, sd, e, _⟩ := inv h
    rw [e, hps]; rfl
  · obtain ⟨a, b, m, cells, seed, r, cs, sd, e, hab, ha, hbb, hd, hQ⟩ := inv h
    subst e
    have es : L2.start N [V.ref a, V.int m] = [some (.ref a), some (.int m), none, none] := by
      unfold L2.start; rw [hN]; rfl
    rw [es]
    exact draw_core hab ha hbb hd hQ
end
/-! ### the tape's def -/
def tapeF (m : Nat) (u1 u2 : Sv) (lc e2 : Ex) : List Int → Option (List Int × Int) := fun ns => match sThen u1 u2 (startW m [.list (ns.map PyData.int)]) none with
  | .next ρ t => (match lc ρ t with
    | .ok (.list cs) t1 => (match e2 ρ t1 with
      | .ok (.int sd) _ => (intsW cs).map (·, sd)
      | _ => none)
    | _ => none)
  | _ => none
end Ev
namespace Ev
open PySem PySem.Spec PyProof.Rows L2
variable [Tb]
section
variable {P : Program} {w : World} {K : PySem.W.Frag} {mg : Str → Option Value} {base : Heap} {cl : Nat → Addr}
theorem ims_intsW {K : PySem.W.Frag} {hid : Addr → Prop} {H : Hp} : ∀ {ws : List W} {vs : List V} {ns : List Int}, intsW ws = some ns → Ims K hid H ws vs → vs = ns.map V.int
  | [], _, _, e, h => by cases e; cases h; rfl
  | w :: ws, _, ns, e, h => by
    cases h with
    | cons h1 h2 =>
      cases w <;> simp only [intsW] at e <;> try cases e
      rename_i i
      cases e2 : intsW ws with
      | none => rw [e2] at e; cases e
      | some ms =>
        rw [e2] at e; cases e
        cases h1
        rw [List.map_cons, ims_intsW e2 h2]
theorem begM {N ps : List Str} {c : Cf} {u1 u2 : Sv} {lc e2 : Ex} {vs : List V} {H : Hp} {Q : VK} {E : XK} (hM : ∀ i ∈ c.M, ps.length ≤ i) (hps : ps.length = 1) (hsc : c.scr = some 0) (htp : c.tape = none) (h : FnM K (tapeF N.length u1 u2 lc e2) vs H Q E) :
    vs.length = ps.length ∧ tSeq (tSv K cl c false u1 E) (tSeq (tSv K cl c false u2 E) (tRet (tLst (tCons (tEx K cl { c with M := [] } .fresh lc E) (tCons (tEx K cl { c with M := [] } .safe e2 E) tNil))))) { nx := fun _ H' => Q .non H', rt := Q } (L2.start N vs) H := by
  obtain ⟨hT, a, ns, e, h1, h4, cells, seed, ef, go⟩ := h
  subst e
  refine ⟨by rw [hps]; rfl, ?_⟩
  unfold tapeF at ef
  have key : ∀ {j : Nat} {w : W}, (startW N.length [.list (ns.map PyData.int)])[j]? = some (some w) → j = 0 ∧ w = .list (ns.map PyData.int) := fun {j w} e => by
    obtain ⟨e1, e2⟩ := startW_get e
    have : j = 0 := by simpa using e1
    subst this
    exact ⟨rfl, by simpa using e2.symm⟩
  have S0 : SB K c (B0 H hT) hT (startW N.length [.list (ns.map PyData.int)]) (L2.start N [V.ref a]) H none := by
    refine ⟨⟨?_, fun j w e n n2 => ?_, fun j w e n => ?_, fun j w e n => ?_, fun i j w w' z e1 e2 n1 => ?_, h1.2, fun _ z => z, fun z q => (tps0 q).elim, rfl, fun i e => ?_, h1.1⟩, fun z q => .inl q, Sm.refl, fun j w z e n => ?_⟩
    · unfold startW L2.start
      rw [List.length_append, List.length_append, List.length_map, List.length_map, List.length_replicate, List.length_replicate, List.length_singleton, List.length_singleton]
    · exact absurd (by rw [hsc, (key e).1]) n2
    · obtain ⟨e1, e2⟩ := key e
      subst e1
      exact ⟨a, ns, start_get rfl, e2, h4⟩
    · have := hM j n; have := (key e).1; omega
    · have := hM _ n1; have := (key e1).1; omega
    · rw [htp] at e; cases e
    · have := hM j n; have := (key e).1; omega
  have ef : (match (match u1 (startW N.length [.list (ns.map PyData.int)]) none with | .next ρ t => u2 ρ t | .ret w t => .ret w t | .exc e t => .exc e t | .bad => .bad) with
    | .next ρ t => (match lc ρ t with
      | .ok (.list cs) t1 => (match e2 ρ t1 with
        | .ok (.int sd) _ => (intsW cs).map (·, sd)
        | _ => none)
      | _ => none)
    | _ => none) = some (cells, seed) := ef
  refine ⟨B0 H hT, hT, _, none, S0, ?_⟩
  cases q1 : u1 (startW N.length [.list (ns.map PyData.int)]) none with
  | next ρ1 t1 =>
    rw [q1] at ef
    intro hid1 σ1 H1 S1
    refine ⟨B0 H hT, hid1, ρ1, t1, S1, ?_⟩
    have ef : (match u2 ρ1 t1 with
      | .next ρ t => (match lc ρ t with
        | .ok (.list cs) t1 => (match e2 ρ t1 with
          | .ok (.int sd) _ => (intsW cs).map (·, sd)
          | _ => none)
        | _ => none)
      | _ => none) = some (cells, seed) := ef
    cases q2 : u2 ρ1 t1 with
    | next ρ2 t2 =>
      rw [q2] at ef
      have ef : (match lc ρ2 t2 with
        | .ok (.list cs) t1 => (match e2 ρ2 t1 with
          | .ok (.int sd) _ => (intsW cs).map (·, sd)
          | _ => none)
        | _ => none) = some (cells, seed) := ef
      intro hid2 σ2 H2 S2
      have m2 : Sm (fun _ => False) H H2 := sm0 (B := B0 H hT) rfl S2.sm
      refine ⟨hT, hT, none, ρ2, t2, S2.st.loose, ?_⟩
      cases q3 : lc ρ2 t2 with
      | ok w3 t3 =>
        rw [q3] at ef
        cases w3 <;> try cases ef
        rename_i cs
        have ef : (match e2 ρ2 t3 with
          | .ok (.int sd) _ => (intsW cs).map (·, sd)
          | _ => none) = some (cells, seed) := ef
        intro v3 H3 m3 k3 p3
        obtain ⟨y, ey, ny, nf, ow⟩ := (show Fe K (fun _ => False) hT H2 H3 (.list cs) v3 from p3)
        subst ey
        have ny : Nw H2 y := ny.elim id fun z => z.elim
        have m3' : Sm (fun _ => False) H2 H3 := m3.imp fun _ z => tps0 z
        refine ⟨hT, hT, none, ρ2, t3, S2.st.loose.sm m3 k3, ?_⟩
        cases q4 : e2 ρ2 t3 with
        | ok w4 t4 =>
          rw [q4] at ef
          cases w4 <;> try cases ef
          rename_i sd
          have ef : (intsW cs).map (·, sd) = some (cells, seed) := ef
          cases q5 : intsW cs with
          | none => rw [q5] at ef; cases ef
          | some zs =>
            rw [q5] at ef; cases ef
            intro v4 H4 m4 k4 p4
            have m4' : Sm (fun _ => False) H3 H4 := m4.imp fun _ z => tps0 z
            cases (show Im K hT H4 (.int seed) v4 from p4)
            refine ⟨by show 2 ≤ sizeLine; decide, fun x hx => ?_⟩
            rcases ow with ⟨ws, us, g1, g2, g3⟩ | ⟨_, _, g1, _⟩ | ⟨_, _, g1, _⟩
            · cases g1
              have eu := ims_intsW q5 g3
              subst eu
              have y4 : H4 y = some (.lst (cells.map V.int)) := m4'.obj y _ (fun z => z) g2 fun ps z => by cases z
              have nxy : x ≠ y := fun z => by rw [z, y4] at hx; cases hx
              have mA : Sm (fun _ => False) H H4 := (m2.trans m3').trans m4'
              refine go x y _ nxy (mA.none (Nw.of hx)) (m2.none ny) upd_same ?_ (mA.trans (Sm.new hx))
              rw [upd_ne (fun z => nxy z.symm)]
              exact y4
            · cases g1
            · cases g1
        | exc e t4 => rw [q4] at ef; cases ef
        | bad => rw [q4] at ef; cases ef
      | exc e t3 => rw [q3] at ef; cases ef
      | bad => rw [q3] at ef; cases ef
    | ret w t2 => rw [q2] at ef; cases ef
    | exc e t2 => rw [q2] at ef; cases ef
    | bad => rw [q2] at ef; cases ef
  | ret w t1 => rw [q1] at ef; cases ef
  | exc e t1 => rw [q1] at ef; cases ef
  | bad => rw [q1] at ef; cases ef
theorem fn_okM {x qual : Str} {st s1 s2 s3 : Stmt} {f : Addr} {fd : FuncData} {N ps : List Str} {k : Nat} {c : Cf} {u1 u2 : Sv} {lc e2 : Ex} (cl : Nat → Addr) (F : Fun K x qual st f fd) (S : FnScope N ps (defScope st)) (hM : ∀ i ∈ c.M, ps.length ≤ i) (hps : ps.length = 1) (hsc : c.scr = some 0) (htp : c.tape = none) (hst : defBody st = [s1, s2, s3])
    (hb : ∀ (cdv : Value) (A : Around) (outer : List Env) (s : Shared) (H : Hp) (E : XK), Room k (A.deeper (envOfC qual (defScope st) s.heap.objs.size f cdv)) →
      SX (cxOf (L2.CX P w) P w K mg base N qual (defScope st) f cdv A outer s H E) cl c false s1 u1 E ∧ SX (cxOf (L2.CX P w) P w K mg base N qual (defScope st) f cdv A outer s H E) cl c false s2 u2 E ∧
      PS (cxOf (L2.CX P w) P w K mg base N qual (defScope st) f cdv A outer s H E) s3 (tRet (tLst (tCons (tEx K cl { c with M := [] } .fresh lc E) (tCons (tEx K cl { c with M := [] } .safe e2 E) tNil))))) :
    FnOk P w K mg base (L2.CX P w) (k + 1) f fd ps (FnM K (tapeF N.length u1 u2 lc e2)) :=
  F.okX S (fun vs H Q E h => (begM (cl := cl) (c := c) (E := E) hM hps hsc htp h).1) fun cdv A outer s H vs Q E hr h => by
    obtain ⟨b1, b2, b3⟩ := hb cdv A outer s H E hr
    exact ⟨_, by rw [hst]; exact pss_cons b1 (pss_cons b2 (pss_one b3)), (begM hM hps hsc htp h).2⟩
end
/-! ### the printed rules -/
section
variable {X : Cx} {cl : Nat → Addr} {c : Cf} {E : XK} {x : Str} {k : Nat} {es : List Expr} {ss : Exs} {p pos : Pos} {tg : Expr}
theorem kT (i : Nat) {fn : Ft} {y : Str} {q : Pos} (F : FnA X.prog X.w X.K X.mg X.base x k (FnT X.K cl fn)) (hr : Room k X.A) (hx : Passes (L2.CX X.prog X.w) X E) (ha : AX X cl c true es ss E) (hN : X.N[i]? = some y := by rfl) (hv : Vis X.env.scope y := by first | exact .inl rfl | exact .inr (.inl rfl) | exact .inr (.inr rfl)) (ht : c.tape = some i := by rfl) (hg : Gl X x := by rfl)
    (hd : (y == ("__debug__" : Str)) = false := by decide) (hcd : (y == ("__classdict__" : Str)) = false := by decide)
    (hdb : (x == ("__debug__" : Str)) = false := by decide) (he : starEach (.Name y q :: es) X.env = (false, eval (.Name y q) X.env) :: starEach es X.env := by rfl) (hpl : (backTo pos (starEach es X.env)).any (·.1) = false := by rfl) : EX X cl c .safe (.Call (.Name x p) (.Name y q :: es) [] pos) (eCallT fn ss) E := ev_callT F hr hg hx hN hv ht ha hd hcd hdb he hpl
theorem wScr (i : Nat) {x : Str} (hN : X.N[i]? = some x := by rfl) (hv : Vis X.env.scope x := by first | exact .inl rfl | exact .inr (.inl rfl) | exact .inr (.inr rfl)) (hs : c.scr = some i := by rfl) (hd : (x == ("__debug__" : Str)) = false := by decide) (hcd : (x == ("__classdict__" : Str)) = false := by decide) : IX X cl c true tg (.Name x pos) (sSeq (eVar i)) E := ix_scr hN hv hs hd hcd
theorem isS {a : Expr} {sa : Ex} {q : Pos} (B : Bn X.mg) (hst : X.mg "str" = none) (ha : EX X cl c .bor a sa E) (hg : Gl X "isinstance" := by rfl) (hg2 : Gl X "str" := by rfl) (he : starEach [a, .Name "str" q] X.env = (false, eval a X.env) :: starEach [.Name "str" q] X.env := by rfl) (he2 : starEach [.Name "str" q] X.env = [(false, eval (.Name "str" q) X.env)] := by rfl) (hpl : (backTo pos (starEach [.Name "str" q] X.env)).any (·.1) = false := by rfl) :
    EX X cl c .bor (.Call (.Name "isinstance" p) [a, .Name "str" q] [] pos) (eIsI "str" sa) E := ev_isi kit_str hg B.isi boot_isi' hg2 hst (by rfl) ha (by decide) (by decide) (by decide) (by decide) he he2 hpl
end
end Ev
namespace Ev
open PySem PySem.Spec PyProof.Rows L2
variable [Tb]
section
variable {X : Cx} {E : XK} {k : Nat}
theorem zTape (i : Nat) {f : List Int → Option (List Int × Int)} {x y z : Str} {p1 p2 p3 p4 p5 : Pos} (nd : X.N.Nodup) (F : FnA X.prog X.w X.K X.mg X.base x k (FnM X.K f)) (hr : Room k X.A) (hx : Passes (L2.CX X.prog X.w) X E) (hN : X.N[i]? = some z := by rfl) (hl : Loc X.env.scope z := by first | exact .inl rfl | exact .inr rfl) (hf : X.fn z = true ∨ X.env.scope.names.lookup z = some .local := by first | exact .inl rfl | exact .inr rfl)
    (hN0 : X.N[0]? = some y := by rfl) (hv : Vis X.env.scope y := by first | exact .inl rfl | exact .inr (.inl rfl) | exact .inr (.inr rfl)) (hg : Gl X x := by rfl) (hd : (y == ("__debug__" : Str)) = false := by decide) (hcd : (y == ("__classdict__" : Str)) = false := by decide) (hdb : (x == ("__debug__" : Str)) = false := by decide)
    (he : starEach [.Name y p3] X.env = [(false, eval (.Name y p3) X.env)] := by rfl) (hpl : (backTo p4 (starEach [] X.env)).any (·.1) = false := by rfl) (hs : swapsWith (.Call (.Name x p2) [.Name y p3] [] p4) (some (.Name z p1)) p5.line X.env = pure false := by rfl) :
    PS X (.Assign [.Name z p1] (.Call (.Name x p2) [.Name y p3] [] p4) p5) (tAsg (tCall (FnM X.K f) [] E (tCons (tVar 0) tNil)) (gName i)) := by
  obtain ⟨g, fd, ps, F1, F2, F3, F4⟩ := F.ex
  exact ps_set nd hN hl (pe_call F1 hr hg F2 F3 F4 .nil hx (pa_cons (pe_var hN0 hv hd hcd) pa_nil he) hdb he hpl) hs hf
/-- a slot is forgotten, and may be owned or not from here on -/
def sForget (i : Nat) (u : Sv) : Sv := fun ρ t => match u (ρ.set i none) t with
  | .next _ _ => .bad
  | r => r
theorem ss_forget {cl : Nat → Addr} {c c' : Cf} {fr : Bool} {sts : List Stmt} {u : Sv} (i : Nat) (h : SsX X cl c' fr sts u E) (hs : c'.scr = c.scr) (ht : c'.tape = c.tape) (hM : ∀ j, j ≠ i → (j ∈ c'.M ↔ j ∈ c.M)) : SsX X cl c fr sts (sForget i u) E :=
  PSs_imp h fun D σ H ⟨B, hid, ρ, t, S, o⟩ => by
    have S1 : SB X.K c B hid (ρ.set i none) σ H t := StS.clear S
    have ne : ∀ {j : Nat} {w : W}, (ρ.set i none)[j]? = some (some w) → j ≠ i := fun {j w} e z => by
      subst z
      rcases get_set e with ⟨_, q, _⟩ | ⟨q, _⟩
      · cases q
      · exact q rfl
    have o : OutS X.K cl c fr E B D (match u (ρ.set i none) t with | .next _ _ => .bad | r => r) := o
    refine ⟨B, hid, ρ.set i none, t, ⟨⟨S1.st.len, fun j w e n n2 => S1.st.im j w e (fun z => n ((hM j (ne e)).mpr z)) (by rw [← hs]; exact n2), fun j w e n => S1.st.scr j w e (by rw [← hs]; exact n), fun j w e n => S1.st.own j w e ((hM j (ne e)).mp n), fun j k w w' a e1 e2 n1 n2 => S1.st.sep j k w w' a e1 e2 ((hM j (ne e1)).mp n1) ((hM k (ne e2)).mp n2), S1.st.dom, S1.st.sub, S1.st.tph, S1.st.tap, fun j e => S1.st.slot j (by rw [← ht]; exact e), S1.st.tbs⟩, S1.hid0, S1.sm, fun j w a e n => S1.own j w a e ((hM j (ne e)).mp n)⟩, ?_⟩
    cases q : u (ρ.set i none) t with
    | next ρ1 t1 => rw [q] at o; exact False.elim o
    | ret w t1 => rw [q] at o; exact o
    | exc k t1 => rw [q] at o; exact o
    | bad => rw [q] at o; exact o
end
end Ev
namespace Ev
theorem forget_M {i j : Nat} {A B : List Nat} (h1 : ∀ x ∈ A, x = i ∨ x ∈ B) (h2 : ∀ x ∈ B, x ∈ A) (hj : j ≠ i) : j ∈ A ↔ j ∈ B :=
  ⟨fun h => (h1 j h).resolve_left hj, h2 j⟩
end Ev

end

section
/-! EvG: in, not in. -/
namespace Ev
open PySem PySem.Spec PyProof.Rows L2
variable [Tb]
def rInDT (K : PySem.W.Frag) (neg : Bool) : R2 := fun x y H Q => ∃ d ds, Dp K H x d ∧ (Dp K H y (.list ds) ∧ SeqAt.shaped (.list ds) = true ∨ Dp K H y (.tuple ds) ∧ SeqAt.shaped (.tuple ds) = true) ∧ SeqAt.shaped d = true ∧ Q (.bl (if neg then !ds.any fun z => PyData.eqv z d else ds.any fun z => PyData.eqv z d)) H
theorem op_inDT {X : Cx} (hu : X.A.units + 65 < cLine) : OpR X (compareOp .In) (rInDT X.K false) := by
  intro pins s σ H x y v u Q I rx ry h
  obtain ⟨d, ds, hd, he, sd, q⟩ := h
  obtain ⟨as, r1⟩ := Dp.reads I d x v hd rx
  rcases he with ⟨he, se⟩ | ⟨he, se⟩
  · obtain ⟨bs, r2⟩ := Dp.reads I (.list ds) y u he ry
    exact SeqAt.in_list_reads r2 r1 (SeqAt.canLay_of_shaped se) (SeqAt.canLay_of_shaped sd) (room_in_shaped sd hu) ⟨.bl _, H, I, rfl, q⟩
  · obtain ⟨bs, r2⟩ := Dp.reads I (.tuple ds) y u he ry
    exact SeqAt.in_tuple_reads r2 r1 (SeqAt.canLay_of_shaped se) (SeqAt.canLay_of_shaped sd) (room_in_shaped sd hu) ⟨.bl _, H, I, rfl, q⟩
theorem op_notInDT {X : Cx} (hu : X.A.units + 65 < cLine) : OpR X (compareOp .NotIn) (rInDT X.K true) := by
  intro pins s σ H x y v u Q I rx ry h
  obtain ⟨d, ds, hd, he, sd, q⟩ := h
  obtain ⟨as, r1⟩ := Dp.reads I d x v hd rx
  rcases he with ⟨he, se⟩ | ⟨he, se⟩
  · obtain ⟨bs, r2⟩ := Dp.reads I (.list ds) y u he ry
    exact SeqAt.notIn_list_reads r2 r1 (SeqAt.canLay_of_shaped se) (SeqAt.canLay_of_shaped sd) (room_in_shaped sd hu) ⟨.bl _, H, I, rfl, q⟩
  · obtain ⟨bs, r2⟩ := Dp.reads I (.tuple ds) y u he ry
    exact SeqAt.notIn_tuple_reads r2 r1 (SeqAt.canLay_of_shaped se) (SeqAt.canLay_of_shaped sd) (room_in_shaped sd hu) ⟨.bl _, H, I, rfl, q⟩
def wIn (neg : Bool) : W → W → Option W
  | d, .list ds => if (SeqAt.shaped d && SeqAt.shaped (.list ds)) = true then some (.bool (if neg then !ds.any fun z => PyData.eqv z d else ds.any fun z => PyData.eqv z d)) else none
  | d, .tuple ds => if (SeqAt.shaped d && SeqAt.shaped (.tuple ds)) = true then some (.bool (if neg then !ds.any fun z => PyData.eqv z d else ds.any fun z => PyData.eqv z d)) else none
  | _, _ => none
theorem ok_in {K : PySem.W.Frag} {neg : Bool} : BinOk K (rInDT K neg) (wIn neg) .bor := by
  intro hT hid H x y a b z Q hd ha hb hz q
  cases b <;> try (cases a <;> cases hz)
  · rename_i ds
    obtain ⟨c, e⟩ := if_some (show (if (SeqAt.shaped a && SeqAt.shaped (.list ds)) = true then some (PyData.bool (if neg then !ds.any fun z => PyData.eqv z a else ds.any fun z => PyData.eqv z a)) else none) = some z from hz)
    subst e
    rw [Bool.and_eq_true] at c
    exact ⟨a, ds, bo_dp ha (SeqAt.canLay_of_shaped c.1), .inl ⟨bo_dp hb (SeqAt.canLay_of_shaped c.2), c.2⟩, c.1, q _ _ Sm.refl (.inl (.bl _))⟩
  · rename_i ds
    obtain ⟨c, e⟩ := if_some (show (if (SeqAt.shaped a && SeqAt.shaped (.tuple ds)) = true then some (PyData.bool (if neg then !ds.any fun z => PyData.eqv z a else ds.any fun z => PyData.eqv z a)) else none) = some z from hz)
    subst e
    rw [Bool.and_eq_true] at c
    exact ⟨a, ds, bo_dp ha (SeqAt.canLay_of_shaped c.1), .inr ⟨bo_dp hb (SeqAt.canLay_of_shaped c.2), c.2⟩, c.1, q _ _ Sm.refl (.inl (.bl _))⟩
theorem isb_in {n : Bool} : ∀ a b z, wIn n a b = some z → ∃ k, z = .bool k := fun a b z h => by
  cases b <;> try (cases a <;> cases h)
  · obtain ⟨_, e⟩ := if_some h
    exact ⟨_, e.symm⟩
  · obtain ⟨_, e⟩ := if_some h
    exact ⟨_, e.symm⟩
section
variable {X : Cx} {cl : Nat → Addr} {c : Cf} {E : XK} {pos : Pos} {a b : Expr} {sa sb : Ex} {k : Nat}
theorem units65 {A : Around} (hr : Room k A) : A.units + 65 < cLine := by have := hr.un; omega
theorem bool_in {n : Bool} : BoolEx (eBin (wIn n) sa sb) := bool_bin isb_in
theorem cIn (hr : Room k X.A) (ha : EX X cl c .bor a sa E) (hb : EX X cl c .bor b sb E) (hm : behindInMarks .In b = false := by rfl) : EX X cl c .bor (.Compare a [.In] [b] pos) (eBin (wIn false) sa sb) E := ev_cmp (op_inDT (units65 hr)) ok_in ha hb hm
theorem cNotIn (hr : Room k X.A) (ha : EX X cl c .bor a sa E) (hb : EX X cl c .bor b sb E) (hm : behindInMarks .NotIn b = false := by rfl) : EX X cl c .bor (.Compare a [.NotIn] [b] pos) (eBin (wIn true) sa sb) E := ev_cmp (op_notInDT (units65 hr)) ok_in ha hb hm
theorem tIn (hr : Room k X.A) (ha : EX X cl c .bor a sa E) (hb : EX X cl c .bor b sb E) (hm : behindInMarks .In b = false := by rfl) : TX X cl c (.Compare a [.In] [b] pos) (eTest (eBin (wIn false) sa sb)) E := tx_cmp (op_inDT (units65 hr)) ok_in ha hb hm
theorem tNotIn (hr : Room k X.A) (ha : EX X cl c .bor a sa E) (hb : EX X cl c .bor b sb E) (hm : behindInMarks .NotIn b = false := by rfl) : TX X cl c (.Compare a [.NotIn] [b] pos) (eTest (eBin (wIn true) sa sb)) E := tx_cmp (op_notInDT (units65 hr)) ok_in ha hb hm
end
/-! a list taken apart -/
def gLt (gs : Gws) : Gw := fun w ρ => match w with
  | .list ws => gs ws ρ
  | _ => none
theorem gL {X : Cx} {c : Cf} {pos : Pos} {es : List Expr} {k : Nat} {gs : Gws} {is : List Nat} {n : Nat} (h : GXs X c es gs is n) (hc : X.calm = true := by rfl) (hn : (assignEach es X.env).length = n := by rfl) (hst : (assignEach es X.env).findIdx? (·.1) = none := by rfl) : GX X c (.Tuple es k pos) (gLt gs) is :=
  PG_imp (pg_unl hc h.run hn hst) fun v σ H Q ⟨hT, hid, tp, ρ, t, w, ρ', S, p, e, k⟩ => by
    cases w with
    | list ws =>
      cases p with
      | lst h0 h1 h2 => exact ⟨_, _, rfl, .inl (.inl h1), by rw [← h2.length]; exact h.len _ _ _ e, hT, hid, tp, ρ, t, ws, ρ', S, h2, e, k⟩
    | _ => cases e
end Ev

end

section
namespace G
open PySem PySem.Spec PyProof.Rows L2 Ev
/-! ### what each def does -/
abbrev X_BadNumber : Nat := 0
abbrev X_BadForm : Nat := 1
abbrev X_BadChange : Nat := 2
abbrev X_BadSource : Nat := 99
abbrev X_BadSize : Nat := 99
abbrev X_BadPoint : Nat := 99
abbrev X_BadText : Nat := 99
/-- _law_tape(script): slots 0 script, 1 seed, 2 cell -/
def law_tape : List Int → Option (List Int × Int) := tapeF 3
  (sSet 1 (eC (.int (7))))
  (sFor (sSeq (eVar 0)) (gN 2) (sSet 1 (eBin wMod (eCallB gInt (eCons (eBin wAdd (eBin wMul (eVar 1) (eC (.int (31)))) (eVar 2)) eNil)) (eC (.int (1000003))))))
  (eLc (sSeq (eVar 0)) [2] (gN 2) etYes (eCallB gAbs (eCons (eCallB gInt (eCons (eVar 2) eNil)) eNil)))
  (eBin wAdd (eVar 1) (eC (.int (1))))
/-- is_integer(value): slots 0 value -/
def ratios_is_integer : Fs := runF 1 1 false
  (sRet (eAnd (eIsI "int" (eVar 0)) (eNot (eIsI "bool" (eVar 0)))))
/-- check_order(size): slots 0 size -/
def forms_check_order : Fs := runF 1 1 false
  (sIf (eOrT (eNotT (eTest (eCall ratios_is_integer (eCons (eVar 0) eNil)))) (eOrT (eTest (eBin wLt (eVar 0) (eC (.int (0))))) (eTest (eBin wGt (eVar 0) (eC (.int (24))))))) (sRaise X_BadNumber) sNext)
/-- turned(rows): slots 0 rows, 1 k, 2 row -/
def moves_turned : Fs := runF 1 3 false
  (sRet (eCallB gTuple (eCons (eLc (sRng gRng1 (eCons (eCallB gLen (eCons (eBin wIdx (eVar 0) (eC (.int (0)))) eNil)) eNil)) [1] (gN 1) etYes (eCallB gTuple (eCons (eLc (sSeq (eVar 0)) [2] (gN 2) etYes (eBin wIdx (eVar 2) (eVar 1))) eNil))) eNil)))
/-- divisor(one, other): slots 0 one, 1 other -/
def ratios_divisor : Fs := runF 2 2 false
  (sThen (sPar2 0 1 (eCallB gAbs (eCons (eVar 0) eNil)) (eCallB gAbs (eCons (eVar 1) eNil))) (sThen (sWhile 1000000 (eTest (eBin wGt (eVar 1) (eC (.int (0))))) (sPar2 0 1 (eVar 1) (eBin wMod (eVar 0) (eVar 1)))) (sRet (eVar 0))))
/-- is_ratio(value): slots 0 value, 1 item -/
def ratios_is_ratio : Fs := runF 1 2 false
  (sThen (sIf (eOrT (eNotT (eTest (eIsI "tuple" (eVar 0)))) (eOrT (eTest (eBin wNe (eCallB gLen (eCons (eVar 0) eNil)) (eC (.int (2))))) (eNotT (eTest (eCallB gAll (eCons (eLc (sSeq (eVar 0)) [1] (gN 1) etYes (eCall ratios_is_integer (eCons (eVar 1) eNil))) eNil)))))) (sRet (eC (.bool false))) sNext) (sRet (eAnd (eBin wGt (eBin wIdx (eVar 0) (eC (.int (1)))) (eC (.int (0)))) (eBin wEq (eCall ratios_divisor (eCons (eBin wIdx (eVar 0) (eC (.int (0)))) (eCons (eBin wIdx (eVar 0) (eC (.int (1)))) eNil))) (eC (.int (1)))))))
/-- is_form(value): slots 0 value, 1 item -/
def forms_is_form : Fs := runF 1 2 false
  (sRet (eAnd (eIsI "tuple" (eVar 0)) (eAnd (eChain wLt wLe (eC (.int (0))) (eCallB gLen (eCons (eVar 0) eNil)) (eBin wAdd (eC (.int (24))) (eC (.int (1))))) (eCallB gAll (eCons (eLc (sSeq (eVar 0)) [1] (gN 1) etYes (eCall ratios_is_ratio (eCons (eVar 1) eNil))) eNil)))))
/-- check_form(value): slots 0 value -/
def forms_check_form : Fs := runF 1 1 false
  (sIf (eNotT (eTest (eCall forms_is_form (eCons (eVar 0) eNil)))) (sRaise X_BadForm) sNext)
/-- is_change(value_of): slots 0 value_of, 1 item -/
def forms_is_change : Fs := runF 1 2 false
  (sRet (eAnd (eIsI "tuple" (eVar 0)) (eAnd (eBin wEq (eCallB gLen (eCons (eVar 0) eNil)) (eC (.int (4)))) (eCallB gAll (eCons (eLc (sSeq (eVar 0)) [1] (gN 1) etYes (eCall ratios_is_ratio (eCons (eVar 1) eNil))) eNil)))))
/-- make(above, below): slots 0 above, 1 below, 2 common -/
def ratios_make : Fs := runF 2 3 false
  (sThen (sIf (eTest (eBin wEq (eVar 1) (eC (.int (0))))) (sRaise X_BadNumber) sNext) (sThen (sSet 2 (eCall ratios_divisor (eCons (eVar 0) (eCons (eVar 1) eNil)))) (sThen (sIf (eTest (eBin wLt (eVar 1) (eC (.int (0))))) (sSet 2 (eUn wNeg (eVar 2))) sNext) (sRet (eTup (eCons (eBin wFdiv (eVar 0) (eVar 2)) (eCons (eBin wFdiv (eVar 1) (eVar 2)) eNil)))))))
/-- add(one, other): slots 0 one, 1 other -/
def ratios_add : Fs := runF 2 2 false
  (sRet (eCall ratios_make (eCons (eBin wAdd (eBin wMul (eBin wIdx (eVar 0) (eC (.int (0)))) (eBin wIdx (eVar 1) (eC (.int (1))))) (eBin wMul (eBin wIdx (eVar 1) (eC (.int (0)))) (eBin wIdx (eVar 0) (eC (.int (1)))))) (eCons (eBin wMul (eBin wIdx (eVar 0) (eC (.int (1)))) (eBin wIdx (eVar 1) (eC (.int (1))))) eNil))))
/-- multiply(one, other): slots 0 one, 1 other -/
def ratios_multiply : Fs := runF 2 2 false
  (sRet (eCall ratios_make (eCons (eBin wMul (eBin wIdx (eVar 0) (eC (.int (0)))) (eBin wIdx (eVar 1) (eC (.int (0))))) (eCons (eBin wMul (eBin wIdx (eVar 0) (eC (.int (1)))) (eBin wIdx (eVar 1) (eC (.int (1))))) eNil))))
/-- multiply(one, other): slots 0 one, 1 other, 2 found, 3 k, 4 left, 5 j, 6 right -/
def forms_multiply : Fs := runF 2 7 false
  (sThen (sIf (eTest (eBin wGt (eBin wSub (eBin wAdd (eCallB gLen (eCons (eVar 0) eNil)) (eCallB gLen (eCons (eVar 1) eNil))) (eC (.int (1)))) (eBin wAdd (eC (.int (24))) (eC (.int (1)))))) (sRaise X_BadForm) sNext) (sThen (sSet 2 (eBin wMulL (eLst (eCons (eC (.tuple [(.int (0)), (.int (1))])) eNil)) (eBin wSub (eBin wAdd (eCallB gLen (eCons (eVar 0) eNil)) (eCallB gLen (eCons (eVar 1) eNil))) (eC (.int (1)))))) (sThen (sFor (sEnum (eVar 0)) (gTp (gsC (gN 3) (gsC (gN 4) gsN))) (sIf (eTest (eBin wNe (eVar 4) (eC (.tuple [(.int (0)), (.int (1))])))) (sFor (sEnum (eVar 1)) (gTp (gsC (gN 5) (gsC (gN 6) gsN))) (sPut 2 (eBin wAdd (eVar 3) (eVar 5)) (eCall ratios_add (eCons (eBin wIdx (eVar 2) (eBin wAdd (eVar 3) (eVar 5))) (eCons (eCall ratios_multiply (eCons (eVar 4) (eCons (eVar 6) eNil))) eNil))))) sNext)) (sRet (eCallB gTuple (eCons (eVar 2) eNil))))))
/-- add(one, other): slots 0 one, 1 other, 2 left, 3 right -/
def forms_add : Fs := runF 2 4 false
  (sThen (sIf (eTest (eBin wNe (eCallB gLen (eCons (eVar 0) eNil)) (eCallB gLen (eCons (eVar 1) eNil)))) (sRaise X_BadForm) sNext) (sRet (eCallB gTuple (eCons (eLc (sZip (eVar 0) (eVar 1)) [2, 3] (gTp (gsC (gN 2) (gsC (gN 3) gsN))) etYes (eCall ratios_add (eCons (eVar 2) (eCons (eVar 3) eNil)))) eNil))))
/-- scaled(number, one): slots 0 number, 1 one, 2 item -/
def forms_scaled : Fs := runF 2 3 false
  (sRet (eCallB gTuple (eCons (eLc (sSeq (eVar 1)) [2] (gN 2) etYes (eCall ratios_multiply (eCons (eVar 0) (eCons (eVar 2) eNil)))) eNil)))
/-- changed(form, change): slots 0 form, 1 change, 2 a, 3 b, 4 c, 5 d, 6 size, 7 first, 8 last, 9 _, 10 found, 11 k, 12 item -/
def forms_changed : Fs := runF 2 13 false
  (sThen (sDrop (eCall forms_check_form (eCons (eVar 0) eNil))) (sThen (sIf (eNotT (eTest (eCall forms_is_change (eCons (eVar 1) eNil)))) (sRaise X_BadChange) sNext) (sThen (sAsg (gTp (gsC (gN 2) (gsC (gN 3) (gsC (gN 4) (gsC (gN 5) gsN))))) (eVar 1)) (sThen (sSet 6 (eBin wSub (eCallB gLen (eCons (eVar 0) eNil)) (eC (.int (1))))) (sThen (sPar2 7 8 (eLst (eCons (eTup (eCons (eC (.tuple [(.int (1)), (.int (1))])) eNil)) eNil)) (eLst (eCons (eTup (eCons (eC (.tuple [(.int (1)), (.int (1))])) eNil)) eNil))) (sThen (sFor (sRng gRng1 (eCons (eVar 6) eNil)) (gN 9) (sThen (sApp 7 (eCall forms_multiply (eCons (eBin wIdx (eVar 7) (eUn wNeg (eC (.int (1))))) (eCons (eTup (eCons (eVar 2) (eCons (eVar 3) eNil))) eNil)))) (sApp 8 (eCall forms_multiply (eCons (eBin wIdx (eVar 8) (eUn wNeg (eC (.int (1))))) (eCons (eTup (eCons (eVar 4) (eCons (eVar 5) eNil))) eNil)))))) (sThen (sSet 10 (eBin wMul (eTup (eCons (eC (.tuple [(.int (0)), (.int (1))])) eNil)) (eBin wAdd (eVar 6) (eC (.int (1)))))) (sThen (sFor (sEnum (eVar 0)) (gTp (gsC (gN 11) (gsC (gN 12) gsN))) (sIf (eTest (eBin wNe (eVar 12) (eC (.tuple [(.int (0)), (.int (1))])))) (sSet 10 (eCall forms_add (eCons (eVar 10) (eCons (eCall forms_scaled (eCons (eVar 12) (eCons (eCall forms_multiply (eCons (eBin wIdx (eVar 7) (eBin wSub (eVar 6) (eVar 11))) (eCons (eBin wIdx (eVar 8) (eVar 11)) eNil))) eNil))) eNil)))) sNext)) (sRet (eVar 10))))))))))
/-- unit_form(place, size): slots 0 place, 1 size, 2 k -/
def moves_unit_form : Fs := runF 2 3 false
  (sRet (eCallB gTuple (eCons (eLc (sRng gRng1 (eCons (eBin wAdd (eVar 1) (eC (.int (1)))) eNil)) [2] (gN 2) etYes (eIf (eTest (eBin wEq (eVar 2) (eVar 0))) (eC (.tuple [(.int (1)), (.int (1))])) (eC (.tuple [(.int (0)), (.int (1))])))) eNil)))
/-- table_of(change, size): slots 0 change, 1 size, 2 columns, 3 k -/
def moves_table_of : Fs := runF 2 4 false
  (sThen (sDrop (eCall forms_check_order (eCons (eVar 1) eNil))) (sThen (sSet 2 (eLc (sRng gRng1 (eCons (eBin wAdd (eVar 1) (eC (.int (1)))) eNil)) [3] (gN 3) etYes (eCall forms_changed (eCons (eCall moves_unit_form (eCons (eVar 3) (eCons (eVar 1) eNil))) (eCons (eVar 0) eNil))))) (sRet (eCall moves_turned (eCons (eVar 2) eNil)))))
/-- _law_make(above, below): slots 0 above, 1 below, 2 left, 3 right -/
def law_make : Fs := runF 2 4 false
  (sThen (sPar2 2 3 (eCallB gAbs (eCons (eVar 0) eNil)) (eCallB gAbs (eCons (eVar 1) eNil))) (sThen (sWhile 1000000 (eTest (eBin wGt (eVar 3) (eC (.int (0))))) (sPar2 2 3 (eVar 3) (eBin wMod (eVar 2) (eVar 3)))) (sThen (sSet 2 (eIf (eTest (eBin wLt (eVar 1) (eC (.int (0))))) (eUn wNeg (eVar 2)) (eVar 2))) (sRet (eTup (eCons (eBin wFdiv (eVar 0) (eVar 2)) (eCons (eBin wFdiv (eVar 1) (eVar 2)) eNil)))))))
/-- _law_add(one, other): slots 0 one, 1 other -/
def law_add : Fs := runF 2 2 false
  (sRet (eCall law_make (eCons (eBin wAdd (eBin wMul (eBin wIdx (eVar 0) (eC (.int (0)))) (eBin wIdx (eVar 1) (eC (.int (1))))) (eBin wMul (eBin wIdx (eVar 1) (eC (.int (0)))) (eBin wIdx (eVar 0) (eC (.int (1)))))) (eCons (eBin wMul (eBin wIdx (eVar 0) (eC (.int (1)))) (eBin wIdx (eVar 1) (eC (.int (1))))) eNil))))
/-- _law_mul(one, other): slots 0 one, 1 other -/
def law_mul : Fs := runF 2 2 false
  (sRet (eCall law_make (eCons (eBin wMul (eBin wIdx (eVar 0) (eC (.int (0)))) (eBin wIdx (eVar 1) (eC (.int (0))))) (eCons (eBin wMul (eBin wIdx (eVar 0) (eC (.int (1)))) (eBin wIdx (eVar 1) (eC (.int (1))))) eNil))))
/-- _law_poly(one, other): slots 0 one, 1 other, 2 found, 3 i, 4 a, 5 j, 6 b -/
def law_poly : Fs := runF 2 7 false
  (sThen (sSet 2 (eBin wMulL (eLst (eCons (eTup (eCons (eC (.int (0))) (eCons (eC (.int (1))) eNil))) eNil)) (eBin wSub (eBin wAdd (eCallB gLen (eCons (eVar 0) eNil)) (eCallB gLen (eCons (eVar 1) eNil))) (eC (.int (1)))))) (sThen (sFor (sEnum (eVar 0)) (gTp (gsC (gN 3) (gsC (gN 4) gsN))) (sFor (sEnum (eVar 1)) (gTp (gsC (gN 5) (gsC (gN 6) gsN))) (sPut 2 (eBin wAdd (eVar 3) (eVar 5)) (eCall law_add (eCons (eBin wIdx (eVar 2) (eBin wAdd (eVar 3) (eVar 5))) (eCons (eCall law_mul (eCons (eVar 4) (eCons (eVar 6) eNil))) eNil)))))) (sRet (eVar 2))))
/-- _law_changed(form, change): slots 0 form, 1 change, 2 size, 3 total, 4 k, 5 item, 6 part, 7 j, 8 a, 9 b -/
def law_changed : Fs := runF 2 10 false
  (sThen (sSet 2 (eBin wSub (eCallB gLen (eCons (eVar 0) eNil)) (eC (.int (1))))) (sThen (sSet 3 (eBin wMul (eLst (eCons (eTup (eCons (eC (.int (0))) (eCons (eC (.int (1))) eNil))) eNil)) (eBin wAdd (eVar 2) (eC (.int (1)))))) (sThen (sFor (sEnum (eVar 0)) (gTp (gsC (gN 4) (gsC (gN 5) gsN))) (sThen (sSet 6 (eLst (eCons (eVar 5) eNil))) (sThen (sFor (sRng gRng1 (eCons (eBin wSub (eVar 2) (eVar 4)) eNil)) (gN 7) (sSet 6 (eCall law_poly (eCons (eVar 6) (eCons (eSlice (eVar 1) oNone (oSome (eC (.int (2))))) eNil))))) (sThen (sFor (sRng gRng1 (eCons (eVar 4) eNil)) (gN 7) (sSet 6 (eCall law_poly (eCons (eVar 6) (eCons (eSlice (eVar 1) (oSome (eC (.int (2)))) oNone) eNil))))) (sSet 3 (eLc (sZip (eVar 3) (eVar 6)) [8, 9] (gTp (gsC (gN 8) (gsC (gN 9) gsN))) etYes (eCall law_add (eCons (eVar 8) (eCons (eVar 9) eNil))))))))) (sRet (eCallB gTuple (eCons (eVar 3) eNil))))))
/-- cross(a, b, c, d): slots 0 a, 1 b, 2 c, 3 d -/
def forms_cross : Fs := runF 4 4 false
  (sRet (eCall ratios_add (eCons (eCall ratios_multiply (eCons (eVar 0) (eCons (eVar 1) eNil))) (eCons (eCall ratios_multiply (eCons (eVar 2) (eCons (eVar 3) eNil))) eNil))))
/-- after(one, other): slots 0 one, 1 other, 2 a, 3 b, 4 c, 5 d, 6 p, 7 q, 8 r, 9 s, 10 first -/
def forms_after : Fs := runF 2 11 false
  (sThen (sAsg (gTp (gsC (gN 2) (gsC (gN 3) (gsC (gN 4) (gsC (gN 5) gsN))))) (eVar 0)) (sThen (sAsg (gTp (gsC (gN 6) (gsC (gN 7) (gsC (gN 8) (gsC (gN 9) gsN))))) (eVar 1)) (sThen (sSet 10 (eTup (eCons (eCall forms_cross (eCons (eVar 2) (eCons (eVar 6) (eCons (eVar 3) (eCons (eVar 8) eNil))))) (eCons (eCall forms_cross (eCons (eVar 2) (eCons (eVar 7) (eCons (eVar 3) (eCons (eVar 9) eNil))))) eNil)))) (sRet (eBin wAdd (eVar 10) (eTup (eCons (eCall forms_cross (eCons (eVar 4) (eCons (eVar 6) (eCons (eVar 5) (eCons (eVar 8) eNil))))) (eCons (eCall forms_cross (eCons (eVar 4) (eCons (eVar 7) (eCons (eVar 5) (eCons (eVar 9) eNil))))) eNil))))))))
/-- plus(one, other): slots 0 one, 1 other, 2 row, 3 mate, 4 a, 5 b -/
def moves_plus : Fs := runF 2 6 false
  (sRet (eCallB gTuple (eCons (eLc (sZip (eVar 0) (eVar 1)) [2, 3] (gTp (gsC (gN 2) (gsC (gN 3) gsN))) etYes (eCallB gTuple (eCons (eLc (sZip (eVar 2) (eVar 3)) [4, 5] (gTp (gsC (gN 4) (gsC (gN 5) gsN))) etYes (eCall ratios_add (eCons (eVar 4) (eCons (eVar 5) eNil)))) eNil))) eNil)))
/-- scaled(number, one): slots 0 number, 1 one, 2 row, 3 item -/
def moves_scaled : Fs := runF 2 4 false
  (sRet (eCallB gTuple (eCons (eLc (sSeq (eVar 1)) [2] (gN 2) etYes (eCallB gTuple (eCons (eLc (sSeq (eVar 2)) [3] (gN 3) etYes (eCall ratios_multiply (eCons (eVar 0) (eCons (eVar 3) eNil)))) eNil))) eNil)))
/-- step_up(size): slots 0 size, 1 rows, 2 k, 3 j -/
def moves_step_up : Fs := runF 1 4 false
  (sThen (sDrop (eCall forms_check_order (eCons (eVar 0) eNil))) (sThen (sSet 1 (eLst eNil)) (sThen (sFor (sRng gRng1 (eCons (eBin wAdd (eVar 0) (eC (.int (1)))) eNil)) (gN 2) (sApp 1 (eCallB gTuple (eCons (eLc (sRng gRng1 (eCons (eBin wAdd (eVar 0) (eC (.int (1)))) eNil)) [3] (gN 3) etYes (eIf (eTest (eBin wEq (eVar 2) (eBin wAdd (eVar 3) (eC (.int (1)))))) (eTup (eCons (eBin wSub (eVar 0) (eVar 3)) (eCons (eC (.int (1))) eNil))) (eC (.tuple [(.int (0)), (.int (1))])))) eNil)))) (sRet (eCallB gTuple (eCons (eVar 1) eNil))))))
/-- step_down(size): slots 0 size, 1 rows, 2 k, 3 j -/
def moves_step_down : Fs := runF 1 4 false
  (sThen (sDrop (eCall forms_check_order (eCons (eVar 0) eNil))) (sThen (sSet 1 (eLst eNil)) (sThen (sFor (sRng gRng1 (eCons (eBin wAdd (eVar 0) (eC (.int (1)))) eNil)) (gN 2) (sApp 1 (eCallB gTuple (eCons (eLc (sRng gRng1 (eCons (eBin wAdd (eVar 0) (eC (.int (1)))) eNil)) [3] (gN 3) etYes (eIf (eTest (eBin wEq (eVar 3) (eBin wAdd (eVar 2) (eC (.int (1)))))) (eTup (eCons (eVar 3) (eCons (eC (.int (1))) eNil))) (eC (.tuple [(.int (0)), (.int (1))])))) eNil)))) (sRet (eCallB gTuple (eCons (eVar 1) eNil))))))
/-- doing(numbers, size): slots 0 numbers, 1 size, 2 a, 3 b, 4 c, 5 d, 6 found, 7 rows, 8 k, 9 number, 10 item, 11 j -/
def moves_doing : Fs := runF 2 12 false
  (sThen (sIf (eOrT (eNotT (eTest (eIsI "tuple" (eVar 0)))) (eOrT (eTest (eBin wNe (eCallB gLen (eCons (eVar 0) eNil)) (eC (.int (4))))) (eNotT (eTest (eCallB gAll (eCons (eLc (sSeq (eVar 0)) [10] (gN 10) etYes (eCall ratios_is_ratio (eCons (eVar 10) eNil))) eNil)))))) (sRaise X_BadChange) sNext) (sThen (sAsg (gTp (gsC (gN 2) (gsC (gN 3) (gsC (gN 4) (gsC (gN 5) gsN))))) (eVar 0)) (sThen (sSet 6 (eCall moves_plus (eCons (eCall moves_scaled (eCons (eVar 3) (eCons (eCall moves_step_up (eCons (eVar 1) eNil)) eNil))) (eCons (eCall moves_scaled (eCons (eVar 4) (eCons (eCall moves_step_down (eCons (eVar 1) eNil)) eNil))) eNil)))) (sThen (sSet 7 (eLst eNil)) (sThen (sFor (sRng gRng1 (eCons (eBin wAdd (eVar 1) (eC (.int (1)))) eNil)) (gN 8) (sThen (sSet 9 (eCall ratios_add (eCons (eCall ratios_multiply (eCons (eTup (eCons (eBin wSub (eVar 1) (eVar 8)) (eCons (eC (.int (1))) eNil))) (eCons (eVar 2) eNil))) (eCons (eCall ratios_multiply (eCons (eTup (eCons (eVar 8) (eCons (eC (.int (1))) eNil))) (eCons (eVar 5) eNil))) eNil)))) (sApp 7 (eCallB gTuple (eCons (eLc (sRng gRng1 (eCons (eBin wAdd (eVar 1) (eC (.int (1)))) eNil)) [11] (gN 11) etYes (eIf (eTest (eBin wEq (eVar 8) (eVar 11))) (eVar 9) (eC (.tuple [(.int (0)), (.int (1))])))) eNil))))) (sRet (eCall moves_plus (eCons (eVar 6) (eCons (eCallB gTuple (eCons (eVar 7) eNil)) eNil)))))))))
/-- subtract(one, other): slots 0 one, 1 other -/
def ratios_subtract : Fs := runF 2 2 false
  (sRet (eCall ratios_make (eCons (eBin wSub (eBin wMul (eBin wIdx (eVar 0) (eC (.int (0)))) (eBin wIdx (eVar 1) (eC (.int (1))))) (eBin wMul (eBin wIdx (eVar 1) (eC (.int (0)))) (eBin wIdx (eVar 0) (eC (.int (1)))))) (eCons (eBin wMul (eBin wIdx (eVar 0) (eC (.int (1)))) (eBin wIdx (eVar 1) (eC (.int (1))))) eNil))))
/-- determinant(change): slots 0 change, 1 a, 2 b, 3 c, 4 d -/
def forms_determinant : Fs := runF 1 5 false
  (sThen (sAsg (gTp (gsC (gN 1) (gsC (gN 2) (gsC (gN 3) (gsC (gN 4) gsN))))) (eVar 0)) (sRet (eCall ratios_subtract (eCons (eCall ratios_multiply (eCons (eVar 1) (eCons (eVar 4) eNil))) (eCons (eCall ratios_multiply (eCons (eVar 2) (eCons (eVar 3) eNil))) eNil)))))
/-- check_change(value_of): slots 0 value_of -/
def forms_check_change : Fs := runF 1 1 false
  (sIf (eOrT (eNotT (eTest (eCall forms_is_change (eCons (eVar 0) eNil)))) (eTest (eBin wEq (eCall forms_determinant (eCons (eVar 0) eNil)) (eC (.tuple [(.int (0)), (.int (1))]))))) (sRaise X_BadChange) sNext)
/-- divide(one, other): slots 0 one, 1 other -/
def ratios_divide : Fs := runF 2 2 false
  (sThen (sIf (eTest (eBin wEq (eBin wIdx (eVar 1) (eC (.int (0)))) (eC (.int (0))))) (sRaise X_BadNumber) sNext) (sRet (eCall ratios_make (eCons (eBin wMul (eBin wIdx (eVar 0) (eC (.int (0)))) (eBin wIdx (eVar 1) (eC (.int (1))))) (eCons (eBin wMul (eBin wIdx (eVar 0) (eC (.int (1)))) (eBin wIdx (eVar 1) (eC (.int (0))))) eNil)))))
/-- negative(number): slots 0 number -/
def ratios_negative : Fs := runF 1 1 false
  (sRet (eTup (eCons (eUn wNeg (eBin wIdx (eVar 0) (eC (.int (0))))) (eCons (eBin wIdx (eVar 0) (eC (.int (1)))) eNil))))
/-- after_swap(change): slots 0 change, 1 a, 2 b, 3 c, 4 d -/
def moves_after_swap : Fs := runF 1 5 false
  (sThen (sAsg (gTp (gsC (gN 1) (gsC (gN 2) (gsC (gN 3) (gsC (gN 4) gsN))))) (eVar 0)) (sRet (eTup (eCons (eCall ratios_negative (eCons (eVar 3) eNil)) (eCons (eCall ratios_negative (eCons (eVar 4) eNil)) (eCons (eVar 1) (eCons (eVar 2) eNil)))))))
/-- split_change(change): slots 0 change, 1 a, 2 b, 3 c, 4 d, 5 swap, 6 low, 7 high, 8 rest -/
def b_moves_split_change (self : Fs) : Fs := runF 1 9 false (sThen (sDrop (eCall forms_check_change (eCons (eVar 0) eNil))) (sThen (sAsg (gTp (gsC (gN 1) (gsC (gN 2) (gsC (gN 3) (gsC (gN 4) gsN))))) (eVar 0)) (sThen (sIf (eTest (eBin wEq (eVar 1) (eC (.tuple [(.int (0)), (.int (1))])))) (sThen (sSet 5 (eTup (eCons (eC (.tuple [(.int (0)), (.int (1))])) (eCons (eC (.tuple [(.int (1)), (.int (1))])) (eCons (eTup (eCons (eUn wNeg (eC (.int (1)))) (eCons (eC (.int (1))) eNil))) (eCons (eC (.tuple [(.int (0)), (.int (1))])) eNil)))))) (sRet (eBin wAdd (eTup (eCons (eVar 5) eNil)) (eCall self (eCons (eCall moves_after_swap (eCons (eVar 0) eNil)) eNil))))) sNext) (sThen (sSet 6 (eCall ratios_divide (eCons (eVar 3) (eCons (eVar 1) eNil)))) (sThen (sSet 7 (eCall ratios_divide (eCons (eVar 2) (eCons (eVar 1) eNil)))) (sThen (sSet 8 (eCall ratios_subtract (eCons (eVar 4) (eCons (eCall ratios_multiply (eCons (eVar 6) (eCons (eVar 2) eNil))) eNil)))) (sRet (eTup (eCons (eTup (eCons (eC (.tuple [(.int (1)), (.int (1))])) (eCons (eC (.tuple [(.int (0)), (.int (1))])) (eCons (eVar 6) (eCons (eC (.tuple [(.int (1)), (.int (1))])) eNil))))) (eCons (eTup (eCons (eVar 1) (eCons (eC (.tuple [(.int (0)), (.int (1))])) (eCons (eC (.tuple [(.int (0)), (.int (1))])) (eCons (eVar 8) eNil))))) (eCons (eTup (eCons (eC (.tuple [(.int (1)), (.int (1))])) (eCons (eVar 7) (eCons (eC (.tuple [(.int (0)), (.int (1))])) (eCons (eC (.tuple [(.int (1)), (.int (1))])) eNil))))) eNil)))))))))))
def moves_split_change (n : Nat) : Fs := Nat.rec (motive := fun _ => Fs) (fun _ => .bad) (fun _ ih => b_moves_split_change ih) n
/-- _law_draw(tape, many): slots 0 tape, 1 many, 2 cells, 3 number -/
def law_draw : Ft := drawF
/-- _law_sum(items): slots 0 items, 1 total, 2 item -/
def law_sum : Fs := runF 1 3 false
  (sThen (sSet 1 (eTup (eCons (eC (.int (0))) (eCons (eC (.int (1))) eNil)))) (sThen (sFor (sSeq (eVar 0)) (gN 2) (sSet 1 (eCall law_add (eCons (eVar 1) (eCons (eVar 2) eNil))))) (sRet (eVar 1))))
/-- _law_times(one, other): slots 0 one, 1 other, 2 size, 3 row, 4 j, 5 k, 6 a -/
def law_times : Fs := runF 2 7 false
  (sThen (sSet 2 (eCallB gLen (eCons (eBin wIdx (eVar 1) (eC (.int (0)))) eNil))) (sRet (eCallB gTuple (eCons (eLc (sSeq (eVar 0)) [3] (gN 3) etYes (eCallB gTuple (eCons (eLc (sRng gRng1 (eCons (eVar 2) eNil)) [4] (gN 4) etYes (eCall law_sum (eCons (eLc (sEnum (eVar 3)) [5, 6] (gTp (gsC (gN 5) (gsC (gN 6) gsN))) etYes (eCall law_mul (eCons (eVar 6) (eCons (eBin wIdx (eBin wIdx (eVar 1) (eVar 5)) (eVar 4)) eNil)))) eNil))) eNil))) eNil))))
/-- _law_two(change, other): slots 0 change, 1 other, 2 a, 3 b, 4 c, 5 d, 6 p, 7 q, 8 r, 9 s, 10 rows -/
def law_two : Fs := runF 2 11 false
  (sThen (sAsg (gTp (gsC (gN 2) (gsC (gN 3) (gsC (gN 4) (gsC (gN 5) gsN))))) (eVar 0)) (sThen (sAsg (gTp (gsC (gN 6) (gsC (gN 7) (gsC (gN 8) (gsC (gN 9) gsN))))) (eVar 1)) (sThen (sSet 10 (eCall law_times (eCons (eTup (eCons (eTup (eCons (eVar 2) (eCons (eVar 3) eNil))) (eCons (eTup (eCons (eVar 4) (eCons (eVar 5) eNil))) eNil))) (eCons (eTup (eCons (eTup (eCons (eVar 6) (eCons (eVar 7) eNil))) (eCons (eTup (eCons (eVar 8) (eCons (eVar 9) eNil))) eNil))) eNil)))) (sRet (eBin wAdd (eBin wIdx (eVar 10) (eC (.int (0)))) (eBin wIdx (eVar 10) (eC (.int (1)))))))))
/-- _law_pick(tape, row): slots 0 tape, 1 row -/
def law_pick : Ft := runT 2 2
  (sRet (eBin wIdx (eVar 1) (eCallT law_draw (eCons (eCallB gLen (eCons (eVar 1) eNil)) eNil))))
/-- _law_fraction(tape): slots 0 tape -/
def law_fraction : Ft := runT 1 1
  (sRet (eCall law_make (eCons (eBin wSub (eCallT law_draw (eCons (eC (.int (7))) eNil)) (eC (.int (3)))) (eCons (eBin wAdd (eC (.int (1))) (eCallT law_draw (eCons (eC (.int (2))) eNil))) eNil))))
/-- _law_change(tape): slots 0 tape, 1 found, 2 k, 3 known -/
def law_change : Ft := runT 1 4
  (sThen (sSet 1 (eTup (eCons (eTup (eCons (eC (.int (1))) (eCons (eC (.int (1))) eNil))) (eCons (eTup (eCons (eC (.int (0))) (eCons (eC (.int (1))) eNil))) (eCons (eTup (eCons (eC (.int (0))) (eCons (eC (.int (1))) eNil))) (eCons (eTup (eCons (eC (.int (1))) (eCons (eC (.int (1))) eNil))) eNil)))))) (sThen (sFor (sRng gRng1 (eCons (eBin wAdd (eC (.int (1))) (eCallT law_draw (eCons (eC (.int (3))) eNil))) eNil)) (gN 2) (sThen (sSet 3 (eLst (eCons (eTup (eCons (eTup (eCons (eC (.int (1))) (eCons (eC (.int (1))) eNil))) (eCons (eCallT law_fraction eNil) (eCons (eTup (eCons (eC (.int (0))) (eCons (eC (.int (1))) eNil))) (eCons (eTup (eCons (eC (.int (1))) (eCons (eC (.int (1))) eNil))) eNil))))) (eCons (eTup (eCons (eTup (eCons (eC (.int (0))) (eCons (eC (.int (1))) eNil))) (eCons (eTup (eCons (eC (.int (1))) (eCons (eC (.int (1))) eNil))) (eCons (eTup (eCons (eUn wNeg (eC (.int (1)))) (eCons (eC (.int (1))) eNil))) (eCons (eTup (eCons (eC (.int (0))) (eCons (eC (.int (1))) eNil))) eNil))))) (eCons (eTup (eCons (eTup (eCons (eC (.int (2))) (eCons (eC (.int (1))) eNil))) (eCons (eTup (eCons (eC (.int (0))) (eCons (eC (.int (1))) eNil))) (eCons (eTup (eCons (eC (.int (0))) (eCons (eC (.int (1))) eNil))) (eCons (eTup (eCons (eUn wNeg (eC (.int (1)))) (eCons (eC (.int (2))) eNil))) eNil))))) (eCons (eTup (eCons (eTup (eCons (eC (.int (3))) (eCons (eC (.int (1))) eNil))) (eCons (eTup (eCons (eC (.int (0))) (eCons (eC (.int (1))) eNil))) (eCons (eTup (eCons (eC (.int (0))) (eCons (eC (.int (1))) eNil))) (eCons (eTup (eCons (eC (.int (1))) (eCons (eC (.int (1))) eNil))) eNil))))) eNil)))))) (sSet 1 (eCall law_two (eCons (eVar 1) (eCons (eCallT law_pick (eCons (eVar 3) eNil)) eNil)))))) (sRet (eVar 1))))
/-- weight_table(size): slots 0 size, 1 k, 2 j -/
def moves_weight_table : Fs := runF 1 3 false
  (sThen (sDrop (eCall forms_check_order (eCons (eVar 0) eNil))) (sRet (eCallB gTuple (eCons (eLc (sRng gRng1 (eCons (eBin wAdd (eVar 0) (eC (.int (1)))) eNil)) [1] (gN 1) etYes (eCallB gTuple (eCons (eLc (sRng gRng1 (eCons (eBin wAdd (eVar 0) (eC (.int (1)))) eNil)) [2] (gN 2) etYes (eIf (eTest (eBin wEq (eVar 1) (eVar 2))) (eTup (eCons (eBin wSub (eVar 0) (eBin wMul (eC (.int (2))) (eVar 1))) (eCons (eC (.int (1))) eNil))) (eC (.tuple [(.int (0)), (.int (1))])))) eNil))) eNil))))
/-- choose(many, few): slots 0 many, 1 few, 2 found, 3 k -/
def forms_choose : Fs := runF 2 4 false
  (sThen (sSet 2 (eC (.int (1)))) (sThen (sFor (sRng gRng1 (eCons (eVar 1) eNil)) (gN 3) (sSet 2 (eBin wFdiv (eBin wMul (eVar 2) (eBin wSub (eVar 0) (eVar 3))) (eBin wAdd (eVar 3) (eC (.int (1))))))) (sRet (eIf (eTest (eBin wGe (eVar 1) (eC (.int (0))))) (eVar 2) (eC (.int (0)))))))
/-- pairing_table(size): slots 0 size, 1 rows, 2 k, 3 number, 4 j -/
def moves_pairing_table : Fs := runF 1 5 false
  (sThen (sDrop (eCall forms_check_order (eCons (eVar 0) eNil))) (sThen (sSet 1 (eLst eNil)) (sThen (sFor (sRng gRng1 (eCons (eBin wAdd (eVar 0) (eC (.int (1)))) eNil)) (gN 2) (sThen (sSet 3 (eCall ratios_divide (eCons (eTup (eCons (eIf (eTest (eBin wEq (eBin wMod (eVar 2) (eC (.int (2)))) (eC (.int (0))))) (eC (.int (1))) (eUn wNeg (eC (.int (1))))) (eCons (eC (.int (1))) eNil))) (eCons (eTup (eCons (eCall forms_choose (eCons (eVar 0) (eCons (eVar 2) eNil))) (eCons (eC (.int (1))) eNil))) eNil)))) (sApp 1 (eCallB gTuple (eCons (eLc (sRng gRng1 (eCons (eBin wAdd (eVar 0) (eC (.int (1)))) eNil)) [4] (gN 4) etYes (eIf (eTest (eBin wEq (eVar 4) (eBin wSub (eVar 0) (eVar 2)))) (eVar 3) (eC (.tuple [(.int (0)), (.int (1))])))) eNil))))) (sRet (eCallB gTuple (eCons (eVar 1) eNil))))))
/-- _law_same(one, other): slots 0 one, 1 other, 2 k -/
def b_law_same (self : Fs) : Fs := runF 2 3 false (sThen (sIf (eOrT (eTest (eIsI "tuple" (eVar 0))) (eTest (eIsI "tuple" (eVar 1)))) (sThen (sIf (eOrT (eNotT (eTest (eIsI "tuple" (eVar 0)))) (eOrT (eNotT (eTest (eIsI "tuple" (eVar 1)))) (eTest (eBin wNe (eCallB gLen (eCons (eVar 0) eNil)) (eCallB gLen (eCons (eVar 1) eNil)))))) (sRet (eC (.bool false))) sNext) (sRet (eCallB gAll (eCons (eLc (sRng gRng1 (eCons (eCallB gLen (eCons (eVar 0) eNil)) eNil)) [2] (gN 2) etYes (eCall self (eCons (eBin wIdx (eVar 0) (eVar 2)) (eCons (eBin wIdx (eVar 1) (eVar 2)) eNil)))) eNil)))) sNext) (sThen (sIf (eOrT (eTest (eBin wNe (eIsI "str" (eVar 0)) (eIsI "str" (eVar 1)))) (eTest (eBin wNe (eIsI "int" (eVar 0)) (eIsI "int" (eVar 1))))) (sRet (eC (.bool false))) sNext) (sRet (eBin wEq (eVar 0) (eVar 1)))))
def law_same (n : Nat) : Fs := Nat.rec (motive := fun _ => Fs) (fun _ => .bad) (fun _ ih => b_law_same ih) n
/-- times(one, other): slots 0 one, 1 other, 2 columns, 3 found, 4 row, 5 line, 6 column, 7 total, 8 left, 9 right -/
def moves_times : Fs := runF 2 10 false
  (sThen (sSet 2 (eCall moves_turned (eCons (eVar 1) eNil))) (sThen (sSet 3 (eLst eNil)) (sThen (sFor (sSeq (eVar 0)) (gN 4) (sThen (sSet 5 (eLst eNil)) (sThen (sFor (sSeq (eVar 2)) (gN 6) (sThen (sSet 7 (eC (.tuple [(.int (0)), (.int (1))]))) (sThen (sFor (sZip (eVar 4) (eVar 6)) (gTp (gsC (gN 8) (gsC (gN 9) gsN))) (sIf (eAndT (eTest (eBin wNe (eVar 8) (eC (.tuple [(.int (0)), (.int (1))])))) (eTest (eBin wNe (eVar 9) (eC (.tuple [(.int (0)), (.int (1))]))))) (sSet 7 (eCall ratios_add (eCons (eVar 7) (eCons (eCall ratios_multiply (eCons (eVar 8) (eCons (eVar 9) eNil))) eNil)))) sNext)) (sApp 5 (eVar 7))))) (sApp 3 (eCallB gTuple (eCons (eVar 5) eNil)))))) (sRet (eCallB gTuple (eCons (eVar 3) eNil))))))
/-- bracket(one, other): slots 0 one, 1 other -/
def moves_bracket : Fs := runF 2 2 false
  (sRet (eCall moves_plus (eCons (eCall moves_times (eCons (eVar 0) (eCons (eVar 1) eNil))) (eCons (eCall moves_scaled (eCons (eTup (eCons (eUn wNeg (eC (.int (1)))) (eCons (eC (.int (1))) eNil))) (eCons (eCall moves_times (eCons (eVar 1) (eCons (eVar 0) eNil))) eNil))) eNil))))
/-- unit(size): slots 0 size, 1 k, 2 j -/
def moves_unit : Fs := runF 1 3 false
  (sRet (eCallB gTuple (eCons (eLc (sRng gRng1 (eCons (eBin wAdd (eVar 0) (eC (.int (1)))) eNil)) [1] (gN 1) etYes (eCallB gTuple (eCons (eLc (sRng gRng1 (eCons (eBin wAdd (eVar 0) (eC (.int (1)))) eNil)) [2] (gN 2) etYes (eIf (eTest (eBin wEq (eVar 1) (eVar 2))) (eC (.tuple [(.int (1)), (.int (1))])) (eC (.tuple [(.int (0)), (.int (1))])))) eNil))) eNil)))
/-- middle(size): slots 0 size, 1 up, 2 down, 3 weight -/
def moves_middle : Fs := runF 1 4 false
  (sThen (sPar3 1 2 3 (eCall moves_step_up (eCons (eVar 0) eNil)) (eCall moves_step_down (eCons (eVar 0) eNil)) (eCall moves_weight_table (eCons (eVar 0) eNil))) (sRet (eCall moves_plus (eCons (eCall moves_plus (eCons (eCall moves_times (eCons (eVar 1) (eCons (eVar 2) eNil))) (eCons (eCall moves_times (eCons (eVar 2) (eCons (eVar 1) eNil))) eNil))) (eCons (eCall moves_scaled (eCons (eTup (eCons (eC (.int (1))) (eCons (eC (.int (2))) eNil))) (eCons (eCall moves_times (eCons (eVar 3) (eCons (eVar 3) eNil))) eNil))) eNil)))))
/-- middle_number(size): slots 0 size -/
def moves_middle_number : Fs := runF 1 1 false
  (sThen (sDrop (eCall forms_check_order (eCons (eVar 0) eNil))) (sRet (eCall ratios_divide (eCons (eTup (eCons (eBin wMul (eVar 0) (eBin wAdd (eVar 0) (eC (.int (2))))) (eCons (eC (.int (1))) eNil))) (eCons (eTup (eCons (eC (.int (2))) (eCons (eC (.int (1))) eNil))) eNil)))))
/-- exponential(table): slots 0 table, 1 size, 2 found, 3 now, 4 k, 5 row, 6 item -/
def moves_exponential : Fs := runF 1 7 false
  (sThen (sSet 1 (eBin wSub (eCallB gLen (eCons (eVar 0) eNil)) (eC (.int (1))))) (sThen (sPar2 2 3 (eCall moves_unit (eCons (eVar 1) eNil)) (eCall moves_unit (eCons (eVar 1) eNil))) (sThen (sFor (sRng gRng2 (eCons (eC (.int (1))) (eCons (eBin wAdd (eVar 1) (eC (.int (2)))) eNil))) (gN 4) (sThen (sSet 3 (eCall moves_scaled (eCons (eTup (eCons (eC (.int (1))) (eCons (eVar 4) eNil))) (eCons (eCall moves_times (eCons (eVar 3) (eCons (eVar 0) eNil))) eNil)))) (sSet 2 (eCall moves_plus (eCons (eVar 2) (eCons (eVar 3) eNil)))))) (sThen (sIf (eTest (eCallB gAny (eCons (eLc (sSeq (eVar 3)) [5] (gN 5) etYes (eCallB gAny (eCons (eLc (sSeq (eVar 5)) [6] (gN 6) etYes (eBin wNe (eVar 6) (eC (.tuple [(.int (0)), (.int (1))])))) eNil))) eNil))) (sRaise X_BadNumber) sNext) (sRet (eVar 2))))))
/-- trace(table): slots 0 table, 1 found, 2 k, 3 row -/
def moves_trace : Fs := runF 1 4 false
  (sThen (sSet 1 (eC (.tuple [(.int (0)), (.int (1))]))) (sThen (sFor (sEnum (eVar 0)) (gTp (gsC (gN 2) (gsC (gN 3) gsN))) (sSet 1 (eCall ratios_add (eCons (eVar 1) (eCons (eBin wIdx (eVar 3) (eVar 2)) eNil))))) (sRet (eVar 1))))
/-- trace_of(change, size): slots 0 change, 1 size, 2 whole, 3 det, 4 last, 5 now, 6 _ -/
def moves_trace_of : Fs := runF 2 7 false
  (sThen (sDrop (eCall forms_check_change (eCons (eVar 0) eNil))) (sThen (sSet 2 (eCall ratios_add (eCons (eBin wIdx (eVar 0) (eC (.int (0)))) (eCons (eBin wIdx (eVar 0) (eC (.int (3)))) eNil)))) (sThen (sSet 3 (eCall ratios_subtract (eCons (eCall ratios_multiply (eCons (eBin wIdx (eVar 0) (eC (.int (0)))) (eCons (eBin wIdx (eVar 0) (eC (.int (3)))) eNil))) (eCons (eCall ratios_multiply (eCons (eBin wIdx (eVar 0) (eC (.int (1)))) (eCons (eBin wIdx (eVar 0) (eC (.int (2)))) eNil))) eNil)))) (sThen (sPar2 4 5 (eC (.tuple [(.int (0)), (.int (1))])) (eC (.tuple [(.int (1)), (.int (1))]))) (sThen (sFor (sRng gRng1 (eCons (eVar 1) eNil)) (gN 6) (sPar2 4 5 (eVar 5) (eCall ratios_subtract (eCons (eCall ratios_multiply (eCons (eVar 2) (eCons (eVar 5) eNil))) (eCons (eCall ratios_multiply (eCons (eVar 3) (eCons (eVar 4) eNil))) eNil))))) (sRet (eVar 5)))))))
/-- determinant_power(size): slots 0 size -/
def moves_determinant_power : Fs := runF 1 1 false
  (sThen (sDrop (eCall forms_check_order (eCons (eVar 0) eNil))) (sRet (eBin wFdiv (eBin wMul (eVar 0) (eBin wAdd (eVar 0) (eC (.int (1))))) (eC (.int (2))))))
/-- cross(a, b, c, d): slots 0 a, 1 b, 2 c, 3 d -/
def moves_cross : Fs := runF 4 4 false
  (sRet (eCall ratios_add (eCons (eCall ratios_multiply (eCons (eVar 0) (eCons (eVar 1) eNil))) (eCons (eCall ratios_multiply (eCons (eVar 2) (eCons (eVar 3) eNil))) eNil))))
/-- product_of(changes): slots 0 changes, 1 found, 2 one, 3 a, 4 b, 5 c, 6 d, 7 p, 8 q, 9 r, 10 s, 11 top -/
def moves_product_of : Fs := runF 1 12 false
  (sThen (sSet 1 (eTup (eCons (eC (.tuple [(.int (1)), (.int (1))])) (eCons (eC (.tuple [(.int (0)), (.int (1))])) (eCons (eC (.tuple [(.int (0)), (.int (1))])) (eCons (eC (.tuple [(.int (1)), (.int (1))])) eNil)))))) (sThen (sFor (sSeq (eVar 0)) (gN 2) (sThen (sAsg (gTp (gsC (gN 3) (gsC (gN 4) (gsC (gN 5) (gsC (gN 6) gsN))))) (eVar 1)) (sThen (sAsg (gTp (gsC (gN 7) (gsC (gN 8) (gsC (gN 9) (gsC (gN 10) gsN))))) (eVar 2)) (sThen (sSet 11 (eTup (eCons (eCall moves_cross (eCons (eVar 3) (eCons (eVar 7) (eCons (eVar 4) (eCons (eVar 9) eNil))))) (eCons (eCall moves_cross (eCons (eVar 3) (eCons (eVar 8) (eCons (eVar 4) (eCons (eVar 10) eNil))))) eNil)))) (sSet 1 (eBin wAdd (eVar 11) (eTup (eCons (eCall moves_cross (eCons (eVar 5) (eCons (eVar 7) (eCons (eVar 6) (eCons (eVar 9) eNil))))) (eCons (eCall moves_cross (eCons (eVar 5) (eCons (eVar 8) (eCons (eVar 6) (eCons (eVar 10) eNil))))) eNil))))))))) (sRet (eVar 1))))
/-- _law_power(one, count): slots 0 one, 1 count, 2 found, 3 k -/
def law_power : Fs := runF 2 4 false
  (sThen (sSet 2 (eTup (eCons (eC (.int (1))) (eCons (eC (.int (1))) eNil)))) (sThen (sFor (sRng gRng1 (eCons (eVar 1) eNil)) (gN 3) (sSet 2 (eCall law_mul (eCons (eVar 2) (eCons (eVar 0) eNil))))) (sRet (eVar 2))))
/-- law(script): slots 0 script, 1 tape, 2 size, 3 change, 4 other, 5 form, 6 table, 7 column, 8 due, 9 both, 10 up, 11 down, 12 heavy, 13 place, 14 table_part, 15 goal, 16 number, 17 line, 18 a, 19 b, 20 c, 21 d, 22 made, 23 turned_v, 24 pairing, 25 det, 26 parts, 27 now, 28 part, 29 plain, 30 k, 31 item, 32 row -/
def law : Fs := runL 1 33 law_tape
  (sThen (sAsg (gTp (gsC (gN 2) (gsC (gN 3) (gsC (gN 4) gsN)))) (eTup (eCons (eCallT law_draw (eCons (eC (.int (6))) eNil)) (eCons (eCallT law_change eNil) (eCons (eCallT law_change eNil) eNil))))) (sThen (sSet 5 (eCallB gTuple (eCons (eLc (sRng gRng1 (eCons (eBin wAdd (eVar 2) (eC (.int (1)))) eNil)) [30] (gN 30) etYes (eCallT law_fraction eNil)) eNil))) (sThen (sSet 6 (eCall moves_table_of (eCons (eVar 3) (eCons (eVar 2) eNil)))) (sThen (sSet 7 (eCallB gTuple (eCons (eLc (sSeq (eVar 5)) [31] (gN 31) etYes (eTup (eCons (eVar 31) eNil))) eNil))) (sThen (sSet 8 (eCall law_changed (eCons (eVar 5) (eCons (eVar 3) eNil)))) (sThen (sIf (eOrT (eNotT (eTest (eCall (law_same 40) (eCons (eCallB gTuple (eCons (eLc (sSeq (eCall law_times (eCons (eVar 6) (eCons (eVar 7) eNil)))) [32] (gN 32) etYes (eBin wIdx (eVar 32) (eC (.int (0))))) eNil)) (eCons (eVar 8) eNil))))) (eNotT (eTest (eCall (law_same 40) (eCons (eCall forms_changed (eCons (eVar 5) (eCons (eVar 3) eNil))) (eCons (eVar 8) eNil)))))) (sRet (eC (.bool false))) sNext) (sThen (sSet 9 (eCall forms_after (eCons (eVar 3) (eCons (eVar 4) eNil)))) (sThen (sIf (eOrT (eTest (eBin wNe (eCall forms_changed (eCons (eVar 8) (eCons (eVar 4) eNil))) (eCall forms_changed (eCons (eVar 5) (eCons (eVar 9) eNil))))) (eOrT (eTest (eBin wNe (eCall moves_table_of (eCons (eVar 9) (eCons (eVar 2) eNil))) (eCall law_times (eCons (eCall moves_table_of (eCons (eVar 4) (eCons (eVar 2) eNil))) (eCons (eVar 6) eNil))))) (eTest (eBin wNe (eCall moves_times (eCons (eVar 6) (eCons (eVar 6) eNil))) (eCall law_times (eCons (eVar 6) (eCons (eVar 6) eNil))))))) (sRet (eC (.bool false))) sNext) (sThen (sAsg (gTp (gsC (gN 10) (gsC (gN 11) (gsC (gN 12) gsN)))) (eTup (eCons (eCall moves_step_up (eCons (eVar 2) eNil)) (eCons (eCall moves_step_down (eCons (eVar 2) eNil)) (eCons (eCall moves_weight_table (eCons (eVar 2) eNil)) eNil))))) (sThen (sFor (sRng gRng1 (eCons (eBin wAdd (eVar 2) (eC (.int (1)))) eNil)) (gN 13) (sFor (sSeq (eLst (eCons (eTup (eCons (eVar 10) (eCons (eBin wAdd (eVar 13) (eC (.int (1)))) (eCons (eBin wSub (eVar 2) (eVar 13)) eNil)))) (eCons (eTup (eCons (eVar 11) (eCons (eBin wSub (eVar 13) (eC (.int (1)))) (eCons (eVar 13) eNil)))) (eCons (eTup (eCons (eVar 12) (eCons (eVar 13) (eCons (eBin wSub (eVar 2) (eBin wMul (eC (.int (2))) (eVar 13))) eNil)))) eNil))))) (gTp (gsC (gN 14) (gsC (gN 15) (gsC (gN 16) gsN)))) (sThen (sSet 17 (eCallB gTuple (eCons (eLc (sSeq (eVar 14)) [32] (gN 32) etYes (eBin wIdx (eVar 32) (eVar 13))) eNil))) (sIf (eTest (eBin wNe (eVar 17) (eCallB gTuple (eCons (eLc (sRng gRng1 (eCons (eBin wAdd (eVar 2) (eC (.int (1)))) eNil)) [30] (gN 30) etYes (eIf (eTest (eBin wEq (eVar 30) (eVar 15))) (eTup (eCons (eVar 16) (eCons (eC (.int (1))) eNil))) (eTup (eCons (eC (.int (0))) (eCons (eC (.int (1))) eNil))))) eNil)))) (sRet (eC (.bool false))) sNext)))) (sThen (sIf (eOrT (eTest (eBin wNe (eCall moves_bracket (eCons (eVar 12) (eCons (eVar 10) eNil))) (eCall moves_scaled (eCons (eTup (eCons (eUn wNeg (eC (.int (2)))) (eCons (eC (.int (1))) eNil))) (eCons (eVar 10) eNil))))) (eOrT (eTest (eBin wNe (eCall moves_bracket (eCons (eVar 12) (eCons (eVar 11) eNil))) (eCall moves_scaled (eCons (eTup (eCons (eC (.int (2))) (eCons (eC (.int (1))) eNil))) (eCons (eVar 11) eNil))))) (eTest (eBin wNe (eCall moves_bracket (eCons (eVar 11) (eCons (eVar 10) eNil))) (eVar 12))))) (sRet (eC (.bool false))) sNext) (sThen (sIf (eOrT (eTest (eBin wNe (eCall moves_bracket (eCons (eVar 10) (eCons (eVar 6) eNil))) (eCall moves_plus (eCons (eCall moves_times (eCons (eVar 10) (eCons (eVar 6) eNil))) (eCons (eCall moves_scaled (eCons (eTup (eCons (eUn wNeg (eC (.int (1)))) (eCons (eC (.int (1))) eNil))) (eCons (eCall moves_times (eCons (eVar 6) (eCons (eVar 10) eNil))) eNil))) eNil))))) (eTest (eBin wNe (eCall moves_unit (eCons (eVar 2) eNil)) (eCall moves_table_of (eCons (eTup (eCons (eTup (eCons (eC (.int (1))) (eCons (eC (.int (1))) eNil))) (eCons (eTup (eCons (eC (.int (0))) (eCons (eC (.int (1))) eNil))) (eCons (eTup (eCons (eC (.int (0))) (eCons (eC (.int (1))) eNil))) (eCons (eTup (eCons (eC (.int (1))) (eCons (eC (.int (1))) eNil))) eNil))))) (eCons (eVar 2) eNil)))))) (sRet (eC (.bool false))) sNext) (sForget 17 (sThen (sIf (eOrT (eTest (eBin wNe (eCall moves_middle (eCons (eVar 2) eNil)) (eCall moves_scaled (eCons (eCall moves_middle_number (eCons (eVar 2) eNil)) (eCons (eCall moves_unit (eCons (eVar 2) eNil)) eNil))))) (eTest (eBin wNe (eCall moves_middle_number (eCons (eVar 2) eNil)) (eCall law_make (eCons (eBin wMul (eVar 2) (eBin wAdd (eVar 2) (eC (.int (2))))) (eCons (eC (.int (2))) eNil)))))) (sRet (eC (.bool false))) sNext) (sThen (sAsg (gLt (gsC (gN 18) (gsC (gN 19) (gsC (gN 20) (gsC (gN 21) gsN))))) (eLc (sRng gRng1 (eCons (eC (.int (4))) eNil)) [30] (gN 30) etYes (eCallT law_fraction eNil))) (sThen (sSet 22 (eCall moves_doing (eCons (eTup (eCons (eVar 18) (eCons (eVar 19) (eCons (eVar 20) (eCons (eVar 21) eNil))))) (eCons (eVar 2) eNil)))) (sThen (sFor (sRng gRng1 (eCons (eBin wAdd (eVar 2) (eC (.int (1)))) eNil)) (gN 13) (sThen (sSet 17 (eBin wMulL (eLst (eCons (eTup (eCons (eC (.int (0))) (eCons (eC (.int (1))) eNil))) eNil)) (eBin wAdd (eVar 2) (eC (.int (1)))))) (sThen (sPut 17 (eVar 13) (eCall law_add (eCons (eCall law_mul (eCons (eTup (eCons (eBin wSub (eVar 2) (eVar 13)) (eCons (eC (.int (1))) eNil))) (eCons (eVar 18) eNil))) (eCons (eCall law_mul (eCons (eTup (eCons (eVar 13) (eCons (eC (.int (1))) eNil))) (eCons (eVar 21) eNil))) eNil)))) (sThen (sIf (eTest (eBin wLt (eVar 13) (eVar 2))) (sPut 17 (eBin wAdd (eVar 13) (eC (.int (1)))) (eCall law_mul (eCons (eTup (eCons (eBin wSub (eVar 2) (eVar 13)) (eCons (eC (.int (1))) eNil))) (eCons (eVar 19) eNil)))) sNext) (sThen (sIf (eTest (eBin wGt (eVar 13) (eC (.int (0))))) (sPut 17 (eBin wSub (eVar 13) (eC (.int (1)))) (eCall law_mul (eCons (eTup (eCons (eVar 13) (eCons (eC (.int (1))) eNil))) (eCons (eVar 20) eNil)))) sNext) (sIf (eTest (eBin wNe (eCallB gTuple (eCons (eLc (sSeq (eVar 22)) [32] (gN 32) etYes (eBin wIdx (eVar 32) (eVar 13))) eNil)) (eCallB gTuple (eCons (eVar 17) eNil)))) (sRet (eC (.bool false))) sNext)))))) (sThen (sIf (eOrT (eTest (eBin wNe (eCall moves_exponential (eCons (eCall moves_scaled (eCons (eVar 19) (eCons (eVar 10) eNil))) eNil)) (eCall moves_table_of (eCons (eTup (eCons (eTup (eCons (eC (.int (1))) (eCons (eC (.int (1))) eNil))) (eCons (eVar 19) (eCons (eTup (eCons (eC (.int (0))) (eCons (eC (.int (1))) eNil))) (eCons (eTup (eCons (eC (.int (1))) (eCons (eC (.int (1))) eNil))) eNil))))) (eCons (eVar 2) eNil))))) (eTest (eBin wNe (eCall moves_exponential (eCons (eCall moves_scaled (eCons (eVar 19) (eCons (eVar 11) eNil))) eNil)) (eCall moves_table_of (eCons (eTup (eCons (eTup (eCons (eC (.int (1))) (eCons (eC (.int (1))) eNil))) (eCons (eTup (eCons (eC (.int (0))) (eCons (eC (.int (1))) eNil))) (eCons (eVar 19) (eCons (eTup (eCons (eC (.int (1))) (eCons (eC (.int (1))) eNil))) eNil))))) (eCons (eVar 2) eNil)))))) (sRet (eC (.bool false))) sNext) (sThen (sIf (eAndT (eTest (eBin wGt (eVar 2) (eC (.int (0))))) (eTest (eBin wNe (eToldB 3 [(X_BadChange, (.str "change")), (X_BadNumber, (.str "number"))] (eCall moves_exponential (eCons (eVar 12) eNil))) (eC (.str "number"))))) (sRet (eC (.bool false))) sNext) (sThen (sSet 23 (eCallB gTuple (eCons (eLc (sRng gRng1 (eCons (eBin wAdd (eVar 2) (eC (.int (1)))) eNil)) [30] (gN 30) etYes (eCallB gTuple (eCons (eLc (sSeq (eVar 6)) [32] (gN 32) etYes (eBin wIdx (eVar 32) (eVar 30))) eNil))) eNil))) (sThen (sPar2 24 25 (eCall moves_pairing_table (eCons (eVar 2) eNil)) (eCall law_add (eCons (eCall law_mul (eCons (eBin wIdx (eVar 3) (eC (.int (0)))) (eCons (eBin wIdx (eVar 3) (eC (.int (3)))) eNil))) (eCons (eTup (eCons (eUn wNeg (eBin wIdx (eCall law_mul (eCons (eBin wIdx (eVar 3) (eC (.int (1)))) (eCons (eBin wIdx (eVar 3) (eC (.int (2)))) eNil))) (eC (.int (0))))) (eCons (eBin wIdx (eCall law_mul (eCons (eBin wIdx (eVar 3) (eC (.int (1)))) (eCons (eBin wIdx (eVar 3) (eC (.int (2)))) eNil))) (eC (.int (1)))) eNil))) eNil)))) (sThen (sIf (eOrT (eTest (eBin wNe (eCall law_times (eCons (eVar 23) (eCons (eCall law_times (eCons (eVar 24) (eCons (eVar 6) eNil))) eNil))) (eCall moves_scaled (eCons (eCall law_power (eCons (eVar 25) (eCons (eVar 2) eNil))) (eCons (eVar 24) eNil))))) (eTest (eBin wNe (eCall forms_determinant (eCons (eVar 3) eNil)) (eVar 25)))) (sRet (eC (.bool false))) sNext) (sThen (sIf (eOrT (eTest (eBin wNe (eCall moves_trace (eCons (eVar 6) eNil)) (eCall law_sum (eCons (eLc (sRng gRng1 (eCons (eBin wAdd (eVar 2) (eC (.int (1)))) eNil)) [30] (gN 30) etYes (eBin wIdx (eBin wIdx (eVar 6) (eVar 30)) (eVar 30))) eNil)))) (eOrT (eTest (eBin wNe (eCall moves_trace_of (eCons (eVar 3) (eCons (eVar 2) eNil))) (eCall moves_trace (eCons (eVar 6) eNil)))) (eTest (eBin wNe (eCall moves_determinant_power (eCons (eVar 2) eNil)) (eBin wFdiv (eBin wMul (eVar 2) (eBin wAdd (eVar 2) (eC (.int (1))))) (eC (.int (2)))))))) (sRet (eC (.bool false))) sNext) (sThen (sSet 26 (eCall (moves_split_change 40) (eCons (eVar 3) eNil))) (sThen (sSet 27 (eTup (eCons (eTup (eCons (eC (.int (1))) (eCons (eC (.int (1))) eNil))) (eCons (eTup (eCons (eC (.int (0))) (eCons (eC (.int (1))) eNil))) (eCons (eTup (eCons (eC (.int (0))) (eCons (eC (.int (1))) eNil))) (eCons (eTup (eCons (eC (.int (1))) (eCons (eC (.int (1))) eNil))) eNil)))))) (sThen (sFor (sSeq (eVar 26)) (gN 28) (sThen (sSet 27 (eCall law_two (eCons (eVar 27) (eCons (eVar 28) eNil)))) (sThen (sSet 29 (eOr (eBin wEq (eSlice (eVar 28) (oSome (eC (.int (1)))) (oSome (eC (.int (3))))) (eTup (eCons (eTup (eCons (eC (.int (0))) (eCons (eC (.int (1))) eNil))) (eCons (eTup (eCons (eC (.int (0))) (eCons (eC (.int (1))) eNil))) eNil)))) (eOr (eAnd (eBin wEq (eBin wIdx (eVar 28) (eC (.int (0)))) (eTup (eCons (eC (.int (1))) (eCons (eC (.int (1))) eNil)))) (eAnd (eBin wEq (eBin wIdx (eVar 28) (eC (.int (3)))) (eTup (eCons (eC (.int (1))) (eCons (eC (.int (1))) eNil)))) (eBin (wIn false) (eTup (eCons (eC (.int (0))) (eCons (eC (.int (1))) eNil))) (eSlice (eVar 28) (oSome (eC (.int (1)))) (oSome (eC (.int (3)))))))) (eBin wEq (eVar 28) (eTup (eCons (eTup (eCons (eC (.int (0))) (eCons (eC (.int (1))) eNil))) (eCons (eTup (eCons (eC (.int (1))) (eCons (eC (.int (1))) eNil))) (eCons (eTup (eCons (eUn wNeg (eC (.int (1)))) (eCons (eC (.int (1))) eNil))) (eCons (eTup (eCons (eC (.int (0))) (eCons (eC (.int (1))) eNil))) eNil))))))))) (sIf (eNotT (eTest (eVar 29))) (sRet (eC (.bool false))) sNext)))) (sThen (sIf (eOrT (eTest (eBin wNe (eVar 27) (eVar 3))) (eOrT (eTest (eBin wNe (eCall moves_product_of (eCons (eVar 26) eNil)) (eVar 3))) (eTest (eBin wNe (eCall moves_product_of (eCons (eTup (eCons (eVar 3) (eCons (eVar 4) eNil))) eNil)) (eCall law_two (eCons (eVar 3) (eCons (eVar 4) eNil))))))) (sRet (eC (.bool false))) sNext) (sThen (sIf (eTest (eBin wNe (eToldB 3 [(X_BadChange, (.str "change")), (X_BadNumber, (.str "number"))] (eCall (moves_split_change 40) (eCons (eCallT law_pick (eCons (eLst (eCons (eTup (eCons (eTup (eCons (eC (.int (1))) (eCons (eC (.int (1))) eNil))) (eCons (eTup (eCons (eC (.int (1))) (eCons (eC (.int (1))) eNil))) (eCons (eTup (eCons (eC (.int (1))) (eCons (eC (.int (1))) eNil))) (eCons (eTup (eCons (eC (.int (1))) (eCons (eC (.int (1))) eNil))) eNil))))) (eCons (eC .none) (eCons (eTup (eCons (eTup (eCons (eC (.int (1))) (eCons (eC (.int (1))) eNil))) eNil)) (eCons (eTup (eCons (eC (.int (1))) (eCons (eC (.int (0))) (eCons (eC (.int (0))) (eCons (eC (.int (1))) eNil))))) eNil))))) eNil)) eNil))) (eC (.str "change")))) (sRet (eC (.bool false))) sNext) (sRet (eBin wEq (eToldB 3 [(X_BadChange, (.str "change")), (X_BadNumber, (.str "number"))] (eCall moves_doing (eCons (eCallT law_pick (eCons (eLst (eCons (eC .none) (eCons (eTup (eCons (eVar 18) (eCons (eVar 19) (eCons (eVar 20) eNil)))) (eCons (eTup (eCons (eC (.int (1))) (eCons (eC (.int (0))) (eCons (eC (.int (0))) (eCons (eC (.int (1))) eNil))))) (eCons (eLst (eCons (eVar 18) (eCons (eVar 19) (eCons (eVar 20) (eCons (eVar 21) eNil))))) eNil))))) eNil)) (eCons (eVar 2) eNil)))) (eC (.str "change"))))))))))))))))))))))))))))))))
end G

end

section
namespace G
open PySem Ev
/-! ### data -/
/-- a fraction -/
def enc (q : Rat) : W := .tuple [.int q.num, .int (q.den : Int)]
/-- a form -/
def encF (f : List Rat) : W := .tuple (f.map enc)
theorem enc_zero : (PyData.tuple [.int 0, .int 1] : W) = enc 0 := rfl
theorem enc_one : (PyData.tuple [.int 1, .int 1] : W) = enc 1 := rfl

/-! ### sizes -/
theorem bits_lt {i : Int} {k : Nat} (h : i.natAbs < 2 ^ k) : Builtin.Int.intBits i ≤ k := by
  unfold Builtin.Int.intBits
  split
  · omega
  · rename_i n
    have n0 : i.natAbs ≠ 0 := by
      simp at n; omega
    have := (Nat.log2_lt n0).mpr h
    omega
theorem mulOk_of {i j : Int} (hi : i.natAbs < 2 ^ 4000) (hj : j.natAbs < 2 ^ 4000) : mulOk i j = true := by
  have h1 := bits_lt hi
  have h2 := bits_lt hj
  unfold mulOk
  exact decide_eq_true (by omega)
theorem divOk_of {i j : Int} (h0 : j ≠ 0) (h : j.natAbs < 2 ^ 9000) : divOk i j = true := by
  unfold divOk
  have : Builtin.divisionGoesByPylong i j = false := PyProof.noPylong_of_log2 ((Nat.log2_lt (by omega)).mpr h)
  rw [this]
  simp [h0]

/-! ### lists of slots -/
theorem set_get {α : Type} {l : List α} {i : Nat} {x : α} (h : l[i]? = some x) : l.set i x = l := by
  apply List.ext_getElem?
  intro j
  by_cases e : i = j
  · subst e
    rw [List.getElem?_set]
    have : i < l.length := by
      by_cases q : i < l.length
      · exact q
      · rw [List.getElem?_eq_none (by omega)] at h; cases h
    rw [List.getElem?_eq_getElem this] at h
    simp [this, Option.some.inj h]
  · rw [List.getElem?_set_ne e]
theorem get_lt {α : Type} {l : List α} {i : Nat} {x : α} (h : l[i]? = some x) : i < l.length := by
  by_cases q : i < l.length
  · exact q
  · rw [List.getElem?_eq_none (by omega)] at h; cases h

theorem then_next {u v : Sv} {ρ ρ' : Sl} {t t' : Tp} (h : u ρ t = .next ρ' t') : sThen u v ρ t = v ρ' t' := by unfold sThen; rw [h]
theorem then_ret {u v : Sv} {ρ : Sl} {w : W} {t t' : Tp} (h : u ρ t = .ret w t') : sThen u v ρ t = .ret w t' := by unfold sThen; rw [h]
theorem then_exc {u v : Sv} {ρ : Sl} {e : Nat} {t t' : Tp} (h : u ρ t = .exc e t') : sThen u v ρ t = .exc e t' := by unfold sThen; rw [h]
theorem wh_more {tc : Et} {body : Sv} {n : Nat} {ρ ρ' : Sl} {t t' t'' : Tp} (h : tc ρ t = .ok true t') (hb : body ρ t' = .next ρ' t'') : whL tc body (n + 1) ρ t = whL tc body n ρ' t'' := by
  show toS (tc ρ t) _ = _
  rw [h]
  exact then_next hb
theorem wh_end {tc : Et} {body : Sv} {n : Nat} {ρ : Sl} {t t' : Tp} (h : tc ρ t = .ok false t') : whL tc body (n + 1) ρ t = .next ρ t' := by
  show toS (tc ρ t) _ = _
  rw [h]
  rfl
/-! ### the divisor's loop -/
abbrev gcdTest (j : Nat) : Et := eTest (eBin wGt (eVar j) (eC (.int 0)))
abbrev gcdStep (i j : Nat) : Sv := sPar2 i j (eVar j) (eBin wMod (eVar i) (eVar j))
theorem eVar_of {ρ : Sl} {i : Nat} {w : W} (t : Tp) (h : ρ[i]? = some (some w)) : eVar i ρ t = .ok w t := by
  unfold eVar; rw [h]
theorem gcd_loop {i j : Nat} (hij : i ≠ j) : ∀ (k n : Nat) (ρ : Sl) (a b : Nat) (t : Tp), ρ[i]? = some (some (.int (a : Int))) → ρ[j]? = some (some (.int (b : Int))) → b < 2 ^ k → 2 * k + 1 ≤ n →
    whL (gcdTest j) (gcdStep i j) n ρ t = .next ((ρ.set i (some (.int (Nat.gcd b a : Nat)))).set j (some (.int 0))) t := by
  have test : ∀ {ρ : Sl} {b : Nat} (t : Tp), ρ[j]? = some (some (.int (b : Int))) → gcdTest j ρ t = .ok (decide (0 < b)) t := fun {ρ b} t h => by
    unfold gcdTest eTest eBin
    simp [Rs.bind, eVar_of t h, eC, rOf, wGt, wCmp, wB]
  have step : ∀ {ρ : Sl} {a b : Nat} (t : Tp), ρ[i]? = some (some (.int (a : Int))) → ρ[j]? = some (some (.int (b : Int))) → b ≠ 0 → gcdStep i j ρ t = .next ((ρ.set i (some (.int (b : Int)))).set j (some (.int ((a % b : Nat) : Int)))) t := fun {ρ a b} t h1 h2 hb => by
    unfold gcdStep sPar2
    have : (b : Int) ≠ 0 := by omega
    simp [toS, Rs.bind, eVar_of t h1, eVar_of t h2, eBin, rOf, wMod, hb, Int.fmod_eq_emod_of_nonneg]
  intro k
  induction k with
  | zero =>
    intro n ρ a b t h1 h2 hb hn
    have b0 : b = 0 := by omega
    subst b0
    obtain ⟨m, rfl⟩ : ∃ m, n = m + 1 := ⟨n - 1, by omega⟩
    rw [wh_end (by rw [test t h2]; rfl), Nat.gcd_zero_left, set_get h1]
    exact congrArg (fun l => SR.next l t) (set_get h2).symm
  | succ k ih =>
    intro n ρ a b t h1 h2 hb hn
    obtain ⟨m, rfl⟩ : ∃ m, n = m + 2 := ⟨n - 2, by omega⟩
    have l1 := get_lt h1
    have l2 := get_lt h2
    by_cases b0 : b = 0
    · subst b0
      rw [wh_end (by rw [test t h2]; rfl), Nat.gcd_zero_left, set_get h1]
      exact congrArg (fun l => SR.next l t) (set_get h2).symm
    · have d0 : decide (0 < b) = true := decide_eq_true (by omega)
      rw [wh_more (by rw [test t h2, d0]) (step t h1 h2 b0)]
      have g1 : ((ρ.set i (some (.int (b : Int)))).set j (some (.int ((a % b : Nat) : Int))))[i]? = some (some (.int (b : Int))) := by
        rw [List.getElem?_set_ne (Ne.symm hij), List.getElem?_set_self l1]
      have g2 : ((ρ.set i (some (.int (b : Int)))).set j (some (.int ((a % b : Nat) : Int))))[j]? = some (some (.int ((a % b : Nat) : Int))) := by
        rw [List.getElem?_set_self (by rw [List.length_set]; exact l2)]
      by_cases r0 : a % b = 0
      · rw [wh_end (by rw [test t g2, r0]; rfl), r0]
        have : Nat.gcd b a = b := Nat.gcd_eq_left (Nat.dvd_of_mod_eq_zero r0)
        rw [this]
        rfl
      · have d1 : decide (0 < a % b) = true := decide_eq_true (by omega)
        rw [wh_more (by rw [test t g2, d1]) (step t g1 g2 r0)]
        have lt : b % (a % b) < 2 ^ k := by
          have h3 : a % b < b := Nat.mod_lt _ (by omega)
          have h4 : b % (a % b) < a % b := Nat.mod_lt _ (by omega)
          have h5 : b % (a % b) ≤ b - a % b := by
            rw [Nat.mod_eq_sub_mod (by omega)]
            exact Nat.mod_le _ _
          have h6 : 2 ^ (k + 1) = 2 * 2 ^ k := by rw [Nat.pow_succ]; omega
          omega
        rw [ih m _ (a % b) (b % (a % b)) t ?_ ?_ lt (by omega)]
        · have e : Nat.gcd (b % (a % b)) (a % b) = Nat.gcd b a := by
            rw [← Nat.gcd_rec, ← Nat.gcd_rec]
          rw [e]
          congr 1
          apply List.ext_getElem?
          intro q
          simp only [List.getElem?_set, List.length_set]
          by_cases q1 : j = q
          · subst q1; simp
          · by_cases q2 : i = q
            · subst q2; simp [q1]
            · simp [q1, q2]
        · rw [List.getElem?_set_ne (Ne.symm hij), List.getElem?_set_self (by simpa using l1)]
        · rw [List.getElem?_set_self (by simpa using l2)]
end G

end

section
namespace G
open PySem Ev
theorem runF_eq {n m : Nat} {fr : Bool} {body : Sv} {ws : List W} (h : ws.length = n) : runF n m fr body ws = endF fr (body (startW m ws) none) := if_pos h
theorem gAbs_int (i : Int) : gAbs [.int i] = some (.int (i.natAbs : Int)) := by
  show some (PyData.int _) = _
  congr 2
  split <;> omega
theorem divisor_spec (a b : Int) (h : b.natAbs < 2 ^ 8000) : ratios_divisor [.int a, .int b] = .ok (.int ((Nat.gcd b.natAbs a.natAbs : Nat) : Int)) := by
  unfold ratios_divisor
  rw [runF_eq (n := 2) rfl]
  have e1 : sPar2 0 1 (eCallB gAbs (eCons (eVar 0) eNil)) (eCallB gAbs (eCons (eVar 1) eNil)) (startW 2 [.int a, .int b]) none = .next [some (.int (a.natAbs : Int)), some (.int (b.natAbs : Int))] none := by
    simp [startW, sPar2, toS, eCallB, eCons, eNil, eVar, Rs.bind, rOf, gAbs_int]
  rw [then_next e1]
  have e2 := gcd_loop (i := 0) (j := 1) (by decide) 8000 1000000 [some (.int (a.natAbs : Int)), some (.int (b.natAbs : Int))] a.natAbs b.natAbs none rfl rfl h (by decide)
  rw [then_next (show sWhile 1000000 _ _ _ _ = _ from e2)]
  rfl
/-- what make tells -/
theorem make_core {n d : Int} (h0 : d ≠ 0) (h : d.natAbs < 2 ^ 8000) (s : Int) (hs : s = if d < 0 then -((Nat.gcd d.natAbs n.natAbs : Nat) : Int) else ((Nat.gcd d.natAbs n.natAbs : Nat) : Int)) :
    divOk n s = true ∧ divOk d s = true ∧ n.fdiv s = (Rat.divInt n d).num ∧ d.fdiv s = ((Rat.divInt n d).den : Int) := by
  have g0 : Nat.gcd d.natAbs n.natAbs ≠ 0 := by
    intro z
    have := Nat.eq_zero_of_gcd_eq_zero_left z
    omega
  have gd : Nat.gcd d.natAbs n.natAbs ∣ d.natAbs := Nat.gcd_dvd_left _ _
  have gn : Nat.gcd d.natAbs n.natAbs ∣ n.natAbs := Nat.gcd_dvd_right _ _
  have gle : Nat.gcd d.natAbs n.natAbs ≤ d.natAbs := Nat.le_of_dvd (by omega) gd
  have s0 : s ≠ 0 := by rw [hs]; split <;> omega
  have sb : s.natAbs < 2 ^ 9000 := by
    have e : s.natAbs = Nat.gcd d.natAbs n.natAbs := by rw [hs]; split <;> omega
    rw [e]
    refine Nat.lt_of_le_of_lt gle (Nat.lt_trans h ?_)
    exact Nat.pow_lt_pow_right (by decide) (by decide)
  have dn : s ∣ n := by
    have : ((Nat.gcd d.natAbs n.natAbs : Nat) : Int) ∣ n := Int.ofNat_dvd_left.mpr gn
    rw [hs]; split
    · exact (Int.neg_dvd).mpr this
    · exact this
  have dd : s ∣ d := by
    have : ((Nat.gcd d.natAbs n.natAbs : Nat) : Int) ∣ d := Int.ofNat_dvd_left.mpr gd
    rw [hs]; split
    · exact (Int.neg_dvd).mpr this
    · exact this
  refine ⟨divOk_of s0 sb, divOk_of s0 sb, ?_, ?_⟩
  · rw [Rat.num_divInt, Int.fdiv_eq_ediv_of_dvd dn]
    have e : ((Int.gcd d n : Nat) : Int) = ((Nat.gcd d.natAbs n.natAbs : Nat) : Int) := rfl
    rw [e, hs]
    split
    · rename_i c
      rw [Int.sign_eq_neg_one_of_neg c, Int.ediv_neg, Int.neg_one_mul, Int.neg_ediv_of_dvd (Int.ofNat_dvd_left.mpr gn)]
    · rename_i c
      rw [Int.sign_eq_one_of_pos (by omega), Int.one_mul]
  · rw [Rat.den_divInt, if_neg h0, Int.fdiv_eq_ediv_of_dvd dd]
    have e : Int.gcd d n = Nat.gcd d.natAbs n.natAbs := rfl
    rw [e, hs, Int.natCast_ediv]
    split
    · rename_i c
      have : ((d.natAbs : Nat) : Int) = -d := by omega
      rw [this, Int.ediv_neg, Int.neg_ediv_of_dvd (Int.ofNat_dvd_left.mpr gd)]
    · rename_i c
      have : ((d.natAbs : Nat) : Int) = d := by omega
      rw [this]
theorem shaped_int (i : Int) : SeqAt.shaped (.int i) = true := rfl
theorem shaped_bool (b : Bool) : SeqAt.shaped (.bool b) = true := rfl
theorem wEq_int (i j : Int) : wEq (.int i) (.int j) = some (.bool (i == j)) := rfl
theorem wNe_int (i j : Int) : wNe (.int i) (.int j) = some (.bool (!(i == j))) := rfl
theorem wEq_bool (i j : Bool) : wEq (.bool i) (.bool j) = some (.bool (i == j)) := rfl
theorem wNe_bool (i j : Bool) : wNe (.bool i) (.bool j) = some (.bool (!(i == j))) := rfl
theorem few_of {ws : List W} (h : ws.length ≤ 1000) : few1000 ws = true := decide_eq_true h
theorem wFdiv_of {i j : Int} (h : divOk i j = true) : wFdiv (.int i) (.int j) = some (.int (i.fdiv j)) := if_pos h
theorem wMul_of {i j : Int} (h : mulOk i j = true) : wMul (.int i) (.int j) = some (.int (i * j)) := if_pos h
theorem make_spec (n d : Int) (h : d.natAbs < 2 ^ 8000) : ratios_make [.int n, .int d] = if d = 0 then .exc X_BadNumber else .ok (enc (Rat.divInt n d)) := by
  unfold ratios_make
  rw [runF_eq (n := 2) rfl]
  by_cases d0 : d = 0
  · subst d0
    rfl
  · rw [if_neg d0]
    obtain ⟨o1, o2, e1, e2⟩ := make_core (n := n) d0 h _ rfl
    have b0 : (d == 0) = false := by simp [d0]
    rw [then_next (ρ' := [some (.int n), some (.int d), none]) (t' := none) (by simp [sIf, toS, eTest, eBin, eVar, startW, Rs.bind, eC, rOf, wEq_int, wB, b0, sNext]),
      then_next (ρ' := [some (.int n), some (.int d), some (.int ((Nat.gcd d.natAbs n.natAbs : Nat) : Int))]) (t' := none) (by simp [sSet, toS, eCall, eCons, eNil, eVar, Rs.bind, divisor_spec n d h, fR])]
    by_cases c : d < 0
    · rw [if_pos c] at o1 o2 e1 e2
      rw [then_next (ρ' := [some (.int n), some (.int d), some (.int (-((Nat.gcd d.natAbs n.natAbs : Nat) : Int)))]) (t' := none) (by simp [sIf, toS, eTest, eBin, eVar, Rs.bind, eC, rOf, wLt, wCmp, wB, c, sSet, eUn, wNeg])]
      simp [sRet, toS, eTup, eCons, eNil, eBin, eVar, Rs.bind, rOf, wFdiv_of o1, wFdiv_of o2, few1000, e1, e2, endF, enc]
    · rw [if_neg c] at o1 o2 e1 e2
      rw [then_next (ρ' := [some (.int n), some (.int d), some (.int ((Nat.gcd d.natAbs n.natAbs : Nat) : Int))]) (t' := none) (by simp [sIf, toS, eTest, eBin, eVar, Rs.bind, eC, rOf, wLt, wCmp, wB, c, sNext])]
      simp [sRet, toS, eTup, eCons, eNil, eBin, eVar, Rs.bind, rOf, wFdiv_of o1, wFdiv_of o2, few1000, e1, e2, endF, enc]
end G

end

section
namespace G
open PySem Ev
theorem nr {α : Type} {a b : α} (h : a = b) : a = b := h
/-! ### the parts, written out -/
@[simp] theorem s_eVar (i : Nat) (ρ : Sl) (t : Tp) : eVar i ρ t = (match ρ[i]? with | some (some w) => .ok w t | _ => .bad) := nr rfl
@[simp] theorem s_eC (w : W) (ρ : Sl) (t : Tp) : eC w ρ t = .ok w t := nr rfl
@[simp] theorem s_eBin (f : W → W → Option W) (a b : Ex) (ρ : Sl) (t : Tp) : eBin f a b ρ t = (a ρ t).bind fun x t => (b ρ t).bind fun y t => rOf (f x y) t := nr rfl
@[simp] theorem s_eUn (f : W → Option W) (a : Ex) (ρ : Sl) (t : Tp) : eUn f a ρ t = (a ρ t).bind fun x t => rOf (f x) t := nr rfl
@[simp] theorem s_eTest (a : Ex) (ρ : Sl) (t : Tp) : eTest a ρ t = (a ρ t).bind fun w t => rOf (wB w) t := nr rfl
@[simp] theorem s_eChain (f g : W → W → Option W) (a b c : Ex) (ρ : Sl) (t : Tp) : eChain f g a b c ρ t = (a ρ t).bind fun x t => (b ρ t).bind fun y t => (rOf (f x y) t).bind fun z t => match z with
  | .bool true => (c ρ t).bind fun u t => rOf (g y u) t
  | .bool false => .ok (.bool false) t
  | _ => .bad := nr rfl
@[simp] theorem s_eNotT (a : Et) (ρ : Sl) (t : Tp) : eNotT a ρ t = (a ρ t).bind fun b t => .ok (!b) t := nr rfl
@[simp] theorem s_eAndT (a b : Et) (ρ : Sl) (t : Tp) : eAndT a b ρ t = (a ρ t).bind fun k t => if k = true then b ρ t else .ok false t := nr rfl
@[simp] theorem s_eOrT (a b : Et) (ρ : Sl) (t : Tp) : eOrT a b ρ t = (a ρ t).bind fun k t => if k = true then .ok true t else b ρ t := nr rfl
@[simp] theorem s_eNot (a : Ex) (ρ : Sl) (t : Tp) : eNot a ρ t = (a ρ t).bind fun w t => match w with | .bool b => .ok (.bool (!b)) t | _ => .bad := nr rfl
@[simp] theorem s_eAnd (a b : Ex) (ρ : Sl) (t : Tp) : eAnd a b ρ t = (a ρ t).bind fun w t => match w with | .bool true => b ρ t | .bool false => .ok (.bool false) t | _ => .bad := nr rfl
@[simp] theorem s_eOr (a b : Ex) (ρ : Sl) (t : Tp) : eOr a b ρ t = (a ρ t).bind fun w t => match w with | .bool true => .ok (.bool true) t | .bool false => b ρ t | _ => .bad := nr rfl
@[simp] theorem s_eIf (c : Et) (a b : Ex) (ρ : Sl) (t : Tp) : eIf c a b ρ t = (c ρ t).bind fun k t => if k = true then a ρ t else b ρ t := nr rfl
@[simp] theorem s_eIsN (n : Bool) (a : Ex) (ρ : Sl) (t : Tp) : eIsN n a ρ t = (a ρ t).bind fun w t => .ok (.bool (if n then !wIsN w else wIsN w)) t := nr rfl
@[simp] theorem s_eNil (ρ : Sl) (t : Tp) : eNil ρ t = .ok [] t := nr rfl
@[simp] theorem s_eCons (a : Ex) (b : Exs) (ρ : Sl) (t : Tp) : eCons a b ρ t = (a ρ t).bind fun w t => (b ρ t).bind fun ws t => .ok (w :: ws) t := nr rfl
@[simp] theorem s_eTup (a : Exs) (ρ : Sl) (t : Tp) : eTup a ρ t = (a ρ t).bind fun ws t => if few1000 ws = true then .ok (.tuple ws) t else .bad := nr rfl
@[simp] theorem s_eLst (a : Exs) (ρ : Sl) (t : Tp) : eLst a ρ t = (a ρ t).bind fun ws t => if few1000 ws = true then .ok (.list ws) t else .bad := nr rfl
@[simp] theorem s_eCallB (g : List W → Option W) (a : Exs) (ρ : Sl) (t : Tp) : eCallB g a ρ t = (a ρ t).bind fun ws t => rOf (g ws) t := nr rfl
@[simp] theorem s_eCall (f : Fs) (a : Exs) (ρ : Sl) (t : Tp) : eCall f a ρ t = (a ρ t).bind fun ws t => fR t (f ws) := nr rfl
@[simp] theorem s_eCallB' (f : Fs) (a : Exs) (ρ : Sl) (t : Tp) : eCallB' f a ρ t = (a ρ t).bind fun ws t => pOk t (f ws) := nr rfl
@[simp] theorem s_eScr (f : Fs) (i : Nat) (a : Exs) (ρ : Sl) (t : Tp) : eScr f i a ρ t = (match ρ[i]? with | some (some w) => (a ρ t).bind fun ws t => fR t (f (w :: ws)) | _ => .bad) := nr rfl
@[simp] theorem s_eIsI (T : String) (a : Ex) (ρ : Sl) (t : Tp) : eIsI T a ρ t = (a ρ t).bind fun w t => if noDict w = true then .ok (.bool (isIn (tyN w) T)) t else .bad := nr rfl
@[simp] theorem s_eSlice (a : Ex) (lo hi : Eo) (ρ : Sl) (t : Tp) : eSlice a lo hi ρ t = (a ρ t).bind fun w t => (lo ρ t).bind fun l t => (hi ρ t).bind fun h t => rOf (wSlice l h w) t := nr rfl
@[simp] theorem s_oNone (ρ : Sl) (t : Tp) : oNone ρ t = .ok none t := nr rfl
@[simp] theorem s_oSome (a : Ex) (ρ : Sl) (t : Tp) : oSome a ρ t = (a ρ t).bind fun w t => rOf (wI w) t := nr rfl
@[simp] theorem s_eLc (src : Exs) (vs : List Nat) (g : Gw) (tt : Et) (te : Ex) (ρ : Sl) (t : Tp) : eLc src vs g tt te ρ t = (src ρ t).bind fun items t => if few1M items = true then (noexc (lcL g tt te items (wipeW ρ vs) t)).bind fun ws t => .ok (.list ws) t else .bad := nr rfl
@[simp] theorem s_bind_ok {α β : Type} (a : α) (t : Tp) (f : α → Tp → Rs β) : (Rs.ok a t).bind f = f a t := nr rfl
@[simp] theorem s_bind_exc {α β : Type} (e : Nat) (t : Tp) (f : α → Tp → Rs β) : (Rs.exc e t).bind f = .exc e t := nr rfl
@[simp] theorem s_bind_bad {α β : Type} (f : α → Tp → Rs β) : (Rs.bad).bind f = .bad := nr rfl
@[simp] theorem s_noexc {α : Type} (a : α) (t : Tp) : noexc (Rs.ok a t) = .ok a t := nr rfl
@[simp] theorem s_rOf_some {α : Type} (a : α) (t : Tp) : rOf (some a) t = .ok a t := nr rfl
@[simp] theorem s_rOf_none {α : Type} (t : Tp) : rOf (none : Option α) t = .bad := nr rfl
@[simp] theorem s_fR_ok (w : W) (t : Tp) : fR t (.ok w) = .ok w t := nr rfl
@[simp] theorem s_fR_exc (e : Nat) (t : Tp) : fR t (.exc e) = .exc e t := nr rfl
@[simp] theorem s_wB (b : Bool) : wB (.bool b) = some b := nr rfl
@[simp] theorem s_toS_ok {α : Type} (a : α) (t : Tp) (f : α → Tp → SR) : toS (.ok a t) f = f a t := nr rfl
@[simp] theorem s_toS_exc {α : Type} (e : Nat) (t : Tp) (f : α → Tp → SR) : toS (.exc e t) f = .exc e t := nr rfl
@[simp] theorem s_sNext (ρ : Sl) (t : Tp) : sNext ρ t = .next ρ t := nr rfl
@[simp] theorem s_sSet (i : Nat) (a : Ex) (ρ : Sl) (t : Tp) : sSet i a ρ t = toS (a ρ t) fun w t => .next (ρ.set i (some w)) t := nr rfl
@[simp] theorem s_sAsg (g : Gw) (a : Ex) (ρ : Sl) (t : Tp) : sAsg g a ρ t = toS (a ρ t) fun w t => match g w ρ with | some ρ' => .next ρ' t | none => .bad := nr rfl
@[simp] theorem s_sMove (i j : Nat) (ρ : Sl) (t : Tp) : sMove i j ρ t = (match ρ[j]? with | some (some w) => .next ((ρ.set i (some w)).set j none) t | _ => .bad) := nr rfl
@[simp] theorem s_sPar2 (i j : Nat) (a b : Ex) (ρ : Sl) (t : Tp) : sPar2 i j a b ρ t = toS (a ρ t) fun w t => toS (b ρ t) fun w' t => .next ((ρ.set i (some w)).set j (some w')) t := nr rfl
@[simp] theorem s_sPar3 (i j l : Nat) (a b c : Ex) (ρ : Sl) (t : Tp) : sPar3 i j l a b c ρ t = toS (a ρ t) fun w t => toS (b ρ t) fun w' t => toS (c ρ t) fun w'' t => .next (((ρ.set i (some w)).set j (some w')).set l (some w'')) t := nr rfl
@[simp] theorem s_sIf (c : Et) (u v : Sv) (ρ : Sl) (t : Tp) : sIf c u v ρ t = toS (c ρ t) fun b t => if b = true then u ρ t else v ρ t := nr rfl
@[simp] theorem s_sRet (a : Ex) (ρ : Sl) (t : Tp) : sRet a ρ t = toS (a ρ t) fun w t => .ret w t := nr rfl
@[simp] theorem s_sRaise (k : Nat) (ρ : Sl) (t : Tp) : sRaise k ρ t = .exc k t := nr rfl
@[simp] theorem s_sDrop (a : Ex) (ρ : Sl) (t : Tp) : sDrop a ρ t = toS (a ρ t) fun _ t => .next ρ t := nr rfl
@[simp] theorem s_sPut (i : Nat) (si s : Ex) (ρ : Sl) (t : Tp) : sPut i si s ρ t = toS (s ρ t) fun w t => (match ρ[i]? with
  | some (some x) => toS (si ρ t) fun k t => (match wPut x k w with
    | some x' => .next (ρ.set i (some x')) t
    | none => .bad)
  | _ => .bad) := nr rfl
@[simp] theorem s_sApp (i : Nat) (s : Ex) (ρ : Sl) (t : Tp) : sApp i s ρ t = (match ρ[i]? with
  | some (some (.list xs)) => toS (s ρ t) fun w t => if decide (xs.length < 16777216) = true then .next (ρ.set i (some (.list (xs ++ [w])))) t else .bad
  | _ => .bad) := nr rfl
@[simp] theorem s_sAug (f : W → W → Option W) (i : Nat) (s : Ex) (ρ : Sl) (t : Tp) : sAug f i s ρ t = (match ρ[i]? with
  | some (some x) => toS (s ρ t) fun y t => (match f x y with
    | some z => .next (ρ.set i (some z)) t
    | none => .bad)
  | _ => .bad) := nr rfl
@[simp] theorem s_sFor (src : Exs) (g : Gw) (body : Sv) (ρ : Sl) (t : Tp) : sFor src g body ρ t = toS (src ρ t) fun items t => forL g body items ρ t := nr rfl
@[simp] theorem s_gN (i : Nat) (w : W) (ρ : Sl) : gN i w ρ = some (ρ.set i (some w)) := nr rfl
@[simp] theorem s_gTp (gs : Gws) (ws : List W) (ρ : Sl) : gTp gs (.tuple ws) ρ = gs ws ρ := nr rfl
@[simp] theorem s_gsN (ρ : Sl) : gsN [] ρ = some ρ := nr rfl
@[simp] theorem s_gsC (g : Gw) (gs : Gws) (w : W) (ws : List W) (ρ : Sl) : gsC g gs (w :: ws) ρ = (g w ρ).bind (gs ws) := nr rfl
@[simp] theorem s_etYes (ρ : Sl) (t : Tp) : etYes ρ t = .ok true t := nr rfl
@[simp] theorem s_sSeq (s : Ex) (ρ : Sl) (t : Tp) : sSeq s ρ t = (s ρ t).bind fun w t => rOf (wSeq w) t := nr rfl
@[simp] theorem s_wSeq_t (ws : List W) : wSeq (.tuple ws) = some ws := nr rfl
@[simp] theorem s_wSeq_l (ws : List W) : wSeq (.list ws) = some ws := nr rfl
@[simp] theorem s_sRng (g : List W → Option (List W)) (s : Exs) (ρ : Sl) (t : Tp) : sRng g s ρ t = (s ρ t).bind fun ws t => rOf (g ws) t := nr rfl
@[simp] theorem s_sEnum (s : Ex) (ρ : Sl) (t : Tp) : sEnum s ρ t = (s ρ t).bind fun w t => (rOf (wSeq w) t).bind fun xs t => .ok (pairW (rngW 0 1 xs.length) xs) t := nr rfl
@[simp] theorem s_sZip (s u : Ex) (ρ : Sl) (t : Tp) : sZip s u ρ t = (s ρ t).bind fun w t => (u ρ t).bind fun w' t => (rOf (wSeq w) t).bind fun xs t => (rOf (wSeq w') t).bind fun ys t => .ok (pairW xs ys) t := nr rfl
@[simp] theorem s_endF_ret (fr : Bool) (w : W) (t : Tp) : endF fr (.ret w t) = .ok w := nr rfl
@[simp] theorem s_endF_next (ρ : Sl) (t : Tp) : endF false (.next ρ t) = .ok .none := nr rfl
@[simp] theorem s_endF_exc (fr : Bool) (e : Nat) (t : Tp) : endF fr (.exc e t) = .exc e := nr rfl
@[simp] theorem s_wAdd_int (i j : Int) : wAdd (.int i) (.int j) = some (.int (i + j)) := nr rfl
@[simp] theorem s_wSub_int (i j : Int) : wSub (.int i) (.int j) = some (.int (i - j)) := nr rfl
@[simp] theorem s_wNeg_int (i : Int) : wNeg (.int i) = some (.int (-i)) := nr rfl
@[simp] theorem s_wCmp (p : Int → Int → Bool) (i j : Int) : wCmp p (.int i) (.int j) = some (.bool (p i j)) := nr rfl
@[simp] theorem s_wEq_int (i j : Int) : wEq (.int i) (.int j) = some (.bool (i == j)) := nr rfl
@[simp] theorem s_wNe_int (i j : Int) : wNe (.int i) (.int j) = some (.bool (!(i == j))) := nr rfl
@[simp] theorem s_wEq_bool (i j : Bool) : wEq (.bool i) (.bool j) = some (.bool (i == j)) := nr rfl
@[simp] theorem s_gLen_t (ws : List W) : gLen [.tuple ws] = some (.int ws.length) := nr rfl
@[simp] theorem s_gLen_l (ws : List W) : gLen [.list ws] = some (.int ws.length) := nr rfl
@[simp] theorem s_gTuple_l (ws : List W) : gTuple [.list ws] = some (.tuple ws) := nr rfl
@[simp] theorem s_gInt (i : Int) : gInt [.int i] = some (.int i) := nr rfl
@[simp] theorem s_gAbs (i : Int) : gAbs [.int i] = some (.int (i.natAbs : Int)) := gAbs_int i
@[simp] theorem s_then (u v : Sv) (ρ : Sl) (t : Tp) : sThen u v ρ t = (match u ρ t with | .next ρ t => v ρ t | .ret w t => .ret w t | .exc e t => .exc e t | .bad => .bad) := nr rfl
@[simp] theorem s_startW (m : Nat) (ws : List W) : startW m ws = ws.map some ++ List.replicate (m - ws.length) none := nr rfl
@[simp] theorem s_few (ws : List W) : few1000 ws = decide (ws.length ≤ 1000) := nr rfl
/-! ### fractions -/
/-- small enough -/
def Ok (q : Rat) : Prop := q.num.natAbs < 2 ^ 4000 ∧ q.den < 2 ^ 4000
@[simp] theorem idx0 (x : Rat) : wIdx (enc x) (.int 0) = some (.int x.num) := rfl
@[simp] theorem idx1 (x : Rat) : wIdx (enc x) (.int 1) = some (.int (x.den : Int)) := rfl
theorem mul_lt {a b k : Nat} (ha : a < 2 ^ k) (hb : b < 2 ^ k) : a * b < 2 ^ (2 * k) := by
  have : 2 ^ (2 * k) = 2 ^ k * 2 ^ k := by rw [← Nat.pow_add]; congr 1; omega
  rw [this]
  exact Nat.mul_lt_mul'' ha hb
theorem mulNN {x y : Rat} (hx : Ok x) (hy : Ok y) : mulOk x.num y.num = true := mulOk_of hx.1 hy.1
theorem mulND {x y : Rat} (hx : Ok x) (hy : Ok y) : mulOk x.num (y.den : Int) = true := mulOk_of hx.1 (by simpa using hy.2)
theorem mulDN {x y : Rat} (hx : Ok x) (hy : Ok y) : mulOk (x.den : Int) y.num = true := mulOk_of (by simpa using hx.2) hy.1
theorem mulDD {x y : Rat} (hx : Ok x) (hy : Ok y) : mulOk (x.den : Int) (y.den : Int) = true := mulOk_of (by simpa using hx.2) (by simpa using hy.2)
theorem den8 {x y : Rat} (hx : Ok x) (hy : Ok y) : ((x.den : Int) * (y.den : Int)).natAbs < 2 ^ 8000 := by
  have := mul_lt hx.2 hy.2
  rw [Int.natAbs_mul]
  simpa using this
theorem den_ne (x y : Rat) : ¬ ((x.den : Int) * (y.den : Int) = 0) := by
  have h1 := x.den_nz
  have h2 := y.den_nz
  intro z
  rcases Int.mul_eq_zero.mp z with z | z <;> omega
theorem div_mk (n : Int) (a b : Nat) : Rat.divInt n ((a : Int) * (b : Int)) = mkRat n (a * b) := by
  rw [← Int.natCast_mul, Rat.divInt_ofNat]
theorem ratios_add_spec {x y : Rat} (hx : Ok x) (hy : Ok y) : ratios_add [enc x, enc y] = .ok (enc (x + y)) := by
  unfold ratios_add
  rw [runF_eq (n := 2) rfl]
  simp [wMul_of (mulND hx hy), wMul_of (mulND hy hx), wMul_of (mulDD hx hy), make_spec _ _ (den8 hx hy), den_ne, div_mk, Rat.add_def']
theorem ratios_multiply_spec {x y : Rat} (hx : Ok x) (hy : Ok y) : ratios_multiply [enc x, enc y] = .ok (enc (x * y)) := by
  unfold ratios_multiply
  rw [runF_eq (n := 2) rfl]
  simp [wMul_of (mulNN hx hy), wMul_of (mulDD hx hy), make_spec _ _ (den8 hx hy), den_ne, div_mk, Rat.mul_def']
theorem ratios_subtract_spec {x y : Rat} (hx : Ok x) (hy : Ok y) : ratios_subtract [enc x, enc y] = .ok (enc (x - y)) := by
  unfold ratios_subtract
  rw [runF_eq (n := 2) rfl]
  simp [wMul_of (mulND hx hy), wMul_of (mulND hy hx), wMul_of (mulDD hx hy), make_spec _ _ (den8 hx hy), den_ne, div_mk, Rat.sub_def']
theorem ratios_negative_spec (x : Rat) : ratios_negative [enc x] = .ok (enc (-x)) := by
  unfold ratios_negative
  rw [runF_eq (n := 1) rfl]
  simp
  rfl
theorem div_mk' (x y : Rat) : Rat.divInt (x.num * (y.den : Int)) ((x.den : Int) * y.num) = x / y := by
  rw [Rat.div_def, Rat.inv_def, ← Rat.divInt_mul_divInt, Rat.num_divInt_den]
theorem ratios_divide_spec {x y : Rat} (hx : Ok x) (hy : Ok y) (h0 : y ≠ 0) : ratios_divide [enc x, enc y] = .ok (enc (x / y)) := by
  have n0 : ¬ y.num = 0 := fun z => h0 (Rat.num_eq_zero.mp z)
  have d0 : ¬ ((x.den : Int) * y.num = 0) := by
    have h1 := x.den_nz
    intro z
    rcases Int.mul_eq_zero.mp z with z | z <;> omega
  have d8 : ((x.den : Int) * y.num).natAbs < 2 ^ 8000 := by
    have := mul_lt hx.2 hy.1
    rw [Int.natAbs_mul]
    simpa using this
  unfold ratios_divide
  rw [runF_eq (n := 2) rfl]
  simp [wMul_of (mulND hx hy), wMul_of (mulDN hx hy), make_spec _ _ d8, d0, n0, div_mk']
theorem ratios_divide_zero {x : Rat} : ratios_divide [enc x, enc 0] = .exc X_BadNumber := by
  unfold ratios_divide
  rw [runF_eq (n := 2) rfl]
  simp
end G

end

section
namespace G
open PySem Ev
/-! ### sums, forms as functions -/
def Sg : Nat → (Nat → Rat) → Rat
  | 0, _ => 0
  | i + 1, F => Sg i F + F i
theorem Sg_congr {F F' : Nat → Rat} : ∀ {n : Nat}, (∀ i, i < n → F i = F' i) → Sg n F = Sg n F'
  | 0, _ => rfl
  | n + 1, h => by
    unfold Sg
    rw [Sg_congr fun i hi => h i (by omega), h n (by omega)]
theorem Sg_mul {F : Nat → Rat} {c : Rat} : ∀ {n : Nat}, Sg n (fun i => c * F i) = c * Sg n F
  | 0 => by unfold Sg; grind
  | n + 1 => by unfold Sg; rw [Sg_mul]; grind
theorem Sg_add {F F' : Nat → Rat} : ∀ {n : Nat}, Sg n (fun i => F i + F' i) = Sg n F + Sg n F'
  | 0 => by unfold Sg; grind
  | n + 1 => by unfold Sg; rw [Sg_add]; grind
theorem Sg_first {F : Nat → Rat} : ∀ {n : Nat}, Sg (n + 1) F = F 0 + Sg n (fun i => F (i + 1))
  | 0 => by unfold Sg Sg; grind
  | n + 1 => by rw [Sg, Sg_first, Sg]; grind
/-- the form's value at (u, v) -/
def Hm : List Rat → Rat → Rat → Rat
  | [], _, _ => 0
  | a :: l, u, v => a * u ^ l.length + v * Hm l u v
theorem Hm_nil (u v : Rat) : Hm [] u v = 0 := rfl
theorem Hm_cons (u v a : Rat) (l : List Rat) : Hm (a :: l) u v = a * u ^ l.length + v * Hm l u v := rfl
theorem Sg_zero (F : Nat → Rat) : Sg 0 F = 0 := rfl
theorem Sg_succ (n : Nat) (F : Nat → Rat) : Sg (n + 1) F = Sg n F + F n := rfl
theorem rpow_add (a : Rat) (m : Nat) : ∀ n : Nat, a ^ (m + n) = a ^ m * a ^ n
  | 0 => by rw [Nat.add_zero, Rat.pow_zero]; grind
  | n + 1 => by rw [← Nat.add_assoc, Rat.pow_succ, Rat.pow_succ, rpow_add a m n]; grind
def tm (f : List Rat) (u v : Rat) (k : Nat) : Rat := f.getD k 0 * u ^ (f.length - 1 - k) * v ^ k
theorem Hm_sum (u v : Rat) : ∀ f : List Rat, Hm f u v = Sg f.length (tm f u v)
  | [] => rfl
  | a :: l => by
    rw [List.length_cons, Sg_first]
    unfold Hm
    rw [Hm_sum u v l, ← Sg_mul]
    congr 1
    · simp [tm, Rat.pow_zero]
    · refine Sg_congr fun i hi => ?_
      have e : l.length - (i + 1) = l.length - 1 - i := by omega
      simp only [tm, List.getD_cons_succ, List.length_cons, Nat.add_sub_cancel, Rat.pow_succ, e]
      grind
theorem Hm_set (u v x : Rat) : ∀ (f : List Rat) (k : Nat), k < f.length → Hm (f.set k x) u v = Hm f u v + (x - f.getD k 0) * u ^ (f.length - 1 - k) * v ^ k
  | [], k, h => by simp at h
  | a :: l, 0, _ => by
    simp only [List.set_cons_zero, Hm, List.getD_cons_zero, List.length_cons, Nat.add_sub_cancel, Nat.sub_zero, Rat.pow_zero]
    grind
  | a :: l, k + 1, h => by
    have h' : k < l.length := by simpa using h
    have e : l.length - (k + 1) = l.length - 1 - k := by omega
    simp only [List.set_cons_succ, Hm, List.getD_cons_succ, List.length_cons, Nat.add_sub_cancel, List.length_set, Rat.pow_succ, e]
    rw [Hm_set u v x l k h']
    grind
theorem Hm_zero (u v : Rat) : ∀ n : Nat, Hm (List.replicate n 0) u v = 0
  | 0 => rfl
  | n + 1 => by
    rw [List.replicate_succ]; unfold Hm; rw [Hm_zero u v n]; grind
theorem Hm_add (u v : Rat) : ∀ {f g : List Rat}, f.length = g.length → Hm (List.zipWith (· + ·) f g) u v = Hm f u v + Hm g u v
  | [], [], _ => by simp [Hm]; grind
  | [], _ :: _, h => by simp at h
  | _ :: _, [], h => by simp at h
  | a :: f, b :: g, h => by
    have h' : f.length = g.length := by simpa using h
    simp only [List.zipWith_cons_cons, Hm, List.length_zipWith, h', Nat.min_self]
    rw [Hm_add u v h']
    grind
theorem Hm_scale (u v c : Rat) : ∀ f : List Rat, Hm (f.map (c * ·)) u v = c * Hm f u v
  | [] => by simp [Hm]
  | a :: f => by
    simp only [List.map_cons, Hm, List.length_map]
    rw [Hm_scale u v c f]
    grind
/-! ### one form for one function -/
def Pv : List Rat → Rat → Rat
  | [], _ => 0
  | a :: l, y => a + y * Pv l y
theorem one_pow : ∀ n : Nat, (1 : Rat) ^ n = 1
  | 0 => Rat.pow_zero 1
  | n + 1 => by rw [Rat.pow_succ, one_pow n]; grind
theorem Hm_one (y : Rat) : ∀ f : List Rat, Hm f 1 y = Pv f y
  | [] => rfl
  | a :: l => by unfold Hm Pv; rw [Hm_one y l, one_pow]; grind
/-- division by y - r -/
def Dv (r : Rat) : List Rat → List Rat
  | [] => []
  | [_] => []
  | _ :: b :: l => Pv (b :: l) r :: Dv r (b :: l)
theorem Dv_len (r : Rat) : ∀ l : List Rat, (Dv r l).length = l.length - 1
  | [] => rfl
  | [_] => rfl
  | _ :: b :: l => by unfold Dv; rw [List.length_cons, Dv_len r (b :: l)]; simp
theorem Dv_eq (r y : Rat) : ∀ l : List Rat, Pv l y = Pv l r + (y - r) * Pv (Dv r l) y
  | [] => by simp [Pv, Dv]; grind
  | [a] => by simp [Pv, Dv]; grind
  | a :: b :: l => by
    have ih := Dv_eq r y (b :: l)
    rw [show Pv (a :: b :: l) y = a + y * Pv (b :: l) y from rfl, show Pv (a :: b :: l) r = a + r * Pv (b :: l) r from rfl, show Pv (Dv r (a :: b :: l)) y = Pv (b :: l) r + y * Pv (Dv r (b :: l)) y from rfl, ih]
    grind
theorem Dv_zero (r : Rat) : ∀ l : List Rat, Pv l r = 0 → (∀ q ∈ Dv r l, q = 0) → ∀ q ∈ l, q = 0
  | [], _, _ => by simp
  | [a], h, _ => by
    intro q hq
    have e : q = a := by simpa using hq
    rw [e]
    simp [Pv] at h
    grind
  | a :: b :: l, h, hz => by
    have h1 : Pv (b :: l) r = 0 := hz _ List.mem_cons_self
    have h2 := Dv_zero r (b :: l) h1 fun q hq => hz q (List.mem_cons_of_mem _ hq)
    intro q hq
    rcases List.mem_cons.mp hq with e | e
    · rw [e]
      rw [show Pv (a :: b :: l) r = a + r * Pv (b :: l) r from rfl, h1] at h
      grind
    · exact h2 q e
theorem Pv_zero : ∀ (n : Nat) (l : List Rat), l.length = n → (∀ i : Nat, i < n → Pv l (i : Rat) = 0) → ∀ q ∈ l, q = 0
  | 0, l, hl, _ => by
    rw [List.eq_nil_of_length_eq_zero hl]; simp
  | n + 1, l, hl, h => by
    refine Dv_zero (n : Rat) l (h n (by omega)) (Pv_zero n _ (by rw [Dv_len, hl]; rfl) fun i hi => ?_)
    have e := Dv_eq (n : Rat) (i : Rat) l
    rw [h n (by omega), h i (by omega)] at e
    have ne : (i : Rat) - (n : Rat) ≠ 0 := by
      intro z
      have : (i : Rat) = (n : Rat) := by grind
      have : i = n := by exact_mod_cast this
      omega
    have e' : ((i : Rat) - (n : Rat)) * Pv (Dv (n : Rat) l) (i : Rat) = 0 := by grind
    rcases Rat.mul_eq_zero.mp e' with z | z
    · exact absurd z ne
    · exact z
theorem Pv_sub (y : Rat) : ∀ {f g : List Rat}, f.length = g.length → Pv (List.zipWith (· - ·) f g) y = Pv f y - Pv g y
  | [], [], _ => by simp [Pv]; grind
  | [], _ :: _, h => by simp at h
  | _ :: _, [], h => by simp at h
  | a :: f, b :: g, h => by
    have h' : f.length = g.length := by simpa using h
    simp only [List.zipWith_cons_cons, Pv]
    rw [Pv_sub y h']
    grind
theorem sub_eq : ∀ {f g : List Rat}, f.length = g.length → (∀ q ∈ List.zipWith (· - ·) f g, q = 0) → f = g
  | [], [], _, _ => rfl
  | [], _ :: _, h, _ => by simp at h
  | _ :: _, [], h, _ => by simp at h
  | a :: f, b :: g, h, hz => by
    have h' : f.length = g.length := by simpa using h
    have h1 : a - b = 0 := hz _ (by simp)
    have h2 := sub_eq h' fun q hq => hz q (by simp [hq])
    rw [h2]
    congr 1
    grind
/-- a form is told by its values -/
theorem Hm_ext {f g : List Rat} (hl : f.length = g.length) (h : ∀ u v, Hm f u v = Hm g u v) : f = g := by
  refine sub_eq hl (Pv_zero _ _ rfl fun i _ => ?_)
  rw [Pv_sub _ hl, ← Hm_one, ← Hm_one, h]
  grind
/-! ### bounds -/
def Bd (D A : Nat) (q : Rat) : Prop := ∃ k : Int, q = mkRat k D ∧ k.natAbs ≤ A * D
theorem Bd.add {D A B : Nat} {x y : Rat} (hD : D ≠ 0) (hx : Bd D A x) (hy : Bd D B y) : Bd D (A + B) (x + y) := by
  obtain ⟨k, rfl, hk⟩ := hx
  obtain ⟨m, rfl, hm⟩ := hy
  refine ⟨k + m, ?_, ?_⟩
  · rw [Rat.mkRat_add_mkRat _ _ hD hD, ← Int.add_mul, Rat.mkRat_mul_right hD]
  · rw [Nat.add_mul]; omega
theorem Bd.mul {D E A B : Nat} {x y : Rat} (hx : Bd D A x) (hy : Bd E B y) : Bd (D * E) (A * B) (x * y) := by
  obtain ⟨k, rfl, hk⟩ := hx
  obtain ⟨m, rfl, hm⟩ := hy
  refine ⟨k * m, Rat.mkRat_mul_mkRat _ _ _ _, ?_⟩
  rw [Int.natAbs_mul]
  calc k.natAbs * m.natAbs ≤ (A * D) * (B * E) := Nat.mul_le_mul hk hm
    _ = A * B * (D * E) := by grind
theorem Bd.neg {D A : Nat} {x : Rat} (hx : Bd D A x) : Bd D A (-x) := by
  obtain ⟨k, rfl, hk⟩ := hx
  exact ⟨-k, Rat.neg_mkRat _ _, by rw [Int.natAbs_neg]; exact hk⟩
theorem Bd.le {D A B : Nat} {x : Rat} (hx : Bd D A x) (h : A ≤ B) : Bd D B x := by
  obtain ⟨k, e, hk⟩ := hx
  exact ⟨k, e, Nat.le_trans hk (Nat.mul_le_mul_right _ h)⟩
theorem Bd.up {D A : Nat} {x : Rat} (m : Nat) (hm : m ≠ 0) (hx : Bd D A x) : Bd (D * m) A x := by
  obtain ⟨k, e, hk⟩ := hx
  refine ⟨k * m, ?_, ?_⟩
  · rw [e, Rat.mkRat_mul_right hm]
  · rw [Int.natAbs_mul, ← Nat.mul_assoc]
    exact Nat.mul_le_mul hk (by simp)
theorem Bd.zero {D A : Nat} : Bd D A 0 := ⟨0, by simp, by simp⟩
theorem Bd.one {D A : Nat} (hD : D ≠ 0) (hA : 1 ≤ A) : Bd D A 1 := by
  refine ⟨D, ?_, ?_⟩
  · have := Rat.mkRat_mul_left (n := 1) (d := 1) hD
    simp at this
    rw [this]
    rfl
  · simp
    exact Nat.le_mul_of_pos_left _ hA
theorem Bd.ok {D A : Nat} {x : Rat} (hx : Bd D A x) (hD : D ≠ 0) (h1 : A * D < 2 ^ 4000) (h2 : D < 2 ^ 4000) : Ok x := by
  obtain ⟨k, rfl, hk⟩ := hx
  refine ⟨?_, ?_⟩
  · rw [Rat.num_mkRat, if_neg hD]
    refine Nat.lt_of_le_of_lt ?_ (Nat.lt_of_le_of_lt hk h1)
    rw [Int.natAbs_ediv_of_dvd (Int.ofNat_dvd_left.mpr (Nat.gcd_dvd_right _ _))]
    simp only [Int.natAbs_natCast]
    exact Nat.div_le_self _ _
  · rw [Rat.den_mkRat, if_neg hD]
    exact Nat.lt_of_le_of_lt (Nat.div_le_self _ _) h2
def FB (D A : Nat) (f : List Rat) : Prop := ∀ q ∈ f, Bd D A q
end G

end

section
namespace G
open PySem Ev
/-! ### loops -/
theorem for_pred {g : Gw} {body : Sv} {t : Tp} (Inv : Nat → Sl → Prop) : ∀ (items : List W) (i : Nat) (ρ : Sl), Inv i ρ → (∀ j w ρ, items[j]? = some w → Inv (i + j) ρ → ∃ ρ1 ρ2, g w ρ = some ρ1 ∧ body ρ1 t = .next ρ2 t ∧ Inv (i + j + 1) ρ2) →
    ∃ ρ', forL g body items ρ t = .next ρ' t ∧ Inv (i + items.length) ρ'
  | [], i, ρ, h0, _ => ⟨ρ, rfl, h0⟩
  | w :: ws, i, ρ, h0, h => by
    obtain ⟨ρ1, ρ2, e1, e2, h2⟩ := h 0 w ρ rfl h0
    obtain ⟨ρ', e3, h3⟩ := for_pred Inv ws (i + 1) ρ2 h2 fun j w' ρ hj hI => by
      have e : i + 1 + j = i + (j + 1) := by omega
      rw [e] at hI ⊢
      exact h (j + 1) w' ρ (by simpa using hj) hI
    refine ⟨ρ', ?_, by rw [List.length_cons]; have e : i + (ws.length + 1) = i + 1 + ws.length := by omega
                       rw [e]; exact h3⟩
    show (match g w ρ with | none => _ | some ρ1 => sThen body (forL g body ws) ρ1 t) = _
    rw [e1]
    show sThen body (forL g body ws) ρ1 t = _
    rw [then_next e2, e3]
/-- with the source -/
theorem sfor_pred {src : Exs} {g : Gw} {body : Sv} {t : Tp} {items : List W} (Inv : Nat → Sl → Prop) (ρ : Sl) (hs : src ρ t = .ok items t) (h0 : Inv 0 ρ) (h : ∀ j w ρ, items[j]? = some w → Inv j ρ → ∃ ρ1 ρ2, g w ρ = some ρ1 ∧ body ρ1 t = .next ρ2 t ∧ Inv (j + 1) ρ2) :
    ∃ ρ', sFor src g body ρ t = .next ρ' t ∧ Inv items.length ρ' := by
  obtain ⟨ρ', e, hI⟩ := for_pred (t := t) (body := body) (g := g) Inv items 0 ρ h0 fun j w ρ hj hI => by
    rw [Nat.zero_add] at hI ⊢
    exact h j w ρ hj hI
  rw [Nat.zero_add] at hI
  refine ⟨ρ', ?_, hI⟩
  rw [s_sFor, hs]
  exact e
theorem lc_all {α : Type} {g : Gw} {tt : Et} {te : Ex} {t : Tp} {ρ : Sl} (e F : α → W) (p : α → Bool) : ∀ xs : List α, (∀ x ∈ xs, ∃ ρ1, g (e x) ρ = some ρ1 ∧ tt ρ1 t = .ok (p x) t ∧ (p x = true → te ρ1 t = .ok (F x) t)) → lcL g tt te (xs.map e) ρ t = .ok ((xs.filter p).map F) t
  | [], _ => rfl
  | x :: xs, h => by
    obtain ⟨ρ1, e1, e2, e3⟩ := h x List.mem_cons_self
    have ih := lc_all (g := g) (tt := tt) (te := te) (t := t) (ρ := ρ) e F p xs fun y hy => h y (List.mem_cons_of_mem _ hy)
    show (match g (e x) ρ with | none => _ | some ρ1 => (noexc (tt ρ1 t)).bind fun b t1 => if b = true then (noexc (te ρ1 t1)).bind fun w t2 => (lcL g tt te (xs.map e) ρ t2).bind fun ws t3 => .ok (w :: ws) t3 else lcL g tt te (xs.map e) ρ t1) = _
    rw [e1]
    show (noexc (tt ρ1 t)).bind _ = _
    rw [e2]
    by_cases c : p x = true
    · simp [c, e3 c, ih]
    · have c' : p x = false := by simpa using c
      simp [c', ih]
theorem lc_map {α : Type} {g : Gw} {te : Ex} {t : Tp} {ρ : Sl} (e F : α → W) (xs : List α) (h : ∀ x ∈ xs, ∃ ρ1, g (e x) ρ = some ρ1 ∧ te ρ1 t = .ok (F x) t) : lcL g etYes te (xs.map e) ρ t = .ok (xs.map F) t := by
  have := lc_all (g := g) (tt := etYes) (te := te) (t := t) (ρ := ρ) e F (fun _ => true) xs fun x hx => by
    obtain ⟨ρ1, e1, e2⟩ := h x hx
    exact ⟨ρ1, e1, rfl, fun _ => e2⟩
  rw [this, List.filter_eq_self.mpr fun _ _ => rfl]
theorem few_1M {ws : List W} (h : ws.length ≤ 1000000) : few1M ws = true := decide_eq_true h
/-! ### items -/
@[simp] theorem pairW_len : ∀ (as bs : List W), (pairW as bs).length = min as.length bs.length := by
  intro as bs
  induction as generalizing bs with
  | nil => cases bs <;> simp [pairW]
  | cons a as ih => cases bs <;> simp [pairW, ih] <;> omega
theorem pairW_get : ∀ (as bs : List W) (i : Nat) (a b : W), as[i]? = some a → bs[i]? = some b → (pairW as bs)[i]? = some (.tuple [a, b]) := by
  intro as
  induction as with
  | nil => intro bs i a b h; simp at h
  | cons x as ih =>
    intro bs i a b h1 h2
    cases bs with
    | nil => simp at h2
    | cons y bs =>
      cases i with
      | zero => simp at h1 h2; subst h1 h2; rfl
      | succ i => exact ih bs i a b (by simpa using h1) (by simpa using h2)
end G

end

section
namespace G
open PySem Ev
/-! ### items of forms -/
theorem enum_eq {α : Type} (e : α → W) (xs : List α) : pairW (rngW 0 1 xs.length) (xs.map e) = xs.zipIdx.map fun p => .tuple [.int (p.2 : Int), e p.1] := by
  unfold pairW rngW
  apply List.ext_getElem?
  intro i
  by_cases h : i < xs.length
  · simp [List.getElem?_map, List.zip, List.getElem?_zipWith, h, List.getElem?_zipIdx]
  · simp [List.getElem?_map, List.zip, List.getElem?_zipWith, h, List.getElem?_zipIdx]
theorem zip_eq {α β : Type} (e : α → W) (e' : β → W) (xs : List α) (ys : List β) : pairW (xs.map e) (ys.map e') = (xs.zip ys).map fun p => .tuple [e p.1, e' p.2] := by
  unfold pairW
  rw [List.zip_map, List.map_map]
  rfl
theorem rng_eq (n : Nat) : rngW 0 1 n = (List.range n).map fun i : Nat => (.int (i : Int) : W) := by
  unfold rngW
  simp
theorem small62_of {i : Int} (h1 : -1000000 ≤ i) (h2 : i ≤ 1000000) : small62 i = true := by
  unfold small62
  simp
  omega
theorem gRng1_nat {n : Nat} (h : n ≤ 1000) : gRng1 [.int (n : Int)] = some ((List.range n).map fun i : Nat => (.int (i : Int) : W)) := by
  show (if small62 (n : Int) = true then some (rngW 0 1 (n : Int).toNat) else none) = _
  rw [if_pos (small62_of (by omega) (by omega)), ← rng_eq]
  simp
theorem ixN_nat {n k : Nat} (h : k < n) : L2.ixN n (k : Int) = some k := by
  unfold L2.ixN
  rw [if_pos (by omega), if_pos (by omega)]
  rfl
theorem idxL {l : List Rat} {k : Nat} (h : k < l.length) : wIdx (.list (l.map enc)) (.int (k : Int)) = some (enc (l.getD k 0)) := by
  show L2.atI (l.map enc) (k : Int) = _
  unfold L2.atI
  rw [List.length_map, ixN_nat h]
  simp [h, List.getElem?_map]
theorem idxF {l : List Rat} {k : Nat} (h : k < l.length) : wIdx (encF l) (.int (k : Int)) = some (enc (l.getD k 0)) := by
  show L2.atI (l.map enc) (k : Int) = _
  unfold L2.atI
  rw [List.length_map, ixN_nat h]
  simp [h, List.getElem?_map]
theorem putL {l : List Rat} {k : Nat} {x : Rat} (h : k < l.length) : wPut (.list (l.map enc)) (.int (k : Int)) (enc x) = some (.list ((l.set k x).map enc)) := by
  show (L2.ixN (l.map enc).length (k : Int)).map _ = _
  rw [List.length_map, ixN_nat h]
  simp [List.map_set]
theorem rep_map (n : Nat) : (List.replicate n (enc 0)) = (List.replicate n (0 : Rat)).map enc := by simp
theorem enc_inj {x y : Rat} : enc x = enc y ↔ x = y := by
  constructor
  · intro h
    have h1 : x.num = y.num ∧ (x.den : Int) = (y.den : Int) := by
      unfold enc at h
      simpa using h
    exact Rat.ext h1.1 (by omega)
  · intro h; rw [h]
theorem eqv_enc (x y : Rat) : PyData.eqv (enc x) (enc y) = decide (x = y) := by
  show (x.num == y.num && ((x.den : Int) == (y.den : Int) && true)) = _
  by_cases h : x = y
  · subst h; simp
  · rw [decide_eq_false h]
    by_cases h1 : x.num = y.num
    · have : ¬ x.den = y.den := fun z => h (Rat.ext h1 z)
      simp [this]
      intro _; omega
    · simp [h1]
theorem shaped_enc (x : Rat) : SeqAt.shaped (enc x) = true := rfl
theorem wEq_enc (x y : Rat) : wEq (enc x) (enc y) = some (.bool (decide (x = y))) := by
  unfold wEq
  rw [shaped_enc, shaped_enc, eqv_enc]; rfl
theorem wNe_enc (x y : Rat) : wNe (enc x) (enc y) = some (.bool (!decide (x = y))) := by
  unfold wNe
  rw [shaped_enc, shaped_enc, eqv_enc]; rfl
@[simp] theorem wNe_zero (x : Rat) : wNe (enc x) (.tuple [.int 0, .int 1]) = some (.bool (!decide (x = 0))) := wNe_enc x 0
@[simp] theorem wEq_zero (x : Rat) : wEq (enc x) (.tuple [.int 0, .int 1]) = some (.bool (decide (x = 0))) := wEq_enc x 0
@[simp] theorem lenF (f : List Rat) : gLen [encF f] = some (.int f.length) := by
  unfold encF; rw [s_gLen_t, List.length_map]
@[simp] theorem seqF (f : List Rat) : wSeq (encF f) = some (f.map enc) := rfl
theorem FB.get {D A : Nat} {f : List Rat} (h : FB D A f) (k : Nat) : Bd D A (f.getD k 0) := by
  by_cases c : k < f.length
  · rw [List.getD_eq_getElem?_getD, List.getElem?_eq_getElem c]
    exact h _ (List.getElem_mem c)
  · rw [List.getD_eq_getElem?_getD, List.getElem?_eq_none (by omega)]
    exact Bd.zero
theorem FB.set {D A : Nat} {f : List Rat} (h : FB D A f) {k : Nat} {x : Rat} (hx : Bd D A x) : FB D A (f.set k x) := fun q hq => by
  rcases List.mem_or_eq_of_mem_set hq with z | z
  · exact h q z
  · rw [z]; exact hx
theorem FB.le {D A B : Nat} {f : List Rat} (h : FB D A f) (hab : A ≤ B) : FB D B f := fun q hq => (h q hq).le hab
/-- small numbers -/
structure Sz (D A : Nat) : Prop where
  d0 : D ≠ 0
  d : D < 2 ^ 1900
  a : A < 2 ^ 1900
theorem Sz.ok {D A : Nat} (s : Sz D A) {x : Rat} (h : Bd D A x) : Ok x := by
  refine h.ok s.d0 ?_ (Nat.lt_trans s.d (Nat.pow_lt_pow_right (by decide) (by decide)))
  have := mul_lt s.a s.d
  exact Nat.lt_trans this (Nat.pow_lt_pow_right (by decide) (by decide))
theorem Sz.le {D A B : Nat} (s : Sz D A) (h : B ≤ A) : Sz D B := ⟨s.d0, s.d, Nat.lt_of_le_of_lt h s.a⟩
/-! ### products -/
def cv : List Rat → List Rat → List Rat
  | [], g => List.replicate (g.length - 1) 0
  | a :: f, g => List.zipWith (· + ·) (g.map (a * ·) ++ List.replicate f.length 0) (0 :: cv f g)
theorem cv_len {g : List Rat} (hg : 0 < g.length) : ∀ f : List Rat, (cv f g).length = f.length + g.length - 1
  | [] => by simp [cv]
  | a :: f => by
    unfold cv
    rw [List.length_zipWith, List.length_append, List.length_map, List.length_replicate, List.length_cons, cv_len hg f, List.length_cons]
    omega
theorem Hm_pad (u v : Rat) (n : Nat) : ∀ g : List Rat, Hm (g ++ List.replicate n 0) u v = Hm g u v * u ^ n
  | [] => by rw [List.nil_append, Hm_zero, Hm_nil]; grind
  | a :: g => by
    rw [List.cons_append, Hm_cons, Hm_cons]
    rw [Hm_pad u v n g, List.length_append, List.length_replicate, rpow_add]
    grind
theorem Hm_cv (u v : Rat) {g : List Rat} (hg : 0 < g.length) : ∀ f : List Rat, Hm (cv f g) u v = Hm f u v * Hm g u v
  | [] => by unfold cv; rw [Hm_zero, Hm_nil]; grind
  | a :: f => by
    unfold cv
    rw [Hm_add u v (by rw [List.length_append, List.length_map, List.length_replicate, List.length_cons, cv_len hg f]; omega), Hm_pad, Hm_scale, Hm_cons, Hm_cons, Hm_cv u v hg f]
    grind
theorem tm_mul {f g : List Rat} {u v : Rat} {i j : Nat} (hi : i < f.length) (hj : j < g.length) : tm f u v i * tm g u v j = (f.getD i 0 * g.getD j 0) * u ^ (f.length + g.length - 1 - 1 - (i + j)) * v ^ (i + j) := by
  unfold tm
  have e : f.length + g.length - 1 - 1 - (i + j) = (f.length - 1 - i) + (g.length - 1 - j) := by omega
  rw [e, rpow_add, rpow_add]
  grind
theorem forms_multiply_spec {f g : List Rat} {D E A B : Nat} (hf : FB D A f) (hg : FB E B g) (lf : 0 < f.length) (lg : 0 < g.length) (hl : f.length + g.length ≤ 26) (s1 : Sz D A) (s2 : Sz E B) (s : Sz (D * E) (625 * (A * B))) :
    forms_multiply [encF f, encF g] = .ok (encF (cv f g)) ∧ FB (D * E) (625 * (A * B)) (cv f g) := by
  unfold forms_multiply
  rw [runF_eq (n := 2) rfl]
  have m0 : ((f.length : Int) + (g.length : Int) - 1) = ((f.length + g.length - 1 : Nat) : Int) := by omega
  have e1 : sIf (eTest (eBin wGt (eBin wSub (eBin wAdd (eCallB gLen (eCons (eVar 0) eNil)) (eCallB gLen (eCons (eVar 1) eNil))) (eC (.int (1)))) (eBin wAdd (eC (.int (24))) (eC (.int (1)))))) (sRaise X_BadForm) sNext (startW 7 [encF f, encF g]) none = .next [some (encF f), some (encF g), none, none, none, none, none] none := by
    simp
    omega
  rw [then_next e1]
  have e2 : sSet 2 (eBin wMulL (eLst (eCons (eC (.tuple [(.int (0)), (.int (1))])) eNil)) (eBin wSub (eBin wAdd (eCallB gLen (eCons (eVar 0) eNil)) (eCallB gLen (eCons (eVar 1) eNil))) (eC (.int (1))))) [some (encF f), some (encF g), none, none, none, none, none] none = .next [some (encF f), some (encF g), some (.list ((List.replicate (f.length + g.length - 1) (0 : Rat)).map enc)), none, none, none, none] none := by
    have c : (-1000000 ≤ (f.length : Int) + (g.length : Int) - 1 ∧ (f.length : Int) + (g.length : Int) - 1 ≤ 1000000) ∧ 1 * ((f.length : Int) + (g.length : Int) - 1).toNat ≤ 16777216 := by omega
    have n0 : ((f.length : Int) + (g.length : Int) - 1).toNat = f.length + g.length - 1 := by omega
    have q : wMulL (.list [.tuple [.int 0, .int 1]]) (.int ((f.length : Int) + (g.length : Int) - 1)) = some (.list ((List.replicate (f.length + g.length - 1) (0 : Rat)).map enc)) := by
      show (if (-1000000 ≤ (f.length : Int) + (g.length : Int) - 1 ∧ (f.length : Int) + (g.length : Int) - 1 ≤ 1000000) ∧ 1 * ((f.length : Int) + (g.length : Int) - 1).toNat ≤ 16777216 then _ else _) = _
      rw [if_pos c, n0, ← rep_map]
      congr 2
      rw [enc_zero]
      generalize f.length + g.length - 1 = n
      induction n with
      | zero => rfl
      | succ n ih => rw [List.replicate_succ, List.flatten_cons, ih, List.replicate_succ]; rfl
    simp [q]
  rw [then_next e2]
  have hdd : D * E ≠ 0 := s.d0
  obtain ⟨ρ', e3, l, a3, a4, a5, a6, rfl, hlen, hFB, hHm⟩ := sfor_pred (t := none) (src := sEnum (eVar 0)) (g := gTp (gsC (gN 3) (gsC (gN 4) gsN))) (items := f.zipIdx.map fun p => .tuple [.int (p.2 : Int), enc p.1])
    (body := sIf (eTest (eBin wNe (eVar 4) (eC (.tuple [(.int (0)), (.int (1))])))) (sFor (sEnum (eVar 1)) (gTp (gsC (gN 5) (gsC (gN 6) gsN))) (sPut 2 (eBin wAdd (eVar 3) (eVar 5)) (eCall ratios_add (eCons (eBin wIdx (eVar 2) (eBin wAdd (eVar 3) (eVar 5))) (eCons (eCall ratios_multiply (eCons (eVar 4) (eCons (eVar 6) eNil))) eNil))))) sNext)
    (fun i ρ => ∃ (l : List Rat) (a3 a4 a5 a6 : Option W), ρ = [some (encF f), some (encF g), some (.list (l.map enc)), a3, a4, a5, a6] ∧ l.length = f.length + g.length - 1 ∧ FB (D * E) (i * g.length * (A * B)) l ∧ ∀ u v, Hm l u v = Sg i (tm f u v) * Hm g u v)
    [some (encF f), some (encF g), some (.list ((List.replicate (f.length + g.length - 1) (0 : Rat)).map enc)), none, none, none, none]
    (by simp [enum_eq]) ⟨_, none, none, none, none, rfl, by simp, fun q hq => by rw [List.eq_of_mem_replicate hq]; exact Bd.zero, fun u v => by rw [Hm_zero, Sg_zero]; grind⟩
    fun i w ρ hw ⟨l, a3, a4, a5, a6, e, hlen, hFB, hHm⟩ => by
      subst e
      obtain ⟨hi, rfl⟩ : ∃ hi : i < f.length, w = .tuple [.int (i : Int), enc (f.getD i 0)] := by
        rw [List.getElem?_map, List.getElem?_zipIdx] at hw
        by_cases hi : i < f.length
        · refine ⟨hi, ?_⟩
          rw [List.getElem?_eq_getElem hi] at hw
          simp at hw
          rw [← hw, List.getD_eq_getElem?_getD, List.getElem?_eq_getElem hi]; rfl
        · rw [List.getElem?_eq_none (by omega)] at hw; simp at hw
      refine ⟨[some (encF f), some (encF g), some (.list (l.map enc)), some (.int (i : Int)), some (enc (f.getD i 0)), a5, a6], ?_⟩
      by_cases z : f.getD i 0 = 0
      · refine ⟨[some (encF f), some (encF g), some (.list (l.map enc)), some (.int (i : Int)), some (enc (f.getD i 0)), a5, a6], by simp, by simp only [s_sIf, s_eTest, s_eBin, s_eVar, s_eC, s_bind_ok, List.getElem?_cons_succ, List.getElem?_cons_zero, wNe_zero, s_rOf_some, s_wB, s_toS_ok, decide_eq_true z, Bool.not_true, Bool.false_eq_true, if_false, s_sNext], l, _, _, _, _, rfl, hlen, hFB.le (Nat.mul_le_mul_right _ (Nat.mul_le_mul_right _ (by omega))), fun u v => ?_⟩
        rw [hHm, Sg_succ]
        have : tm f u v i = 0 := by unfold tm; rw [z]; grind
        rw [this]; grind
      · obtain ⟨ρ2, e4, l', a5', a6', rfl, hlen', hFB', hHm'⟩ := sfor_pred (t := none) (src := sEnum (eVar 1)) (g := gTp (gsC (gN 5) (gsC (gN 6) gsN))) (items := g.zipIdx.map fun p => .tuple [.int (p.2 : Int), enc p.1])
          (body := sPut 2 (eBin wAdd (eVar 3) (eVar 5)) (eCall ratios_add (eCons (eBin wIdx (eVar 2) (eBin wAdd (eVar 3) (eVar 5))) (eCons (eCall ratios_multiply (eCons (eVar 4) (eCons (eVar 6) eNil))) eNil))))
          (fun j ρ => ∃ (l' : List Rat) (a5 a6 : Option W), ρ = [some (encF f), some (encF g), some (.list (l'.map enc)), some (.int (i : Int)), some (enc (f.getD i 0)), a5, a6] ∧ l'.length = f.length + g.length - 1 ∧ FB (D * E) ((i * g.length + j) * (A * B)) l' ∧ ∀ u v, Hm l' u v = Sg i (tm f u v) * Hm g u v + tm f u v i * Sg j (tm g u v))
          [some (encF f), some (encF g), some (.list (l.map enc)), some (.int (i : Int)), some (enc (f.getD i 0)), a5, a6]
          (by simp [enum_eq]) ⟨l, a5, a6, rfl, hlen, hFB, fun u v => by rw [hHm, Sg_zero]; grind⟩
          fun j w ρ hw ⟨l', a5, a6, e, hlen', hFB', hHm'⟩ => by
            subst e
            obtain ⟨hj, rfl⟩ : ∃ hj : j < g.length, w = .tuple [.int (j : Int), enc (g.getD j 0)] := by
              rw [List.getElem?_map, List.getElem?_zipIdx] at hw
              by_cases hj : j < g.length
              · refine ⟨hj, ?_⟩
                rw [List.getElem?_eq_getElem hj] at hw
                simp at hw
                rw [← hw, List.getD_eq_getElem?_getD, List.getElem?_eq_getElem hj]; rfl
              · rw [List.getElem?_eq_none (by omega)] at hw; simp at hw
            have hij : i + j < l'.length := by omega
            have cnt : (i * g.length + j) + 1 ≤ 625 := by
              have h1 : i * g.length ≤ 24 * 25 := Nat.mul_le_mul (by omega) (by omega)
              omega
            have bf := hf.get i
            have bg := hg.get j
            have bl := hFB'.get (i + j)
            have ok1 : Ok (f.getD i 0) := s1.ok bf
            have ok2 : Ok (g.getD j 0) := s2.ok bg
            have bp := bf.mul bg
            have ok3 : Ok (f.getD i 0 * g.getD j 0) := (s.le (Nat.le_mul_of_pos_left _ (by omega))).ok bp
            have ok4 : Ok (l'.getD (i + j) 0) := (s.le (Nat.mul_le_mul_right _ (by omega))).ok bl
            have bn : Bd (D * E) ((i * g.length + j + 1) * (A * B)) (l'.getD (i + j) 0 + f.getD i 0 * g.getD j 0) := by
              have := bl.add hdd bp
              rw [Nat.add_mul _ 1, Nat.one_mul]
              exact this
            refine ⟨[some (encF f), some (encF g), some (.list (l'.map enc)), some (.int (i : Int)), some (enc (f.getD i 0)), some (.int (j : Int)), some (enc (g.getD j 0))], [some (encF f), some (encF g), some (.list ((l'.set (i + j) (l'.getD (i + j) 0 + f.getD i 0 * g.getD j 0)).map enc)), some (.int (i : Int)), some (enc (f.getD i 0)), some (.int (j : Int)), some (enc (g.getD j 0))], by simp, ?_, _, _, _, rfl, by rw [List.length_set]; exact hlen', ?_, fun u v => ?_⟩
            · have ij : (i : Int) + (j : Int) = ((i + j : Nat) : Int) := by omega
              simp only [s_sPut, s_eCall, s_eCons, s_eBin, s_eVar, s_eNil, s_bind_ok, List.getElem?_cons_succ, List.getElem?_cons_zero, s_wAdd_int, s_rOf_some, ij, idxL hij, ratios_multiply_spec ok1 ok2, s_fR_ok, ratios_add_spec ok4 ok3, s_toS_ok, putL hij]
              simp
            · exact FB.set (hFB'.le (Nat.mul_le_mul_right _ (by omega))) bn
            · rw [Hm_set u v _ l' (i + j) hij, hHm', Sg_succ, hlen']
              have := tm_mul (f := f) (g := g) (u := u) (v := v) hi hj
              grind
        refine ⟨_, by simp, by simp only [s_sIf, s_eTest, s_eBin, s_eVar, s_eC, s_bind_ok, List.getElem?_cons_succ, List.getElem?_cons_zero, wNe_zero, s_rOf_some, s_wB, s_toS_ok, decide_eq_false z, Bool.not_false, if_true]; exact e4, l', _, _, _, _, rfl, hlen', ?_, fun u v => ?_⟩
        · have e : (i + 1) * g.length = i * g.length + (List.map (fun p => (PyData.tuple [.int (p.2 : Int), enc p.1] : W)) g.zipIdx).length := by
            rw [List.length_map, List.length_zipIdx, Nat.add_mul, Nat.one_mul]
          rw [e]; exact hFB'
        · rw [hHm', Sg_succ, Hm_sum u v g, List.length_map, List.length_zipIdx]
          grind
  have el : l = cv f g := Hm_ext (by rw [hlen, cv_len lg]) fun u v => by
    rw [hHm, Hm_cv u v lg, Hm_sum u v f, List.length_map, List.length_zipIdx]
  rw [then_next e3]
  subst el
  refine ⟨by simp [encF], hFB.le (Nat.mul_le_mul_right _ ?_)⟩
  rw [List.length_map, List.length_zipIdx]
  exact Nat.le_trans (Nat.mul_le_mul (show f.length ≤ 25 by omega) (show g.length ≤ 25 by omega)) (by decide)
end G

end

section
namespace G
open PySem Ev
theorem rng_len {f : List Rat} {ρ : Sl} {i : Nat} {t : Tp} (h : ρ[i]? = some (some (encF f))) (hl : f.length ≤ 1000) : sRng gRng1 (eCons (eCallB gLen (eCons (eVar i) eNil)) eNil) ρ t = .ok ((List.range f.length).map fun i : Nat => (.int (i : Int) : W)) t := by
  simp only [s_sRng, s_eCons, s_eCallB, eVar_of t h, s_eNil, s_bind_ok, lenF, s_rOf_some, gRng1_nat hl]
/-! ### sums, multiples -/
theorem map_zip (op : Rat → Rat → Rat) : ∀ (f g : List Rat), (f.zip g).map (fun p => enc (op p.1 p.2)) = (List.zipWith op f g).map enc
  | [], g => by simp
  | a :: f, [] => by simp
  | a :: f, b :: g => by
    have := map_zip op f g
    simp only [List.zip_cons_cons, List.map_cons, List.zipWith_cons_cons, this]
theorem zip_mem {f g : List Rat} {p : Rat × Rat} (h : p ∈ f.zip g) : p.1 ∈ f ∧ p.2 ∈ g := ⟨(List.of_mem_zip h).1, (List.of_mem_zip h).2⟩
theorem plus_FB {f g : List Rat} {D A B : Nat} (hD : D ≠ 0) (hf : FB D A f) (hg : FB D B g) : FB D (A + B) (List.zipWith (· + ·) f g) := fun q hq => by
  rw [List.mem_iff_getElem] at hq
  obtain ⟨i, hi, rfl⟩ := hq
  rw [List.getElem_zipWith]
  exact (hf _ (List.getElem_mem _)).add hD (hg _ (List.getElem_mem _))
end G

end

section
namespace G
open PySem Ev
theorem forms_add_spec {f g : List Rat} {D A B : Nat} (hf : FB D A f) (hg : FB D B g) (hl : f.length = g.length) (h25 : f.length ≤ 100) (s1 : Sz D A) (s2 : Sz D B) :
    forms_add [encF f, encF g] = .ok (encF (List.zipWith (· + ·) f g)) ∧ FB D (A + B) (List.zipWith (· + ·) f g) := by
  refine ⟨?_, plus_FB s1.d0 hf hg⟩
  unfold forms_add
  rw [runF_eq (n := 2) rfl]
  have e1 : lcL (gTp (gsC (gN 2) (gsC (gN 3) gsN))) etYes (eCall ratios_add (eCons (eVar 2) (eCons (eVar 3) eNil))) (pairW (f.map enc) (g.map enc)) [some (encF f), some (encF g), none, none] none = .ok ((List.zipWith (· + ·) f g).map enc) none := by
    rw [zip_eq, ← map_zip]
    refine lc_map _ _ _ fun p hp => ⟨[some (encF f), some (encF g), some (enc p.1), some (enc p.2)], by simp, ?_⟩
    obtain ⟨h1, h2⟩ := zip_mem hp
    simp [ratios_add_spec (s1.ok (hf _ h1)) (s2.ok (hg _ h2))]
  have fw : few1M (pairW (f.map enc) (g.map enc)) = true := few_1M (by rw [zip_eq]; simp; omega)
  have b0 : ((f.length : Int) == (g.length : Int)) = true := by rw [hl]; simp
  simp only [encF] at e1 ⊢
  simp [fw, wipeW, e1, hl]
theorem scale_FB {f : List Rat} {c : Rat} {D A E B : Nat} (hf : FB D A f) (hc : Bd E B c) : FB (E * D) (B * A) (f.map (c * ·)) := fun q hq => by
  obtain ⟨x, hx, rfl⟩ := List.mem_map.mp hq
  exact hc.mul (hf _ hx)
theorem forms_scaled_spec {f : List Rat} {c : Rat} {D A E B : Nat} (hf : FB D A f) (hc : Bd E B c) (h25 : f.length ≤ 100) (s1 : Sz D A) (s2 : Sz E B) :
    forms_scaled [enc c, encF f] = .ok (encF (f.map (c * ·))) ∧ FB (E * D) (B * A) (f.map (c * ·)) := by
  refine ⟨?_, scale_FB hf hc⟩
  unfold forms_scaled
  rw [runF_eq (n := 2) rfl]
  have e1 : lcL (gN 2) etYes (eCall ratios_multiply (eCons (eVar 0) (eCons (eVar 2) eNil))) (f.map enc) [some (enc c), some (encF f), none] none = .ok (f.map fun q => enc (c * q)) none := by
    refine lc_map _ _ _ fun p hp => ⟨[some (enc c), some (encF f), some (enc p)], by simp, ?_⟩
    simp [ratios_multiply_spec (s2.ok hc) (s1.ok (hf _ hp))]
  have fw : few1M (f.map enc) = true := few_1M (by simp; omega)
  simp only [encF] at e1 ⊢
  simp [fw, wipeW, e1]
theorem enc_int (i : Int) : enc (i : Rat) = .tuple [.int i, .int 1] := rfl
theorem enc_neg1 : (.tuple [.int (-1), .int 1] : W) = enc (-1) := rfl
theorem Bd.int {D A : Nat} (i : Int) (hD : D ≠ 0) (h : i.natAbs ≤ A) : Bd D A (i : Rat) := by
  refine ⟨i * D, ?_, ?_⟩
  · have := Rat.mkRat_mul_right (n := i) (d := 1) hD
    rw [Nat.one_mul] at this
    rw [this]
    exact (Rat.mkRat_self (i : Rat)).symm
  · rw [Int.natAbs_mul]
    exact Nat.mul_le_mul h (by simp)
theorem Bd.m1 : Bd 1 1 (-1) := by
  have := Bd.int (D := 1) (A := 1) (-1) (by decide) (by decide)
  exact this
/-! ### powers -/
def pw (f : List Rat) : Nat → List Rat
  | 0 => [1]
  | n + 1 => cv (pw f n) f
theorem pw_len {f : List Rat} (hf : 0 < f.length) : ∀ n : Nat, (pw f n).length = n * (f.length - 1) + 1
  | 0 => by simp [pw]
  | n + 1 => by
    unfold pw
    rw [cv_len hf, pw_len hf n, Nat.add_mul]
    omega
theorem Hm_pw (u v : Rat) {f : List Rat} (hf : 0 < f.length) : ∀ n : Nat, Hm (pw f n) u v = Hm f u v ^ n
  | 0 => by
    show Hm [1] u v = _
    rw [Hm_cons, Hm_nil, Rat.pow_zero, List.length_nil, Rat.pow_zero]
    grind
  | n + 1 => by
    show Hm (cv (pw f n) f) u v = _
    rw [Hm_cv u v hf, Hm_pw u v hf n, Rat.pow_succ]
theorem enc1F : (.tuple [.tuple [.int 1, .int 1]] : W) = encF [1] := rfl
theorem FB.one {D A : Nat} (hD : D ≠ 0) (hA : 1 ≤ A) : FB D A [1] := fun q hq => by
  rw [List.mem_singleton.mp hq]
  exact Bd.one hD hA
/-- sizes of powers -/
structure Szp (D A N : Nat) : Prop where
  b : Sz D A
  s : ∀ n, n ≤ N → Sz (D ^ n) ((625 * A) ^ n)
theorem pb1 {D n : Nat} : D ^ n * D = D ^ (n + 1) := by rw [Nat.pow_succ]
theorem pb2 {A n : Nat} : 625 * ((625 * A) ^ n * A) = (625 * A) ^ (n + 1) := by rw [Nat.pow_succ]; grind
end G

end

section
namespace G
open PySem Ev
theorem rng_item {n i : Nat} {w : W} (hw : ((List.range n).map fun i : Nat => (.int (i : Int) : W))[i]? = some w) : i < n ∧ w = .int (i : Int) := by
  rw [List.getElem?_map] at hw
  by_cases hi : i < n
  · refine ⟨hi, ?_⟩
    rw [List.getElem?_range hi] at hw
    simpa using hw.symm
  · rw [List.getElem?_eq_none (by simpa using hi)] at hw; simp at hw
theorem enum_item {f : List Rat} {i : Nat} {w : W} (hw : (f.zipIdx.map fun p => (.tuple [.int (p.2 : Int), enc p.1] : W))[i]? = some w) : i < f.length ∧ w = .tuple [.int (i : Int), enc (f.getD i 0)] := by
  rw [List.getElem?_map, List.getElem?_zipIdx] at hw
  by_cases hi : i < f.length
  · refine ⟨hi, ?_⟩
    rw [List.getElem?_eq_getElem hi] at hw
    simp at hw
    rw [← hw, List.getD_eq_getElem?_getD, List.getElem?_eq_getElem hi]; rfl
  · rw [List.getElem?_eq_none (by omega)] at hw; simp at hw
/-! ### a form changed -/
def cterm (f p q : List Rat) (k : Nat) : List Rat := (cv (pw p (f.length - 1 - k)) (pw q k)).map (f.getD k 0 * ·)
def chgN (f p q : List Rat) : Nat → List Rat
  | 0 => List.replicate f.length 0
  | i + 1 => List.zipWith (· + ·) (chgN f p q i) (cterm f p q i)
def chg (f p q : List Rat) : List Rat := chgN f p q f.length
theorem cterm_len {f p q : List Rat} (hp : p.length = 2) (hq : q.length = 2) {k : Nat} (hk : k < f.length) : (cterm f p q k).length = f.length := by
  unfold cterm
  rw [List.length_map, cv_len (by rw [pw_len (by omega)]; omega), pw_len (by omega), pw_len (by omega), hp, hq]
  omega
theorem chgN_len {f p q : List Rat} (hp : p.length = 2) (hq : q.length = 2) : ∀ i, i ≤ f.length → (chgN f p q i).length = f.length
  | 0, _ => by unfold chgN; simp
  | i + 1, h => by
    unfold chgN
    rw [List.length_zipWith, chgN_len hp hq i (by omega), cterm_len hp hq (by omega), Nat.min_self]
theorem chg_len {f p q : List Rat} (hp : p.length = 2) (hq : q.length = 2) : (chg f p q).length = f.length := chgN_len hp hq _ (Nat.le_refl _)
theorem Hm_cterm {f p q : List Rat} (hp : p.length = 2) (hq : q.length = 2) {k : Nat} (u v : Rat) : Hm (cterm f p q k) u v = tm f (Hm p u v) (Hm q u v) k := by
  unfold cterm tm
  rw [Hm_scale, Hm_cv u v (by rw [pw_len (by omega)]; omega), Hm_pw u v (by omega), Hm_pw u v (by omega)]
  grind
theorem Hm_chg {f p q : List Rat} (hp : p.length = 2) (hq : q.length = 2) (u v : Rat) : Hm (chg f p q) u v = Hm f (Hm p u v) (Hm q u v) := by
  have : ∀ i, i ≤ f.length → Hm (chgN f p q i) u v = Sg i (tm f (Hm p u v) (Hm q u v)) := by
    intro i
    induction i with
    | zero => intro _; show Hm (List.replicate _ _) u v = _; rw [Hm_zero]; rfl
    | succ i ih =>
      intro h
      show Hm (List.zipWith _ _ _) u v = _
      rw [Hm_add u v (by rw [chgN_len hp hq i (by omega), cterm_len hp hq (by omega)]), ih (by omega), Hm_cterm hp hq, Sg_succ]
  rw [Hm_sum _ _ f]
  exact this _ (Nat.le_refl _)
theorem pow_split {D n k : Nat} (h : k ≤ n) : D ^ (n - k) * D ^ k = D ^ n := by
  rw [← Nat.pow_add]; congr 1; omega
theorem Szp.of {D A N : Nat} (hD : 1 ≤ D) (hA : 1 ≤ A) (h1 : D ^ N < 2 ^ 1900) (h2 : (625 * A) ^ N < 2 ^ 1900) (h3 : D < 2 ^ 1900) (h4 : A < 2 ^ 1900) : Szp D A N := by
  refine ⟨⟨by omega, h3, h4⟩, fun n hn => ⟨?_, Nat.lt_of_le_of_lt (Nat.pow_le_pow_right (by omega) hn) h1, Nat.lt_of_le_of_lt (Nat.pow_le_pow_right (by omega) hn) h2⟩⟩
  have : 0 < D ^ n := Nat.pow_pos (by omega)
  omega
theorem Szp.le {D A N M : Nat} (s : Szp D A N) (h : M ≤ N) : Szp D A M := ⟨s.b, fun n hn => s.s n (by omega)⟩
/-- sizes for a change -/
structure Szc (Df Af D A n : Nat) : Prop where
  p : Szp D A n
  f : Sz Df Af
  m : Sz (D ^ n) (625 * (625 * A) ^ n)
  r : Sz (Df * D ^ n) ((n + 1) * (Af * (625 * (625 * A) ^ n)))
end G

end

section
namespace G
open PySem Ev
theorem wBs_map {α : Type} (p : α → Bool) : ∀ xs : List α, wBs (xs.map fun x => (.bool (p x) : W)) = some (xs.map p)
  | [] => rfl
  | x :: xs => by
    rw [List.map_cons, List.map_cons]
    show (wBs (xs.map fun x => (.bool (p x) : W))).map (p x :: ·) = _
    rw [wBs_map p xs]
    rfl
theorem gAll_map {α : Type} (p : α → Bool) (xs : List α) : gAll [.list (xs.map fun x => (.bool (p x) : W))] = some (.bool (xs.all p)) := by
  show (wBs (xs.map fun x => (.bool (p x) : W))).map (fun bs => PyData.bool (bs.all id)) = _
  rw [wBs_map]
  simp [List.all_map, Function.comp_def]
theorem gAny_map {α : Type} (p : α → Bool) (xs : List α) : gAny [.list (xs.map fun x => (.bool (p x) : W))] = some (.bool (xs.any p)) := by
  show (wBs (xs.map fun x => (.bool (p x) : W))).map (fun bs => PyData.bool (bs.any id)) = _
  rw [wBs_map]
  simp [List.any_map, Function.comp_def]
theorem is_integer_int (i : Int) : ratios_is_integer [.int i] = .ok (.bool true) := rfl
theorem is_ratio_spec {x : Rat} (hx : Ok x) : ratios_is_ratio [enc x] = .ok (.bool true) := by
  unfold ratios_is_ratio
  rw [runF_eq (n := 1) rfl]
  have e1 : lcL (gN 1) etYes (eCall ratios_is_integer (eCons (eVar 1) eNil)) ([x.num, (x.den : Int)].map fun i => (.int i : W)) [some (enc x), none] none = .ok ([x.num, (x.den : Int)].map fun i => (.bool true : W)) none :=
    lc_map _ _ _ fun p hp => ⟨[some (enc x), some (.int p)], by simp, by simp [is_integer_int]⟩
  have a1 : gAll [.list ([x.num, (x.den : Int)].map fun i => (.bool true : W))] = some (.bool true) := rfl
  have s1 : wSeq (enc x) = some ([x.num, (x.den : Int)].map fun i => (.int i : W)) := rfl
  have l1 : gLen [enc x] = some (.int 2) := rfl
  have t1 : noDict (enc x) = true := rfl
  have t2 : isIn (tyN (enc x)) "tuple" = true := rfl
  have f1 : few1M ([x.num, (x.den : Int)].map fun i => (.int i : W)) = true := rfl
  rw [then_next (ρ' := [some (enc x), none]) (t' := none) (by
    simp only [s_sIf, s_eOrT, s_eNotT, s_eTest, s_eIsI, s_eBin, s_eCallB, s_eCons, s_eNil, s_eC, s_eVar, s_startW, List.map_cons, List.map_nil, List.length_cons, List.length_nil, List.cons_append, List.nil_append, List.getElem?_cons_zero, s_bind_ok, t1, t2, if_true, s_rOf_some, s_wB, Bool.not_true, Bool.false_eq_true, if_false, l1, s_wNe_int]
    have e1' := e1
    have a1' := a1
    have s1' := s1
    have f1' := f1
    simp only [List.map_cons, List.map_nil] at e1' a1' s1' f1'
    simp [wipeW, s1', f1', e1', a1'])]
  have g1 : Nat.gcd x.den x.num.natAbs = 1 := by
    rw [Nat.gcd_comm]; exact x.reduced
  have d1 := divisor_spec x.num (x.den : Int) (by simpa using Nat.lt_trans hx.2 (show 2 ^ 4000 < 2 ^ 8000 from Nat.pow_lt_pow_right (by decide) (by decide)))
  have p1 : (0 : Int) < (x.den : Int) := by have := x.den_nz; omega
  simp only [s_sRet, s_eAnd, s_eBin, s_eVar, s_eC, s_eCall, s_eCons, s_eNil, s_bind_ok, List.getElem?_cons_zero, idx0, idx1, s_rOf_some, s_wCmp, p1, decide_true, d1, s_fR_ok, s_wEq_int, Int.natAbs_natCast, g1]
  simp
def isForm25 (f : List Rat) : Prop := 0 < f.length ∧ f.length ≤ 25 ∧ ∀ q ∈ f, Ok q
theorem all_ratio {f : List Rat} {ρ : Sl} (hf : ∀ q ∈ f, Ok q) {ρ' : W → Sl} (i : Nat) (hi : ∀ w, (ρ.set i (some w))[i]? = some (some w)) : lcL (gN i) etYes (eCall ratios_is_ratio (eCons (eVar i) eNil)) (f.map enc) ρ none = .ok (f.map fun _ => (.bool true : W)) none :=
  lc_map _ _ _ fun p hp => ⟨ρ.set i (some (enc p)), by simp, by
    simp only [s_eCall, s_eCons, s_eNil, s_bind_ok, eVar_of none (hi (enc p)), is_ratio_spec (hf p hp), s_fR_ok]⟩
theorem is_form_spec {f : List Rat} (h : isForm25 f) : forms_is_form [encF f] = .ok (.bool true) := by
  obtain ⟨h1, h2, h3⟩ := h
  unfold forms_is_form
  rw [runF_eq (n := 1) rfl]
  have e1 : lcL (gN 1) etYes (eCall ratios_is_ratio (eCons (eVar 1) eNil)) (f.map enc) [some (encF f), none] none = .ok (f.map fun _ => (.bool true : W)) none := all_ratio h3 (ρ' := fun _ => []) 1 fun w => rfl
  have f1 : few1M (f.map enc) = true := few_1M (by simp; omega)
  have a1 := gAll_map (fun _ : Rat => true) f
  have t1 : noDict (encF f) = true := rfl
  have t2 : isIn (tyN (encF f)) "tuple" = true := rfl
  have c1 : (0 : Int) < (f.length : Int) := by omega
  have c2 : (f.length : Int) ≤ 24 + 1 := by omega
  simp only [s_sRet, s_eAnd, s_eIsI, s_eVar, s_startW, List.map_cons, List.map_nil, List.length_cons, List.length_nil, List.cons_append, List.nil_append, List.getElem?_cons_zero, s_bind_ok, t1, t2, if_true, s_eChain, s_eC, s_eCallB, s_eCons, s_eNil, lenF, s_rOf_some, s_wCmp, c1, decide_true, s_eBin, s_wAdd_int, c2]
  simp [wipeW, f1, e1, a1]
theorem check_form_spec {f : List Rat} (h : isForm25 f) : forms_check_form [encF f] = .ok .none := by
  unfold forms_check_form
  rw [runF_eq (n := 1) rfl]
  simp [is_form_spec h]
theorem is_change_spec {a b c d : Rat} (h : ∀ q ∈ [a, b, c, d], Ok q) : forms_is_change [encF [a, b, c, d]] = .ok (.bool true) := by
  unfold forms_is_change
  rw [runF_eq (n := 1) rfl]
  have e1 : lcL (gN 1) etYes (eCall ratios_is_ratio (eCons (eVar 1) eNil)) ([a, b, c, d].map enc) [some (encF [a, b, c, d]), none] none = .ok ([a, b, c, d].map fun _ => (.bool true : W)) none := all_ratio h (ρ' := fun _ => []) 1 fun w => rfl
  have f1 : few1M ([a, b, c, d].map enc) = true := rfl
  have a1 := gAll_map (fun _ : Rat => true) [a, b, c, d]
  have t1 : noDict (encF [a, b, c, d]) = true := rfl
  have t2 : isIn (tyN (encF [a, b, c, d])) "tuple" = true := rfl
  simp only [s_sRet, s_eAnd, s_eIsI, s_eVar, s_startW, List.length_cons, List.length_nil, List.map_cons, List.map_nil, List.cons_append, List.nil_append, List.getElem?_cons_zero, s_bind_ok, t1, t2, if_true, s_eC, s_eCallB, s_eCons, s_eNil, lenF, s_rOf_some, s_eBin, s_wEq_int]
  simp only [List.map_cons, List.map_nil] at e1 f1 a1
  simp [wipeW, f1, e1, a1]
theorem determinant_spec {a b c d : Rat} (h1 : Ok a) (h2 : Ok b) (h3 : Ok c) (h4 : Ok d) (h5 : Ok (a * d)) (h6 : Ok (b * c)) : forms_determinant [encF [a, b, c, d]] = .ok (enc (a * d - b * c)) := by
  unfold forms_determinant
  rw [runF_eq (n := 1) rfl]
  rw [then_next (ρ' := [some (encF [a, b, c, d]), some (enc a), some (enc b), some (enc c), some (enc d)]) (t' := none) (by simp [encF])]
  simp [ratios_multiply_spec h1 h4, ratios_multiply_spec h2 h3, ratios_subtract_spec h5 h6]
theorem check_change_spec {a b c d : Rat} (h1 : Ok a) (h2 : Ok b) (h3 : Ok c) (h4 : Ok d) (h5 : Ok (a * d)) (h6 : Ok (b * c)) (h0 : a * d - b * c ≠ 0) : forms_check_change [encF [a, b, c, d]] = .ok .none := by
  unfold forms_check_change
  rw [runF_eq (n := 1) rfl]
  have hc := is_change_spec (a := a) (b := b) (c := c) (d := d) (by simp [h1, h2, h3, h4])
  simp [hc, determinant_spec h1 h2 h3 h4 h5 h6, h0]
end G

end

section
namespace G
open PySem Ev
theorem idx_last {ws : List W} {w : W} : wIdx (.list (ws ++ [w])) (.int (-1)) = some w := by
  show L2.atI (ws ++ [w]) (-1) = _
  unfold L2.atI L2.ixN
  rw [List.length_append, List.length_singleton, if_neg (by decide), if_pos (by omega)]
  have : (-1 + ((ws.length + 1 : Nat) : Int)).toNat = ws.length := by omega
  simp only [Option.bind_some, this]
  simp
theorem idx_list {ws : List W} {k : Nat} {w : W} (h : ws[k]? = some w) : wIdx (.list ws) (.int (k : Int)) = some w := by
  show L2.atI ws (k : Int) = _
  unfold L2.atI
  rw [ixN_nat (get_lt h)]
  exact h
def PL (p : List Rat) (i : Nat) : List W := (List.range (i + 1)).map fun k => encF (pw p k)
theorem PL_succ (p : List Rat) (i : Nat) : PL p (i + 1) = PL p i ++ [encF (pw p (i + 1))] := by
  unfold PL
  rw [List.range_succ, List.map_append]
  rfl
theorem PL_last (p : List Rat) (i : Nat) : wIdx (.list (PL p i)) (.int (-1)) = some (encF (pw p i)) := by
  unfold PL
  rw [List.range_succ, List.map_append]
  exact idx_last
theorem PL_get (p : List Rat) {i k : Nat} (h : k ≤ i) : wIdx (.list (PL p i)) (.int (k : Int)) = some (encF (pw p k)) := by
  refine idx_list ?_
  unfold PL
  rw [List.getElem?_map, List.getElem?_range (by omega)]
  rfl
theorem PL_len (p : List Rat) (i : Nat) : (PL p i).length = i + 1 := by unfold PL; simp
theorem zip_zero : ∀ {l m : List Rat}, l.length = m.length → List.zipWith (· + ·) l (m.map (0 * ·)) = l
  | [], [], _ => rfl
  | [], _ :: _, h => by simp at h
  | _ :: _, [], h => by simp at h
  | a :: l, b :: m, h => by
    rw [List.map_cons, List.zipWith_cons_cons, zip_zero (by simpa using h)]
    congr 1
    grind
theorem FB.okAll {D A : Nat} {f : List Rat} (s : Sz D A) (h : FB D A f) : ∀ q ∈ f, Ok q := fun q hq => s.ok (h q hq)
theorem rep1 (n : Nat) (h : n ≤ 1000) : wMul (.tuple [.tuple [.int 0, .int 1]]) (.int (n : Int)) = some (encF (List.replicate n 0)) := by
  show (if (-1000 ≤ (n : Int) ∧ (n : Int) ≤ 1000) ∧ 1 ≤ 1000 then some (PyData.tuple (List.replicate (n : Int).toNat [enc 0]).flatten) else none) = _
  rw [if_pos (by omega)]
  unfold encF
  rw [← rep_map]
  congr 2
  simp only [Int.toNat_natCast]
  induction n with
  | zero => rfl
  | succ k ih => rw [List.replicate_succ, List.flatten_cons, ih (by omega), List.replicate_succ]; rfl
theorem forms_changed_spec {f : List Rat} {a b c d : Rat} {Df Af D A n : Nat} (hf : FB Df Af f) (hp : FB D A [a, b]) (hq : FB D A [c, d]) (hn : f.length = n + 1) (hl : n ≤ 11) (s : Szc Df Af D A n) :
    forms_changed [encF f, encF [a, b, c, d]] = .ok (encF (chg f [a, b] [c, d])) := by
  unfold forms_changed
  rw [runF_eq (n := 2) rfl]
  have lp : ([a, b] : List Rat).length = 2 := rfl
  have lq : ([c, d] : List Rat).length = 2 := rfl
  have m1 : (f.length : Int) - 1 = (n : Int) := by omega
  have c1 := check_form_spec (f := f) ⟨by omega, by omega, hf.okAll s.f⟩
  have c2 := is_change_spec (a := a) (b := b) (c := c) (d := d) (fun q hq' => by
    have : q ∈ [a, b] ∨ q ∈ [c, d] := by
      simp at hq' ⊢
      rcases hq' with z | z | z | z <;> simp [z]
    exact this.elim (fun z => s.p.b.ok (hp q z)) fun z => s.p.b.ok (hq q z))
  rw [then_next (ρ' := [some (encF f), some (encF [a, b, c, d]), none, none, none, none, none, none, none, none, none, none, none]) (t' := none) (by simp [c1])]
  rw [then_next (ρ' := [some (encF f), some (encF [a, b, c, d]), none, none, none, none, none, none, none, none, none, none, none]) (t' := none) (by simp [c2])]
  rw [then_next (ρ' := [some (encF f), some (encF [a, b, c, d]), some (enc a), some (enc b), some (enc c), some (enc d), none, none, none, none, none, none, none]) (t' := none) (by simp [encF])]
  rw [then_next (ρ' := [some (encF f), some (encF [a, b, c, d]), some (enc a), some (enc b), some (enc c), some (enc d), some (.int (n : Int)), none, none, none, none, none, none]) (t' := none) (by simp [m1])]
  rw [then_next (ρ' := [some (encF f), some (encF [a, b, c, d]), some (enc a), some (enc b), some (enc c), some (enc d), some (.int (n : Int)), some (.list (PL [a, b] 0)), some (.list (PL [c, d] 0)), none, none, none, none]) (t' := none) (by simp [enc1F, PL, pw])]
  obtain ⟨ρ1, e1, a9, rfl, hB1, hB2⟩ := sfor_pred (t := none) (src := sRng gRng1 (eCons (eVar 6) eNil)) (g := gN 9) (items := (List.range n).map fun i : Nat => (.int (i : Int) : W))
    (body := sThen (sApp 7 (eCall forms_multiply (eCons (eBin wIdx (eVar 7) (eUn wNeg (eC (.int (1))))) (eCons (eTup (eCons (eVar 2) (eCons (eVar 3) eNil))) eNil)))) (sApp 8 (eCall forms_multiply (eCons (eBin wIdx (eVar 8) (eUn wNeg (eC (.int (1))))) (eCons (eTup (eCons (eVar 4) (eCons (eVar 5) eNil))) eNil)))))
    (fun i ρ => ∃ (a9 : Option W), ρ = [some (encF f), some (encF [a, b, c, d]), some (enc a), some (enc b), some (enc c), some (enc d), some (.int (n : Int)), some (.list (PL [a, b] i)), some (.list (PL [c, d] i)), a9, none, none, none] ∧ (∀ k, k ≤ i → k ≤ n → FB (D ^ k) ((625 * A) ^ k) (pw [a, b] k)) ∧ (∀ k, k ≤ i → k ≤ n → FB (D ^ k) ((625 * A) ^ k) (pw [c, d] k)))
    [some (encF f), some (encF [a, b, c, d]), some (enc a), some (enc b), some (enc c), some (enc d), some (.int (n : Int)), some (.list (PL [a, b] 0)), some (.list (PL [c, d] 0)), none, none, none, none]
    (by simp only [s_sRng, s_eCons, s_eNil, eVar_of none (show [some (encF f), some (encF [a, b, c, d]), some (enc a), some (enc b), some (enc c), some (enc d), some (.int (n : Int)), some (.list (PL [a, b] 0)), some (.list (PL [c, d] 0)), none, none, none, none][6]? = some (some (.int (n : Int))) from rfl), s_bind_ok, gRng1_nat (show n ≤ 1000 by omega), s_rOf_some])
    ⟨none, rfl, fun k hk _ => by
      have : k = 0 := by omega
      subst this
      exact FB.one (by simp) (by simp), fun k hk _ => by
      have : k = 0 := by omega
      subst this
      exact FB.one (by simp) (by simp)⟩
    fun i w ρ hw ⟨a9, e, hB1, hB2⟩ => by
      subst e
      obtain ⟨hi, rfl⟩ := rng_item hw
      have l1 := pw_len (f := [a, b]) (by simp) i
      have l2 := pw_len (f := [c, d]) (by simp) i
      simp at l1 l2
      have h1 := forms_multiply_spec (hB1 i (by omega) (by omega)) hp (by omega) (by simp) (by simp; omega) (s.p.s i (by omega)) s.p.b (by rw [pb1, pb2]; exact s.p.s (i + 1) (by omega))
      have h2 := forms_multiply_spec (hB2 i (by omega) (by omega)) hq (by omega) (by simp) (by simp; omega) (s.p.s i (by omega)) s.p.b (by rw [pb1, pb2]; exact s.p.s (i + 1) (by omega))
      rw [pb1, pb2] at h1 h2
      have q1 : (.tuple [enc a, enc b] : W) = encF [a, b] := rfl
      have q2 : (.tuple [enc c, enc d] : W) = encF [c, d] := rfl
      refine ⟨[some (encF f), some (encF [a, b, c, d]), some (enc a), some (enc b), some (enc c), some (enc d), some (.int (n : Int)), some (.list (PL [a, b] i)), some (.list (PL [c, d] i)), some (.int (i : Int)), none, none, none], [some (encF f), some (encF [a, b, c, d]), some (enc a), some (enc b), some (enc c), some (enc d), some (.int (n : Int)), some (.list (PL [a, b] (i + 1))), some (.list (PL [c, d] (i + 1))), some (.int (i : Int)), none, none, none], by simp, ?_, _, rfl, fun k hk hk2 => ?_, fun k hk hk2 => ?_⟩
      · rw [then_next (ρ' := [some (encF f), some (encF [a, b, c, d]), some (enc a), some (enc b), some (enc c), some (enc d), some (.int (n : Int)), some (.list (PL [a, b] (i + 1))), some (.list (PL [c, d] i)), some (.int (i : Int)), none, none, none]) (t' := none) (by
          have : (PL [a, b] i).length < 16777216 := by rw [PL_len]; omega
          simp [PL_last, q1, h1.1, this, PL_succ]
          rfl)]
        have : (PL [c, d] i).length < 16777216 := by rw [PL_len]; omega
        simp [PL_last, q2, h2.1, this, PL_succ]
        rfl
      · by_cases z : k = i + 1
        · subst z; exact h1.2
        · exact hB1 k (by omega) hk2
      · by_cases z : k = i + 1
        · subst z; exact h2.2
        · exact hB2 k (by omega) hk2
  rw [then_next e1]
  rw [List.length_map, List.length_range] at hB1 hB2 ⊢
  have rp : wMul (.tuple [.tuple [.int 0, .int 1]]) (.int ((n : Int) + 1)) = some (encF (List.replicate f.length 0)) := by
    have := rep1 (n + 1) (by omega)
    rw [hn]
    exact this
  rw [then_next (ρ' := [some (encF f), some (encF [a, b, c, d]), some (enc a), some (enc b), some (enc c), some (enc d), some (.int (n : Int)), some (.list (PL [a, b] n)), some (.list (PL [c, d] n)), a9, some (encF (chgN f [a, b] [c, d] 0)), none, none]) (t' := none) (by simp [rp, chgN])]
  obtain ⟨ρ2, e2, a11, a12, rfl, hFB⟩ := sfor_pred (t := none) (src := sEnum (eVar 0)) (g := gTp (gsC (gN 11) (gsC (gN 12) gsN))) (items := f.zipIdx.map fun p => .tuple [.int (p.2 : Int), enc p.1])
    (body := sIf (eTest (eBin wNe (eVar 12) (eC (.tuple [(.int (0)), (.int (1))])))) (sSet 10 (eCall forms_add (eCons (eVar 10) (eCons (eCall forms_scaled (eCons (eVar 12) (eCons (eCall forms_multiply (eCons (eBin wIdx (eVar 7) (eBin wSub (eVar 6) (eVar 11))) (eCons (eBin wIdx (eVar 8) (eVar 11)) eNil))) eNil))) eNil)))) sNext)
    (fun i ρ => ∃ (a11 a12 : Option W), ρ = [some (encF f), some (encF [a, b, c, d]), some (enc a), some (enc b), some (enc c), some (enc d), some (.int (n : Int)), some (.list (PL [a, b] n)), some (.list (PL [c, d] n)), a9, some (encF (chgN f [a, b] [c, d] i)), a11, a12] ∧ (i ≤ f.length → FB (Df * D ^ n) (i * (Af * (625 * (625 * A) ^ n))) (chgN f [a, b] [c, d] i)))
    [some (encF f), some (encF [a, b, c, d]), some (enc a), some (enc b), some (enc c), some (enc d), some (.int (n : Int)), some (.list (PL [a, b] n)), some (.list (PL [c, d] n)), a9, some (encF (chgN f [a, b] [c, d] 0)), none, none]
    (by simp [enum_eq]) ⟨none, none, rfl, fun _ q hq => by rw [List.eq_of_mem_replicate hq]; exact Bd.zero⟩
    fun i w ρ hw ⟨a11, a12, e, hFB⟩ => by
      subst e
      obtain ⟨hi, rfl⟩ := enum_item hw
      have l1 := pw_len (f := [a, b]) (by simp) (n - i)
      have l2 := pw_len (f := [c, d]) (by simp) i
      simp at l1 l2
      have e1 := pow_split (D := D) (n := n) (k := i) (by omega)
      have e2 := pow_split (D := 625 * A) (n := n) (k := i) (by omega)
      have p3 := forms_multiply_spec (hB1 (n - i) (by omega) (by omega)) (hB2 i (by omega) (by omega)) (by omega) (by omega) (by omega) (s.p.s _ (by omega)) (s.p.s _ (by omega)) (by rw [e1, e2]; exact s.m)
      rw [e1, e2] at p3
      have ln : n - i = f.length - 1 - i := by omega
      have lcv : (cv (pw [a, b] (n - i)) (pw [c, d] i)).length = f.length := by
        rw [cv_len (by omega)]; omega
      have p4 := forms_scaled_spec (c := f.getD i 0) p3.2 (hf.get i) (by omega) s.m s.f
      have p5 := forms_add_spec (hFB (by omega)) p4.2 (by rw [chgN_len lp lq i (by omega), List.length_map, lcv]) (by rw [chgN_len lp lq i (by omega)]; omega) (s.r.le (Nat.mul_le_mul_right _ (by omega))) (s.r.le (Nat.le_mul_of_pos_left _ (by omega)))
      have eC : chgN f [a, b] [c, d] (i + 1) = List.zipWith (· + ·) (chgN f [a, b] [c, d] i) ((cv (pw [a, b] (n - i)) (pw [c, d] i)).map (f.getD i 0 * ·)) := by
        rw [show chgN f [a, b] [c, d] (i + 1) = List.zipWith (· + ·) (chgN f [a, b] [c, d] i) (cterm f [a, b] [c, d] i) from rfl]
        unfold cterm
        rw [← ln]
      have sub1 : (n : Int) - (i : Int) = ((n - i : Nat) : Int) := by omega
      have bnd : FB (Df * D ^ n) ((i + 1) * (Af * (625 * (625 * A) ^ n))) (chgN f [a, b] [c, d] (i + 1)) := by
        rw [eC, Nat.add_mul _ 1, Nat.one_mul]
        exact p5.2
      refine ⟨[some (encF f), some (encF [a, b, c, d]), some (enc a), some (enc b), some (enc c), some (enc d), some (.int (n : Int)), some (.list (PL [a, b] n)), some (.list (PL [c, d] n)), a9, some (encF (chgN f [a, b] [c, d] i)), some (.int (i : Int)), some (enc (f.getD i 0))], [some (encF f), some (encF [a, b, c, d]), some (enc a), some (enc b), some (enc c), some (enc d), some (.int (n : Int)), some (.list (PL [a, b] n)), some (.list (PL [c, d] n)), a9, some (encF (chgN f [a, b] [c, d] (i + 1))), some (.int (i : Int)), some (enc (f.getD i 0))], by simp, ?_, _, _, rfl, fun _ => bnd⟩
      by_cases z : f.getD i 0 = 0
      · have ez : chgN f [a, b] [c, d] (i + 1) = chgN f [a, b] [c, d] i := by
          rw [eC, z, zip_zero (by rw [chgN_len lp lq i (by omega), lcv])]
        rw [ez]
        simp only [s_sIf, s_eTest, s_eBin, s_eVar, s_eC, s_bind_ok, List.getElem?_cons_succ, List.getElem?_cons_zero, wNe_zero, s_rOf_some, s_wB, s_toS_ok, decide_eq_true z, Bool.not_true, Bool.false_eq_true, if_false, s_sNext]
      · rw [eC]
        simp only [s_sIf, s_eTest, s_eBin, s_eVar, s_eC, s_bind_ok, List.getElem?_cons_succ, List.getElem?_cons_zero, wNe_zero, s_rOf_some, s_wB, s_toS_ok, decide_eq_false z, Bool.not_false, if_true, s_sSet, s_eCall, s_eCons, s_eNil, s_wSub_int, sub1, PL_get [a, b] (show n - i ≤ n by omega), PL_get [c, d] (show i ≤ n by omega), p3.1, s_fR_ok, p4.1, p5.1]
        rfl
  rw [then_next e2]
  rw [List.length_map, List.length_zipIdx]
  simp
  rfl
end G

end

section
namespace G
open PySem Ev
/-! ### changes -/
theorem cross_spec {a b c d : Rat} (h1 : Ok a) (h2 : Ok b) (h3 : Ok c) (h4 : Ok d) (h5 : Ok (a * b)) (h6 : Ok (c * d)) : forms_cross [enc a, enc b, enc c, enc d] = .ok (enc (a * b + c * d)) := by
  unfold forms_cross
  rw [runF_eq (n := 4) rfl]
  simp [ratios_multiply_spec h1 h2, ratios_multiply_spec h3 h4, ratios_add_spec h5 h6]
/-- sizes of a change -/
structure C4 (D A : Nat) (a b c d : Rat) : Prop where
  s : Sz D A
  s2 : Sz (D * D) (A * A)
  a : Bd D A a
  b : Bd D A b
  c : Bd D A c
  d : Bd D A d
theorem after_spec {a b c d p q r s : Rat} {D A : Nat} (h : C4 D A a b c d) (g : C4 D A p q r s) : forms_after [encF [a, b, c, d], encF [p, q, r, s]] = .ok (encF [a * p + b * r, a * q + b * s, c * p + d * r, c * q + d * s]) := by
  have o : ∀ {x : Rat}, Bd D A x → Ok x := fun hx => h.s.ok hx
  have m : ∀ {x y : Rat}, Bd D A x → Bd D A y → Ok (x * y) := fun hx hy => h.s2.ok (hx.mul hy)
  unfold forms_after
  rw [runF_eq (n := 2) rfl]
  rw [then_next (ρ' := [some (encF [a, b, c, d]), some (encF [p, q, r, s]), some (enc a), some (enc b), some (enc c), some (enc d), none, none, none, none, none]) (t' := none) (by simp [encF])]
  rw [then_next (ρ' := [some (encF [a, b, c, d]), some (encF [p, q, r, s]), some (enc a), some (enc b), some (enc c), some (enc d), some (enc p), some (enc q), some (enc r), some (enc s), none]) (t' := none) (by simp [encF])]
  have c1 := cross_spec (o h.a) (o g.a) (o h.b) (o g.c) (m h.a g.a) (m h.b g.c)
  have c2 := cross_spec (o h.a) (o g.b) (o h.b) (o g.d) (m h.a g.b) (m h.b g.d)
  have c3 := cross_spec (o h.c) (o g.a) (o h.d) (o g.c) (m h.c g.a) (m h.d g.c)
  have c4 := cross_spec (o h.c) (o g.b) (o h.d) (o g.d) (m h.c g.b) (m h.d g.d)
  rw [then_next (ρ' := [some (encF [a, b, c, d]), some (encF [p, q, r, s]), some (enc a), some (enc b), some (enc c), some (enc d), some (enc p), some (enc q), some (enc r), some (enc s), some (encF [a * p + b * r, a * q + b * s])]) (t' := none) (by simp [c1, c2, encF])]
  have w : ∀ x y z t : Rat, wAdd (encF [x, y]) (.tuple [enc z, enc t]) = some (encF [x, y, z, t]) := fun _ _ _ _ => rfl
  simp [c3, c4, w]
/-! ### slopes -/
def sx (f : List Rat) : List Rat := if f.length = 1 then [0] else (List.range (f.length - 1)).map fun k => (((f.length - 1 - k : Nat) : Int) : Rat) * f.getD k 0
def sy (f : List Rat) : List Rat := if f.length = 1 then [0] else (List.range (f.length - 1)).map fun k => (((k + 1 : Nat) : Int) : Rat) * f.getD (k + 1) 0
theorem enum_range {f : List Rat} : (f.zipIdx.map fun p => (.tuple [.int (p.2 : Int), enc p.1] : W)) = (List.range f.length).map fun k : Nat => .tuple [.int (k : Int), enc (f.getD k 0)] := by
  apply List.ext_getElem?
  intro i
  by_cases h : i < f.length
  · simp [List.getElem?_zipIdx, h]
  · rw [List.getElem?_eq_none (by simp; omega), List.getElem?_eq_none (by simp; omega)]
theorem cut_last (ws : List W) : wSlice none (some (-1)) (.tuple ws) = some (.tuple ws.dropLast) := by
  show some (PyData.tuple ((ws.drop 0).take ((-1 + (ws.length : Int)).toNat - 0))) = _
  rw [List.dropLast_eq_take]
  have : (-1 + (ws.length : Int)).toNat - 0 = ws.length - 1 := by omega
  rw [this, List.drop_zero]
theorem cut_first (ws : List W) : wSlice (some 1) none (.tuple ws) = some (.tuple (ws.drop 1)) := by
  show some (PyData.tuple ((ws.drop (min 1 ws.length)).take (ws.length - min 1 ws.length))) = _
  congr 2
  by_cases h : ws.length = 0
  · have : ws = [] := List.eq_nil_of_length_eq_zero h
    subst this; rfl
  · have e : min 1 ws.length = 1 := by omega
    rw [e]
    exact List.take_of_length_le (by simp)
theorem getD_dropLast {f : List Rat} {k : Nat} (h : k < f.length - 1) : f.dropLast.getD k 0 = f.getD k 0 := by
  simp only [List.getD_eq_getElem?_getD]
  rw [List.getElem?_dropLast, if_pos h]
theorem getD_drop1 {f : List Rat} {k : Nat} : (f.drop 1).getD k 0 = f.getD (k + 1) 0 := by
  simp only [List.getD_eq_getElem?_getD]
  rw [List.getElem?_drop, Nat.add_comm]
theorem nat_ok {n D A : Nat} (h : n ≤ 100) : Ok (((n : Nat) : Int) : Rat) := by
  refine ⟨?_, ?_⟩
  · show n < 2 ^ 4000
    exact Nat.lt_of_le_of_lt h (by decide)
  · show 1 < 2 ^ 4000
    decide
theorem sx_len {f : List Rat} (h : 0 < f.length) : (sx f).length = max 1 (f.length - 1) := by
  unfold sx
  split
  · rename_i c; simp [c]
  · simp; omega
theorem sy_len {f : List Rat} (h : 0 < f.length) : (sy f).length = max 1 (f.length - 1) := by
  unfold sy
  split
  · rename_i c; simp [c]
  · simp; omega
theorem FB.zero1 {D A : Nat} : FB D A [0] := fun q hq => by rw [List.mem_singleton.mp hq]; exact Bd.zero
theorem sx_FB {f : List Rat} {D A N : Nat} (hf : FB D A f) (hN : f.length ≤ N) : FB D (N * A) (sx f) := by
  unfold sx
  split
  · exact FB.zero1
  · intro q hq
    obtain ⟨k, hk, rfl⟩ := List.mem_map.mp hq
    have := (Bd.int (D := 1) (A := N) ((f.length - 1 - k : Nat) : Int) (by decide) (by simp; omega)).mul (hf.get k)
    rw [Nat.one_mul] at this
    exact this
theorem sy_FB {f : List Rat} {D A N : Nat} (hf : FB D A f) (hN : f.length ≤ N) : FB D (N * A) (sy f) := by
  unfold sy
  split
  · exact FB.zero1
  · intro q hq
    obtain ⟨k, hk, rfl⟩ := List.mem_map.mp hq
    have hk := List.mem_range.mp hk
    have := (Bd.int (D := 1) (A := N) ((k + 1 : Nat) : Int) (by decide) (by simp; omega)).mul (hf.get (k + 1))
    rw [Nat.one_mul] at this
    exact this
theorem fw2 (a b : W) : few1000 [a, b] = true := rfl
theorem zero1 : (.tuple [.tuple [.int 0, .int 1]] : W) = encF [0] := rfl
def sl (bx : Bool) (f : List Rat) : List Rat := if bx = true then sx f else sy f
end G

end

section
namespace G
open PySem Ev
def itr (g : List Rat → List Rat) : Nat → List Rat → List Rat
  | 0, f => f
  | n + 1, f => g (itr g n f)
theorem itr_sx {f : List Rat} {D A : Nat} (hf : FB D A f) (h0 : 0 < f.length) (hl : f.length ≤ 25) : ∀ n, FB D (25 ^ n * A) (itr sx n f) ∧ 0 < (itr sx n f).length ∧ (itr sx n f).length ≤ 25
  | 0 => by simpa [itr] using ⟨hf, h0, hl⟩
  | n + 1 => by
    obtain ⟨h1, h2, h3⟩ := itr_sx hf h0 hl n
    have l := sx_len h2
    refine ⟨?_, by show 0 < (sx _).length; omega, by show (sx _).length ≤ 25; omega⟩
    have := sx_FB h1 h3
    rw [← Nat.mul_assoc, Nat.mul_comm 25, ← Nat.pow_succ] at this
    exact this
theorem itr_sy {f : List Rat} {D A : Nat} (hf : FB D A f) (h0 : 0 < f.length) (hl : f.length ≤ 25) : ∀ n, FB D (25 ^ n * A) (itr sy n f) ∧ 0 < (itr sy n f).length ∧ (itr sy n f).length ≤ 25
  | 0 => by simpa [itr] using ⟨hf, h0, hl⟩
  | n + 1 => by
    obtain ⟨h1, h2, h3⟩ := itr_sy hf h0 hl n
    have l := sy_len h2
    refine ⟨?_, by show 0 < (sy _).length; omega, by show (sy _).length ≤ 25; omega⟩
    have := sy_FB h1 h3
    rw [← Nat.mul_assoc, Nat.mul_comm 25, ← Nat.pow_succ] at this
    exact this
/-! ### powers of fractions -/
theorem fmod2 (e : Nat) : (e : Int).fmod 2 = ((e % 2 : Nat) : Int) := by
  rw [Int.fmod_eq_emod_of_nonneg _ (by decide)]
  omega
theorem fdiv2 (e : Nat) : (e : Int).fdiv 2 = ((e / 2 : Nat) : Int) := by
  rw [Int.fdiv_eq_ediv_of_nonneg _ (by decide)]
  omega
theorem wMod2 (e : Nat) : wMod (.int (e : Int)) (.int 2) = some (.int ((e % 2 : Nat) : Int)) := by
  show (if (2 : Int) ≠ 0 then some (PyData.int ((e : Int).fmod 2)) else none) = _
  rw [if_pos (by decide), fmod2]
theorem wFdiv2 (e : Nat) : wFdiv (.int (e : Int)) (.int 2) = some (.int ((e / 2 : Nat) : Int)) := by
  rw [wFdiv_of (divOk_of (by decide) (by decide)), fdiv2]
theorem sq_pow (y : Rat) (j : Nat) : (y * y) ^ j = y ^ (2 * j) := by
  induction j with
  | zero => simp [Rat.pow_zero]
  | succ j ih => rw [Rat.pow_succ, ih, show 2 * (j + 1) = 2 * j + 1 + 1 by omega, Rat.pow_succ, Rat.pow_succ]; grind
abbrev powTest : Et := eTest (eBin wGt (eVar 1) (eC (.int (0))))
abbrev powStep : Sv := sThen (sIf (eTest (eBin wEq (eBin wMod (eVar 1) (eC (.int (2)))) (eC (.int (1))))) (sSet 2 (eCall ratios_multiply (eCons (eVar 2) (eCons (eVar 0) eNil)))) sNext) (sThen (sSet 0 (eCall ratios_multiply (eCons (eVar 0) (eCons (eVar 0) eNil)))) (sAug wFdiv 1 (eC (.int (2)))))
theorem pow_loop : ∀ (k m e : Nat) (y z : Rat), e < 2 ^ k → k + 1 ≤ m → (∀ j, j ≤ 2 * e → Ok (y ^ j)) → (∀ j, j ≤ e → Ok (z * y ^ j)) →
    ∃ y', whL powTest powStep m [some (enc y), some (.int (e : Int)), some (enc z)] none = .next [some (enc y'), some (.int 0), some (enc (z * y ^ e))] none := by
  intro k
  induction k with
  | zero =>
    intro m e y z he hm _ _
    obtain ⟨m, rfl⟩ : ∃ n, m = n + 1 := ⟨m - 1, by omega⟩
    have : e = 0 := by omega
    subst this
    refine ⟨y, ?_⟩
    rw [wh_end (t' := none) (by simp), Rat.pow_zero]
    have : z * 1 = z := by grind
    rw [this]
    rfl
  | succ k ih =>
    intro m e y z he hm hy hz
    obtain ⟨m, rfl⟩ : ∃ n, m = n + 1 := ⟨m - 1, by omega⟩
    by_cases e0 : e = 0
    · subst e0
      refine ⟨y, ?_⟩
      rw [wh_end (t' := none) (by simp), Rat.pow_zero]
      have : z * 1 = z := by grind
      rw [this]
      rfl
    · have oy : Ok y := by
        have := hy 1 (by omega)
        rwa [show (1 : Nat) = 0 + 1 from rfl, Rat.pow_succ, Rat.pow_zero, show (1 : Rat) * y = y by grind] at this
      have oz : Ok z := by
        have := hz 0 (by omega)
        rwa [Rat.pow_zero, show z * 1 = z by grind] at this
      have ozy : Ok (z * y) := by
        have := hz 1 (by omega)
        rwa [show (1 : Nat) = 0 + 1 from rfl, Rat.pow_succ, Rat.pow_zero, show (1 : Rat) * y = y by grind] at this
      have t1 : powTest [some (enc y), some (.int (e : Int)), some (enc z)] none = .ok true none := by
        have : 0 < e := by omega
        simp [this]
      have s1 : powStep [some (enc y), some (.int (e : Int)), some (enc z)] none = .next [some (enc (y * y)), some (.int ((e / 2 : Nat) : Int)), some (enc (z * y ^ (e % 2)))] none := by
        unfold powStep
        rcases Nat.mod_two_eq_zero_or_one e with c | c
        · rw [then_next (ρ' := [some (enc y), some (.int (e : Int)), some (enc (z * y ^ (e % 2)))]) (t' := none) (by
            rw [c, Rat.pow_zero, show z * 1 = z by grind]
            simp [wMod2, c])]
          simp only [s_then, s_sSet, s_eCall, s_eCons, s_eNil, s_eVar, s_bind_ok, List.getElem?_cons_zero, List.getElem?_cons_succ, ratios_multiply_spec oy oy, s_fR_ok, s_toS_ok, s_sAug, s_eC, List.set_cons_zero, wFdiv2, List.set_cons_succ]
        · rw [then_next (ρ' := [some (enc y), some (.int (e : Int)), some (enc (z * y ^ (e % 2)))]) (t' := none) (by
            rw [c, show (1 : Nat) = 0 + 1 from rfl, Rat.pow_succ, Rat.pow_zero, show (1 : Rat) * y = y by grind]
            simp [wMod2, c, ratios_multiply_spec oz oy])]
          simp only [s_then, s_sSet, s_eCall, s_eCons, s_eNil, s_eVar, s_bind_ok, List.getElem?_cons_zero, List.getElem?_cons_succ, ratios_multiply_spec oy oy, s_fR_ok, s_toS_ok, s_sAug, s_eC, List.set_cons_zero, wFdiv2, List.set_cons_succ]
      rw [wh_more t1 s1]
      have h6 : 2 ^ (k + 1) = 2 * 2 ^ k := by rw [Nat.pow_succ]; omega
      obtain ⟨y', h⟩ := ih m (e / 2) (y * y) (z * y ^ (e % 2)) (by omega) (by omega) (fun j hj => by rw [sq_pow]; exact hy _ (by omega)) (fun j hj => by
        rw [sq_pow]
        have : z * y ^ (e % 2) * y ^ (2 * j) = z * y ^ (e % 2 + 2 * j) := by rw [rpow_add]; grind
        rw [this]
        exact hz _ (by omega))
      refine ⟨y', h.trans ?_⟩
      have : z * y ^ (e % 2) * (y * y) ^ (e / 2) = z * y ^ e := by
        rw [sq_pow]
        have : z * y ^ (e % 2) * y ^ (2 * (e / 2)) = z * y ^ (e % 2 + 2 * (e / 2)) := by rw [rpow_add]; grind
        rw [this]
        congr 2
        omega
      rw [this]
/-! ### values -/
theorem Bd.pow {D A : Nat} {x : Rat} (h : Bd D A x) : ∀ n : Nat, Bd (D ^ n) (A ^ n) (x ^ n)
  | 0 => by
    rw [Rat.pow_zero, Nat.pow_zero, Nat.pow_zero]
    exact Bd.one (by decide) (by decide)
  | n + 1 => by
    rw [Rat.pow_succ, Nat.pow_succ, Nat.pow_succ]
    exact (Bd.pow h n).mul h
/-- sizes for a value -/
structure Szv (Df Af D A n : Nat) : Prop where
  f : Sz Df Af
  b : Sz D A
  p : ∀ k, k ≤ 2 * n → Sz (D ^ k) (A ^ k)
  r : Sz (Df * D ^ n) ((n + 1) * (Af * A ^ n))
end G

end

section
namespace G
open PySem Ev
/-! ### equality -/
theorem lay_map {α : Type} (e : α → W) (d : Nat) : ∀ xs : List α, (∀ x ∈ xs, PyData.canLay0 (e x) = true ∧ PyData.depth (e x) ≤ d) → PyData.canLayAll0 (xs.map e) = true ∧ PyData.depthAll (xs.map e) ≤ d
  | [], _ => ⟨rfl, Nat.zero_le _⟩
  | x :: xs, h => by
    obtain ⟨h1, h2⟩ := lay_map e d xs fun y hy => h y (List.mem_cons_of_mem _ hy)
    obtain ⟨h3, h4⟩ := h x List.mem_cons_self
    refine ⟨?_, ?_⟩
    · show (PyData.canLay0 (e x) && PyData.canLayAll0 (xs.map e)) = true
      rw [h3, h1]; rfl
    · show max (PyData.depth (e x)) (PyData.depthAll (xs.map e)) ≤ d
      omega
theorem shaped_tup {α : Type} {e : α → W} (d : Nat) (hd : d ≤ 60) {xs : List α} (h : ∀ x ∈ xs, PyData.canLay0 (e x) = true ∧ PyData.depth (e x) ≤ d) : SeqAt.shaped (.tuple (xs.map e)) = true := by
  obtain ⟨h1, h2⟩ := lay_map e d xs h
  unfold SeqAt.shaped
  have e1 : PyData.canLay0 (.tuple (xs.map e)) = true := h1
  have e2 : PyData.depth (.tuple (xs.map e)) = PyData.depthAll (xs.map e) + 1 := rfl
  rw [e1, e2]
  simp
  omega
theorem shaped_lst {α : Type} {e : α → W} (d : Nat) (hd : d ≤ 60) {xs : List α} (h : ∀ x ∈ xs, PyData.canLay0 (e x) = true ∧ PyData.depth (e x) ≤ d) : SeqAt.shaped (.list (xs.map e)) = true := by
  obtain ⟨h1, h2⟩ := lay_map e d xs h
  unfold SeqAt.shaped
  have e1 : PyData.canLay0 (.list (xs.map e)) = true := h1
  have e2 : PyData.depth (.list (xs.map e)) = PyData.depthAll (xs.map e) + 1 := rfl
  rw [e1, e2]
  simp
  omega
theorem eqv_map {α : Type} [DecidableEq α] {e : α → W} (h : ∀ x y, PyData.eqv (e x) (e y) = decide (x = y)) : ∀ xs ys : List α, PyData.eqvAll (xs.map e) (ys.map e) = decide (xs = ys)
  | [], [] => rfl
  | [], _ :: _ => by simp [PyData.eqvAll]
  | _ :: _, [] => by simp [PyData.eqvAll]
  | x :: xs, y :: ys => by
    show (PyData.eqv (e x) (e y) && PyData.eqvAll (xs.map e) (ys.map e)) = _
    rw [h, eqv_map h xs ys]
    by_cases h1 : x = y <;> by_cases h2 : xs = ys <;> simp [h1, h2]
theorem shaped_encF (f : List Rat) : SeqAt.shaped (encF f) = true := shaped_tup 1 (by decide) fun x _ => ⟨rfl, Nat.le_refl _⟩
theorem wEq_encF (f g : List Rat) : wEq (encF f) (encF g) = some (.bool (decide (f = g))) := by
  unfold wEq
  rw [shaped_encF, shaped_encF]
  show (if (true && true) = true then some (PyData.bool (PyData.eqvAll (f.map enc) (g.map enc))) else none) = _
  rw [eqv_map eqv_enc]; rfl
theorem wNe_encF (f g : List Rat) : wNe (encF f) (encF g) = some (.bool (!decide (f = g))) := by
  unfold wNe
  rw [shaped_encF, shaped_encF]
  show (if (true && true) = true then some (PyData.bool (!PyData.eqvAll (f.map enc) (g.map enc))) else none) = _
  rw [eqv_map eqv_enc]; rfl
/-! ### the first place -/
def lead (f : List Rat) : List Nat := (List.range f.length).filter fun k => !decide (f.getD k 0 = 0)
def encN : List Nat → W
  | [] => .none
  | k :: _ => .int (k : Int)
theorem ints_ne (ks : List Nat) : wNe (.list (ks.map fun k : Nat => (.int (k : Int) : W))) (.list []) = some (.bool (!ks.isEmpty)) := by
  unfold wNe
  have s1 : SeqAt.shaped (.list (ks.map fun k : Nat => (.int (k : Int) : W))) = true := shaped_lst (e := fun k : Nat => (.int (k : Int) : W)) 0 (by decide) fun x _ => ⟨rfl, Nat.le_refl _⟩
  have s2 : SeqAt.shaped (.list []) = true := rfl
  rw [s1, s2]
  cases ks <;> rfl
/-! ### zero forms -/
def allZ (f : List Rat) : Bool := !f.any fun q => !decide (q = 0)
theorem allZ_iff {f : List Rat} : allZ f = true ↔ ∀ q ∈ f, q = 0 := by
  unfold allZ
  simp
end G

end

section
namespace G
open PySem Ev
/-! ### binomial numbers -/
def cb : Nat → Nat → Nat
  | _, 0 => 1
  | 0, _ + 1 => 0
  | n + 1, k + 1 => cb n k + cb n (k + 1)
theorem seven {n : Nat} (h : n ≤ 7) : n = 0 ∨ n = 1 ∨ n = 2 ∨ n = 3 ∨ n = 4 ∨ n = 5 ∨ n = 6 ∨ n = 7 := by omega
theorem forms_choose_spec {n k : Nat} (hn : n ≤ 7) (hk : k ≤ n) : forms_choose [.int (n : Int), .int (k : Int)] = .ok (.int (cb n k : Nat)) := by
  rcases seven hn with rfl | rfl | rfl | rfl | rfl | rfl | rfl | rfl <;>
    rcases seven (Nat.le_trans hk hn) with rfl | rfl | rfl | rfl | rfl | rfl | rfl | rfl <;> first | kernel_rfl | omega
theorem cb_pos {n k : Nat} (hn : n ≤ 7) (hk : k ≤ n) : cb n k ≠ 0 ∧ cb n k ≤ 40 := by
  rcases seven hn with rfl | rfl | rfl | rfl | rfl | rfl | rfl | rfl <;>
    rcases seven (Nat.le_trans hk hn) with rfl | rfl | rfl | rfl | rfl | rfl | rfl | rfl <;> first | decide | omega
def fac : Nat → Nat
  | 0 => 1
  | n + 1 => fac n * (n + 1)
theorem Bd.divn {D A c : Nat} {x : Rat} (h : Bd D A x) (hD : D ≠ 0) (hc : c ≠ 0) : Bd (D * c) A (x / (((c : Nat) : Int) : Rat)) := by
  obtain ⟨k, rfl, hk⟩ := h
  refine ⟨k, ?_, Nat.le_trans hk (Nat.mul_le_mul_left _ (Nat.le_mul_of_pos_right _ (by omega)))⟩
  have e : (1 : Rat) / (((c : Nat) : Int) : Rat) = mkRat 1 c := by
    rw [Rat.mkRat_eq_div]; rfl
  have e2 : mkRat k D / (((c : Nat) : Int) : Rat) = mkRat k D * (1 / (((c : Nat) : Int) : Rat)) := by
    rw [Rat.div_def, Rat.div_def]; grind
  rw [e2, e, Rat.mkRat_mul_mkRat, Int.mul_one]
/-- the numbers of a form without the binomial ones -/
def wg (f : List Rat) : List Rat := (List.range f.length).map fun k => f.getD k 0 / (((cb (f.length - 1) k : Nat) : Int) : Rat)
theorem wg_back {f : List Rat} (h0 : 0 < f.length) (hl : f.length ≤ 8) : ((List.range (wg f).length).map fun k => (wg f).getD k 0 * (((cb ((wg f).length - 1) k : Nat) : Int) : Rat)) = f := by
  have l : (wg f).length = f.length := by unfold wg; simp
  rw [l]
  apply List.ext_getElem?
  intro k
  by_cases hk : k < f.length
  · have p := cb_pos (n := f.length - 1) (k := k) (by omega) (by omega)
    have n0 : (((cb (f.length - 1) k : Nat) : Int) : Rat) ≠ 0 := by
      intro z
      have : ((cb (f.length - 1) k : Nat) : Int) = 0 := by exact_mod_cast z
      omega
    have g : (wg f).getD k 0 = f[k] / (((cb (f.length - 1) k : Nat) : Int) : Rat) := by
      unfold wg
      simp [List.getD_eq_getElem?_getD, hk]
    rw [List.getElem?_map, List.getElem?_range hk, List.getElem?_eq_getElem hk]
    simp only [Option.map_some, g]
    congr 1
    exact Rat.div_mul_cancel n0
  · rw [List.getElem?_eq_none (by simp; omega), List.getElem?_eq_none (by omega)]
/-- the product of points' linear forms -/
def ptN (ps : List (Rat × Rat)) : Nat → List Rat
  | 0 => [1]
  | i + 1 => cv (ptN ps i) [(ps.getD i (0, 0)).2, -(ps.getD i (0, 0)).1]
theorem ptN_len (ps : List (Rat × Rat)) : ∀ i, (ptN ps i).length = i + 1
  | 0 => rfl
  | i + 1 => by
    unfold ptN
    rw [cv_len (by simp), ptN_len ps i]
    simp
def encP (p : Rat × Rat) : W := encF [p.1, p.2]
theorem pts_item {ps : List (Rat × Rat)} {i : Nat} {w : W} (hw : (ps.map encP)[i]? = some w) : i < ps.length ∧ w = encP (ps.getD i (0, 0)) := by
  rw [List.getElem?_map] at hw
  by_cases h : i < ps.length
  · refine ⟨h, ?_⟩
    rw [List.getElem?_eq_getElem h] at hw
    rw [List.getD_eq_getElem?_getD, List.getElem?_eq_getElem h]
    simpa using hw.symm
  · rw [List.getElem?_eq_none (by omega)] at hw; simp at hw
end G

end

section
namespace G
open PySem Ev
/-! ### heights -/
def Ht (B : Nat) (q : Rat) : Prop := q.num.natAbs < 2 ^ B ∧ q.den < 2 ^ B
theorem Ht.ok {B : Nat} {q : Rat} (h : Ht B q) (hB : B ≤ 4000) : Ok q :=
  ⟨Nat.lt_of_lt_of_le h.1 (Nat.pow_le_pow_right (by decide) hB), Nat.lt_of_lt_of_le h.2 (Nat.pow_le_pow_right (by decide) hB)⟩
theorem Ht.le {A B : Nat} {q : Rat} (h : Ht A q) (hB : A ≤ B) : Ht B q :=
  ⟨Nat.lt_of_lt_of_le h.1 (Nat.pow_le_pow_right (by decide) hB), Nat.lt_of_lt_of_le h.2 (Nat.pow_le_pow_right (by decide) hB)⟩
theorem mul_lt2 {a b A B : Nat} (ha : a < 2 ^ A) (hb : b < 2 ^ B) : a * b < 2 ^ (A + B) := by
  rw [Nat.pow_add]
  exact Nat.mul_lt_mul'' ha hb
theorem ht_mk {n : Int} {d B : Nat} (hd : d ≠ 0) (h1 : n.natAbs < 2 ^ B) (h2 : d < 2 ^ B) : Ht B (mkRat n d) := by
  refine ⟨?_, ?_⟩
  · rw [Rat.num_mkRat, if_neg hd]
    refine Nat.lt_of_le_of_lt ?_ h1
    rw [Int.natAbs_ediv_of_dvd (Int.ofNat_dvd_left.mpr (Nat.gcd_dvd_right _ _))]
    simp only [Int.natAbs_natCast]
    exact Nat.div_le_self _ _
  · rw [Rat.den_mkRat, if_neg hd]
    exact Nat.lt_of_le_of_lt (Nat.div_le_self _ _) h2
theorem den0 (x y : Rat) : x.den * y.den ≠ 0 := Nat.mul_ne_zero x.den_nz y.den_nz
theorem Ht.mul {A B : Nat} {x y : Rat} (hx : Ht A x) (hy : Ht B y) : Ht (A + B) (x * y) := by
  rw [Rat.mul_def']
  exact ht_mk (den0 x y) (by rw [Int.natAbs_mul]; exact mul_lt2 hx.1 hy.1) (mul_lt2 hx.2 hy.2)
theorem Ht.sub {A B : Nat} {x y : Rat} (hx : Ht A x) (hy : Ht B y) : Ht (A + B + 1) (x - y) := by
  rw [Rat.sub_def']
  have h1 := mul_lt2 hx.1 hy.2
  have h2 := mul_lt2 hy.1 hx.2
  have h3 := mul_lt2 hx.2 hy.2
  have e : 2 ^ (A + B + 1) = 2 * 2 ^ (A + B) := by rw [Nat.pow_succ]; omega
  rw [Nat.add_comm B A] at h2
  refine ht_mk (den0 x y) ?_ (by omega)
  have h4 : (x.num * (y.den : Int) - y.num * (x.den : Int)).natAbs ≤ (x.num * (y.den : Int)).natAbs + (y.num * (x.den : Int)).natAbs := Int.natAbs_sub_le _ _
  rw [Int.natAbs_mul, Int.natAbs_mul, Int.natAbs_natCast, Int.natAbs_natCast] at h4
  omega
theorem Ht.div {A B : Nat} {x y : Rat} (hx : Ht A x) (hy : Ht B y) (h0 : y ≠ 0) : Ht (A + B) (x / y) := by
  have n0 : y.num ≠ 0 := fun z => h0 (Rat.num_eq_zero.mp z)
  have d0 : (x.den : Int) * y.num ≠ 0 := by
    have := x.den_nz
    intro z
    rcases Int.mul_eq_zero.mp z with z | z <;> omega
  rw [← div_mk']
  have h1 := mul_lt2 hx.1 hy.2
  have h2 := mul_lt2 hx.2 hy.1
  refine ⟨?_, ?_⟩
  · rw [Rat.num_divInt]
    refine Nat.lt_of_le_of_lt ?_ h1
    have hd : (((((x.den : Int) * y.num).gcd (x.num * (y.den : Int)) : Nat)) : Int) ∣ ((x.den : Int) * y.num).sign * (x.num * (y.den : Int)) := Int.dvd_mul_of_dvd_right (Int.gcd_dvd_right ..)
    rw [Int.natAbs_ediv_of_dvd hd, Int.natAbs_mul, Int.natAbs_sign_of_ne_zero d0, Nat.one_mul, Int.natAbs_mul, Int.natAbs_natCast]
    exact Nat.div_le_self _ _
  · rw [Rat.den_divInt, if_neg d0]
    refine Nat.lt_of_le_of_lt (Nat.div_le_self _ _) ?_
    rw [Int.natAbs_mul, Int.natAbs_natCast]
    exact h2
theorem Ht.zero {B : Nat} (hB : 1 ≤ B) : Ht B 0 := ⟨by show 0 < 2 ^ B; exact Nat.pow_pos (by decide), by show 1 < 2 ^ B; exact Nat.one_lt_two_pow (by omega)⟩
theorem Bd.ht {D A B : Nat} {x : Rat} (h : Bd D A x) (hD : D ≠ 0) (h1 : A * D < 2 ^ B) (h2 : D < 2 ^ B) : Ht B x := by
  obtain ⟨k, rfl, hk⟩ := h
  exact ht_mk hD (Nat.lt_of_le_of_lt hk h1) h2
def FH (B : Nat) (f : List Rat) : Prop := ∀ q ∈ f, Ht B q
theorem FH.get {B : Nat} {f : List Rat} (h : FH B f) {k : Nat} (hk : k < f.length) : Ht B (f.getD k 0) := by
  rw [List.getD_eq_getElem?_getD, List.getElem?_eq_getElem hk]
  exact h _ (List.getElem_mem hk)
/-- the heights of the steps -/
def hb (b o : Nat) : Nat → Nat
  | 0 => b
  | k + 1 => 2 * hb b o k + 2 * o + 1
theorem hb_mono {b o : Nat} : ∀ {k n : Nat}, k ≤ n → hb b o k ≤ hb b o n := by
  intro k n h
  induction n with
  | zero => have : k = 0 := by omega
            subst this; exact Nat.le_refl _
  | succ n ih =>
    by_cases c : k = n + 1
    · subst c; exact Nat.le_refl _
    · have := ih (by omega)
      show _ ≤ 2 * hb b o n + 2 * o + 1
      omega
/-! ### the lowest places of products -/
theorem cv_low {g : List Rat} {l : Nat} (hg : ∀ n, n < l → g.getD n 0 = 0) (hl : l < g.length) : ∀ (f : List Rat) (i : Nat), i < f.length → (∀ n, n < i → f.getD n 0 = 0) → (∀ n, n < i + l → (cv f g).getD n 0 = 0) ∧ (cv f g).getD (i + l) 0 = f.getD i 0 * g.getD l 0 := by
  have base : ∀ (f : List Rat) (n : Nat), n < l → (cv f g).getD n 0 = 0 := by
    intro f
    induction f with
    | nil =>
      intro n hn
      unfold cv
      rw [List.getD_eq_getElem?_getD, List.getElem?_replicate]
      split <;> rfl
    | cons a f ih =>
      intro n hn
      unfold cv
      rw [List.getD_eq_getElem?_getD, List.getElem?_zipWith]
      have h1 : (g.map (a * ·) ++ List.replicate f.length 0)[n]? = some (a * g.getD n 0) := by
        rw [List.getElem?_append_left (by simp; omega), List.getElem?_map, List.getD_eq_getElem?_getD, List.getElem?_eq_getElem (by omega)]
        rfl
      have h2 : ∃ z, (0 :: cv f g)[n]? = some z ∧ z = 0 := by
        have len : (cv f g).length = f.length + g.length - 1 := cv_len (by omega) f
        cases n with
        | zero => exact ⟨0, rfl, rfl⟩
        | succ n =>
          have := ih n (by omega)
          rw [List.getD_eq_getElem?_getD] at this
          rw [List.getElem?_cons_succ, List.getElem?_eq_getElem (by omega)]
          rw [List.getElem?_eq_getElem (by omega)] at this
          exact ⟨_, rfl, this⟩
      obtain ⟨z, h2, rfl⟩ := h2
      rw [h1, h2, hg n hn]
      simp
      grind
  intro f i
  induction i generalizing f with
  | zero =>
    intro hi _
    refine ⟨fun n hn => base f n (by omega), ?_⟩
    cases f with
    | nil => simp at hi
    | cons a f =>
      unfold cv
      rw [Nat.zero_add, List.getD_eq_getElem?_getD, List.getElem?_zipWith]
      have h1 : (g.map (a * ·) ++ List.replicate f.length 0)[l]? = some (a * g.getD l 0) := by
        rw [List.getElem?_append_left (by simp; omega), List.getElem?_map, List.getD_eq_getElem?_getD, List.getElem?_eq_getElem (by omega)]
        rfl
      have h2 : ∃ z, (0 :: cv f g)[l]? = some z ∧ z = 0 := by
        have len : (cv f g).length = f.length + g.length - 1 := cv_len (by omega) f
        cases l with
        | zero => exact ⟨0, rfl, rfl⟩
        | succ l =>
          have := base f l (by omega)
          rw [List.getD_eq_getElem?_getD, List.getElem?_eq_getElem (by omega)] at this
          exact ⟨(cv f g)[l]'(by omega), by rw [List.getElem?_cons_succ, List.getElem?_eq_getElem (by omega)], by simpa using this⟩
      obtain ⟨z, h2, rfl⟩ := h2
      rw [h1, h2]
      simp
      grind
  | succ i ih =>
    intro hi hz
    cases f with
    | nil => simp at hi
    | cons a f =>
      have a0 : a = 0 := hz 0 (by omega)
      subst a0
      have hi' : i < f.length := by simpa using hi
      obtain ⟨p1, p2⟩ := ih f hi' fun n hn => by simpa using hz (n + 1) (by omega)
      have len : (cv f g).length = f.length + g.length - 1 := cv_len (by omega) f
      have e : ∀ n, n < f.length + g.length → (cv (0 :: f) g).getD n 0 = (0 :: cv f g).getD n 0 := by
        intro n hn
        rw [show cv (0 :: f) g = List.zipWith (· + ·) (g.map ((0 : Rat) * ·) ++ List.replicate f.length 0) (0 :: cv f g) from rfl]
        simp only [List.getD_eq_getElem?_getD]
        rw [List.getElem?_zipWith]
        have h1 : (g.map ((0 : Rat) * ·) ++ List.replicate f.length 0)[n]? = some 0 := by
          by_cases c : n < g.length
          · rw [List.getElem?_append_left (by simp; omega), List.getElem?_map, List.getElem?_eq_getElem c]
            simp
          · rw [List.getElem?_append_right (by simp; omega), List.getElem?_replicate, if_pos (by simp; omega)]
        have h2 : (0 :: cv f g)[n]? = some ((0 :: cv f g)[n]'(by rw [List.length_cons]; omega)) := List.getElem?_eq_getElem _
        rw [h1, h2]
        simp
        rw [Rat.zero_add]
      refine ⟨fun n hn => ?_, ?_⟩
      · rw [e n (by omega)]
        cases n with
        | zero => rfl
        | succ n => rw [List.getD_cons_succ]; exact p1 n (by omega)
      · rw [e _ (by omega), show i + 1 + l = (i + l) + 1 by omega, List.getD_cons_succ, p2, List.getD_cons_succ]
end G

end

section
namespace G
open PySem Ev
theorem lead_cons {f : List Rat} {k : Nat} {ks : List Nat} (h : lead f = k :: ks) : k < f.length ∧ f.getD k 0 ≠ 0 ∧ ∀ m, m < k → f.getD m 0 = 0 := by
  have m : k ∈ lead f := by rw [h]; exact List.mem_cons_self
  unfold lead at m
  rw [List.mem_filter, List.mem_range] at m
  refine ⟨m.1, by simpa using m.2, fun j hj => ?_⟩
  apply Classical.byContradiction
  intro n
  have mj : j ∈ lead f := by
    unfold lead
    rw [List.mem_filter, List.mem_range]
    exact ⟨by omega, by simpa using n⟩
  have pw : (lead f).Pairwise (· < ·) := List.Pairwise.filter _ List.pairwise_lt_range
  rw [h] at mj pw
  rcases List.mem_cons.mp mj with e | e
  · omega
  · have := (List.pairwise_cons.mp pw).1 j e
    omega
theorem lead_nil {f : List Rat} (h : lead f = []) : ∀ q ∈ f, q = 0 := by
  intro q hq
  obtain ⟨k, hk, e⟩ := List.mem_iff_getElem.mp hq
  apply Classical.byContradiction
  intro n
  have mj : k ∈ lead f := by
    unfold lead
    rw [List.mem_filter, List.mem_range]
    refine ⟨hk, ?_⟩
    rw [List.getD_eq_getElem?_getD, List.getElem?_eq_getElem hk]
    simpa [e] using n
  rw [h] at mj
  cases mj
theorem getD_set {f : List Rat} {k m : Nat} {x : Rat} (hk : k < f.length) : (f.set k x).getD m 0 = if m = k then x else f.getD m 0 := by
  simp only [List.getD_eq_getElem?_getD, List.getElem?_set]
  by_cases h : k = m
  · subst h; simp [hk]
  · rw [if_neg h, if_neg (Ne.symm h)]
theorem FH.of {B : Nat} {f : List Rat} (h : ∀ k, k < f.length → Ht B (f.getD k 0)) : FH B f := fun q hq => by
  obtain ⟨k, hk, e⟩ := List.mem_iff_getElem.mp hq
  have := h k hk
  rw [List.getD_eq_getElem?_getD, List.getElem?_eq_getElem hk] at this
  rw [← e]; exact this
theorem FH_nil {B : Nat} : FH B [] := fun q hq => by cases hq
theorem Hm_sub (u v : Rat) {f g : List Rat} (h : f.length = g.length) : Hm (List.zipWith (· - ·) f g) u v = Hm f u v - Hm g u v := by
  induction f generalizing g with
  | nil =>
    cases g with
    | nil => simp [Hm]; grind
    | cons b g => simp at h
  | cons a f ih =>
    cases g with
    | nil => simp at h
    | cons b g =>
      have h' : f.length = g.length := by simpa using h
      simp only [List.zipWith_cons_cons, Hm_cons, List.length_zipWith, h', Nat.min_self]
      rw [ih h']
      grind
end G

end

section
namespace G
open PySem Ev
/-! the law's own comparison answers True on one and the same plain value -/
def Pl : Nat → W → Prop
  | 0, _ => False
  | n + 1, w => (∃ i, w = .int i) ∨ (∃ b, w = .bool b) ∨ (∃ l : List W, w = .tuple l ∧ l.length ≤ 1000 ∧ ∀ x ∈ l, Pl n x)
theorem pair_self : ∀ l : List W, pairW l l = l.map fun x => .tuple [x, x]
  | [] => rfl
  | x :: l => congrArg (PyData.tuple [x, x] :: ·) (pair_self l)
theorem Pl.enc (n : Nat) (x : Rat) : Pl (n + 2) (enc x) := .inr (.inr ⟨_, rfl, by simp, by
  intro y hy
  simp at hy
  rcases hy with rfl | rfl <;> exact .inl ⟨_, rfl⟩⟩)
theorem Pl.encF (n : Nat) {f : List Rat} (h : f.length ≤ 1000) : Pl (n + 3) (encF f) := .inr (.inr ⟨_, rfl, by simpa using h, by
  intro y hy
  obtain ⟨q, _, rfl⟩ := List.mem_map.mp hy
  exact Pl.enc n q⟩)
theorem Pl.int (n : Nat) (i : Int) : Pl (n + 1) (.int i) := .inl ⟨i, rfl⟩
theorem Pl.bool (n : Nat) (i : Bool) : Pl (n + 1) (.bool i) := .inr (.inl ⟨i, rfl⟩)
theorem Pl.tup (n : Nat) {l : List W} (hl : l.length ≤ 1000) (h : ∀ x ∈ l, Pl n x) : Pl (n + 1) (.tuple l) := .inr (.inr ⟨l, rfl, hl, h⟩)
end G

end

section
namespace G
open PySem Ev
@[simp] theorem wMod_nz (i j : Int) (h : j ≠ 0) : wMod (.int i) (.int j) = some (.int (i.fmod j)) := if_pos h
theorem small_pow {i : Int} {k : Nat} (h : i.natAbs < 2 ^ k) (hk : k ≤ 4000) : i.natAbs < 2 ^ 4000 := Nat.lt_of_lt_of_le h (Nat.pow_le_pow_right (by decide) hk)
theorem fmod_nat (i : Int) {m : Nat} (h : 0 < m) : ∃ r : Nat, i.fmod (m : Int) = (r : Int) ∧ r < m := by
  have a := Int.fmod_nonneg_of_pos i (b := (m : Int)) (by omega)
  have b := Int.fmod_lt_of_pos i (b := (m : Int)) (by omega)
  exact ⟨(i.fmod m).toNat, by omega, by omega⟩
theorem fdiv_nat (n m : Nat) : (n : Int).fdiv (m : Int) = ((n / m : Nat) : Int) := by
  rw [Int.fdiv_eq_ediv_of_nonneg _ (by omega)]; rfl
/-- a number the law draws -/
theorem draw {i : Int} {m : Nat} (A : Nat) (lo : Int) (hm : 0 < m) (h1 : lo.natAbs ≤ A) (h2 : ((m : Int) - 1 + lo).natAbs ≤ A) : ∃ z : Int, i.fmod (m : Int) + lo = z ∧ z.natAbs ≤ A := by
  obtain ⟨r, e, hr⟩ := fmod_nat i hm
  exact ⟨_, rfl, by rw [e]; omega⟩
end G

end

section
namespace G
open PySem Ev
end G

end

section
namespace G
open PySem Ev
theorem Bd.nd {D A : Nat} {x : Rat} (hx : Bd D A x) (hD : D ≠ 0) : x.num.natAbs ≤ A * D ∧ x.den ≤ D := by
  obtain ⟨k, rfl, hk⟩ := hx
  refine ⟨?_, ?_⟩
  · rw [Rat.num_mkRat, if_neg hD]
    refine Nat.le_trans ?_ hk
    rw [Int.natAbs_ediv_of_dvd (Int.ofNat_dvd_left.mpr (Nat.gcd_dvd_right _ _))]
    simp only [Int.natAbs_natCast]
    exact Nat.div_le_self _ _
  · rw [Rat.den_mkRat, if_neg hD]
    exact Nat.div_le_self _ _
theorem mul_den (x : Rat) : x * (x.den : Rat) = (x.num : Rat) := by
  have h := Rat.mkRat_eq_div x.num x.den
  rw [Rat.mkRat_self] at h
  have d0 : (x.den : Rat) ≠ 0 := fun z => x.den_nz (Rat.natCast_inj.mp z)
  exact (congrArg (· * (x.den : Rat)) h).trans (Rat.div_mul_cancel d0)
theorem det_ne {a b c : Rat} {d : Int} (h : a.num * d * (b.den : Int) * (c.den : Int) ≠ b.num * c.num * (a.den : Int)) : a * (d : Rat) - b * c ≠ 0 := by
  intro z
  apply h
  have z' : a * (d : Rat) = b * c := by grind
  have ea : a * (a.den : Rat) = (a.num : Rat) := mul_den a
  have eb : b * (b.den : Rat) = (b.num : Rat) := mul_den b
  have ec : c * (c.den : Rat) = (c.num : Rat) := mul_den c
  have : ((a.num * d * (b.den : Int) * (c.den : Int) : Int) : Rat) = ((b.num * c.num * (a.den : Int) : Int) : Rat) := by
    simp only [Rat.intCast_mul, ← ea, ← eb, ← ec, Rat.intCast_natCast]
    grind
  exact Rat.intCast_inj.mp this
abbrev chB : Sv := sIf (eTest (eBin wNe (eBin wMul (eBin wMul (eBin wMul (eBin wIdx (eVar 1) (eC (.int (0)))) (eVar 4)) (eBin wIdx (eVar 2) (eC (.int (1))))) (eBin wIdx (eVar 3) (eC (.int (1))))) (eBin wMul (eBin wMul (eBin wIdx (eVar 2) (eC (.int (0)))) (eBin wIdx (eVar 3) (eC (.int (0))))) (eBin wIdx (eVar 1) (eC (.int (1))))))) (sRet (eTup (eCons (eVar 1) (eCons (eVar 2) (eCons (eVar 3) (eCons (eTup (eCons (eVar 4) (eCons (eC (.int (1))) eNil))) eNil)))))) sNext
theorem ch_loop {a b c : Rat} (ha : Bd 2 4 a) (hb : Bd 2 4 b) (hc : Bd 2 4 c) (r : W) : ∀ (ds : List Nat) (o : Option W), (∀ d ∈ ds, d ≤ 4) →
    (∃ d ∈ ds, forL (gN 4) chB (ds.map fun i : Nat => (.int (i : Int) : W)) [some r, some (enc a), some (enc b), some (enc c), o] none = .ret (encF [a, b, c, (d : Rat)]) none ∧ a * (d : Rat) - b * c ≠ 0)
    ∨ (∃ o', forL (gN 4) chB (ds.map fun i : Nat => (.int (i : Int) : W)) [some r, some (enc a), some (enc b), some (enc c), o] none = .next [some r, some (enc a), some (enc b), some (enc c), o'] none)
  | [], o, _ => .inr ⟨o, rfl⟩
  | d :: ds, o, hd => by
    have oa := ha.ok (by decide) (by decide) (by decide)
    have ob := hb.ok (by decide) (by decide) (by decide)
    have oc := hc.ok (by decide) (by decide) (by decide)
    have na := ha.nd (by decide)
    have nb := hb.nd (by decide)
    have nc := hc.nd (by decide)
    have hd4 := hd d (by simp)
    have m2 : ∀ {x y : Int} {m n : Nat}, x.natAbs ≤ m → y.natAbs ≤ n → (x * y).natAbs ≤ m * n := fun h1 h2 => by
      rw [Int.natAbs_mul]; exact Nat.mul_le_mul h1 h2
    have big : ∀ i : Int, i.natAbs < 1024 → i.natAbs < 2 ^ 4000 := fun i h => Nat.lt_trans (show i.natAbs < 2 ^ 10 from h) (Nat.pow_lt_pow_right (by decide) (by decide))
    have q1 := m2 na.1 (show (d : Int).natAbs ≤ 4 by omega)
    have q2 := m2 q1 (show (b.den : Int).natAbs ≤ 2 by omega)
    have q3 := m2 nb.1 nc.1
    have o1 := wMul_of (mulOk_of (big a.num (by omega)) (big (d : Int) (by omega)))
    have o2 := wMul_of (mulOk_of (big (a.num * d) (by omega)) (big (b.den : Int) (by omega)))
    have o3 := wMul_of (mulOk_of (big (a.num * d * b.den) (by omega)) (big (c.den : Int) (by omega)))
    have o4 := wMul_of (mulOk_of (big b.num (by omega)) (big c.num (by omega)))
    have o5 := wMul_of (mulOk_of (big (b.num * c.num) (by omega)) (big (a.den : Int) (by omega)))
    have step : forL (gN 4) chB ((d :: ds).map fun i : Nat => (.int (i : Int) : W)) [some r, some (enc a), some (enc b), some (enc c), o] none = sThen chB (forL (gN 4) chB (ds.map fun i : Nat => (.int (i : Int) : W))) [some r, some (enc a), some (enc b), some (enc c), some (.int (d : Int))] none := rfl
    rw [step]
    by_cases z : a.num * (d : Int) * (b.den : Int) * (c.den : Int) = b.num * c.num * (a.den : Int)
    · have e1 : chB [some r, some (enc a), some (enc b), some (enc c), some (.int (d : Int))] none = .next [some r, some (enc a), some (enc b), some (enc c), some (.int (d : Int))] none := by
        simp [o1, o2, o3, o4, o5, z]
      rw [then_next e1]
      rcases ch_loop ha hb hc r ds (some (.int (d : Int))) (fun x hx => hd x (by simp [hx])) with ⟨x, hx, e⟩ | e
      · exact .inl ⟨x, by simp [hx], e⟩
      · exact .inr e
    · have e1 : chB [some r, some (enc a), some (enc b), some (enc c), some (.int (d : Int))] none = .ret (encF [a, b, c, (d : Rat)]) none := by
        simp [o1, o2, o3, o4, o5, z]
        rfl
      rw [then_ret e1]
      refine .inl ⟨d, by simp, rfl, ?_⟩
      have := det_ne (d := (d : Int)) z
      rwa [Rat.intCast_natCast] at this
end G

end

section
namespace G
open PySem Ev
/-! small steps of the law -/
section
variable {t : Tp}
theorem e_var {ρ : Sl} {i : Nat} {w : W} (h : ρ[i]? = some (some w)) : eVar i ρ t = .ok w t := eVar_of t h
theorem e_c {w : W} {ρ : Sl} : eC w ρ t = .ok w t := rfl
theorem a_nil {ρ : Sl} : eNil ρ t = .ok [] t := rfl
theorem a_cons {A : Ex} {B : Exs} {ρ : Sl} {w : W} {ws : List W} (h1 : A ρ t = .ok w t) (h2 : B ρ t = .ok ws t) : eCons A B ρ t = .ok (w :: ws) t := by
  rw [s_eCons, h1, s_bind_ok, h2, s_bind_ok]
theorem e_call {f : Fs} {A : Exs} {ρ : Sl} {w : W} {ws : List W} (h1 : A ρ t = .ok ws t) (h2 : f ws = .ok w) : eCall f A ρ t = .ok w t := by
  rw [s_eCall, h1, s_bind_ok, h2, s_fR_ok]
theorem e_callB {g : List W → Option W} {A : Exs} {ρ : Sl} {w : W} {ws : List W} (h1 : A ρ t = .ok ws t) (h2 : g ws = some w) : eCallB g A ρ t = .ok w t := by
  rw [s_eCallB, h1, s_bind_ok, h2, s_rOf_some]
theorem e_tup {A : Exs} {ρ : Sl} {ws : List W} (h1 : A ρ t = .ok ws t) (h2 : ws.length ≤ 1000) : eTup A ρ t = .ok (.tuple ws) t := by
  rw [s_eTup, h1, s_bind_ok, if_pos (few_of h2)]
theorem e_bin {f : W → W → Option W} {A B : Ex} {ρ : Sl} {x y w : W} (h1 : A ρ t = .ok x t) (h2 : B ρ t = .ok y t) (h : f x y = some w) : eBin f A B ρ t = .ok w t := by
  rw [s_eBin, h1, s_bind_ok, h2, s_bind_ok, h, s_rOf_some]
theorem e_un {f : W → Option W} {A : Ex} {ρ : Sl} {x w : W} (h1 : A ρ t = .ok x t) (h : f x = some w) : eUn f A ρ t = .ok w t := by
  rw [s_eUn, h1, s_bind_ok, h, s_rOf_some]
theorem t_test {A : Ex} {ρ : Sl} {b : Bool} (h1 : A ρ t = .ok (.bool b) t) : eTest A ρ t = .ok b t := by
  rw [s_eTest, h1, s_bind_ok, s_wB, s_rOf_some]
theorem t_or {A B : Et} {ρ : Sl} (h1 : A ρ t = .ok false t) (h2 : B ρ t = .ok false t) : eOrT A B ρ t = .ok false t := by
  rw [s_eOrT, h1, s_bind_ok, if_neg (by decide), h2]
theorem t_notB {A : Ex} {ρ : Sl} {b : Bool} (h1 : A ρ t = .ok (.bool b) t) : eTest (eBin (wIsB true) A (eC (.bool b))) ρ t = .ok false t :=
  t_test (e_bin h1 e_c (by cases b <;> rfl))
theorem t_notN {A : Ex} {ρ : Sl} (h1 : A ρ t = .ok .none t) : eTest (eIsN true A) ρ t = .ok false t :=
  t_test (by rw [s_eIsN, h1]; rfl)
theorem t_neF {A B : Ex} {ρ : Sl} {f : List Rat} (h1 : A ρ t = .ok (encF f) t) (h2 : B ρ t = .ok (encF f) t) : eTest (eBin wNe A B) ρ t = .ok false t :=
  t_test (e_bin h1 h2 (by rw [wNe_encF]; simp))
theorem t_neQ {A B : Ex} {ρ : Sl} {x : Rat} (h1 : A ρ t = .ok (enc x) t) (h2 : B ρ t = .ok (enc x) t) : eTest (eBin wNe A B) ρ t = .ok false t :=
  t_test (e_bin h1 h2 (by rw [wNe_enc]; simp))
theorem i_false {c : Et} {u : Sv} {ρ : Sl} (h : c ρ t = .ok false t) : sIf c u sNext ρ t = .next ρ t := by
  rw [s_sIf, h, s_toS_ok, if_neg (by decide), s_sNext]
theorem x_set {i : Nat} {A : Ex} {ρ : Sl} {w : W} (h : A ρ t = .ok w t) : sSet i A ρ t = .next (ρ.set i (some w)) t := by
  rw [s_sSet, h, s_toS_ok]
end
/-! sizes -/
theorem five {m : Nat} (h : m ≤ 5) : m = 0 ∨ m = 1 ∨ m = 2 ∨ m = 3 ∨ m = 4 ∨ m = 5 := by omega
theorem szA : Sz 2 3 := ⟨by decide, by decide +kernel, by decide +kernel⟩
theorem szpA : Szp 2 3 8 := Szp.of (by decide) (by decide) (by decide +kernel) (by decide +kernel) (by decide +kernel) (by decide +kernel)
theorem zeros (n : Nat) : wMul (.tuple [.tuple [.int 0, .int 1]]) (.int (n : Int) ) = if n ≤ 1000 then some (encF (List.replicate n 0)) else none := by
  show (if _ then _ else _) = _
  have e : (List.replicate n [(.tuple [.int 0, .int 1] : W)]).flatten = (List.replicate n (0 : Rat)).map enc := by
    induction n with
    | zero => rfl
    | succ n ih => rw [List.replicate_succ, List.flatten_cons, ih]; rfl
  by_cases h : n ≤ 1000
  · rw [if_pos ⟨⟨by omega, by omega⟩, by decide⟩, if_pos h, Int.toNat_natCast, e]; rfl
  · rw [if_neg (by omega), if_neg h]
theorem allZ_dec {g : List Rat} {n : Nat} (h : g.length = n) : decide (g = List.replicate n 0) = allZ g := by
  by_cases c : allZ g = true
  · rw [c]
    exact decide_eq_true (List.eq_replicate_iff.mpr ⟨h, allZ_iff.mp c⟩)
  · rw [Bool.not_eq_true] at c
    rw [c]
    exact decide_eq_false fun e => by
      rw [allZ_iff.mpr (fun q hq => (List.eq_replicate_iff.mp e).2 q hq)] at c
      cases c
end G

end

section
namespace G
open PySem Ev
theorem szvA {m : Nat} (hm : m ≤ 5) : Szv 2 3 2 3 m ∧ ∀ k, k ≤ m → Sz (2 * 2 ^ k) (3 * 3 ^ k) := by
  have p : ∀ k, k ≤ 10 → Sz (2 ^ k) (3 ^ k) := fun k hk => ⟨by have := Nat.pow_pos (n := k) (show 0 < 2 by decide); omega, Nat.lt_of_le_of_lt (Nat.pow_le_pow_right (by decide) hk) (by decide +kernel), Nat.lt_of_le_of_lt (Nat.pow_le_pow_right (by decide) hk) (by decide +kernel)⟩
  have p2 : ∀ k, k ≤ 9 → Sz (2 * 2 ^ k) (3 * 3 ^ k) := fun k hk => by
    have := p (k + 1) (by omega)
    rwa [Nat.pow_succ, Nat.pow_succ, Nat.mul_comm, Nat.mul_comm (3 ^ k)] at this
  refine ⟨⟨szA, szA, fun k hk => p k (by omega), ?_⟩, fun k hk => p2 k (by omega)⟩
  have := p2 m (by omega)
  refine ⟨this.d0, this.d, ?_⟩
  have h3 : 3 * 3 ^ m ≤ 3 * 3 ^ 5 := Nat.mul_le_mul_left _ (Nat.pow_le_pow_right (by decide) hm)
  exact Nat.lt_of_le_of_lt (Nat.mul_le_mul (show m + 1 ≤ 6 by omega) h3) (by decide +kernel)
end G

end

section
namespace G
open PySem Ev
theorem powle {a b n N : Nat} (h : a ≤ 2 ^ b) (hn : n ≤ N) : a ^ n ≤ 2 ^ (b * N) :=
  Nat.le_trans (Nat.pow_le_pow_left h n) (by rw [← Nat.pow_mul]; exact Nat.pow_le_pow_right (by decide) (Nat.mul_le_mul_left _ hn))
theorem mulle {x y a b : Nat} (h1 : x ≤ 2 ^ a) (h2 : y ≤ 2 ^ b) : x * y ≤ 2 ^ (a + b) := by
  rw [Nat.pow_add]; exact Nat.mul_le_mul h1 h2
theorem ltp {x a b : Nat} (h : x ≤ 2 ^ a) (hb : a < b) : x < 2 ^ b := Nat.lt_of_le_of_lt h (Nat.pow_lt_pow_right (by decide) hb)
theorem szp_gen {D A n : Nat} (hn : n ≤ 5) (d1 : 1 ≤ D) (d2 : D ≤ 2 ^ 10) (a1 : 1 ≤ A) (a2 : A ≤ 2 ^ 10) : Szp D A n :=
  Szp.of d1 a1 (ltp (powle d2 hn) (by decide)) (ltp (powle (mulle (a := 10) (show 625 ≤ 2 ^ 10 by decide) a2) hn) (by decide)) (ltp d2 (by decide)) (ltp a2 (by decide))
theorem szc_gen {Df Af D A n : Nat} (hn : n ≤ 5) (d1 : 1 ≤ D) (d2 : D ≤ 2 ^ 10) (a1 : 1 ≤ A) (a2 : A ≤ 2 ^ 10) (f1 : 1 ≤ Df) (f2 : Df ≤ 2 ^ 100) (g2 : Af ≤ 2 ^ 300) : Szc Df Af D A n ∧ 1 ≤ Df * D ^ n ∧ Df * D ^ n ≤ 2 ^ 150 ∧ (n + 1) * (Af * (625 * (625 * A) ^ n)) ≤ 2 ^ 413 := by
  have p := szp_gen hn d1 d2 a1 a2
  have q1 : D ^ n ≤ 2 ^ 50 := powle d2 hn
  have q2 : (625 * A) ^ n ≤ 2 ^ 100 := powle (mulle (a := 10) (show 625 ≤ 2 ^ 10 by decide) a2) hn
  have q3 : 625 * (625 * A) ^ n ≤ 2 ^ 110 := mulle (a := 10) (show 625 ≤ 2 ^ 10 by decide) q2
  have q4 := mulle g2 q3
  have q5 : (n + 1) * (Af * (625 * (625 * A) ^ n)) ≤ 2 ^ 413 := mulle (a := 3) (show n + 1 ≤ 2 ^ 3 by omega) q4
  have q6 := mulle f2 q1
  have dn : 0 < D ^ n := Nat.pow_pos (by omega)
  have dd : 0 < Df * D ^ n := Nat.mul_pos f1 dn
  exact ⟨⟨p, ⟨by omega, ltp f2 (by decide), ltp g2 (by decide)⟩, ⟨by omega, ltp q1 (by decide), ltp q3 (by decide)⟩, ⟨by omega, ltp q6 (by decide), ltp q5 (by decide)⟩⟩, dd, q6, q5⟩
theorem FB.two {D A : Nat} {a b : Rat} (ha : Bd D A a) (hb : Bd D A b) : FB D A [a, b] := fun q hq => by
  simp at hq; rcases hq with rfl | rfl
  · exact ha
  · exact hb
theorem Hm2 (a b u v : Rat) : Hm [a, b] u v = a * u + b * v := by
  rw [Hm_cons, Hm_cons, Hm_nil]
  simp [Rat.pow_succ, Rat.pow_zero]
  grind
/-- a change after a change -/
theorem chg_chg (f : List Rat) (a b c d p q r s : Rat) : chg (chg f [a, b] [c, d]) [p, q] [r, s] = chg f [a * p + b * r, a * q + b * s] [c * p + d * r, c * q + d * s] := by
  refine Hm_ext (by rw [chg_len rfl rfl, chg_len rfl rfl, chg_len rfl rfl]) fun u v => ?_
  rw [Hm_chg rfl rfl, Hm_chg rfl rfl, Hm_chg rfl rfl]
  simp only [Hm2]
  congr 1 <;> grind
theorem chg_id (f : List Rat) : chg f [1, 0] [0, 1] = f := by
  refine Hm_ext (chg_len rfl rfl) fun u v => ?_
  rw [Hm_chg rfl rfl]
  simp only [Hm2]
  congr 1 <;> grind
theorem sz_gen {D A : Nat} (d1 : 1 ≤ D) (d2 : D ≤ 2 ^ 100) (a2 : A ≤ 2 ^ 100) : Sz D A := ⟨by omega, ltp d2 (by decide), ltp a2 (by decide)⟩
theorem c4_gen {D A : Nat} {a b c d : Rat} (d1 : 1 ≤ D) (d2 : D ≤ 2 ^ 10) (a2 : A ≤ 2 ^ 10) (ha : Bd D A a) (hb : Bd D A b) (hc : Bd D A c) (hd : Bd D A d) : C4 D A a b c d :=
  ⟨sz_gen d1 (Nat.le_trans d2 (by decide)) (Nat.le_trans a2 (by decide)), sz_gen (Nat.mul_pos d1 d1) (Nat.le_trans (mulle d2 d2) (by decide)) (Nat.le_trans (mulle a2 a2) (by decide)), ha, hb, hc, hd⟩
theorem inv_bd {w : Rat} (h0 : w ≠ 0) {A : Nat} (hd : w.den ≤ A) : Bd w.num.natAbs A (1 / w) := by
  have n0 : w.num ≠ 0 := fun z => h0 (Rat.num_eq_zero.mp z)
  have nR : (w.num : Rat) ≠ 0 := fun z => n0 (Rat.intCast_inj.mp (z.trans rfl))
  have md := mul_den w
  refine ⟨w.num.sign * w.den, ?_, ?_⟩
  · rw [Rat.mkRat_eq_div]
    have es : (w.num.sign : Rat) * (w.num.natAbs : Rat) = (w.num : Rat) := by
      rw [← Rat.intCast_natCast, ← Rat.intCast_mul, Int.sign_mul_natAbs]
    have aR : ((w.num.natAbs : Nat) : Rat) ≠ 0 := fun z => by
      have : w.num.natAbs = 0 := Rat.natCast_inj.mp (z.trans rfl)
      omega
    have ss : (w.num.sign : Rat) * (w.num.sign : Rat) = 1 := by
      rw [← Rat.intCast_mul]
      have : w.num.sign * w.num.sign = 1 := by
        rcases Int.lt_trichotomy w.num 0 with h | h | h
        · rw [Int.sign_eq_neg_one_of_neg h]; rfl
        · exact absurd h n0
        · rw [Int.sign_eq_one_of_pos h]; rfl
      rw [this]; rfl
    rw [Rat.intCast_mul, Rat.intCast_natCast]
    grind
  · rw [Int.natAbs_mul, Int.natAbs_sign, if_neg n0, Int.natAbs_natCast, Nat.one_mul]
    exact Nat.le_trans hd (Nat.le_mul_of_pos_right _ (by omega))
end G

end

section
namespace G
open PySem Ev
/-! ### one scale for sizes: multiples of 1 / KK ^ d, at most 2 ^ a -/
def KK : Nat := 443520
theorem KK_pos : 0 < KK := by decide
theorem KKp (n : Nat) : 0 < KK ^ n := Nat.pow_pos KK_pos
theorem KKn (n : Nat) : KK ^ n ≠ 0 := by have := KKp n; omega
theorem KK_le : KK ≤ 2 ^ 19 := by decide
theorem KKlt {n : Nat} (h : n ≤ 99) : KK ^ n < 2 ^ 1900 := by
  refine Nat.lt_of_le_of_lt (Nat.pow_le_pow_left KK_le n) ?_
  rw [← Nat.pow_mul]
  exact Nat.pow_lt_pow_right (by decide) (by omega)
theorem p2lt {a : Nat} (h : a ≤ 1899) : 2 ^ a < 2 ^ 1900 := Nat.pow_lt_pow_right (by decide) (by omega)
def B (d a : Nat) (q : Rat) : Prop := Bd (KK ^ d) (2 ^ a) q
theorem szB {d a : Nat} (h : d ≤ 99) (ha : a ≤ 1899) : Sz (KK ^ d) (2 ^ a) := ⟨KKn d, KKlt h, p2lt ha⟩
theorem B.ok {d a : Nat} {q : Rat} (h : B d a q) (hd : d ≤ 99) (ha : a ≤ 1899) : Ok q := (szB hd ha).ok h
theorem Bd.toB {D A d a : Nat} {q : Rat} (h : Bd D A q) (hD : D ∣ KK ^ d) (hA : A ≤ 2 ^ a) : B d a q := by
  obtain ⟨c, hc⟩ := hD
  have c0 : c ≠ 0 := by
    rintro rfl
    have := KKp d
    omega
  have := (h.up c c0).le hA
  unfold B
  rwa [← hc] at this
theorem B.mono {d a e b : Nat} {q : Rat} (h : B d a q) (hd : d ≤ e) (ha : a ≤ b) : B e b q :=
  Bd.toB h (Nat.pow_dvd_pow _ hd) (Nat.pow_le_pow_right (by decide) ha)
theorem p2s (a : Nat) : 2 ^ (a + 1) = 2 ^ a + 2 ^ a := by rw [Nat.pow_succ]; omega
theorem B.add {d a b c : Nat} {x y : Rat} (hx : B d a x) (hy : B d b y) (h1 : a + 1 ≤ c) (h2 : b + 1 ≤ c) : B d c (x + y) := by
  have := Bd.add (KKn d) (hx.mono (Nat.le_refl _) (show a ≤ c - 1 by omega)) (hy.mono (Nat.le_refl _) (show b ≤ c - 1 by omega))
  refine this.toB (Nat.dvd_refl _) ?_
  rw [← p2s]
  exact Nat.pow_le_pow_right (by decide) (by omega)
theorem B.mul {d a e b : Nat} {x y : Rat} (hx : B d a x) (hy : B e b y) : B (d + e) (a + b) (x * y) := by
  have := Bd.mul hx hy
  unfold B
  rwa [← Nat.pow_add, ← Nat.pow_add] at this
theorem B.neg {d a : Nat} {x : Rat} (hx : B d a x) : B d a (-x) := Bd.neg hx
theorem B.zero {d a : Nat} : B d a 0 := Bd.zero
theorem B.one {d a : Nat} : B d a 1 := Bd.one (KKn d) (Nat.pow_pos (by decide))
theorem B.int {d a : Nat} (i : Int) (h : i.natAbs ≤ 2 ^ a) : B d a (i : Rat) := Bd.int i (KKn d) h
theorem B.inv {d a c : Nat} (h : c ∣ KK ^ d) (hc : c ≠ 0) : B d a (1 / (((c : Nat) : Int) : Rat)) := by
  have := Bd.divn (D := 1) (A := 1) (Bd.one (by decide) (by decide)) (by decide) hc
  rw [Nat.one_mul] at this
  exact this.toB h (Nat.pow_pos (by decide))
theorem B.sub {d a b c : Nat} {x y : Rat} (hx : B d a x) (hy : B d b y) (h1 : a + 1 ≤ c) (h2 : b + 1 ≤ c) : B d c (x - y) := by
  rw [show x - y = x + -y by grind]
  exact hx.add hy.neg h1 h2
/-- forms -/
def BF (d a : Nat) (f : List Rat) : Prop := ∀ q ∈ f, B d a q
theorem BF.fb {d a : Nat} {f : List Rat} (h : BF d a f) : FB (KK ^ d) (2 ^ a) f := h
theorem FB.bf {D A d a : Nat} {f : List Rat} (h : FB D A f) (hD : D ∣ KK ^ d) (hA : A ≤ 2 ^ a) : BF d a f := fun q hq => (h q hq).toB hD hA
theorem BF.mono {d a e b : Nat} {f : List Rat} (h : BF d a f) (hd : d ≤ e) (ha : a ≤ b) : BF e b f := fun q hq => (h q hq).mono hd ha
theorem BF.get {d a : Nat} {f : List Rat} (h : BF d a f) (k : Nat) : B d a (f.getD k 0) := FB.get h k
theorem BF.ok {d a : Nat} {f : List Rat} (h : BF d a f) (hd : d ≤ 99) (ha : a ≤ 1899) : ∀ q ∈ f, Ok q := fun q hq => (h q hq).ok hd ha
theorem BF.form {d a : Nat} {f : List Rat} (h : BF d a f) (hd : d ≤ 99) (ha : a ≤ 1899) (h0 : 0 < f.length) (h25 : f.length ≤ 25) : isForm25 f := ⟨h0, h25, h.ok hd ha⟩
theorem BF.zeros {d a k : Nat} : BF d a (List.replicate k 0) := fun q hq => by rw [List.eq_of_mem_replicate hq]; exact B.zero
theorem BF.cons {d a : Nat} {x : Rat} {f : List Rat} (hx : B d a x) (hf : BF d a f) : BF d a (x :: f) := fun q hq => by
  rcases List.mem_cons.mp hq with rfl | z
  · exact hx
  · exact hf q z
theorem BF.nil {d a : Nat} : BF d a [] := fun q hq => by cases hq
theorem mulp {x a b : Nat} (h : x ≤ 2 ^ b) : x * 2 ^ a ≤ 2 ^ (a + b) := by
  rw [Nat.pow_add, Nat.mul_comm]; exact Nat.mul_le_mul_left _ h
theorem cv_P {f g : List Rat} {d a e b : Nat} (hf : BF d a f) (hg : BF e b g) (lf : 0 < f.length) (lg : 0 < g.length) (hl : f.length + g.length ≤ 26) (hd : d + e ≤ 99) (ha : a + b ≤ 1889) :
    forms_multiply [encF f, encF g] = .ok (encF (cv f g)) ∧ BF (d + e) (a + b + 10) (cv f g) := by
  have e1 : KK ^ d * KK ^ e = KK ^ (d + e) := (Nat.pow_add _ _ _).symm
  have e2 : 625 * (2 ^ a * 2 ^ b) ≤ 2 ^ (a + b + 10) := by rw [← Nat.pow_add]; exact mulp (by decide)
  have s : Sz (KK ^ d * KK ^ e) (625 * (2 ^ a * 2 ^ b)) := ⟨by rw [e1]; exact KKn _, by rw [e1]; exact KKlt hd, Nat.lt_of_le_of_lt e2 (p2lt (by omega))⟩
  have h1 := forms_multiply_spec hf.fb hg.fb lf lg hl (szB (by omega) (by omega)) (szB (by omega) (by omega)) s
  exact ⟨h1.1, h1.2.bf (by rw [e1]; exact Nat.dvd_refl _) e2⟩
theorem add_BF {f g : List Rat} {d a b c : Nat} (hf : BF d a f) (hg : BF d b g) (h1 : a + 1 ≤ c) (h2 : b + 1 ≤ c) : BF d c (List.zipWith (· + ·) f g) := by
  refine (plus_FB (KKn d) (hf.mono (Nat.le_refl _) (show a ≤ c - 1 by omega)).fb (hg.mono (Nat.le_refl _) (show b ≤ c - 1 by omega)).fb).bf (Nat.dvd_refl _) ?_
  rw [← p2s]
  exact Nat.pow_le_pow_right (by decide) (by omega)
theorem add_P {f g : List Rat} {d a b : Nat} (hf : BF d a f) (hg : BF d b g) (hl : f.length = g.length) (h25 : f.length ≤ 100) (hd : d ≤ 99) (ha : a ≤ 1899) (hb : b ≤ 1899) :
    forms_add [encF f, encF g] = .ok (encF (List.zipWith (· + ·) f g)) := (forms_add_spec hf.fb hg.fb hl h25 (szB hd ha) (szB hd hb)).1
theorem scale_BF {f : List Rat} {c : Rat} {d a e b : Nat} (hf : BF d a f) (hc : B e b c) : BF (e + d) (b + a) (f.map (c * ·)) :=
  (scale_FB hf.fb hc).bf (by rw [← Nat.pow_add]; exact Nat.dvd_refl _) (by rw [← Nat.pow_add]; exact Nat.le_refl _)
theorem scale_P {f : List Rat} {c : Rat} {d a e b : Nat} (hf : BF d a f) (hc : B e b c) (h25 : f.length ≤ 100) (hd : d ≤ 99) (ha : a ≤ 1899) (he : e ≤ 99) (hb : b ≤ 1899) :
    forms_scaled [enc c, encF f] = .ok (encF (f.map (c * ·))) := (forms_scaled_spec hf.fb hc h25 (szB hd ha) (szB he hb)).1
theorem slope_BF {f : List Rat} {d a : Nat} (hf : BF d a f) (hl : f.length ≤ 32) : BF d (a + 5) (sx f) ∧ BF d (a + 5) (sy f) := by
  have b1 := sx_FB hf.fb (N := 32) hl
  have b2 := sy_FB hf.fb (N := 32) hl
  have q : 32 * 2 ^ a ≤ 2 ^ (a + 5) := mulp (by decide)
  exact ⟨b1.bf (Nat.dvd_refl _) q, b2.bf (Nat.dvd_refl _) q⟩
/-- drawn forms -/
theorem FB.drawn {f : List Rat} (h : FB 2 3 f) : BF 1 2 f := h.bf (by decide) (by decide)
end G

end

section
namespace G
open PySem Ev
/-! ### slopes of values -/
def dp (u p : Rat) : Nat → Rat
  | 0 => 0
  | n + 1 => dp u p n * u + u ^ n * p
theorem dp_add (u p : Rat) (m : Nat) : ∀ n : Nat, dp u p (m + n) = dp u p m * u ^ n + u ^ m * dp u p n
  | 0 => by rw [Nat.add_zero, Rat.pow_zero]; unfold dp; grind
  | n + 1 => by
    rw [← Nat.add_assoc]
    show dp u p (m + n) * u + u ^ (m + n) * p = dp u p m * u ^ (n + 1) + u ^ m * (dp u p n * u + u ^ n * p)
    rw [dp_add u p m n, rpow_add, Rat.pow_succ]
    grind
theorem dp_zero (u : Rat) : ∀ n : Nat, dp u 0 n = 0
  | 0 => rfl
  | n + 1 => by unfold dp; rw [dp_zero u n]; grind
theorem dp_one (u : Rat) : ∀ n : Nat, dp u 1 n = ((n : Nat) : Rat) * u ^ (n - 1)
  | 0 => by unfold dp; grind
  | n + 1 => by
    unfold dp; rw [dp_one u n, Nat.add_sub_cancel]
    cases n with
    | zero => simp [Rat.pow_zero]; grind
    | succ n => rw [Nat.add_sub_cancel, Rat.pow_succ]; simp; grind
def Dm : List Rat → Rat → Rat → Rat → Rat → Rat
  | [], _, _, _, _ => 0
  | a :: l, u, v, p, q => a * dp u p l.length + q * Hm l u v + v * Dm l u v p q
theorem Dm_nil (u v p q : Rat) : Dm [] u v p q = 0 := rfl
theorem Dm_cons (a : Rat) (l : List Rat) (u v p q : Rat) : Dm (a :: l) u v p q = a * dp u p l.length + q * Hm l u v + v * Dm l u v p q := rfl
section
variable (u v p q : Rat)
theorem Dm_add : ∀ {f g : List Rat}, f.length = g.length → Dm (List.zipWith (· + ·) f g) u v p q = Dm f u v p q + Dm g u v p q
  | [], [], _ => by simp [Dm]; grind
  | [], _ :: _, h => by simp at h
  | _ :: _, [], h => by simp at h
  | a :: f, b :: g, h => by
    have h' : f.length = g.length := by simpa using h
    simp only [List.zipWith_cons_cons, Dm_cons, List.length_zipWith, h', Nat.min_self]
    rw [Dm_add h', Hm_add u v h']
    grind
theorem Dm_scale (c : Rat) : ∀ f : List Rat, Dm (f.map (c * ·)) u v p q = c * Dm f u v p q
  | [] => by simp [Dm]
  | a :: f => by
    simp only [List.map_cons, Dm_cons, List.length_map]
    rw [Dm_scale c f, Hm_scale u v c f]
    grind
theorem Dm_zero : ∀ n : Nat, Dm (List.replicate n 0) u v p q = 0
  | 0 => rfl
  | n + 1 => by rw [List.replicate_succ, Dm_cons, Dm_zero n, Hm_zero]; grind
theorem Dm_pad (n : Nat) : ∀ g : List Rat, Dm (g ++ List.replicate n 0) u v p q = Dm g u v p q * u ^ n + Hm g u v * dp u p n
  | [] => by rw [List.nil_append, Dm_zero, Hm_nil, Dm_nil]; grind
  | a :: g => by
    rw [List.cons_append, Dm_cons, Dm_cons, Dm_pad n g, Hm_pad, List.length_append, List.length_replicate, dp_add, Hm_cons]
    grind
theorem Dm_cv {g : List Rat} (hg : 0 < g.length) : ∀ f : List Rat, Dm (cv f g) u v p q = Dm f u v p q * Hm g u v + Hm f u v * Dm g u v p q
  | [] => by unfold cv; rw [Dm_zero, Hm_nil, Dm_nil]; grind
  | a :: f => by
    unfold cv
    rw [Dm_add u v p q (by rw [List.length_append, List.length_map, List.length_replicate, List.length_cons, cv_len hg f]; omega), Dm_pad, Dm_scale, Hm_scale, Dm_cons, Dm_cons, Hm_cons, Dm_cv hg f, Hm_cv u v hg f]
    grind
theorem Dm_pw {f : List Rat} (hf : 0 < f.length) : ∀ n : Nat, Dm (pw f n) u v p q = dp (Hm f u v) (Dm f u v p q) n
  | 0 => by
    show Dm [1] u v p q = _
    rw [Dm_cons, Dm_nil, Hm_nil, List.length_nil]; unfold dp; grind
  | n + 1 => by
    show Dm (cv (pw f n) f) u v p q = _
    rw [Dm_cv u v p q hf, Dm_pw hf n, Hm_pw u v hf n]
    rfl
def dtm (f : List Rat) (u v p q : Rat) (k : Nat) : Rat := f.getD k 0 * (dp u p (f.length - 1 - k) * v ^ k + u ^ (f.length - 1 - k) * dp v q k)
theorem Dm_sum : ∀ f : List Rat, Dm f u v p q = Sg f.length (dtm f u v p q)
  | [] => rfl
  | a :: l => by
    rw [List.length_cons, Sg_first, Dm_cons, Dm_sum l, Hm_sum u v l, ← Sg_mul, ← Sg_mul, Rat.add_assoc, ← Sg_add]
    congr 1
    · simp [dtm, Rat.pow_zero, dp]
      grind
    · refine Sg_congr fun i hi => ?_
      have e : l.length - (i + 1) = l.length - 1 - i := by omega
      simp only [tm, dtm, List.getD_cons_succ, List.length_cons, Nat.add_sub_cancel, Rat.pow_succ, e]
      rw [show dp v q (i + 1) = dp v q i * v + v ^ i * q from rfl]
      grind
/-- the chain rule -/
theorem Dm_chg {f P Q : List Rat} (hp : P.length = 2) (hq : Q.length = 2) : Dm (chg f P Q) u v p q = Dm f (Hm P u v) (Hm Q u v) (Dm P u v p q) (Dm Q u v p q) := by
  have : ∀ i, i ≤ f.length → Dm (chgN f P Q i) u v p q = Sg i (dtm f (Hm P u v) (Hm Q u v) (Dm P u v p q) (Dm Q u v p q)) := by
    intro i
    induction i with
    | zero => intro _; show Dm (List.replicate _ _) u v p q = _; rw [Dm_zero]; rfl
    | succ i ih =>
      intro h
      show Dm (List.zipWith _ _ _) u v p q = _
      rw [Dm_add u v p q (by rw [chgN_len hp hq i (by omega), cterm_len hp hq (by omega)]), ih (by omega), Sg_succ]
      congr 1
      unfold cterm dtm
      rw [Dm_scale, Dm_cv u v p q (by rw [pw_len (by omega)]; omega), Dm_pw u v p q (by omega), Dm_pw u v p q (by omega), Hm_pw u v (by omega), Hm_pw u v (by omega)]
  rw [Dm_sum _ _ _ _ f]
  exact this _ (Nat.le_refl _)
end
/-! the slopes' values -/
def sx0 (f : List Rat) : List Rat := (List.range (f.length - 1)).map fun k => (((f.length - 1 - k : Nat) : Int) : Rat) * f.getD k 0
def sy0 (f : List Rat) : List Rat := (List.range (f.length - 1)).map fun k => (((k + 1 : Nat) : Int) : Rat) * f.getD (k + 1) 0
theorem Hm_sx0 (u v : Rat) : ∀ f : List Rat, Hm (sx0 f) u v = Dm f u v 1 0
  | [] => rfl
  | [a] => by
    show Hm [] u v = _
    rw [Dm_cons, Hm_nil, Dm_nil, List.length_nil]; unfold dp; grind
  | a :: b :: l => by
    have e : sx0 (a :: b :: l) = (((b :: l).length : Nat) : Rat) * a :: sx0 (b :: l) := by
      unfold sx0
      simp only [List.length_cons, Nat.add_sub_cancel]
      rw [List.range_succ_eq_map, List.map_cons, List.map_map]
      congr 1
      refine List.map_congr_left fun k hk => ?_
      have e : l.length + 1 - (k + 1) = l.length - k := by omega
      simp only [Function.comp_def, Nat.succ_eq_add_one, e, List.getD_cons_succ]
    rw [e, Hm_cons, Hm_sx0 u v (b :: l), Dm_cons a (b :: l), dp_one]
    have e2 : (sx0 (b :: l)).length = (b :: l).length - 1 := by unfold sx0; simp
    rw [e2]
    grind
theorem Hm_sy0 (u v : Rat) : ∀ f : List Rat, Hm (sy0 f) u v = Dm f u v 0 1
  | [] => rfl
  | [a] => by
    show Hm [] u v = _
    rw [Dm_cons, Hm_nil, Dm_nil, List.length_nil]; unfold dp; grind
  | a :: b :: l => by
    have e : sy0 (a :: b :: l) = List.zipWith (· + ·) (b :: l) (0 :: sy0 (b :: l)) := by
      apply List.ext_getElem?
      intro i
      unfold sy0
      rw [List.getElem?_zipWith]
      by_cases h : i < l.length + 1
      · cases i with
        | zero => simp; grind
        | succ i =>
          have h' : i < l.length := by omega
          simp [h, h']
          have : (((i : Nat) : Int) : Rat) + 1 + 1 = 1 + ((((i : Nat) : Int) : Rat) + 1) := by grind
          grind
      · simp at h
        rw [List.getElem?_eq_none (by simp; omega)]
        cases i with
        | zero => omega
        | succ i => simp [List.getElem?_eq_none (show l.length ≤ i by omega)]
    rw [e, Hm_add u v (by unfold sy0; simp), Hm_cons _ _ 0, Hm_sy0 u v (b :: l), Dm_cons a, dp_zero]
    grind
theorem Hm_sx (u v : Rat) {f : List Rat} : Hm (sx f) u v = Dm f u v 1 0 := by
  unfold sx
  split
  · rename_i h
    obtain ⟨a, rfl⟩ := List.length_eq_one_iff.mp h
    rw [Hm_cons, Hm_nil, Dm_cons, Hm_nil, Dm_nil, List.length_nil]; unfold dp; grind
  · exact Hm_sx0 u v f
theorem Hm_sy (u v : Rat) {f : List Rat} : Hm (sy f) u v = Dm f u v 0 1 := by
  unfold sy
  split
  · rename_i h
    obtain ⟨a, rfl⟩ := List.length_eq_one_iff.mp h
    rw [Hm_cons, Hm_nil, Dm_cons, Hm_nil, Dm_nil, List.length_nil]; unfold dp; grind
  · exact Hm_sy0 u v f
end G

end

section
namespace G
open PySem Ev
/-! ### slides -/
def T : Nat → List Rat → List Rat → List Rat
  | 0, f, g => cv f g
  | k + 1, f, g => List.zipWith (· + ·) (T k (sx f) (sy g)) ((T k (sy f) (sx g)).map (-1 * ·))
theorem T_len : ∀ (k : Nat) {f g : List Rat}, k < f.length → k < g.length → (T k f g).length = f.length + g.length - 1 - 2 * k
  | 0, f, g, hf, hg => by unfold T; rw [cv_len hg]; omega
  | k + 1, f, g, hf, hg => by
    unfold T
    have a := sx_len (f := f) (by omega)
    have b := sy_len (f := f) (by omega)
    have c := sx_len (f := g) (by omega)
    have d := sy_len (f := g) (by omega)
    rw [List.length_zipWith, List.length_map, T_len k (by omega) (by omega), T_len k (by omega) (by omega)]
    omega
theorem T_succ (u v : Rat) (k : Nat) {f g : List Rat} (hf : k + 1 < f.length) (hg : k + 1 < g.length) : Hm (T (k + 1) f g) u v = Hm (T k (sx f) (sy g)) u v - Hm (T k (sy f) (sx g)) u v := by
  have a := sx_len (f := f) (by omega)
  have b := sy_len (f := f) (by omega)
  have c := sx_len (f := g) (by omega)
  have d := sy_len (f := g) (by omega)
  rw [show T (k + 1) f g = List.zipWith (· + ·) (T k (sx f) (sy g)) ((T k (sy f) (sx g)).map (-1 * ·)) from rfl, Hm_add u v (by rw [List.length_map, T_len k (by omega) (by omega), T_len k (by omega) (by omega)]; omega), Hm_scale]
  grind
/-! slopes of sums, multiples, changed ones -/
theorem sx_add {f g : List Rat} (h : f.length = g.length) (h0 : 0 < f.length) : sx (List.zipWith (· + ·) f g) = List.zipWith (· + ·) (sx f) (sx g) :=
  Hm_ext (by rw [sx_len (by simp; omega), List.length_zipWith, List.length_zipWith, sx_len h0, sx_len (by omega)]; omega) fun u v => by
    rw [Hm_sx, Dm_add _ _ _ _ h, Hm_add u v (by rw [sx_len h0, sx_len (by omega)]; omega), Hm_sx, Hm_sx]
theorem sy_add {f g : List Rat} (h : f.length = g.length) (h0 : 0 < f.length) : sy (List.zipWith (· + ·) f g) = List.zipWith (· + ·) (sy f) (sy g) :=
  Hm_ext (by rw [sy_len (by simp; omega), List.length_zipWith, List.length_zipWith, sy_len h0, sy_len (by omega)]; omega) fun u v => by
    rw [Hm_sy, Dm_add _ _ _ _ h, Hm_add u v (by rw [sy_len h0, sy_len (by omega)]; omega), Hm_sy, Hm_sy]
theorem sx_scale {f : List Rat} (c : Rat) (h0 : 0 < f.length) : sx (f.map (c * ·)) = (sx f).map (c * ·) :=
  Hm_ext (by rw [sx_len (by simpa using h0), List.length_map, List.length_map, sx_len h0]) fun u v => by
    rw [Hm_sx, Dm_scale, Hm_scale, Hm_sx]
theorem sy_scale {f : List Rat} (c : Rat) (h0 : 0 < f.length) : sy (f.map (c * ·)) = (sy f).map (c * ·) :=
  Hm_ext (by rw [sy_len (by simpa using h0), List.length_map, List.length_map, sy_len h0]) fun u v => by
    rw [Hm_sy, Dm_scale, Hm_scale, Hm_sy]
theorem Dm2 (a b u v p q : Rat) : Dm [a, b] u v p q = a * p + b * q := by
  rw [Dm_cons, Dm_cons, Dm_nil, Hm_cons, Hm_nil]
  simp [dp, Rat.pow_zero]
  grind
theorem Dm_lin (f : List Rat) (u v p q : Rat) : Dm f u v p q = p * Dm f u v 1 0 + q * Dm f u v 0 1 := by
  have dl : ∀ n, dp u p n = p * dp u 1 n := fun n => by
    induction n with
    | zero => unfold dp; grind
    | succ n ih => unfold dp; rw [ih]; grind
  induction f with
  | nil => simp only [Dm_nil]; grind
  | cons a l ih => rw [Dm_cons, Dm_cons, Dm_cons, ih, dl, dp_zero]; grind
theorem sx_chg (a b c d : Rat) {f : List Rat} (h0 : 0 < f.length) : sx (chg f [a, b] [c, d]) = List.zipWith (· + ·) ((chg (sx f) [a, b] [c, d]).map (a * ·)) ((chg (sy f) [a, b] [c, d]).map (c * ·)) := by
  have e := sx_len h0
  have e' := sy_len h0
  refine Hm_ext ?_ fun u v => ?_
  · rw [sx_len (by rw [chg_len rfl rfl]; exact h0), List.length_zipWith, List.length_map, List.length_map, chg_len rfl rfl, chg_len rfl rfl, chg_len rfl rfl, e, e']; omega
  · rw [Hm_sx, Dm_chg _ _ _ _ rfl rfl, Hm_add u v (by rw [List.length_map, List.length_map, chg_len rfl rfl, chg_len rfl rfl, e, e']), Hm_scale, Hm_scale, Hm_chg rfl rfl, Hm_chg rfl rfl, Hm_sx, Hm_sy, Dm_lin]
    simp only [Dm2]
    grind
theorem sy_chg (a b c d : Rat) {f : List Rat} (h0 : 0 < f.length) : sy (chg f [a, b] [c, d]) = List.zipWith (· + ·) ((chg (sx f) [a, b] [c, d]).map (b * ·)) ((chg (sy f) [a, b] [c, d]).map (d * ·)) := by
  have e := sx_len h0
  have e' := sy_len h0
  refine Hm_ext ?_ fun u v => ?_
  · rw [sy_len (by rw [chg_len rfl rfl]; exact h0), List.length_zipWith, List.length_map, List.length_map, chg_len rfl rfl, chg_len rfl rfl, chg_len rfl rfl, e, e']; omega
  · rw [Hm_sy, Dm_chg _ _ _ _ rfl rfl, Hm_add u v (by rw [List.length_map, List.length_map, chg_len rfl rfl, chg_len rfl rfl, e, e']), Hm_scale, Hm_scale, Hm_chg rfl rfl, Hm_chg rfl rfl, Hm_sx, Hm_sy, Dm_lin]
    simp only [Dm2]
    grind
section
variable (u v : Rat)
theorem T_addL : ∀ (k : Nat) {f f' g : List Rat}, f.length = f'.length → k < f.length → k < g.length → Hm (T k (List.zipWith (· + ·) f f') g) u v = Hm (T k f g) u v + Hm (T k f' g) u v
  | 0, f, f', g, h, hf, hg => by unfold T; rw [Hm_cv u v hg, Hm_cv u v hg, Hm_cv u v hg, Hm_add u v h]; grind
  | k + 1, f, f', g, h, hf, hg => by
    have a := sx_len (f := f) (by omega)
    have b := sy_len (f := f) (by omega)
    have a' := sx_len (f := f') (by omega)
    have b' := sy_len (f := f') (by omega)
    have c := sx_len (f := g) (by omega)
    have d := sy_len (f := g) (by omega)
    rw [T_succ u v k (by simp; omega) hg, sx_add h (by omega), sy_add h (by omega), T_addL k (by omega) (by omega) (by omega), T_addL k (by omega) (by omega) (by omega), T_succ u v k hf hg, T_succ u v k (by omega) hg]
    grind
theorem T_scaleL (c : Rat) : ∀ (k : Nat) {f g : List Rat}, k < f.length → k < g.length → Hm (T k (f.map (c * ·)) g) u v = c * Hm (T k f g) u v
  | 0, f, g, hf, hg => by unfold T; rw [Hm_cv u v hg, Hm_cv u v hg, Hm_scale]; grind
  | k + 1, f, g, hf, hg => by
    have a := sx_len (f := f) (by omega)
    have b := sy_len (f := f) (by omega)
    have c := sx_len (f := g) (by omega)
    have d := sy_len (f := g) (by omega)
    rw [T_succ u v k (by simp; omega) hg, sx_scale _ (by omega), sy_scale _ (by omega), T_scaleL _ k (by omega) (by omega), T_scaleL _ k (by omega) (by omega), T_succ u v k hf hg]
    grind
/-- the other way -/
theorem T_swap : ∀ (k : Nat) {f g : List Rat}, k < f.length → k < g.length → Hm (T k g f) u v = (-1) ^ k * Hm (T k f g) u v
  | 0, f, g, hf, hg => by unfold T; rw [Hm_cv u v hg, Hm_cv u v hf, Rat.pow_zero]; grind
  | k + 1, f, g, hf, hg => by
    have a := sx_len (f := f) (by omega)
    have b := sy_len (f := f) (by omega)
    have c := sx_len (f := g) (by omega)
    have d := sy_len (f := g) (by omega)
    rw [T_succ u v k hg hf, T_swap k (f := sy f) (by omega) (by omega), T_swap k (f := sx f) (by omega) (by omega), T_succ u v k hf hg, Rat.pow_succ]
    grind
theorem T_addR (k : Nat) {f g g' : List Rat} (h : g.length = g'.length) (hf : k < f.length) (hg : k < g.length) : Hm (T k f (List.zipWith (· + ·) g g')) u v = Hm (T k f g) u v + Hm (T k f g') u v := by
  rw [T_swap u v k (f := List.zipWith (· + ·) g g') (by simp; omega) hf, T_addL u v k h hg hf, T_swap u v k (f := g) hg hf, T_swap u v k (f := g') (by omega) hf]
  grind
theorem T_scaleR (c : Rat) (k : Nat) {f g : List Rat} (hf : k < f.length) (hg : k < g.length) : Hm (T k f (g.map (c * ·))) u v = c * Hm (T k f g) u v := by
  rw [T_swap u v k (f := g.map (c * ·)) (by simpa using hg) hf, T_scaleL u v c k hg hf, T_swap u v k (f := g) hg hf]
  grind
end
/-- a change multiplies the k-th slide by the determinant to the k -/
theorem T_chg (a b c d : Rat) : ∀ (k : Nat) {f g : List Rat} (u v : Rat), k < f.length → k < g.length →
    Hm (T k (chg f [a, b] [c, d]) (chg g [a, b] [c, d])) u v = (a * d - b * c) ^ k * Hm (T k f g) (a * u + b * v) (c * u + d * v)
  | 0, f, g, u, v, hf, hg => by
    unfold T
    rw [Hm_cv u v (by rw [chg_len rfl rfl]; exact hg), Hm_cv _ _ hg, Hm_chg rfl rfl, Hm_chg rfl rfl, Rat.pow_zero]
    simp only [Hm2]
    grind
  | k + 1, f, g, u, v, hf, hg => by
    have l1 := sx_len (f := f) (by omega)
    have l2 := sy_len (f := f) (by omega)
    have l3 := sx_len (f := g) (by omega)
    have l4 := sy_len (f := g) (by omega)
    have m := fun (f : List Rat) => chg_len (f := f) (p := [a, b]) (q := [c, d]) rfl rfl
    rw [T_succ u v k (by rw [m]; omega) (by rw [m]; omega), sx_chg a b c d (by omega), sx_chg a b c d (by omega), sy_chg a b c d (by omega), sy_chg a b c d (by omega)]
    have L : ∀ (x y z w : Rat), Hm (T k (List.zipWith (· + ·) ((chg (sx f) [a, b] [c, d]).map (x * ·)) ((chg (sy f) [a, b] [c, d]).map (y * ·))) (List.zipWith (· + ·) ((chg (sx g) [a, b] [c, d]).map (z * ·)) ((chg (sy g) [a, b] [c, d]).map (w * ·)))) u v
        = (a * d - b * c) ^ k * (x * z * Hm (T k (sx f) (sx g)) (a * u + b * v) (c * u + d * v) + x * w * Hm (T k (sx f) (sy g)) (a * u + b * v) (c * u + d * v) + y * z * Hm (T k (sy f) (sx g)) (a * u + b * v) (c * u + d * v) + y * w * Hm (T k (sy f) (sy g)) (a * u + b * v) (c * u + d * v)) := fun x y z w => by
      rw [T_addL u v k (by simp [m]; omega) (by simp [m]; omega) (by simp [m]; omega), T_addR u v k (by simp [m]; omega) (by simp [m]; omega) (by simp [m]; omega), T_addR u v k (by simp [m]; omega) (by simp [m]; omega) (by simp [m]; omega)]
      rw [T_scaleL u v x k (by rw [m]; omega) (by simp [m]; omega), T_scaleL u v x k (by rw [m]; omega) (by simp [m]; omega), T_scaleL u v y k (by rw [m]; omega) (by simp [m]; omega), T_scaleL u v y k (by rw [m]; omega) (by simp [m]; omega)]
      rw [T_scaleR u v z k (by rw [m]; omega) (by rw [m]; omega), T_scaleR u v w k (by rw [m]; omega) (by rw [m]; omega), T_scaleR u v z k (by rw [m]; omega) (by rw [m]; omega), T_scaleR u v w k (by rw [m]; omega) (by rw [m]; omega)]
      rw [T_chg a b c d k u v (by omega) (by omega), T_chg a b c d k u v (by omega) (by omega), T_chg a b c d k u v (by omega) (by omega), T_chg a b c d k u v (by omega) (by omega)]
      grind
    rw [L, L, T_succ _ _ k hf hg, Rat.pow_succ]
    grind
/-! ### the sum of products of slopes -/
theorem sx_sy {f : List Rat} (h0 : 0 < f.length) : sx (sy f) = sy (sx f) := by
  have e1 := sx_len h0
  have e2 := sy_len h0
  by_cases h1 : f.length = 1
  · obtain ⟨a, rfl⟩ := List.length_eq_one_iff.mp h1
    rfl
  by_cases h2 : f.length = 2
  · rcases f with _ | ⟨a, _ | ⟨b, _ | ⟨c, f⟩⟩⟩
    · simp at h2
    · simp at h2
    · simp [sx, sy]
    · simp at h2
  · have l1 : (sx f).length ≠ 1 := by omega
    have l2 : (sy f).length ≠ 1 := by omega
    have s1 : sx (sy f) = sx0 (sy f) := if_neg l2
    have s2 : sy (sx f) = sy0 (sx f) := if_neg l1
    rw [s1, s2]
    unfold sx0 sy0
    rw [show (sy f).length - 1 = (sx f).length - 1 by omega]
    refine List.map_congr_left fun k hk => ?_
    have hk := List.mem_range.mp hk
    have a1 : (sy f).getD k 0 = (((k + 1 : Nat) : Int) : Rat) * f.getD (k + 1) 0 := by
      unfold sy; rw [if_neg h1]
      rw [List.getD_eq_getElem?_getD, List.getElem?_map, List.getElem?_range (by omega)]; rfl
    have a2 : (sx f).getD (k + 1) 0 = (((f.length - 1 - (k + 1) : Nat) : Int) : Rat) * f.getD (k + 1) 0 := by
      unfold sx; rw [if_neg h1]
      rw [List.getD_eq_getElem?_getD, List.getElem?_map, List.getElem?_range (by omega)]; rfl
    rw [a1, a2, show (sx f).length - 1 - k = f.length - 1 - (k + 1) by omega]
    grind
def sg : Nat → Rat
  | 0 => 1
  | k + 1 => -(sg k)
theorem cb_over : ∀ {n k : Nat}, n < k → cb n k = 0
  | n, 0, h => by omega
  | 0, k + 1, _ => rfl
  | n + 1, k + 1, h => by unfold cb; rw [cb_over (by omega), cb_over (by omega)]
theorem cb_zero (n : Nat) : cb n 0 = 1 := by cases n <;> rfl
theorem pascal (E : Nat → Rat) (k : Nat) : Sg (k + 2) (fun j => sg j * ((cb (k + 1) j : Nat) : Rat) * E j) = Sg (k + 1) (fun j => sg j * ((cb k j : Nat) : Rat) * E j) - Sg (k + 1) (fun j => sg j * ((cb k j : Nat) : Rat) * E (j + 1)) := by
  have h1 : Sg (k + 2) (fun j => sg j * ((cb k j : Nat) : Rat) * E j) = Sg (k + 1) (fun j => sg j * ((cb k j : Nat) : Rat) * E j) := by
    rw [Sg_succ, cb_over (by omega)]
    simp; grind
  rw [← h1, Sg_first, Sg_first (n := k + 1)]
  have e : (fun j => sg (j + 1) * ((cb (k + 1) (j + 1) : Nat) : Rat) * E (j + 1)) = fun j => sg (j + 1) * ((cb k (j + 1) : Nat) : Rat) * E (j + 1) + (-1) * (sg j * ((cb k j : Nat) : Rat) * E (j + 1)) := by
    funext j
    rw [show cb (k + 1) (j + 1) = cb k j + cb k (j + 1) from rfl, show sg (j + 1) = -(sg j) from rfl]
    push_cast
    grind
  rw [e, Sg_add, Sg_mul, cb_zero, cb_zero]
  grind
def itm (k : Nat) (f g : List Rat) (u v : Rat) (j : Nat) : Rat := Hm (itr sy j (itr sx (k - j) f)) u v * Hm (itr sy (k - j) (itr sx j g)) u v
end G

end

section
namespace G
open PySem Ev
/-! ### the sum of products of slopes -/
theorem itr_in (g : List Rat → List Rat) : ∀ (n : Nat) (f : List Rat), itr g n (g f) = itr g (n + 1) f
  | 0, _ => rfl
  | n + 1, f => congrArg g (itr_in g n f)
theorem itr_len {g : List Rat → List Rat} (hg : ∀ f : List Rat, 0 < f.length → (g f).length = max 1 (f.length - 1)) {f : List Rat} (h0 : 0 < f.length) : ∀ n : Nat, (itr g n f).length = max 1 (f.length - n)
  | 0 => by show f.length = _; omega
  | n + 1 => by
    have h := itr_len hg h0 n
    show (g _).length = _
    rw [hg _ (by omega), h]
    omega
theorem ix_len {f : List Rat} (h0 : 0 < f.length) (n : Nat) : (itr sx n f).length = max 1 (f.length - n) := itr_len (fun _ h => sx_len h) h0 n
theorem iy_len {f : List Rat} (h0 : 0 < f.length) (n : Nat) : (itr sy n f).length = max 1 (f.length - n) := itr_len (fun _ h => sy_len h) h0 n
theorem ix_sy {f : List Rat} (h0 : 0 < f.length) : ∀ n : Nat, itr sx n (sy f) = sy (itr sx n f)
  | 0 => rfl
  | n + 1 => by
    have l := ix_len h0 n
    show sx (itr sx n (sy f)) = sy (sx (itr sx n f))
    rw [ix_sy h0 n, sx_sy (by omega)]
theorem itm_a {k j : Nat} {f g : List Rat} (u v : Rat) (hg : 0 < g.length) (hj : j ≤ k) : itm (k + 1) f g u v j = itm k (sx f) (sy g) u v j := by
  unfold itm
  rw [itr_in sx, ix_sy hg, itr_in sy, show k - j + 1 = k + 1 - j by omega]
theorem itm_b {k j : Nat} {f g : List Rat} (u v : Rat) (hf : 0 < f.length) (hj : j ≤ k) : itm (k + 1) f g u v (j + 1) = itm k (sy f) (sx g) u v j := by
  unfold itm
  rw [itr_in sx, ix_sy hf, itr_in sy, show k + 1 - (j + 1) = k - j by omega]
theorem T_sum (u v : Rat) : ∀ (k : Nat) {f g : List Rat}, k < f.length → k < g.length → Hm (T k f g) u v = Sg (k + 1) fun j => sg j * ((cb k j : Nat) : Rat) * itm k f g u v j
  | 0, f, g, hf, hg => by
    rw [Sg_succ, Sg_zero]
    unfold T
    rw [Hm_cv u v hg]
    show _ = 0 + sg 0 * ((1 : Nat) : Rat) * (Hm f u v * Hm g u v)
    unfold sg
    simp
    grind
  | k + 1, f, g, hf, hg => by
    have a := sx_len (f := f) (by omega)
    have b := sy_len (f := f) (by omega)
    have c := sx_len (f := g) (by omega)
    have d := sy_len (f := g) (by omega)
    rw [T_succ u v k hf hg, T_sum u v k (by omega) (by omega), T_sum u v k (by omega) (by omega), pascal]
    congr 1
    · exact Sg_congr fun j hj => by rw [itm_a u v (by omega) (by omega)]
    · exact Sg_congr fun j hj => by rw [itm_b u v (by omega) (by omega)]
def lef (k : Nat) (f : List Rat) (j : Nat) : List Rat := itr sy j (itr sx (k - j) f)
def sterm (k : Nat) (f g : List Rat) (j : Nat) : List Rat := (cv (lef k f j) (lef k g (k - j))).map (sg j * ((cb k j : Nat) : Rat) * ·)
def SN (k : Nat) (f g : List Rat) : Nat → List Rat
  | 0 => List.replicate (f.length + g.length - 1 - 2 * k) 0
  | i + 1 => List.zipWith (· + ·) (SN k f g i) (sterm k f g i)
theorem lef_len {k j : Nat} {f : List Rat} (hf : k < f.length) (hj : j ≤ k) : (lef k f j).length = f.length - k := by
  unfold lef
  have := ix_len (f := f) (by omega) (k - j)
  rw [iy_len (by omega), this]
  omega
theorem sterm_len {k j : Nat} {f g : List Rat} (hf : k < f.length) (hg : k < g.length) (hj : j ≤ k) : (sterm k f g j).length = f.length + g.length - 1 - 2 * k := by
  unfold sterm
  have a := lef_len hf hj
  have b := lef_len hg (show k - j ≤ k by omega)
  rw [List.length_map, cv_len (by omega), a, b]
  omega
theorem SN_len {k : Nat} {f g : List Rat} (hf : k < f.length) (hg : k < g.length) : ∀ i, i ≤ k + 1 → (SN k f g i).length = f.length + g.length - 1 - 2 * k
  | 0, _ => by unfold SN; simp
  | i + 1, h => by
    unfold SN
    rw [List.length_zipWith, SN_len hf hg i (by omega), sterm_len hf hg (by omega), Nat.min_self]
theorem SN_T {k : Nat} {f g : List Rat} (hf : k < f.length) (hg : k < g.length) : SN k f g (k + 1) = T k f g := by
  refine Hm_ext (by rw [SN_len hf hg _ (Nat.le_refl _), T_len k hf hg]) fun u v => ?_
  have : ∀ i, i ≤ k + 1 → Hm (SN k f g i) u v = Sg i fun j => sg j * ((cb k j : Nat) : Rat) * itm k f g u v j := by
    intro i
    induction i with
    | zero => intro _; show Hm (List.replicate _ _) u v = _; rw [Hm_zero]; rfl
    | succ i ih =>
      intro h
      have a := lef_len hg (show k - i ≤ k by omega)
      show Hm (List.zipWith _ _ _) u v = _
      rw [Hm_add u v (by rw [SN_len hf hg i (by omega), sterm_len hf hg (by omega)]), ih (by omega), Sg_succ]
      congr 1
      unfold sterm
      rw [Hm_scale, Hm_cv u v (by omega)]
      unfold lef itm
      rw [show k - (k - i) = i by omega]
  rw [this _ (Nat.le_refl _), T_sum u v k hf hg]
/-- the number ahead -/
def ff (m : Nat) : Nat → Nat
  | 0 => 1
  | k + 1 => ff m k * (m - k)
def ffm (m n : Nat) : Nat → Nat
  | 0 => 1
  | k + 1 => ffm m n k * (m - k) * (n - k)
theorem ffm_eq (m n : Nat) : ∀ k, ffm m n k = ff m k * ff n k
  | 0 => rfl
  | k + 1 => by unfold ffm ff; rw [ffm_eq m n k]; grind
theorem ff_pos {m : Nat} : ∀ {k : Nat}, k ≤ m → 0 < ff m k
  | 0, _ => Nat.one_pos
  | k + 1, h => by unfold ff; exact Nat.mul_pos (ff_pos (by omega)) (by omega)
theorem fac_ff {m : Nat} : ∀ {k : Nat}, k ≤ m → fac m = ff m k * fac (m - k)
  | 0, _ => by unfold ff; simp
  | k + 1, h => by
    rw [fac_ff (k := k) (by omega), ff, show m - k = (m - (k + 1)) + 1 by omega, fac]
    grind
theorem fac_pos : ∀ n : Nat, 0 < fac n
  | 0 => by decide
  | n + 1 => by unfold fac; exact Nat.mul_pos (fac_pos n) (by omega)
theorem fac_mono : ∀ {m n : Nat}, m ≤ n → fac m ≤ fac n
  | m, 0, h => by rw [show m = 0 by omega]; exact Nat.le_refl _
  | m, n + 1, h => by
    by_cases e : m = n + 1
    · rw [e]; exact Nat.le_refl _
    · exact Nat.le_trans (fac_mono (show m ≤ n by omega)) (Nat.le_mul_of_pos_right _ (by omega))
def pf (m n k : Nat) : Rat := 1 / (((ffm m n k : Nat) : Int) : Rat)
/-- the k-th slide -/
def tv (k : Nat) (f g : List Rat) : List Rat := (T k f g).map (pf (f.length - 1) (g.length - 1) k * ·)
theorem tv_len {k : Nat} {f g : List Rat} (hf : k < f.length) (hg : k < g.length) : (tv k f g).length = f.length + g.length - 1 - 2 * k := by
  unfold tv; rw [List.length_map, T_len k hf hg]
theorem Hm_tv {k : Nat} {f g : List Rat} (u v : Rat) : Hm (tv k f g) u v = pf (f.length - 1) (g.length - 1) k * Hm (T k f g) u v := by
  unfold tv; rw [Hm_scale]
theorem enc_inv {c : Nat} (h : 0 < c) : (.tuple [.int 1, .int (c : Int)] : W) = enc (1 / (((c : Nat) : Int) : Rat)) := by
  have e : (1 : Rat) / (((c : Nat) : Int) : Rat) = mkRat 1 c := by
    rw [Rat.mkRat_eq_div]; rfl
  rw [e]
  unfold enc
  have h1 : (mkRat 1 c).num = 1 := by
    rw [Rat.num_mkRat, if_neg (by omega)]; simp
  have h2 : (mkRat 1 c).den = c := by
    rw [Rat.den_mkRat, if_neg (by omega)]; simp
  rw [h1, h2]
theorem ix_B {f : List Rat} {d a : Nat} (hf : BF d a f) (h0 : 0 < f.length) (hl : f.length ≤ 25) (hd : d ≤ 99) : ∀ n, a + 5 * n ≤ 1899 → BF d (a + 5 * n) (itr sx n f)
  | 0, _ => hf
  | n + 1, h => by
    have l := ix_len h0 n
    exact (slope_BF (ix_B hf h0 hl hd n (by omega)) (by omega)).1.mono (Nat.le_refl _) (by omega)
theorem iy_B {f : List Rat} {d a : Nat} (hf : BF d a f) (h0 : 0 < f.length) (hl : f.length ≤ 25) (hd : d ≤ 99) : ∀ n, a + 5 * n ≤ 1899 → BF d (a + 5 * n) (itr sy n f)
  | 0, _ => hf
  | n + 1, h => by
    have l := iy_len h0 n
    exact (slope_BF (iy_B hf h0 hl hd n (by omega)) (by omega)).2.mono (Nat.le_refl _) (by omega)
theorem lef_B {f : List Rat} {d a k j : Nat} (hf : BF d a f) (h0 : 0 < f.length) (hl : f.length ≤ 25) (hd : d ≤ 99) (hj : j ≤ k) (h : a + 5 * k ≤ 1899) : BF d (a + 5 * k) (lef k f j) := by
  unfold lef
  have l := ix_len h0 (k - j)
  exact (iy_B (ix_B hf h0 hl hd (k - j) (by omega)) (by omega) (by omega) hd j (by omega)).mono (Nat.le_refl _) (by omega)
theorem eight {n : Nat} (h : n ≤ 8) : n = 0 ∨ n = 1 ∨ n = 2 ∨ n = 3 ∨ n = 4 ∨ n = 5 ∨ n = 6 ∨ n = 7 ∨ n = 8 := by omega
theorem forms_choose8 {n k : Nat} (hn : n ≤ 8) (hk : k ≤ n) : forms_choose [.int (n : Int), .int (k : Int)] = .ok (.int (cb n k : Nat)) := by
  rcases eight hn with rfl | rfl | rfl | rfl | rfl | rfl | rfl | rfl | rfl <;>
    rcases eight (Nat.le_trans hk hn) with rfl | rfl | rfl | rfl | rfl | rfl | rfl | rfl | rfl <;> first | kernel_rfl | omega
theorem cb8 {n k : Nat} (hn : n ≤ 8) (hk : k ≤ n) : cb n k ≠ 0 ∧ cb n k ≤ 70 := by
  rcases eight hn with rfl | rfl | rfl | rfl | rfl | rfl | rfl | rfl | rfl <;>
    rcases eight (Nat.le_trans hk hn) with rfl | rfl | rfl | rfl | rfl | rfl | rfl | rfl | rfl <;> first | decide | omega
theorem sg_eq (j : Nat) : sg j = if j % 2 = 0 then 1 else -1 := by
  induction j with
  | zero => rfl
  | succ j ih =>
    unfold sg
    rw [ih]
    by_cases h : j % 2 = 0
    · rw [if_pos h, if_neg (by omega)]
    · rw [if_neg h, if_pos (by omega)]; grind
/-- the number before the j-th product -/
theorem sg_num (k j : Nat) : (.tuple [if j % 2 = 0 then .int ((cb k j : Nat) : Int) else .int (-((cb k j : Nat) : Int)), .int 1] : W) = enc (sg j * ((cb k j : Nat) : Rat)) := by
  rw [sg_eq]
  by_cases h : j % 2 = 0
  · rw [if_pos h, if_pos h, ← enc_int]
    congr 1
    rw [Rat.intCast_natCast]; grind
  · rw [if_neg h, if_neg h, ← enc_int]
    congr 1
    rw [Rat.intCast_neg, Rat.intCast_natCast]; grind
theorem sgc_B {k j : Nat} (hk : k ≤ 8) (hj : j ≤ k) : B 0 8 (sg j * ((cb k j : Nat) : Rat)) := by
  have h := (cb8 hk hj).2
  rw [sg_eq]
  by_cases c : j % 2 = 0
  · rw [if_pos c]
    have := B.int (d := 0) (a := 8) ((cb k j : Nat) : Int) (by simp; omega)
    rw [show (1 : Rat) * ((cb k j : Nat) : Rat) = ((((cb k j : Nat) : Int)) : Rat) by rw [Rat.intCast_natCast]; grind]
    exact this
  · rw [if_neg c]
    have := B.int (d := 0) (a := 8) (-((cb k j : Nat) : Int)) (by simp; omega)
    rw [show (-1 : Rat) * ((cb k j : Nat) : Rat) = ((-((cb k j : Nat) : Int) : Int) : Rat) by rw [Rat.intCast_neg, Rat.intCast_natCast]; grind]
    exact this
end G

end

section
namespace G
open PySem Ev
/-! small steps, written by the printer -/
section
variable {t : Tp} {A B C : Ex} {a b c : Et} {ρ ρ' : Sl} {w w' w'' x y : W} {ws : List W} {i j k : Nat} {As : Exs} {f : Fs}
theorem t_orT (h1 : a ρ t = .ok true t) : eOrT a b ρ t = .ok true t := by
  rw [s_eOrT, h1, s_bind_ok, if_pos rfl]
theorem t_orF {v : Bool} (h1 : a ρ t = .ok false t) (h2 : b ρ t = .ok v t) : eOrT a b ρ t = .ok v t := by
  rw [s_eOrT, h1, s_bind_ok, if_neg (by decide), h2]
theorem t_andF (h1 : a ρ t = .ok false t) : eAndT a b ρ t = .ok false t := by
  rw [s_eAndT, h1, s_bind_ok, if_neg (by decide)]
theorem t_andT {v : Bool} (h1 : a ρ t = .ok true t) (h2 : b ρ t = .ok v t) : eAndT a b ρ t = .ok v t := by
  rw [s_eAndT, h1, s_bind_ok, if_pos rfl, h2]
theorem t_not {v : Bool} (h1 : a ρ t = .ok v t) : eNotT a ρ t = .ok (!v) t := by
  rw [s_eNotT, h1, s_bind_ok]
theorem e_ifT (h : a ρ t = .ok true t) (h1 : A ρ t = .ok w t) : eIf a A B ρ t = .ok w t := by
  rw [s_eIf, h, s_bind_ok, if_pos rfl, h1]
theorem e_ifF (h : a ρ t = .ok false t) (h1 : B ρ t = .ok w t) : eIf a A B ρ t = .ok w t := by
  rw [s_eIf, h, s_bind_ok, if_neg (by decide), h1]
theorem e_lst (h1 : As ρ t = .ok ws t) (h2 : ws.length ≤ 1000) : eLst As ρ t = .ok (.list ws) t := by
  rw [s_eLst, h1, s_bind_ok, if_pos (few_of h2)]
theorem e_not {v : Bool} (h1 : A ρ t = .ok (.bool v) t) : eNot A ρ t = .ok (.bool (!v)) t := by
  rw [s_eNot, h1, s_bind_ok]
theorem e_scr (h0 : ρ[i]? = some (some x)) (h1 : As ρ t = .ok ws t) (h2 : f (x :: ws) = .ok w) : eScr f i As ρ t = .ok w t := by
  rw [s_eScr, h0]
  show (As ρ t).bind _ = _
  rw [h1, s_bind_ok, h2, s_fR_ok]
theorem x_asg {g : Gw} (h : A ρ t = .ok w t) (h2 : g w ρ = some ρ') : sAsg g A ρ t = .next ρ' t := by
  rw [s_sAsg, h, s_toS_ok, h2]
theorem x_par3 (h1 : A ρ t = .ok w t) (h2 : B ρ t = .ok w' t) (h3 : C ρ t = .ok w'' t) : sPar3 i j k A B C ρ t = .next (((ρ.set i (some w)).set j (some w')).set k (some w'')) t := by
  rw [s_sPar3, h1, s_toS_ok, h2, s_toS_ok, h3, s_toS_ok]
theorem x_drop (h : A ρ t = .ok w t) : sDrop A ρ t = .next ρ t := by
  rw [s_sDrop, h, s_toS_ok]
theorem x_app (h0 : ρ[i]? = some (some (.list ws))) (h : A ρ t = .ok w t) (hl : ws.length < 16777216) : sApp i A ρ t = .next (ρ.set i (some (.list (ws ++ [w])))) t := by
  rw [s_sApp, h0]
  show toS (A ρ t) _ = _
  rw [h, s_toS_ok, if_pos (decide_eq_true hl)]
theorem x_put (h0 : ρ[i]? = some (some x)) (h : A ρ t = .ok w t) (h1 : B ρ t = .ok w' t) (h2 : wPut x w' w = some y) : sPut i B A ρ t = .next (ρ.set i (some y)) t := by
  rw [s_sPut, h, s_toS_ok, h0]
  show toS (B ρ t) _ = _
  rw [h1, s_toS_ok, h2]
theorem x_aug {op : W → W → Option W} (h0 : ρ[i]? = some (some x)) (h : A ρ t = .ok w t) (h2 : op x w = some y) : sAug op i A ρ t = .next (ρ.set i (some y)) t := by
  rw [s_sAug, h0]
  show toS (A ρ t) _ = _
  rw [h, s_toS_ok, h2]
theorem i_true' {c : Et} {u v : Sv} {ρ : Sl} {r : SR} (h : c ρ t = .ok true t) (hu : u ρ t = r) : sIf c u v ρ t = r := by
  rw [s_sIf, h, s_toS_ok, if_pos rfl, hu]
theorem i_false' {c : Et} {u v : Sv} {ρ : Sl} {r : SR} (h : c ρ t = .ok false t) (hu : v ρ t = r) : sIf c u v ρ t = r := by
  rw [s_sIf, h, s_toS_ok, if_neg (by decide), hu]
theorem eqQ (x : Rat) : wEq (enc x) (enc x) = some (.bool true) := by rw [wEq_enc]; simp
theorem neqQ (x : Rat) : wNe (enc x) (enc x) = some (.bool false) := by rw [wNe_enc]; simp
theorem eqF (x : List Rat) : wEq (encF x) (encF x) = some (.bool true) := by rw [wEq_encF]; simp
theorem neqF (x : List Rat) : wNe (encF x) (encF x) = some (.bool false) := by rw [wNe_encF]; simp
theorem e_lc {src : Exs} {vs : List Nat} {g : Gw} {te : Ex} {items ws : List W} (h1 : src ρ t = .ok items t) (h2 : items.length ≤ 1000000) (h3 : lcL g etYes te items (wipeW ρ vs) t = .ok ws t) : eLc src vs g etYes te ρ t = .ok (.list ws) t := by
  rw [s_eLc, h1, s_bind_ok, if_pos (few_1M h2), h3, s_noexc, s_bind_ok]
theorem g_rng1 {n : Nat} (h : As ρ t = .ok [.int (n : Int)] t) (hn : n ≤ 1000) : sRng gRng1 As ρ t = .ok ((List.range n).map fun i : Nat => (.int (i : Int) : W)) t := by
  rw [s_sRng, h, s_bind_ok, gRng1_nat hn, s_rOf_some]
theorem g_seq (h : A ρ t = .ok w t) (h2 : wSeq w = some ws) : sSeq A ρ t = .ok ws t := by
  rw [s_sSeq, h, s_bind_ok, h2, s_rOf_some]
theorem fin_ret {fr : Bool} (h : A ρ t = .ok w t) : endF fr (sRet A ρ t) = .ok w := by
  rw [s_sRet, h]; rfl
theorem for_src {src : Exs} {g : Gw} {body : Sv} {items : List W} (h : src ρ t = .ok items t) : sFor src g body ρ t = forL g body items ρ t := by
  rw [s_sFor, h, s_toS_ok]
theorem for_step {g : Gw} {body : Sv} {items : List W} {ρ1 ρ2 : Sl} (h1 : g w ρ = some ρ1) (h2 : body ρ1 t = .next ρ2 t) : forL g body (w :: items) ρ t = forL g body items ρ2 t := by
  show (match g w ρ with | none => _ | some ρ1 => sThen body (forL g body items) ρ1 t) = _
  rw [h1]
  show sThen body (forL g body items) ρ1 t = _
  rw [then_next h2]
end
theorem ltT {i j : Int} (h : i < j) : wLt (.int i) (.int j) = some (.bool true) := congrArg (fun b => some (PyData.bool b)) (decide_eq_true h)
theorem ltF {i j : Int} (h : ¬ i < j) : wLt (.int i) (.int j) = some (.bool false) := congrArg (fun b => some (PyData.bool b)) (decide_eq_false h)
theorem leT {i j : Int} (h : i ≤ j) : wLe (.int i) (.int j) = some (.bool true) := congrArg (fun b => some (PyData.bool b)) (decide_eq_true h)
theorem leF {i j : Int} (h : ¬ i ≤ j) : wLe (.int i) (.int j) = some (.bool false) := congrArg (fun b => some (PyData.bool b)) (decide_eq_false h)
theorem gtT {i j : Int} (h : j < i) : wGt (.int i) (.int j) = some (.bool true) := congrArg (fun b => some (PyData.bool b)) (decide_eq_true h)
theorem gtF {i j : Int} (h : ¬ j < i) : wGt (.int i) (.int j) = some (.bool false) := congrArg (fun b => some (PyData.bool b)) (decide_eq_false h)
theorem geT {i j : Int} (h : j ≤ i) : wGe (.int i) (.int j) = some (.bool true) := congrArg (fun b => some (PyData.bool b)) (decide_eq_true h)
theorem geF {i j : Int} (h : ¬ j ≤ i) : wGe (.int i) (.int j) = some (.bool false) := congrArg (fun b => some (PyData.bool b)) (decide_eq_false h)
theorem eqT {i j : Int} (h : i = j) : wEq (.int i) (.int j) = some (.bool true) := by rw [s_wEq_int, h]; simp
theorem eqN {i j : Int} (h : i ≠ j) : wEq (.int i) (.int j) = some (.bool false) := by rw [s_wEq_int]; simp [h]
theorem neqT {i j : Int} (h : i ≠ j) : wNe (.int i) (.int j) = some (.bool true) := by rw [s_wNe_int]; simp [h]
theorem neqN {i j : Int} (h : i = j) : wNe (.int i) (.int j) = some (.bool false) := by rw [s_wNe_int, h]; simp
end G

end

section
namespace G
open PySem Ev
/-! the law's own fractions -/
theorem law_make_raw (n d : Int) (h : d.natAbs < 2 ^ 8000) (d0 : d ≠ 0) : law_make [.int n, .int d] = .ok (enc (Rat.divInt n d)) := by
  unfold law_make
  rw [runF_eq (n := 2) rfl]
  obtain ⟨o1, o2, e1, e2⟩ := make_core (n := n) d0 h _ rfl
  rw [then_next (ρ' := [some (.int n), some (.int d), some (.int (n.natAbs : Int)), some (.int (d.natAbs : Int))]) (t' := none) (by
    simp [startW, sPar2, toS, eCallB, eCons, eNil, eVar, Rs.bind, rOf, gAbs_int])]
  have e := gcd_loop (i := 2) (j := 3) (by decide) 8000 1000000 [some (.int n), some (.int d), some (.int (n.natAbs : Int)), some (.int (d.natAbs : Int))] n.natAbs d.natAbs none rfl rfl h (by decide)
  rw [then_next (show sWhile 1000000 _ _ _ _ = _ from e)]
  by_cases c : d < 0
  · rw [if_pos c] at o1 o2 e1 e2
    rw [then_next (ρ' := [some (.int n), some (.int d), some (.int (-((Nat.gcd d.natAbs n.natAbs : Nat) : Int))), some (.int 0)]) (t' := none) (by
      exact x_set (e_ifT (t_test (e_bin (e_var rfl) e_c (ltT c))) (e_un (e_var rfl) rfl)))]
    simp [sRet, toS, eTup, eCons, eNil, eBin, eVar, Rs.bind, rOf, wFdiv_of o1, wFdiv_of o2, few1000, e1, e2, endF, enc]
  · rw [if_neg c] at o1 o2 e1 e2
    rw [then_next (ρ' := [some (.int n), some (.int d), some (.int ((Nat.gcd d.natAbs n.natAbs : Nat) : Int)), some (.int 0)]) (t' := none) (by
      exact x_set (e_ifF (t_test (e_bin (e_var rfl) e_c (ltF c))) (e_var rfl)))]
    simp [sRet, toS, eTup, eCons, eNil, eBin, eVar, Rs.bind, rOf, wFdiv_of o1, wFdiv_of o2, few1000, e1, e2, endF, enc]
theorem law_add_spec {x y : Rat} (hx : Ok x) (hy : Ok y) : law_add [enc x, enc y] = .ok (enc (x + y)) := by
  unfold law_add
  rw [runF_eq (n := 2) rfl]
  have d0 : ((x.den : Int) * (y.den : Int)) ≠ 0 := den_ne x y
  simp [wMul_of (mulND hx hy), wMul_of (mulND hy hx), wMul_of (mulDD hx hy), law_make_raw _ _ (den8 hx hy) d0, div_mk, Rat.add_def']
theorem law_mul_spec {x y : Rat} (hx : Ok x) (hy : Ok y) : law_mul [enc x, enc y] = .ok (enc (x * y)) := by
  unfold law_mul
  rw [runF_eq (n := 2) rfl]
  have d0 : ((x.den : Int) * (y.den : Int)) ≠ 0 := den_ne x y
  simp [wMul_of (mulNN hx hy), wMul_of (mulDD hx hy), law_make_raw _ _ (den8 hx hy) d0, div_mk, Rat.mul_def']
/-- sums of lists -/
def Su : List Rat → Rat
  | [] => 0
  | x :: l => x + Su l
def Sl' : Rat → List Rat → Rat
  | a, [] => a
  | a, x :: l => Sl' (a + x) l
theorem Sl'_eq : ∀ (l : List Rat) (a : Rat), Sl' a l = a + Su l
  | [], a => by show a = a + 0; grind
  | x :: l, a => by show Sl' (a + x) l = a + (x + Su l); rw [Sl'_eq l]; grind
theorem sum_loop {d a : Nat} (hd : d ≤ 99) : ∀ (l : List Rat) (s : Rat) (ρ1 : W) (o : Option W) (n : Nat), (∀ q ∈ l, B d a q) → Bd (KK ^ d) (n * 2 ^ a) s → n + l.length ≤ 16 → a + 4 ≤ 1899 →
    ∃ o', forL (gN 2) (sSet 1 (eCall law_add (eCons (eVar 1) (eCons (eVar 2) eNil)))) (l.map enc) [some ρ1, some (enc s), o] none = .next [some ρ1, some (enc (Sl' s l)), o'] none
  | [], s, ρ1, o, n, _, _, _, _ => ⟨o, rfl⟩
  | x :: l, s, ρ1, o, n, hl, hs, hn, ha => by
    have hx := hl x List.mem_cons_self
    rw [List.length_cons] at hn
    have bs : B d (a + 4) s := hs.toB (Nat.dvd_refl _) (mulp (by omega))
    have h1 := law_add_spec (bs.ok hd ha) (hx.ok hd (by omega))
    obtain ⟨o', e⟩ := sum_loop hd l (s + x) ρ1 (some (enc x)) (n + 1) (fun q hq => hl q (List.mem_cons_of_mem _ hq)) (by rw [Nat.add_mul, Nat.one_mul]; exact hs.add (KKn _) hx) (by omega) ha
    exact ⟨o', (for_step (ρ1 := [some ρ1, some (enc s), some (enc x)]) rfl (x_set (e_call (a_cons (e_var rfl) (a_cons (e_var rfl) a_nil)) h1))).trans e⟩
theorem law_sum_spec {l : List Rat} {d a : Nat} (hl : ∀ q ∈ l, B d a q) (hd : d ≤ 99) (ha : a + 4 ≤ 1899) (hn : l.length ≤ 16) : law_sum [.list (l.map enc)] = .ok (enc (Su l)) := by
  unfold law_sum
  rw [runF_eq (n := 1) rfl]
  rw [then_next (ρ' := [some (.list (l.map enc)), some (enc 0), none]) (t' := none) (by exact x_set (w := enc 0) (e_tup (a_cons e_c (a_cons e_c a_nil)) (by simp)))]
  obtain ⟨o', e⟩ := sum_loop hd l 0 (.list (l.map enc)) none 0 hl Bd.zero (by omega) ha
  rw [then_next (show sFor _ _ _ _ _ = _ from (for_src (g_seq (e_var rfl) rfl)).trans e)]
  rw [Sl'_eq, show (0 : Rat) + Su l = Su l by grind]
  exact fin_ret (e_var rfl)
theorem Su_map (F : Nat → Rat) : ∀ n : Nat, Su ((List.range n).map F) = Sg n F
  | 0 => rfl
  | n + 1 => by
    have h : ∀ (l m : List Rat), Su (l ++ m) = Su l + Su m := fun l m => by
      induction l with
      | nil => show Su m = 0 + Su m; grind
      | cons x l ih => show x + Su (l ++ m) = x + Su l + Su m; rw [ih]; grind
    rw [List.range_succ, List.map_append, h, Su_map F n, Sg_succ]
    show Sg n F + (F n + 0) = _
    grind
theorem Su_B {l : List Rat} {d a : Nat} (hl : ∀ q ∈ l, B d a q) : Bd (KK ^ d) (l.length * 2 ^ a) (Su l) := by
  induction l with
  | nil => exact Bd.zero
  | cons x l ih =>
    rw [List.length_cons, Nat.add_mul, Nat.one_mul, Nat.add_comm]
    exact Bd.add (KKn _) (hl x List.mem_cons_self) (ih fun q hq => hl q (List.mem_cons_of_mem _ hq))
theorem law_power_spec {x : Rat} {d a : Nat} (hx : B d a x) : ∀ n : Nat, d * n ≤ 99 → a * n ≤ 1899 → n ≤ 16 → d ≤ 99 → a ≤ 1899 → law_power [enc x, .int (n : Int)] = .ok (enc (x ^ n)) ∧ B (d * n) (a * n) (x ^ n) := by
  intro n h1 h2 h3 h4 h5
  have bp : ∀ i, B (d * i) (a * i) (x ^ i) := fun i => by
    induction i with
    | zero => rw [Rat.pow_zero]; exact B.one
    | succ i ih => rw [Rat.pow_succ, Nat.mul_succ, Nat.mul_succ]; exact ih.mul hx
  refine ⟨?_, bp n⟩
  unfold law_power
  rw [runF_eq (n := 2) rfl]
  rw [then_next (ρ' := [some (enc x), some (.int (n : Int)), some (enc (x ^ 0)), none]) (t' := none) (by rw [Rat.pow_zero]; exact x_set (w := enc 1) (e_tup (a_cons e_c (a_cons e_c a_nil)) (by simp)))]
  obtain ⟨ρ', e, o, rfl⟩ := sfor_pred (t := none) (src := sRng gRng1 (eCons (eVar 1) eNil)) (g := gN 3) (body := sSet 2 (eCall law_mul (eCons (eVar 2) (eCons (eVar 0) eNil)))) (items := (List.range n).map fun i : Nat => (.int (i : Int) : W))
    (fun i ρ => ∃ o : Option W, ρ = [some (enc x), some (.int (n : Int)), some (enc (x ^ i)), o])
    [some (enc x), some (.int (n : Int)), some (enc (x ^ 0)), none]
    (g_rng1 (a_cons (e_var rfl) a_nil) (by omega)) ⟨none, rfl⟩
    fun i w ρ hw ⟨o, e⟩ => by
      subst e
      obtain ⟨hi, rfl⟩ := rng_item hw
      have z1 : d * i ≤ d * n := Nat.mul_le_mul_left _ (by omega)
      have z2 : a * i ≤ a * n := Nat.mul_le_mul_left _ (by omega)
      have h := law_mul_spec ((bp i).ok (by omega) (by omega)) (hx.ok h4 h5)
      rw [← Rat.pow_succ] at h
      exact ⟨[some (enc x), some (.int (n : Int)), some (enc (x ^ i)), some (.int (i : Int))], [some (enc x), some (.int (n : Int)), some (enc (x ^ (i + 1))), some (.int (i : Int))], rfl, x_set (e_call (a_cons (e_var rfl) (a_cons (e_var rfl) a_nil)) h), _, rfl⟩
  rw [then_next e]
  rw [List.length_map, List.length_range]
  exact fin_ret (e_var rfl)
/-! ### the law's comparison -/
theorem same_step {self : Fs} {n : Nat} (ih : ∀ w : W, Pl n w → self [w, w] = .ok (.bool true)) (w : W) (h : Pl (n + 1) w) : b_law_same self [w, w] = .ok (.bool true) := by
  unfold b_law_same
  rw [runF_eq (n := 2) rfl]
  rcases h with ⟨i, rfl⟩ | ⟨b, rfl⟩ | ⟨l, rfl, hl, hx⟩
  · rw [then_next (ρ' := [some (.int i), some (.int i), none]) (t' := none) (by exact i_false (t_orF (v := false) (t_test (b := false) rfl) (t_test (b := false) rfl)))]
    rw [then_next (ρ' := [some (.int i), some (.int i), none]) (t' := none) (by exact i_false (t_orF (v := false) (t_test (b := false) rfl) (t_test (b := false) rfl)))]
    exact fin_ret (e_bin (e_var rfl) (e_var rfl) (eqT rfl))
  · rw [then_next (ρ' := [some (.bool b), some (.bool b), none]) (t' := none) (by exact i_false (t_orF (v := false) (t_test (b := false) rfl) (t_test (b := false) rfl)))]
    rw [then_next (ρ' := [some (.bool b), some (.bool b), none]) (t' := none) (by exact i_false (t_orF (v := false) (t_test (b := false) rfl) (t_test (b := false) rfl)))]
    exact fin_ret (e_bin (e_var rfl) (e_var rfl) (by rw [wEq_bool]; simp))
  · have t1 : noDict (.tuple l : W) = true := rfl
    have t2 : isIn (tyN (.tuple l : W)) "tuple" = true := (by decide : isIn "tuple" "tuple" = true)
    have isT : ∀ i, ([some (.tuple l), some (.tuple l), none] : Sl)[i]? = some (some (.tuple l)) → eTest (eIsI "tuple" (eVar i)) [some (.tuple l), some (.tuple l), none] none = .ok true none := fun i hi => by
      refine t_test ?_
      rw [s_eIsI, e_var hi, s_bind_ok, if_pos t1, t2]
    have lenE : eTest (eBin wNe (eCallB gLen (eCons (eVar 0) eNil)) (eCallB gLen (eCons (eVar 1) eNil))) [some (.tuple l), some (.tuple l), none] none = .ok false none :=
      t_test (e_bin (e_callB (a_cons (e_var rfl) a_nil) rfl) (e_callB (a_cons (e_var rfl) a_nil) rfl) (neqN rfl))
    have row : lcL (gN 2) etYes (eCall self (eCons (eBin wIdx (eVar 0) (eVar 2)) (eCons (eBin wIdx (eVar 1) (eVar 2)) eNil))) ((List.range l.length).map fun i : Nat => (.int (i : Int) : W)) (wipeW [some (.tuple l), some (.tuple l), none] [2]) none = .ok ((List.range l.length).map fun _ => (.bool true : W)) none :=
      lc_map _ _ _ fun k hk => ⟨[some (.tuple l), some (.tuple l), some (.int (k : Int))], rfl, by
        have hk := List.mem_range.mp hk
        have e : wIdx (.tuple l) (.int (k : Int)) = some l[k] := by
          show L2.atI l (k : Int) = _
          unfold L2.atI
          rw [ixN_nat hk]
          exact List.getElem?_eq_getElem hk
        exact e_call (a_cons (e_bin (e_var rfl) (e_var rfl) e) (a_cons (e_bin (e_var rfl) (e_var rfl) e) a_nil)) (ih _ (hx _ (List.getElem_mem hk)))⟩
    rw [then_ret (w := .bool true) (t' := none)]
    · rfl
    refine i_true' (t_orT (isT 0 rfl)) ?_
    rw [then_next (ρ' := [some (.tuple l), some (.tuple l), none]) (t' := none) (by exact i_false (t_orF (v := false) (t_not (isT 0 rfl)) (t_orF (v := false) (t_not (isT 1 rfl)) lenE)))]
    rw [s_sRet, e_callB (w := .bool true) (a_cons (e_lc (g_rng1 (a_cons (e_callB (a_cons (e_var rfl) a_nil) rfl) a_nil) hl) (by simp; omega) row) a_nil) ((gAll_map (fun _ : Nat => true) (List.range l.length)).trans (by simp))]
    rfl
theorem law_same_spec : ∀ (n : Nat) (w : W), Pl n w → law_same n [w, w] = .ok (.bool true)
  | 0, _, h => h.elim
  | n + 1, w, h => same_step (law_same_spec n) w h
theorem same {w : W} (h : Pl 40 w) : law_same 40 [w, w] = .ok (.bool true) := law_same_spec 40 w h
end G

end

section
namespace G
open PySem Ev
/-! ### tables -/
abbrev Tf := Nat → Nat → Rat
def rowL (c : Nat) (R : Nat → Rat) : List Rat := (List.range c).map R
def mk (r c : Nat) (F : Tf) : List (List Rat) := (List.range r).map fun i => rowL c (F i)
def encT (t : List (List Rat)) : W := .tuple (t.map encF)
def TB (d a r c : Nat) (F : Tf) : Prop := ∀ i, i < r → ∀ j, j < c → B d a (F i j)
theorem TB.mono {d a e b r c : Nat} {F : Tf} (h : TB d a r c F) (hd : d ≤ e) (ha : a ≤ b) : TB e b r c F := fun i hi j hj => (h i hi j hj).mono hd ha
theorem rowL_len (c : Nat) (R : Nat → Rat) : (rowL c R).length = c := by unfold rowL; simp
theorem rowL_get {c k : Nat} {R : Nat → Rat} (h : k < c) : (rowL c R).getD k 0 = R k := by
  unfold rowL
  rw [List.getD_eq_getElem?_getD, List.getElem?_map, List.getElem?_range h]
  rfl
theorem rowL_congr {c : Nat} {R S : Nat → Rat} (h : ∀ k, k < c → R k = S k) : rowL c R = rowL c S := List.map_congr_left fun k hk => h k (List.mem_range.mp hk)
theorem rowL_self (f : List Rat) : rowL f.length (fun k => f.getD k 0) = f := by
  apply List.ext_getElem?
  intro i
  unfold rowL
  by_cases h : i < f.length
  · rw [List.getElem?_map, List.getElem?_range h, List.getElem?_eq_getElem h]
    simp [List.getD_eq_getElem?_getD, h]
  · rw [List.getElem?_eq_none (by simp; omega), List.getElem?_eq_none (by omega)]
theorem mk_congr {r c : Nat} {F G : Tf} (h : ∀ i, i < r → ∀ j, j < c → F i j = G i j) : mk r c F = mk r c G := List.map_congr_left fun i hi => rowL_congr (h i (List.mem_range.mp hi))
theorem encF_row (c : Nat) (R : Nat → Rat) : encF (rowL c R) = .tuple ((List.range c).map fun k => enc (R k)) := by
  unfold encF rowL; rw [List.map_map]; rfl
theorem encT_mk (r c : Nat) (F : Tf) : encT (mk r c F) = .tuple ((List.range r).map fun i => encF (rowL c (F i))) := by
  unfold encT mk; rw [List.map_map]; rfl
theorem map_item {n i : Nat} {G : Nat → W} {w : W} (hw : ((List.range n).map G)[i]? = some w) : i < n ∧ w = G i := by
  rw [List.getElem?_map] at hw
  by_cases hi : i < n
  · refine ⟨hi, ?_⟩
    rw [List.getElem?_range hi] at hw
    exact (Option.some.inj hw).symm
  · rw [List.getElem?_eq_none (by simp; omega)] at hw; cases hw
theorem idx_map {n k : Nat} {G : Nat → W} (h : k < n) : wIdx (.tuple ((List.range n).map G)) (.int (k : Int)) = some (G k) := by
  show L2.atI _ (k : Int) = _
  unfold L2.atI
  rw [List.length_map, List.length_range, ixN_nat h]
  show ((List.range n).map G)[k]? = _
  rw [List.getElem?_map, List.getElem?_range h]
  rfl
theorem idx_map0 {n : Nat} {G : Nat → W} (h : 0 < n) : wIdx (.tuple ((List.range n).map G)) (.int 0) = some (G 0) := idx_map (k := 0) h
theorem idx_T {r c k : Nat} {F : Tf} (h : k < r) : wIdx (encT (mk r c F)) (.int (k : Int)) = some (encF (rowL c (F k))) := by
  rw [encT_mk]; exact idx_map h
theorem idx_R {c k : Nat} {R : Nat → Rat} (h : k < c) : wIdx (encF (rowL c R)) (.int (k : Int)) = some (enc (R k)) := by
  rw [encF_row]; exact idx_map h
theorem pair_range (m : Nat) (A B : Nat → W) : pairW ((List.range m).map A) ((List.range m).map B) = (List.range m).map fun k => .tuple [A k, B k] := by
  unfold pairW
  apply List.ext_getElem?
  intro i
  by_cases h : i < m
  · simp [h]
  · rw [List.getElem?_eq_none (by simp; omega), List.getElem?_eq_none (by simp; omega)]
theorem enum_map (m : Nat) (A : Nat → W) : pairW (rngW 0 1 ((List.range m).map A).length) ((List.range m).map A) = (List.range m).map fun k : Nat => .tuple [.int (k : Int), A k] := by
  rw [List.length_map, List.length_range, rng_eq]
  exact pair_range m _ A
theorem len_T {r c : Nat} {F : Tf} : gLen [encT (mk r c F)] = some (.int (r : Int)) := by
  rw [encT_mk, s_gLen_t]; simp
theorem len_R {c : Nat} {R : Nat → Rat} : gLen [encF (rowL c R)] = some (.int (c : Int)) := by
  rw [encF_row, s_gLen_t]; simp
theorem tup_rows {r c : Nat} {F : Tf} : gTuple [.list ((List.range r).map fun i => encF (rowL c (F i)))] = some (encT (mk r c F)) := by
  rw [encT_mk]; rfl
theorem tup_row {c : Nat} {R : Nat → Rat} : gTuple [.list ((List.range c).map fun i => enc (R i))] = some (encF (rowL c R)) := by
  rw [encF_row]; rfl
section
variable {t : Tp} {ρ : Sl} {A B C : Ex}
theorem z_enum {m : Nat} {G : Nat → W} {w : W} (h : A ρ t = .ok w t) (h2 : wSeq w = some ((List.range m).map G)) : sEnum A ρ t = .ok ((List.range m).map fun k : Nat => .tuple [.int (k : Int), G k]) t := by
  rw [s_sEnum, h, s_bind_ok, h2, s_rOf_some, s_bind_ok, enum_map]
theorem z_zip {m : Nat} {G H : Nat → W} {w w' : W} (h : A ρ t = .ok w t) (h' : B ρ t = .ok w' t) (h2 : wSeq w = some ((List.range m).map G)) (h3 : wSeq w' = some ((List.range m).map H)) : sZip A B ρ t = .ok ((List.range m).map fun k => .tuple [G k, H k]) t := by
  rw [s_sZip, h, s_bind_ok, h', s_bind_ok, h2, s_rOf_some, s_bind_ok, h3, s_rOf_some, s_bind_ok, pair_range]
theorem seq_T {r c : Nat} {F : Tf} : wSeq (encT (mk r c F)) = some ((List.range r).map fun i => encF (rowL c (F i))) := by rw [encT_mk]; rfl
theorem seq_R {c : Nat} {R : Nat → Rat} : wSeq (encF (rowL c R)) = some ((List.range c).map fun i => enc (R i)) := by rw [encF_row]; rfl
/-- a table by a comprehension in another one -/
theorem lc_range {g : Gw} {te : Ex} {n : Nat} {G F : Nat → W} (h : ∀ i, i < n → ∃ ρ1, g (G i) ρ = some ρ1 ∧ te ρ1 t = .ok (F i) t) : lcL g etYes te ((List.range n).map G) ρ t = .ok ((List.range n).map F) t :=
  lc_map (e := G) F (List.range n) fun i hi => h i (List.mem_range.mp hi)
theorem e_row {src : Exs} {vs : List Nat} {g : Gw} {te : Ex} {n : Nat} {G : Nat → W} {R : Nat → Rat} (h1 : src ρ t = .ok ((List.range n).map G) t) (hn : n ≤ 1000) (h : ∀ i, i < n → ∃ ρ1, g (G i) (wipeW ρ vs) = some ρ1 ∧ te ρ1 t = .ok (enc (R i)) t) :
    eCallB gTuple (eCons (eLc src vs g etYes te) eNil) ρ t = .ok (encF (rowL n R)) t :=
  e_callB (a_cons (e_lc h1 (by simp; omega) (lc_range h)) a_nil) tup_row
theorem e_rows {src : Exs} {vs : List Nat} {g : Gw} {te : Ex} {r c : Nat} {G : Nat → W} {F : Tf} (h1 : src ρ t = .ok ((List.range r).map G) t) (hn : r ≤ 1000) (h : ∀ i, i < r → ∃ ρ1, g (G i) (wipeW ρ vs) = some ρ1 ∧ te ρ1 t = .ok (encF (rowL c (F i))) t) :
    eCallB gTuple (eCons (eLc src vs g etYes te) eNil) ρ t = .ok (encT (mk r c F)) t :=
  e_callB (a_cons (e_lc h1 (by simp; omega) (lc_range h)) a_nil) tup_rows
end
theorem turned_spec {r c : Nat} {F : Tf} (h0 : 0 < r) (hr : r ≤ 100) (hc : c ≤ 100) : moves_turned [encT (mk r c F)] = .ok (encT (mk c r fun i j => F j i)) := by
  unfold moves_turned
  rw [runF_eq (n := 1) rfl]
  refine fin_ret (e_rows (F := fun i j => F j i) (g_rng1 (a_cons (e_callB (a_cons (e_bin (e_var rfl) e_c (idx_T (k := 0) h0)) a_nil) len_R) a_nil) (by omega)) (by omega) fun i hi => ⟨_, rfl, ?_⟩)
  exact e_row (R := fun j => F j i) (g_seq (e_var rfl) seq_T) (by omega) fun j hj => ⟨_, rfl, e_bin (e_var rfl) (e_var rfl) (idx_R hi)⟩
theorem plus_spec {r c d a e b : Nat} {F G : Tf} (hF : TB d a r c F) (hG : TB e b r c G) (hr : r ≤ 100) (hc : c ≤ 100) (hd : d ≤ 99) (he : e ≤ 99) (ha : a ≤ 1899) (hb : b ≤ 1899) : moves_plus [encT (mk r c F), encT (mk r c G)] = .ok (encT (mk r c fun i j => F i j + G i j)) := by
  unfold moves_plus
  rw [runF_eq (n := 2) rfl]
  refine fin_ret (e_rows (F := fun i j => F i j + G i j) (z_zip (e_var rfl) (e_var rfl) seq_T seq_T) (by omega) fun i hi => ⟨_, rfl, ?_⟩)
  exact e_row (R := fun j => F i j + G i j) (z_zip (e_var rfl) (e_var rfl) seq_R seq_R) (by omega) fun j hj => ⟨_, rfl, e_call (a_cons (e_var rfl) (a_cons (e_var rfl) a_nil)) (ratios_add_spec ((hF i hi j hj).ok hd ha) ((hG i hi j hj).ok he hb))⟩
theorem TB.add {r c d a b : Nat} {F G : Tf} (k : Nat) (hF : TB d a r c F) (hG : TB d b r c G) (h1 : a + 1 ≤ k) (h2 : b + 1 ≤ k) : TB d k r c fun i j => F i j + G i j := fun i hi j hj => (hF i hi j hj).add (hG i hi j hj) h1 h2
theorem scaled_spec {r c d a e b : Nat} {F : Tf} {x : Rat} (hF : TB d a r c F) (hx : B e b x) (hr : r ≤ 100) (hc : c ≤ 100) (hd : d ≤ 99) (he : e ≤ 99) (ha : a ≤ 1899) (hb : b ≤ 1899) : moves_scaled [enc x, encT (mk r c F)] = .ok (encT (mk r c fun i j => x * F i j)) := by
  unfold moves_scaled
  rw [runF_eq (n := 2) rfl]
  refine fin_ret (e_rows (F := fun i j => x * F i j) (g_seq (e_var rfl) seq_T) (by omega) fun i hi => ⟨_, rfl, ?_⟩)
  exact e_row (R := fun j => x * F i j) (g_seq (e_var rfl) seq_R) (by omega) fun j hj => ⟨_, rfl, e_call (a_cons (e_var rfl) (a_cons (e_var rfl) a_nil)) (ratios_multiply_spec (hx.ok he hb) ((hF i hi j hj).ok hd ha))⟩
theorem TB.mul {r c d a e b : Nat} {F : Tf} {x : Rat} (hF : TB d a r c F) (hx : B e b x) : TB (e + d) (b + a) r c fun i j => x * F i j := fun i hi j hj => hx.mul (hF i hi j hj)
/-! products -/
theorem Sg_B (F : Nat → Rat) {d a n : Nat} (hF : ∀ i, i < n → B d a (F i)) : ∀ i, i ≤ n → Bd (KK ^ d) (i * 2 ^ a) (Sg i F)
  | 0, _ => Bd.zero
  | i + 1, h => by
    rw [Sg_succ, Nat.add_mul, Nat.one_mul]
    exact (Sg_B F hF i (by omega)).add (KKn _) (hF i (by omega))
theorem Sg_B' (F : Nat → Rat) {d a n : Nat} (hF : ∀ i, i < n → B d a (F i)) (hn : n ≤ 16) {i : Nat} (hi : i ≤ n) : B d (a + 4) (Sg i F) :=
  (Sg_B F hF i hi).toB (Nat.dvd_refl _) (mulp (by omega))
def mulT (m : Nat) (F G : Tf) : Tf := fun i j => Sg m fun k => F i k * G k j
theorem TB.times {r m c d a e b : Nat} {F G : Tf} (hF : TB d a r m F) (hG : TB e b m c G) (hm : m ≤ 16) : TB (d + e) (a + b + 4) r c (mulT m F G) :=
  fun i hi j hj => Sg_B' _ (fun k hk => (hF i hi k hk).mul (hG k hk j hj)) hm (Nat.le_refl _)
abbrev dotB : Sv := sFor (sZip (eVar 4) (eVar 6)) (gTp (gsC (gN 8) (gsC (gN 9) gsN))) (sIf (eAndT (eTest (eBin wNe (eVar 8) (eC (.tuple [(.int (0)), (.int (1))])))) (eTest (eBin wNe (eVar 9) (eC (.tuple [(.int (0)), (.int (1))]))))) (sSet 7 (eCall ratios_add (eCons (eVar 7) (eCons (eCall ratios_multiply (eCons (eVar 8) (eCons (eVar 9) eNil))) eNil)))) sNext)
theorem dot_loop {m d a e b : Nat} {R S : Nat → Rat} (hR : ∀ k, k < m → B d a (R k)) (hS : ∀ k, k < m → B e b (S k)) (hm : m ≤ 16) (hd : d + e ≤ 99) (ha : a + b + 4 ≤ 1899) (w0 w1 w2 w3 w5 o8 o9 : Option W) :
    ∃ q8 q9 : Option W, dotB [w0, w1, w2, w3, some (encF (rowL m R)), w5, some (encF (rowL m S)), some (enc 0), o8, o9] none = .next [w0, w1, w2, w3, some (encF (rowL m R)), w5, some (encF (rowL m S)), some (enc (Sg m fun k => R k * S k)), q8, q9] none := by
  obtain ⟨ρ', e1, q8, q9, rfl⟩ := sfor_pred (t := none) (src := sZip (eVar 4) (eVar 6)) (g := gTp (gsC (gN 8) (gsC (gN 9) gsN))) (items := (List.range m).map fun k => .tuple [enc (R k), enc (S k)])
    (body := sIf (eAndT (eTest (eBin wNe (eVar 8) (eC (.tuple [(.int (0)), (.int (1))])))) (eTest (eBin wNe (eVar 9) (eC (.tuple [(.int (0)), (.int (1))]))))) (sSet 7 (eCall ratios_add (eCons (eVar 7) (eCons (eCall ratios_multiply (eCons (eVar 8) (eCons (eVar 9) eNil))) eNil)))) sNext)
    (fun i ρ => ∃ (q8 q9 : Option W), ρ = [w0, w1, w2, w3, some (encF (rowL m R)), w5, some (encF (rowL m S)), some (enc (Sg i fun k => R k * S k)), q8, q9])
    [w0, w1, w2, w3, some (encF (rowL m R)), w5, some (encF (rowL m S)), some (enc 0), o8, o9]
    (z_zip (e_var rfl) (e_var rfl) seq_R seq_R) ⟨_, _, rfl⟩
    fun i w ρ hw ⟨q8, q9, e⟩ => by
      subst e
      obtain ⟨hi, rfl⟩ := map_item hw
      refine ⟨[w0, w1, w2, w3, some (encF (rowL m R)), w5, some (encF (rowL m S)), some (enc (Sg i fun k => R k * S k)), some (enc (R i)), some (enc (S i))], [w0, w1, w2, w3, some (encF (rowL m R)), w5, some (encF (rowL m S)), some (enc (Sg (i + 1) fun k => R k * S k)), some (enc (R i)), some (enc (S i))], rfl, ?_, _, _, rfl⟩
      have bR := hR i hi
      have bS := hS i hi
      have bs : B (d + e) (a + b + 4) (Sg i fun k => R k * S k) := Sg_B' _ (fun k hk => (hR k hk).mul (hS k hk)) hm (by omega)
      by_cases z1 : R i = 0
      · have ez : (Sg (i + 1) fun k => R k * S k) = Sg i fun k => R k * S k := by rw [Sg_succ, z1]; grind
        rw [ez]
        exact i_false (t_andF (t_test (e_bin (e_var rfl) e_c (by rw [wNe_zero, decide_eq_true z1]; rfl))))
      by_cases z2 : S i = 0
      · have ez : (Sg (i + 1) fun k => R k * S k) = Sg i fun k => R k * S k := by rw [Sg_succ, z2]; grind
        rw [ez]
        exact i_false (t_andT (t_test (b := true) (e_bin (e_var rfl) e_c (by rw [wNe_zero, decide_eq_false z1]; rfl))) (t_test (e_bin (e_var rfl) e_c (by rw [wNe_zero, decide_eq_true z2]; rfl))))
      · refine i_true' (t_andT (t_test (b := true) (e_bin (e_var rfl) e_c (by rw [wNe_zero, decide_eq_false z1]; rfl))) (t_test (b := true) (e_bin (e_var rfl) e_c (by rw [wNe_zero, decide_eq_false z2]; rfl)))) ?_
        exact x_set (e_call (a_cons (e_var rfl) (a_cons (e_call (a_cons (e_var rfl) (a_cons (e_var rfl) a_nil)) (ratios_multiply_spec (bR.ok (by omega) (by omega)) (bS.ok (by omega) (by omega)))) a_nil)) (ratios_add_spec (bs.ok (by omega) (by omega)) ((bR.mul bS).ok (by omega) (by omega))))
  rw [List.length_map, List.length_range] at e1
  exact ⟨q8, q9, e1⟩
abbrev colB : Sv := sFor (sSeq (eVar 2)) (gN 6) (sThen (sSet 7 (eC (.tuple [(.int (0)), (.int (1))]))) (sThen dotB (sApp 5 (eVar 7))))
theorem col_loop {m c d a e b : Nat} {R : Nat → Rat} {G : Tf} (hR : ∀ k, k < m → B d a (R k)) (hG : TB e b m c G) (hm : m ≤ 16) (hc : c ≤ 16) (hd : d + e ≤ 99) (ha : a + b + 4 ≤ 1899) (w0 w1 w3 o6 o7 o8 o9 : Option W) :
    ∃ q6 q7 q8 q9 : Option W, colB [w0, w1, some (encT (mk c m fun i j => G j i)), w3, some (encF (rowL m R)), some (.list []), o6, o7, o8, o9] none = .next [w0, w1, some (encT (mk c m fun i j => G j i)), w3, some (encF (rowL m R)), some (.list ((List.range c).map fun j => enc (Sg m fun k => R k * G k j))), q6, q7, q8, q9] none := by
  obtain ⟨ρ', e1, q6, q7, q8, q9, rfl⟩ := sfor_pred (t := none) (src := sSeq (eVar 2)) (g := gN 6) (items := (List.range c).map fun i => encF (rowL m fun j => G j i))
    (body := sThen (sSet 7 (eC (.tuple [(.int (0)), (.int (1))]))) (sThen dotB (sApp 5 (eVar 7))))
    (fun i ρ => ∃ (q6 q7 q8 q9 : Option W), ρ = [w0, w1, some (encT (mk c m fun i j => G j i)), w3, some (encF (rowL m R)), some (.list ((List.range i).map fun j => enc (Sg m fun k => R k * G k j))), q6, q7, q8, q9])
    [w0, w1, some (encT (mk c m fun i j => G j i)), w3, some (encF (rowL m R)), some (.list []), o6, o7, o8, o9]
    (g_seq (e_var rfl) seq_T) ⟨_, _, _, _, rfl⟩
    fun i w ρ hw ⟨q6, q7, q8, q9, e⟩ => by
      subst e
      obtain ⟨hi, rfl⟩ := map_item hw
      obtain ⟨p8, p9, ed⟩ := dot_loop (S := fun j => G j i) hR (fun k hk => hG k hk i hi) hm hd ha w0 w1 (some (encT (mk c m fun i j => G j i))) w3 (some (.list ((List.range i).map fun j => enc (Sg m fun k => R k * G k j)))) q8 q9
      refine ⟨[w0, w1, some (encT (mk c m fun i j => G j i)), w3, some (encF (rowL m R)), some (.list ((List.range i).map fun j => enc (Sg m fun k => R k * G k j))), some (encF (rowL m fun j => G j i)), q7, q8, q9], [w0, w1, some (encT (mk c m fun i j => G j i)), w3, some (encF (rowL m R)), some (.list ((List.range (i + 1)).map fun j => enc (Sg m fun k => R k * G k j))), some (encF (rowL m fun j => G j i)), some (enc (Sg m fun k => R k * G k i)), p8, p9], rfl, ?_, _, _, _, _, rfl⟩
      rw [then_next (ρ' := [w0, w1, some (encT (mk c m fun i j => G j i)), w3, some (encF (rowL m R)), some (.list ((List.range i).map fun j => enc (Sg m fun k => R k * G k j))), some (encF (rowL m fun j => G j i)), some (enc 0), q8, q9]) (t' := none) (by exact x_set (w := enc 0) e_c)]
      rw [then_next ed]
      refine (x_app rfl (e_var rfl) (by simp; omega)).trans ?_
      rw [List.range_succ, List.map_append]
      rfl
  rw [List.length_map, List.length_range] at e1
  exact ⟨q6, q7, q8, q9, e1⟩
theorem times_spec {r m c d a e b : Nat} {F G : Tf} (hF : TB d a r m F) (hG : TB e b m c G) (h0 : 0 < m) (hr : r ≤ 16) (hm : m ≤ 16) (hc : c ≤ 16) (hd : d + e ≤ 99) (ha : a + b + 4 ≤ 1899) : moves_times [encT (mk r m F), encT (mk m c G)] = .ok (encT (mk r c (mulT m F G))) := by
  unfold moves_times
  rw [runF_eq (n := 2) rfl]
  rw [then_next (ρ' := [some (encT (mk r m F)), some (encT (mk m c G)), some (encT (mk c m fun i j => G j i)), none, none, none, none, none, none, none]) (t' := none) (by exact x_set (e_call (a_cons (e_var rfl) a_nil) (turned_spec h0 (by omega) (by omega))))]
  rw [then_next (ρ' := [some (encT (mk r m F)), some (encT (mk m c G)), some (encT (mk c m fun i j => G j i)), some (.list ((List.range 0).map fun i => encF (rowL c (mulT m F G i)))), none, none, none, none, none, none]) (t' := none) (by exact x_set (e_lst a_nil (by simp)))]
  obtain ⟨ρ', e1, q4, q5, q6, q7, q8, q9, rfl⟩ := sfor_pred (t := none) (src := sSeq (eVar 0)) (g := gN 4) (items := (List.range r).map fun i => encF (rowL m (F i)))
    (body := sThen (sSet 5 (eLst eNil)) (sThen (sFor (sSeq (eVar 2)) (gN 6) (sThen (sSet 7 (eC (.tuple [(.int (0)), (.int (1))]))) (sThen (sFor (sZip (eVar 4) (eVar 6)) (gTp (gsC (gN 8) (gsC (gN 9) gsN))) (sIf (eAndT (eTest (eBin wNe (eVar 8) (eC (.tuple [(.int (0)), (.int (1))])))) (eTest (eBin wNe (eVar 9) (eC (.tuple [(.int (0)), (.int (1))]))))) (sSet 7 (eCall ratios_add (eCons (eVar 7) (eCons (eCall ratios_multiply (eCons (eVar 8) (eCons (eVar 9) eNil))) eNil)))) sNext)) (sApp 5 (eVar 7))))) (sApp 3 (eCallB gTuple (eCons (eVar 5) eNil)))))
    (fun i ρ => ∃ (q4 q5 q6 q7 q8 q9 : Option W), ρ = [some (encT (mk r m F)), some (encT (mk m c G)), some (encT (mk c m fun i j => G j i)), some (.list ((List.range i).map fun i => encF (rowL c (mulT m F G i)))), q4, q5, q6, q7, q8, q9])
    [some (encT (mk r m F)), some (encT (mk m c G)), some (encT (mk c m fun i j => G j i)), some (.list ((List.range 0).map fun i => encF (rowL c (mulT m F G i)))), none, none, none, none, none, none]
    (g_seq (e_var rfl) seq_T) ⟨_, _, _, _, _, _, rfl⟩
    fun i w ρ hw ⟨q4, q5, q6, q7, q8, q9, e⟩ => by
      subst e
      obtain ⟨hi, rfl⟩ := map_item hw
      obtain ⟨p6, p7, p8, p9, ec⟩ := col_loop (R := F i) (G := G) (hF i hi) hG hm hc hd ha (some (encT (mk r m F))) (some (encT (mk m c G))) (some (.list ((List.range i).map fun i => encF (rowL c (mulT m F G i))))) q6 q7 q8 q9
      refine ⟨[some (encT (mk r m F)), some (encT (mk m c G)), some (encT (mk c m fun i j => G j i)), some (.list ((List.range i).map fun i => encF (rowL c (mulT m F G i)))), some (encF (rowL m (F i))), q5, q6, q7, q8, q9], [some (encT (mk r m F)), some (encT (mk m c G)), some (encT (mk c m fun i j => G j i)), some (.list ((List.range (i + 1)).map fun i => encF (rowL c (mulT m F G i)))), some (encF (rowL m (F i))), some (.list ((List.range c).map fun j => enc (mulT m F G i j))), p6, p7, p8, p9], rfl, ?_, _, _, _, _, _, _, rfl⟩
      rw [then_next (ρ' := [some (encT (mk r m F)), some (encT (mk m c G)), some (encT (mk c m fun i j => G j i)), some (.list ((List.range i).map fun i => encF (rowL c (mulT m F G i)))), some (encF (rowL m (F i))), some (.list []), q6, q7, q8, q9]) (t' := none) (by exact x_set (e_lst a_nil (by simp)))]
      rw [then_next ec]
      refine (x_app rfl (e_callB (a_cons (e_var rfl) a_nil) (tup_row (R := mulT m F G i))) (by simp; omega)).trans ?_
      rw [List.range_succ, List.map_append]
      rfl
  rw [then_next e1, List.length_map, List.length_range]
  exact fin_ret (e_callB (a_cons (e_var rfl) a_nil) tup_rows)
end G

end

section
namespace G
open PySem Ev
theorem law_times_spec {r m c d a e b : Nat} {F G : Tf} (hF : TB d a r m F) (hG : TB e b m c G) (h0 : 0 < m) (hr : r ≤ 16) (hm : m ≤ 16) (hc : c ≤ 16) (hd : d + e ≤ 99) (ha : a + b + 4 ≤ 1899) : law_times [encT (mk r m F), encT (mk m c G)] = .ok (encT (mk r c (mulT m F G))) := by
  unfold law_times
  rw [runF_eq (n := 2) rfl]
  rw [then_next (ρ' := [some (encT (mk r m F)), some (encT (mk m c G)), some (.int (c : Int)), none, none, none, none]) (t' := none) (by exact x_set (e_callB (a_cons (e_bin (e_var rfl) e_c (idx_T (k := 0) h0)) a_nil) len_R))]
  refine fin_ret (e_rows (F := mulT m F G) (g_seq (e_var rfl) seq_T) (by omega) fun i hi => ⟨_, rfl, ?_⟩)
  refine e_row (R := mulT m F G i) (g_rng1 (a_cons (e_var rfl) a_nil) (by omega)) (by omega) fun j hj => ⟨_, rfl, ?_⟩
  have hb : ∀ q ∈ rowL m (fun k => F i k * G k j), B (d + e) (a + b) q := fun q hq => by
    obtain ⟨k, hk, rfl⟩ := List.mem_map.mp hq
    have hk := List.mem_range.mp hk
    exact (hF i hi k hk).mul (hG k hk j hj)
  have hs := law_sum_spec hb (by omega) (by omega) (by rw [rowL_len]; omega)
  rw [show Su (rowL m (fun k => F i k * G k j)) = mulT m F G i j from Su_map _ m] at hs
  refine e_call (a_cons (e_lc (z_enum (e_var rfl) seq_R) (by simp; omega) (lc_range (F := fun k => enc (F i k * G k j)) fun k hk => ⟨_, rfl, ?_⟩)) a_nil) ?_
  · exact e_call (a_cons (e_var rfl) (a_cons (e_bin (e_bin (e_var rfl) (e_var rfl) (idx_T hk)) (e_var rfl) (idx_R hj)) a_nil)) (law_mul_spec ((hF i hi k hk).ok (by omega) (by omega)) ((hG k hk j hj).ok (by omega) (by omega)))
  · rw [show (List.range m).map (fun k => enc (F i k * G k j)) = (rowL m fun k => F i k * G k j).map enc by unfold rowL; rw [List.map_map]; rfl]
    exact hs
theorem law_two_spec {a b c d p q r s : Rat} {e x f y : Nat} (h : ∀ z ∈ [a, b, c, d], B e x z) (g : ∀ z ∈ [p, q, r, s], B f y z) (hd : e + f ≤ 99) (ha : x + y + 4 ≤ 1899) : law_two [encF [a, b, c, d], encF [p, q, r, s]] = .ok (encF [a * p + b * r, a * q + b * s, c * p + d * r, c * q + d * s]) := by
  let F : Tf := fun i j => if i = 0 then (if j = 0 then a else b) else (if j = 0 then c else d)
  let G : Tf := fun i j => if i = 0 then (if j = 0 then p else q) else (if j = 0 then r else s)
  have tF : TB e x 2 2 F := fun i hi j hj => by
    have : F i j = a ∨ F i j = b ∨ F i j = c ∨ F i j = d := by
      by_cases i0 : i = 0 <;> by_cases j0 : j = 0 <;> simp [F, i0, j0]
    rcases this with z | z | z | z <;> rw [z] <;> exact h _ (by simp)
  have tG : TB f y 2 2 G := fun i hi j hj => by
    have : G i j = p ∨ G i j = q ∨ G i j = r ∨ G i j = s := by
      by_cases i0 : i = 0 <;> by_cases j0 : j = 0 <;> simp [G, i0, j0]
    rcases this with z | z | z | z <;> rw [z] <;> exact g _ (by simp)
  have ht := law_times_spec tF tG (by decide) (by decide) (by decide) (by decide) hd ha
  have eF : (.tuple [encF [a, b], encF [c, d]] : W) = encT (mk 2 2 F) := rfl
  have eG : (.tuple [encF [p, q], encF [r, s]] : W) = encT (mk 2 2 G) := rfl
  have m00 : mulT 2 F G 0 0 = a * p + b * r := by show 0 + a * p + b * r = _; grind
  have m01 : mulT 2 F G 0 1 = a * q + b * s := by show 0 + a * q + b * s = _; grind
  have m10 : mulT 2 F G 1 0 = c * p + d * r := by show 0 + c * p + d * r = _; grind
  have m11 : mulT 2 F G 1 1 = c * q + d * s := by show 0 + c * q + d * s = _; grind
  have eR : encT (mk 2 2 (mulT 2 F G)) = .tuple [encF [a * p + b * r, a * q + b * s], encF [c * p + d * r, c * q + d * s]] := by
    rw [← m00, ← m01, ← m10, ← m11]; rfl
  rw [eR] at ht
  unfold law_two
  rw [runF_eq (n := 2) rfl]
  rw [then_next (ρ' := [some (encF [a, b, c, d]), some (encF [p, q, r, s]), some (enc a), some (enc b), some (enc c), some (enc d), none, none, none, none, none]) (t' := none) (by exact x_asg (e_var rfl) rfl)]
  rw [then_next (ρ' := [some (encF [a, b, c, d]), some (encF [p, q, r, s]), some (enc a), some (enc b), some (enc c), some (enc d), some (enc p), some (enc q), some (enc r), some (enc s), none]) (t' := none) (by exact x_asg (e_var rfl) rfl)]
  rw [then_next (ρ' := [some (encF [a, b, c, d]), some (encF [p, q, r, s]), some (enc a), some (enc b), some (enc c), some (enc d), some (enc p), some (enc q), some (enc r), some (enc s), some (.tuple [encF [a * p + b * r, a * q + b * s], encF [c * p + d * r, c * q + d * s]])]) (t' := none) (by
    exact x_set (e_call (a_cons (w := encT (mk 2 2 F)) (e_tup (ws := [encF [a, b], encF [c, d]]) (a_cons (e_tup (a_cons (e_var rfl) (a_cons (e_var rfl) a_nil)) (by simp)) (a_cons (e_tup (a_cons (e_var rfl) (a_cons (e_var rfl) a_nil)) (by simp)) a_nil)) (by simp)) (a_cons (w := encT (mk 2 2 G)) (e_tup (ws := [encF [p, q], encF [r, s]]) (a_cons (e_tup (a_cons (e_var rfl) (a_cons (e_var rfl) a_nil)) (by simp)) (a_cons (e_tup (a_cons (e_var rfl) (a_cons (e_var rfl) a_nil)) (by simp)) a_nil)) (by simp)) a_nil)) ht))]
  exact fin_ret (e_bin (e_bin (e_var rfl) e_c rfl) (e_bin (e_var rfl) e_c rfl) rfl)
/-! ### products of forms by the law -/
theorem law_poly_raw {f g : List Rat} {D E A B : Nat} (hf : FB D A f) (hg : FB E B g) (lf : 0 < f.length) (lg : 0 < g.length) (hl : f.length + g.length ≤ 26) (s1 : Sz D A) (s2 : Sz E B) (s : Sz (D * E) (625 * (A * B))) :
    law_poly [.list (f.map enc), encF g] = .ok (.list ((cv f g).map enc)) ∧ FB (D * E) (625 * (A * B)) (cv f g) := by
  unfold law_poly
  rw [runF_eq (n := 2) rfl]
  have m0 : ((f.length : Int) + (g.length : Int) - 1) = ((f.length + g.length - 1 : Nat) : Int) := by omega
  have e2 : sSet 2 (eBin wMulL (eLst (eCons (eTup (eCons (eC (.int (0))) (eCons (eC (.int (1))) eNil))) eNil)) (eBin wSub (eBin wAdd (eCallB gLen (eCons (eVar 0) eNil)) (eCallB gLen (eCons (eVar 1) eNil))) (eC (.int (1))))) (startW 7 [.list (f.map enc), encF g]) none = .next [some (.list (f.map enc)), some (encF g), some (.list ((List.replicate (f.length + g.length - 1) (0 : Rat)).map enc)), none, none, none, none] none := by
    have c : (-1000000 ≤ (f.length : Int) + (g.length : Int) - 1 ∧ (f.length : Int) + (g.length : Int) - 1 ≤ 1000000) ∧ 1 * ((f.length : Int) + (g.length : Int) - 1).toNat ≤ 16777216 := by omega
    have n0 : ((f.length : Int) + (g.length : Int) - 1).toNat = f.length + g.length - 1 := by omega
    have q : wMulL (.list [.tuple [.int 0, .int 1]]) (.int ((f.length : Int) + (g.length : Int) - 1)) = some (.list ((List.replicate (f.length + g.length - 1) (0 : Rat)).map enc)) := by
      show (if (-1000000 ≤ (f.length : Int) + (g.length : Int) - 1 ∧ (f.length : Int) + (g.length : Int) - 1 ≤ 1000000) ∧ 1 * ((f.length : Int) + (g.length : Int) - 1).toNat ≤ 16777216 then _ else _) = _
      rw [if_pos c, n0, ← rep_map]
      congr 2
      rw [enc_zero]
      generalize f.length + g.length - 1 = n
      induction n with
      | zero => rfl
      | succ n ih => rw [List.replicate_succ, List.flatten_cons, ih, List.replicate_succ]; rfl
    simp [q]
  rw [then_next e2]
  have hdd : D * E ≠ 0 := s.d0
  obtain ⟨ρ', e3, l, a3, a4, a5, a6, rfl, hlen, hFB, hHm⟩ := sfor_pred (t := none) (src := sEnum (eVar 0)) (g := gTp (gsC (gN 3) (gsC (gN 4) gsN))) (items := f.zipIdx.map fun p => .tuple [.int (p.2 : Int), enc p.1])
    (body := sFor (sEnum (eVar 1)) (gTp (gsC (gN 5) (gsC (gN 6) gsN))) (sPut 2 (eBin wAdd (eVar 3) (eVar 5)) (eCall law_add (eCons (eBin wIdx (eVar 2) (eBin wAdd (eVar 3) (eVar 5))) (eCons (eCall law_mul (eCons (eVar 4) (eCons (eVar 6) eNil))) eNil)))))
    (fun i ρ => ∃ (l : List Rat) (a3 a4 a5 a6 : Option W), ρ = [some (.list (f.map enc)), some (encF g), some (.list (l.map enc)), a3, a4, a5, a6] ∧ l.length = f.length + g.length - 1 ∧ FB (D * E) (i * g.length * (A * B)) l ∧ ∀ u v, Hm l u v = Sg i (tm f u v) * Hm g u v)
    [some (.list (f.map enc)), some (encF g), some (.list ((List.replicate (f.length + g.length - 1) (0 : Rat)).map enc)), none, none, none, none]
    (by simp [enum_eq]) ⟨_, none, none, none, none, rfl, by simp, fun q hq => by rw [List.eq_of_mem_replicate hq]; exact Bd.zero, fun u v => by rw [Hm_zero, Sg_zero]; grind⟩
    fun i w ρ hw ⟨l, a3, a4, a5, a6, e, hlen, hFB, hHm⟩ => by
      subst e
      obtain ⟨hi, rfl⟩ : ∃ hi : i < f.length, w = .tuple [.int (i : Int), enc (f.getD i 0)] := by
        rw [List.getElem?_map, List.getElem?_zipIdx] at hw
        by_cases hi : i < f.length
        · refine ⟨hi, ?_⟩
          rw [List.getElem?_eq_getElem hi] at hw
          simp at hw
          rw [← hw, List.getD_eq_getElem?_getD, List.getElem?_eq_getElem hi]; rfl
        · rw [List.getElem?_eq_none (by omega)] at hw; simp at hw
      refine ⟨[some (.list (f.map enc)), some (encF g), some (.list (l.map enc)), some (.int (i : Int)), some (enc (f.getD i 0)), a5, a6], ?_⟩
      · obtain ⟨ρ2, e4, l', a5', a6', rfl, hlen', hFB', hHm'⟩ := sfor_pred (t := none) (src := sEnum (eVar 1)) (g := gTp (gsC (gN 5) (gsC (gN 6) gsN))) (items := g.zipIdx.map fun p => .tuple [.int (p.2 : Int), enc p.1])
          (body := sPut 2 (eBin wAdd (eVar 3) (eVar 5)) (eCall law_add (eCons (eBin wIdx (eVar 2) (eBin wAdd (eVar 3) (eVar 5))) (eCons (eCall law_mul (eCons (eVar 4) (eCons (eVar 6) eNil))) eNil))))
          (fun j ρ => ∃ (l' : List Rat) (a5 a6 : Option W), ρ = [some (.list (f.map enc)), some (encF g), some (.list (l'.map enc)), some (.int (i : Int)), some (enc (f.getD i 0)), a5, a6] ∧ l'.length = f.length + g.length - 1 ∧ FB (D * E) ((i * g.length + j) * (A * B)) l' ∧ ∀ u v, Hm l' u v = Sg i (tm f u v) * Hm g u v + tm f u v i * Sg j (tm g u v))
          [some (.list (f.map enc)), some (encF g), some (.list (l.map enc)), some (.int (i : Int)), some (enc (f.getD i 0)), a5, a6]
          (by simp [enum_eq]) ⟨l, a5, a6, rfl, hlen, hFB, fun u v => by rw [hHm, Sg_zero]; grind⟩
          fun j w ρ hw ⟨l', a5, a6, e, hlen', hFB', hHm'⟩ => by
            subst e
            obtain ⟨hj, rfl⟩ : ∃ hj : j < g.length, w = .tuple [.int (j : Int), enc (g.getD j 0)] := by
              rw [List.getElem?_map, List.getElem?_zipIdx] at hw
              by_cases hj : j < g.length
              · refine ⟨hj, ?_⟩
                rw [List.getElem?_eq_getElem hj] at hw
                simp at hw
                rw [← hw, List.getD_eq_getElem?_getD, List.getElem?_eq_getElem hj]; rfl
              · rw [List.getElem?_eq_none (by omega)] at hw; simp at hw
            have hij : i + j < l'.length := by omega
            have cnt : (i * g.length + j) + 1 ≤ 625 := by
              have h1 : i * g.length ≤ 24 * 25 := Nat.mul_le_mul (by omega) (by omega)
              omega
            have bf := hf.get i
            have bg := hg.get j
            have bl := hFB'.get (i + j)
            have ok1 : Ok (f.getD i 0) := s1.ok bf
            have ok2 : Ok (g.getD j 0) := s2.ok bg
            have bp := bf.mul bg
            have ok3 : Ok (f.getD i 0 * g.getD j 0) := (s.le (Nat.le_mul_of_pos_left _ (by omega))).ok bp
            have ok4 : Ok (l'.getD (i + j) 0) := (s.le (Nat.mul_le_mul_right _ (by omega))).ok bl
            have bn : Bd (D * E) ((i * g.length + j + 1) * (A * B)) (l'.getD (i + j) 0 + f.getD i 0 * g.getD j 0) := by
              have := bl.add hdd bp
              rw [Nat.add_mul _ 1, Nat.one_mul]
              exact this
            refine ⟨[some (.list (f.map enc)), some (encF g), some (.list (l'.map enc)), some (.int (i : Int)), some (enc (f.getD i 0)), some (.int (j : Int)), some (enc (g.getD j 0))], [some (.list (f.map enc)), some (encF g), some (.list ((l'.set (i + j) (l'.getD (i + j) 0 + f.getD i 0 * g.getD j 0)).map enc)), some (.int (i : Int)), some (enc (f.getD i 0)), some (.int (j : Int)), some (enc (g.getD j 0))], by simp, ?_, _, _, _, rfl, by rw [List.length_set]; exact hlen', ?_, fun u v => ?_⟩
            · have ij : (i : Int) + (j : Int) = ((i + j : Nat) : Int) := by omega
              simp only [s_sPut, s_eCall, s_eCons, s_eBin, s_eVar, s_eNil, s_bind_ok, List.getElem?_cons_succ, List.getElem?_cons_zero, s_wAdd_int, s_rOf_some, ij, idxL hij, law_mul_spec ok1 ok2, s_fR_ok, law_add_spec ok4 ok3, s_toS_ok, putL hij]
              simp
            · exact FB.set (hFB'.le (Nat.mul_le_mul_right _ (by omega))) bn
            · rw [Hm_set u v _ l' (i + j) hij, hHm', Sg_succ, hlen']
              have := tm_mul (f := f) (g := g) (u := u) (v := v) hi hj
              grind
        refine ⟨_, by simp, e4, l', _, _, _, _, rfl, hlen', ?_, fun u v => ?_⟩
        · have e : (i + 1) * g.length = i * g.length + (List.map (fun p => (PyData.tuple [.int (p.2 : Int), enc p.1] : W)) g.zipIdx).length := by
            rw [List.length_map, List.length_zipIdx, Nat.add_mul, Nat.one_mul]
          rw [e]; exact hFB'
        · rw [hHm', Sg_succ, Hm_sum u v g, List.length_map, List.length_zipIdx]
          grind
  have el : l = cv f g := Hm_ext (by rw [hlen, cv_len lg]) fun u v => by
    rw [hHm, Hm_cv u v lg, Hm_sum u v f, List.length_map, List.length_zipIdx]
  rw [then_next e3]
  subst el
  refine ⟨by simp, hFB.le (Nat.mul_le_mul_right _ ?_)⟩
  rw [List.length_map, List.length_zipIdx]
  exact Nat.le_trans (Nat.mul_le_mul (show f.length ≤ 25 by omega) (show g.length ≤ 25 by omega)) (by decide)
theorem law_poly_spec {f g : List Rat} {d a e b : Nat} (hf : BF d a f) (hg : BF e b g) (lf : 0 < f.length) (lg : 0 < g.length) (hl : f.length + g.length ≤ 26) (hd : d + e ≤ 99) (ha : a + b ≤ 1889) :
    law_poly [.list (f.map enc), encF g] = .ok (.list ((cv f g).map enc)) ∧ BF (d + e) (a + b + 10) (cv f g) := by
  have e1 : KK ^ d * KK ^ e = KK ^ (d + e) := (Nat.pow_add _ _ _).symm
  have e2 : 625 * (2 ^ a * 2 ^ b) ≤ 2 ^ (a + b + 10) := by rw [← Nat.pow_add]; exact mulp (by decide)
  have s : Sz (KK ^ d * KK ^ e) (625 * (2 ^ a * 2 ^ b)) := ⟨by rw [e1]; exact KKn _, by rw [e1]; exact KKlt hd, Nat.lt_of_le_of_lt e2 (p2lt (by omega))⟩
  have h1 := law_poly_raw hf.fb hg.fb lf lg hl (szB (by omega) (by omega)) (szB (by omega) (by omega)) s
  exact ⟨h1.1, h1.2.bf (by rw [e1]; exact Nat.dvd_refl _) e2⟩
end G

end

section
namespace G
open PySem Ev
/-! ### the law's change of a form -/
def cvi (p : List Rat) : Nat → List Rat → List Rat
  | 0, l => l
  | i + 1, l => cv (cvi p i l) p
theorem cvi_len {p l : List Rat} (lp : p.length = 2) (ll : 0 < l.length) : ∀ i, (cvi p i l).length = l.length + i
  | 0 => rfl
  | i + 1 => by
    unfold cvi
    have := cvi_len lp ll i
    rw [cv_len (by omega), this, lp]; omega
theorem Hm_cvi {p l : List Rat} (lp : p.length = 2) (u v : Rat) : ∀ i, Hm (cvi p i l) u v = Hm l u v * Hm p u v ^ i
  | 0 => by unfold cvi; rw [Rat.pow_zero]; grind
  | i + 1 => by unfold cvi; rw [Hm_cv u v (by omega), Hm_cvi lp u v i, Rat.pow_succ]; grind
theorem cvi_B {p l : List Rat} {d a e b : Nat} (hl : BF d a l) (hp : BF e b p) (lp : p.length = 2) (ll : 0 < l.length) : ∀ i, l.length + i ≤ 20 → d + i * e ≤ 99 → a + i * (b + 10) ≤ 1889 → BF (d + i * e) (a + i * (b + 10)) (cvi p i l)
  | 0, _, _, _ => hl.mono (by omega) (by omega)
  | i + 1, h1, h2, h3 => by
    rw [Nat.add_mul, Nat.one_mul] at h2 h3
    have ih := cvi_B hl hp lp ll i (by omega) (by omega) (by omega)
    have := cvi_len (l := l) lp ll i
    have := (cv_P ih hp (by omega) (by omega) (by omega) (by omega) (by omega)).2
    exact this.mono (by rw [Nat.add_mul, Nat.one_mul]; omega) (by rw [Nat.add_mul, Nat.one_mul]; omega)
theorem part_loop {p l : List Rat} {d a e b n : Nat} (hl : BF d a l) (hp : BF e b p) (lp : p.length = 2) (ll : 0 < l.length) (h1 : l.length + n ≤ 20) (h2 : d + n * e ≤ 99) (h3 : a + n * (b + 10) ≤ 1889)
    {src : Exs} {S : Ex} {w0 w1 w2 w3 w4 w5 o7 w8 w9 : Option W} (hs : src [w0, w1, w2, w3, w4, w5, some (.list (l.map enc)), o7, w8, w9] none = .ok ((List.range n).map fun i : Nat => (.int (i : Int) : W)) none) (hS : ∀ x7 x6, S [w0, w1, w2, w3, w4, w5, x6, x7, w8, w9] none = .ok (encF p) none) :
    ∃ q7, sFor src (gN 7) (sSet 6 (eCall law_poly (eCons (eVar 6) (eCons S eNil)))) [w0, w1, w2, w3, w4, w5, some (.list (l.map enc)), o7, w8, w9] none = .next [w0, w1, w2, w3, w4, w5, some (.list ((cvi p n l).map enc)), q7, w8, w9] none := by
  obtain ⟨ρ', e1, q7, rfl⟩ := sfor_pred (t := none) (src := src) (g := gN 7) (body := sSet 6 (eCall law_poly (eCons (eVar 6) (eCons S eNil)))) (items := (List.range n).map fun i : Nat => (.int (i : Int) : W))
    (fun i ρ => ∃ q7, ρ = [w0, w1, w2, w3, w4, w5, some (.list ((cvi p i l).map enc)), q7, w8, w9])
    [w0, w1, w2, w3, w4, w5, some (.list (l.map enc)), o7, w8, w9] hs ⟨_, rfl⟩
    fun i w ρ hw ⟨q7, e⟩ => by
      subst e
      obtain ⟨hi, rfl⟩ := rng_item hw
      have z1 : (i + 1) * e ≤ n * e := Nat.mul_le_mul_right _ (by omega)
      have z2 : (i + 1) * (b + 10) ≤ n * (b + 10) := Nat.mul_le_mul_right _ (by omega)
      rw [Nat.add_mul, Nat.one_mul] at z1 z2
      have ih := cvi_B hl hp lp ll i (by omega) (by omega) (by omega)
      have := cvi_len (l := l) lp ll i
      have h := (law_poly_spec ih hp (by omega) (by omega) (by omega) (by omega) (by omega)).1
      exact ⟨[w0, w1, w2, w3, w4, w5, some (.list ((cvi p i l).map enc)), some (.int (i : Int)), w8, w9], [w0, w1, w2, w3, w4, w5, some (.list ((cvi p (i + 1) l).map enc)), some (.int (i : Int)), w8, w9], rfl, x_set (e_call (a_cons (e_var rfl) (a_cons (hS _ _) a_nil)) h), _, rfl⟩
  rw [List.length_map, List.length_range] at e1
  exact ⟨q7, e1⟩
theorem addL_loop {f g : List Rat} {d a e b : Nat} (hf : BF d a f) (hg : BF e b g) (hl : f.length = g.length) (h25 : f.length ≤ 100) (hd : d ≤ 99) (he : e ≤ 99) (ha : a ≤ 1899) (hb : b ≤ 1899) {w0 w1 w2 w4 w5 w7 w8 w9 : Option W} :
    sSet 3 (eLc (sZip (eVar 3) (eVar 6)) [8, 9] (gTp (gsC (gN 8) (gsC (gN 9) gsN))) etYes (eCall law_add (eCons (eVar 8) (eCons (eVar 9) eNil)))) [w0, w1, w2, some (.list (f.map enc)), w4, w5, some (.list (g.map enc)), w7, w8, w9] none = .next [w0, w1, w2, some (.list ((List.zipWith (· + ·) f g).map enc)), w4, w5, some (.list (g.map enc)), w7, w8, w9] none := by
  have row : lcL (gTp (gsC (gN 8) (gsC (gN 9) gsN))) etYes (eCall law_add (eCons (eVar 8) (eCons (eVar 9) eNil))) ((f.zip g).map fun p => .tuple [enc p.1, enc p.2]) (wipeW [w0, w1, w2, some (.list (f.map enc)), w4, w5, some (.list (g.map enc)), w7, w8, w9] [8, 9]) none = .ok ((f.zip g).map fun p => enc (p.1 + p.2)) none :=
    lc_map _ _ _ fun p hp => ⟨[w0, w1, w2, some (.list (f.map enc)), w4, w5, some (.list (g.map enc)), w7, some (enc p.1), some (enc p.2)], rfl,
      e_call (a_cons (e_var rfl) (a_cons (e_var rfl) a_nil)) (law_add_spec ((hf _ (zip_mem hp).1).ok hd ha) ((hg _ (zip_mem hp).2).ok he hb))⟩
  rw [map_zip] at row
  refine x_set (e_lc ?_ ?_ row)
  · rw [s_sZip, e_var rfl, s_bind_ok, e_var rfl, s_bind_ok]
    show (rOf (some (f.map enc)) none).bind _ = _
    rw [s_rOf_some, s_bind_ok]
    show (rOf (some (g.map enc)) none).bind _ = _
    rw [s_rOf_some, s_bind_ok, zip_eq]
  · simp; omega
theorem repL (n : Nat) (h : n ≤ 1000) : wMul (.list [.tuple [.int 0, .int 1]]) (.int (n : Int)) = some (.list ((List.replicate n (0 : Rat)).map enc)) := by
  show (if (-1000000 ≤ (n : Int) ∧ (n : Int) ≤ 1000000) ∧ 1 * (n : Int).toNat ≤ 16777216 then some (PyData.list (List.replicate (n : Int).toNat [enc 0]).flatten) else none) = _
  rw [if_pos (by omega)]
  rw [← rep_map]
  congr 2
  simp only [Int.toNat_natCast]
  induction n with
  | zero => rfl
  | succ k ih => rw [List.replicate_succ, List.flatten_cons, ih (by omega), List.replicate_succ]; rfl
theorem cterm_cvi {f p q : List Rat} (lp : p.length = 2) (lq : q.length = 2) {k : Nat} (hk : k < f.length) : cvi q k (cvi p (f.length - 1 - k) [f.getD k 0]) = cterm f p q k := by
  have l1 := cvi_len (l := [f.getD k 0]) lp (by simp) (f.length - 1 - k)
  have l2 := cvi_len (l := cvi p (f.length - 1 - k) [f.getD k 0]) lq (by rw [l1]; simp; omega) k
  refine Hm_ext (by rw [l2, l1, cterm_len lp lq hk]; simp; omega) fun u v => ?_
  rw [Hm_cvi lq, Hm_cvi lp, Hm_cterm lp lq, Hm_cons, Hm_nil]
  unfold tm
  simp [Rat.pow_zero]
  grind
theorem chgN_B {f p q : List Rat} {d a e b : Nat} (hf : BF d a f) (hp : BF e b p) (hq : BF e b q) (lp : p.length = 2) (lq : q.length = 2) (hl : f.length ≤ 7) (hd : d + 6 * e ≤ 99) (ha : a + 6 * (b + 10) + 7 ≤ 1889) :
    (∀ k, k < f.length → BF (d + 6 * e) (a + 6 * (b + 10)) (cterm f p q k)) ∧ ∀ i, i ≤ f.length → BF (d + 6 * e) (a + 6 * (b + 10) + i) (chgN f p q i) := by
  have hc : ∀ k, k < f.length → BF (d + 6 * e) (a + 6 * (b + 10)) (cterm f p q k) := fun k hk => by
    rw [← cterm_cvi lp lq hk]
    have z1 : (f.length - 1 - k) * e + k * e ≤ 6 * e := by rw [← Nat.add_mul]; exact Nat.mul_le_mul_right _ (by omega)
    have z2 : (f.length - 1 - k) * (b + 10) + k * (b + 10) ≤ 6 * (b + 10) := by rw [← Nat.add_mul]; exact Nat.mul_le_mul_right _ (by omega)
    have h1 := cvi_B (l := [f.getD k 0]) (BF.cons (hf.get k) BF.nil) hp lp (by simp) (f.length - 1 - k) (by simp; omega) (by omega) (by omega)
    have l1 := cvi_len (l := [f.getD k 0]) lp (by simp) (f.length - 1 - k)
    have h2 := cvi_B h1 hq lq (by rw [l1]; simp; omega) k (by rw [l1]; simp; omega) (by omega) (by omega)
    exact h2.mono (by omega) (by omega)
  refine ⟨hc, fun i => ?_⟩
  induction i with
  | zero => intro _; exact BF.zeros
  | succ i ih =>
    intro hi
    exact add_BF (ih (by omega)) (hc i (by omega)) (by omega) (by omega)
theorem chg_BF {f p q : List Rat} {d a e b : Nat} (hf : BF d a f) (hp : BF e b p) (hq : BF e b q) (lp : p.length = 2) (lq : q.length = 2) (hl : f.length ≤ 7) (hd : d + 6 * e ≤ 99) (ha : a + 6 * (b + 10) + 7 ≤ 1889) : BF (d + 6 * e) (a + 6 * (b + 10) + 7) (chg f p q) :=
  ((chgN_B hf hp hq lp lq hl hd ha).2 _ (Nat.le_refl _)).mono (Nat.le_refl _) (by omega)
theorem law_changed_spec {f : List Rat} {a b c d : Rat} {e x g y : Nat} (hf : BF e x f) (hp : BF g y [a, b]) (hq : BF g y [c, d]) (l0 : 0 < f.length) (hl : f.length ≤ 7) (hd : e + 6 * g ≤ 99) (ha : x + 6 * (y + 10) + 7 ≤ 1889) :
    law_changed [encF f, encF [a, b, c, d]] = .ok (encF (chg f [a, b] [c, d])) := by
  obtain ⟨hc, hN⟩ := chgN_B hf hp hq rfl rfl hl hd ha
  generalize hn : f.length - 1 = n
  have ln : f.length = n + 1 := by omega
  unfold law_changed
  rw [runF_eq (n := 2) rfl]
  have m1 : (f.length : Int) - 1 = (n : Int) := by omega
  rw [then_next (ρ' := [some (encF f), some (encF [a, b, c, d]), some (.int (n : Int)), none, none, none, none, none, none, none]) (t' := none) (by
    exact x_set (e_bin (e_callB (a_cons (e_var rfl) a_nil) (lenF f)) e_c (by rw [s_wSub_int, m1])))]
  rw [then_next (ρ' := [some (encF f), some (encF [a, b, c, d]), some (.int (n : Int)), some (.list ((chgN f [a, b] [c, d] 0).map enc)), none, none, none, none, none, none]) (t' := none) (by
    have := repL (n + 1) (by omega)
    rw [← ln] at this
    exact x_set (e_bin (e_lst (a_cons (w := .tuple [.int 0, .int 1]) (e_tup (a_cons e_c (a_cons e_c a_nil)) (by simp)) a_nil) (by simp)) (e_bin (e_var rfl) e_c rfl) (by rw [show ((n : Int) + 1) = ((f.length : Nat) : Int) by omega]; exact this)))]
  obtain ⟨ρ', e1, o4, o5, o6, o7, rfl⟩ := sfor_pred (t := none) (src := sEnum (eVar 0)) (g := gTp (gsC (gN 4) (gsC (gN 5) gsN))) (items := f.zipIdx.map fun p => .tuple [.int (p.2 : Int), enc p.1])
    (body := sThen (sSet 6 (eLst (eCons (eVar 5) eNil))) (sThen (sFor (sRng gRng1 (eCons (eBin wSub (eVar 2) (eVar 4)) eNil)) (gN 7) (sSet 6 (eCall law_poly (eCons (eVar 6) (eCons (eSlice (eVar 1) oNone (oSome (eC (.int (2))))) eNil))))) (sThen (sFor (sRng gRng1 (eCons (eVar 4) eNil)) (gN 7) (sSet 6 (eCall law_poly (eCons (eVar 6) (eCons (eSlice (eVar 1) (oSome (eC (.int (2)))) oNone) eNil))))) (sSet 3 (eLc (sZip (eVar 3) (eVar 6)) [8, 9] (gTp (gsC (gN 8) (gsC (gN 9) gsN))) etYes (eCall law_add (eCons (eVar 8) (eCons (eVar 9) eNil))))))))
    (fun i ρ => ∃ o4 o5 o6 o7 : Option W, ρ = [some (encF f), some (encF [a, b, c, d]), some (.int (n : Int)), some (.list ((chgN f [a, b] [c, d] i).map enc)), o4, o5, o6, o7, none, none])
    [some (encF f), some (encF [a, b, c, d]), some (.int (n : Int)), some (.list ((chgN f [a, b] [c, d] 0).map enc)), none, none, none, none, none, none]
    (by simp [enum_eq]) ⟨_, _, _, _, rfl⟩
    fun i w ρ hw ⟨o4, o5, o6, o7, e⟩ => by
      subst e
      obtain ⟨hi, rfl⟩ := enum_item hw
      have z1 : (n - i) * g + i * g ≤ 6 * g := by rw [← Nat.add_mul]; exact Nat.mul_le_mul_right _ (by omega)
      have z2 : (n - i) * (y + 10) + i * (y + 10) ≤ 6 * (y + 10) := by rw [← Nat.add_mul]; exact Nat.mul_le_mul_right _ (by omega)
      have hb0 : BF e x [f.getD i 0] := BF.cons (hf.get i) BF.nil
      have h1 := cvi_B hb0 hp rfl (by simp) (n - i) (by simp; omega) (by omega) (by omega)
      have l1 := cvi_len (p := [a, b]) (l := [f.getD i 0]) rfl (by simp) (n - i)
      have ec := cterm_cvi (f := f) (p := [a, b]) (q := [c, d]) rfl rfl hi
      rw [hn] at ec
      have lc := cterm_len (f := f) (p := [a, b]) (q := [c, d]) rfl rfl hi
      have lN := chgN_len (f := f) (p := [a, b]) (q := [c, d]) rfl rfl i (by omega)
      have sl1 : ∀ ρ : Sl, ρ[1]? = some (some (encF [a, b, c, d])) → eSlice (eVar 1) oNone (oSome (eC (.int (2)))) ρ none = .ok (encF [a, b]) none := fun ρ h => by
        rw [s_eSlice, e_var h]; rfl
      have sl2 : ∀ ρ : Sl, ρ[1]? = some (some (encF [a, b, c, d])) → eSlice (eVar 1) (oSome (eC (.int (2)))) oNone ρ none = .ok (encF [c, d]) none := fun ρ h => by
        rw [s_eSlice, e_var h]; rfl
      obtain ⟨q7, r1⟩ := part_loop (n := n - i) hb0 hp rfl (by simp) (by simp; omega) (by omega) (by omega) (src := sRng gRng1 (eCons (eBin wSub (eVar 2) (eVar 4)) eNil)) (S := eSlice (eVar 1) oNone (oSome (eC (.int (2)))))
        (w0 := some (encF f)) (w1 := some (encF [a, b, c, d])) (w2 := some (.int (n : Int))) (w3 := some (.list ((chgN f [a, b] [c, d] i).map enc))) (w4 := some (.int (i : Int))) (w5 := some (enc (f.getD i 0))) (o7 := o7) (w8 := none) (w9 := none)
        (g_rng1 (a_cons (e_bin (e_var rfl) (e_var rfl) (by rw [s_wSub_int, show (n : Int) - (i : Int) = ((n - i : Nat) : Int) by omega])) a_nil) (by omega)) (fun _ _ => sl1 _ rfl)
      obtain ⟨q7', r2⟩ := part_loop (n := i) h1 hq rfl (by rw [l1]; simp; omega) (by rw [l1]; simp; omega) (by omega) (by omega) (src := sRng gRng1 (eCons (eVar 4) eNil)) (S := eSlice (eVar 1) (oSome (eC (.int (2)))) oNone)
        (w0 := some (encF f)) (w1 := some (encF [a, b, c, d])) (w2 := some (.int (n : Int))) (w3 := some (.list ((chgN f [a, b] [c, d] i).map enc))) (w4 := some (.int (i : Int))) (w5 := some (enc (f.getD i 0))) (o7 := q7) (w8 := none) (w9 := none)
        (g_rng1 (a_cons (e_var rfl) a_nil) (by omega)) (fun _ _ => sl2 _ rfl)
      rw [ec] at r2
      refine ⟨[some (encF f), some (encF [a, b, c, d]), some (.int (n : Int)), some (.list ((chgN f [a, b] [c, d] i).map enc)), some (.int (i : Int)), some (enc (f.getD i 0)), o6, o7, none, none], [some (encF f), some (encF [a, b, c, d]), some (.int (n : Int)), some (.list ((chgN f [a, b] [c, d] (i + 1)).map enc)), some (.int (i : Int)), some (enc (f.getD i 0)), some (.list ((cterm f [a, b] [c, d] i).map enc)), q7', none, none], rfl, ?_, _, _, _, _, rfl⟩
      rw [then_next (ρ' := [some (encF f), some (encF [a, b, c, d]), some (.int (n : Int)), some (.list ((chgN f [a, b] [c, d] i).map enc)), some (.int (i : Int)), some (enc (f.getD i 0)), some (.list ([f.getD i 0].map enc)), o7, none, none]) (t' := none) (by
        exact x_set (e_lst (a_cons (e_var rfl) a_nil) (by simp)))]
      rw [then_next r1, then_next r2]
      exact addL_loop (hN i (by omega)) (hc i hi) (by rw [lN, lc]) (by omega) (by omega) (by omega) (by omega) (by omega)
  rw [then_next e1, List.length_map, List.length_zipIdx]
  exact fin_ret (e_callB (a_cons (e_var rfl) a_nil) rfl)
end G

end

section
namespace G
open PySem Ev
theorem szpB {d a N : Nat} (hd : d ≤ 99) (ha : a ≤ 1899) (h1 : d * N ≤ 99) (h2 : (a + 10) * N ≤ 1899) : Szp (KK ^ d) (2 ^ a) N := by
  refine ⟨szB hd ha, fun n hn => ?_⟩
  have e1 : (KK ^ d) ^ n = KK ^ (d * n) := (Nat.pow_mul _ _ _).symm
  have e2 : (625 * 2 ^ a) ^ n ≤ 2 ^ ((a + 10) * n) := by
    rw [Nat.pow_mul]
    exact Nat.pow_le_pow_left (mulp (by decide)) n
  have q1 : d * n ≤ d * N := Nat.mul_le_mul_left _ hn
  have q2 : (a + 10) * n ≤ (a + 10) * N := Nat.mul_le_mul_left _ hn
  rw [e1]
  exact ⟨KKn _, KKlt (by omega), Nat.lt_of_le_of_lt e2 (p2lt (by omega))⟩
theorem szc_g {e x g y n : Nat} (hn : n ≤ 5) (he : e + 6 * g ≤ 99) (hx : x + 6 * (y + 10) + 14 ≤ 1899) : Szc (KK ^ e) (2 ^ x) (KK ^ g) (2 ^ y) n := by
  have z1 : g * n ≤ 6 * g := by rw [Nat.mul_comm]; exact Nat.mul_le_mul_right _ (by omega)
  have z2 : (y + 10) * n ≤ 6 * (y + 10) := by rw [Nat.mul_comm]; exact Nat.mul_le_mul_right _ (by omega)
  have sp : Szp (KK ^ g) (2 ^ y) n := szpB (by omega) (by omega) (by omega) (by omega)
  have e1 : (KK ^ g) ^ n = KK ^ (g * n) := (Nat.pow_mul _ _ _).symm
  have e2 : (625 * 2 ^ y) ^ n ≤ 2 ^ ((y + 10) * n) := by
    rw [Nat.pow_mul]
    exact Nat.pow_le_pow_left (mulp (by decide)) n
  have e3 : 625 * (625 * 2 ^ y) ^ n ≤ 2 ^ ((y + 10) * n + 10) := by
    rw [Nat.pow_add, Nat.mul_comm]; exact Nat.mul_le_mul e2 (by decide)
  have e4 : (n + 1) * (2 ^ x * (625 * (625 * 2 ^ y) ^ n)) ≤ 2 ^ (x + (y + 10) * n + 13) := by
    have : 2 ^ x * (625 * (625 * 2 ^ y) ^ n) ≤ 2 ^ (x + (y + 10) * n + 10) := by
      rw [show x + (y + 10) * n + 10 = x + ((y + 10) * n + 10) by omega, Nat.pow_add]; exact Nat.mul_le_mul_left _ e3
    rw [show x + (y + 10) * n + 13 = 3 + (x + (y + 10) * n + 10) by omega, Nat.pow_add]
    exact Nat.mul_le_mul (by omega) this
  refine ⟨sp, szB (by omega) (by omega), ?_, ?_⟩
  · rw [e1]; exact ⟨KKn _, KKlt (by omega), Nat.lt_of_le_of_lt e3 (p2lt (by omega))⟩
  · rw [e1, ← Nat.pow_add]; exact ⟨KKn _, KKlt (by omega), Nat.lt_of_le_of_lt e4 (p2lt (by omega))⟩
theorem BF.two {d a : Nat} {x y : Rat} (hx : B d a x) (hy : B d a y) : BF d a [x, y] := BF.cons hx (BF.cons hy BF.nil)
theorem changed_P {f : List Rat} {a b c d : Rat} {e x g y n : Nat} (hf : BF e x f) (hp : BF g y [a, b]) (hq : BF g y [c, d]) (lf : f.length = n + 1) (hn : n ≤ 5) (he : e + 6 * g ≤ 99) (hx : x + 6 * (y + 10) + 14 ≤ 1899) :
    forms_changed [encF f, encF [a, b, c, d]] = .ok (encF (chg f [a, b] [c, d])) :=
  forms_changed_spec hf.fb hp.fb hq.fb lf (by omega) (szc_g hn he hx)
/-! ### tables of changes -/
def en (n j : Nat) : List Rat := rowL (n + 1) fun k => if k = j then 1 else 0
theorem en_len (n j : Nat) : (en n j).length = n + 1 := rowL_len _ _
theorem en_B (n j : Nat) : BF 0 0 (en n j) := fun q hq => by
  obtain ⟨k, hk, rfl⟩ := List.mem_map.mp hq
  by_cases h : k = j
  · rw [if_pos h]; exact B.one
  · rw [if_neg h]; exact B.zero
theorem unit_form_spec {n j : Nat} (hn : n ≤ 5) : moves_unit_form [.int (j : Int), .int (n : Int)] = .ok (encF (en n j)) := by
  unfold moves_unit_form
  rw [runF_eq (n := 2) rfl]
  refine fin_ret (e_row (R := fun k => if k = j then 1 else 0) (g_rng1 (n := n + 1) (a_cons (e_bin (e_var rfl) e_c rfl) a_nil) (by omega)) (by omega) fun k hk => ⟨_, rfl, ?_⟩)
  by_cases h : k = j
  · simp only [if_pos h]
    exact e_ifT (t_test (e_bin (e_var rfl) (e_var rfl) (eqT (by omega)))) e_c
  · simp only [if_neg h]
    exact e_ifF (t_test (e_bin (e_var rfl) (e_var rfl) (eqN (by omega)))) e_c
theorem check_order_nat {n : Nat} (hn : n ≤ 5) : forms_check_order [.int (n : Int)] = .ok .none := by
  rcases five hn with rfl | rfl | rfl | rfl | rfl | rfl <;> kernel_rfl
theorem turned_list {r c : Nat} {F : Tf} (h0 : 0 < r) (hr : r ≤ 100) (hc : c ≤ 100) : moves_turned [.list ((List.range r).map fun i => encF (rowL c (F i)))] = .ok (encT (mk c r fun i j => F j i)) := by
  unfold moves_turned
  rw [runF_eq (n := 1) rfl]
  refine fin_ret (e_rows (F := fun i j => F j i) (g_rng1 (a_cons (e_callB (a_cons (e_bin (e_var rfl) e_c (idx_list (k := 0) (w := encF (rowL c (F 0))) (by rw [List.getElem?_map, List.getElem?_range h0]; rfl))) a_nil) len_R) a_nil) (by omega)) (by omega) fun i hi => ⟨_, rfl, ?_⟩)
  exact e_row (R := fun j => F j i) (g_seq (e_var rfl) rfl) (by omega) fun j hj => ⟨_, rfl, e_bin (e_var rfl) (e_var rfl) (idx_R hi)⟩
/-- the table of a change -/
def Tt (n : Nat) (p q : List Rat) : Tf := fun i j => (chg (en n j) p q).getD i 0
theorem chg_row {n j : Nat} {p q : List Rat} (lp : p.length = 2) (lq : q.length = 2) : chg (en n j) p q = rowL (n + 1) fun i => Tt n p q i j := by
  have l : (chg (en n j) p q).length = n + 1 := by rw [chg_len lp lq, en_len]
  have := rowL_self (chg (en n j) p q)
  rw [l] at this
  exact this.symm
theorem Tt_B {n g y : Nat} {p q : List Rat} (hp : BF g y p) (hq : BF g y q) (lp : p.length = 2) (lq : q.length = 2) (hn : n ≤ 5) (hd : 6 * g ≤ 99) (ha : 6 * (y + 10) + 7 ≤ 1889) (r c : Nat) : TB (6 * g) (6 * (y + 10) + 7) r c (Tt n p q) := fun i _ j _ => by
  have := (chg_BF (en_B n j) hp hq lp lq (by rw [en_len]; omega) (by omega) (by omega)).get i
  exact this.mono (by omega) (by omega)
theorem table_of_spec {n g y : Nat} {a b c d : Rat} (hp : BF g y [a, b]) (hq : BF g y [c, d]) (hn : n ≤ 5) (hd : 6 * g ≤ 99) (ha : 6 * (y + 10) + 14 ≤ 1889) : moves_table_of [encF [a, b, c, d], .int (n : Int)] = .ok (encT (mk (n + 1) (n + 1) (Tt n [a, b] [c, d]))) := by
  unfold moves_table_of
  rw [runF_eq (n := 2) rfl]
  rw [then_next (ρ' := [some (encF [a, b, c, d]), some (.int (n : Int)), none, none]) (t' := none) (by exact x_drop (e_call (a_cons (e_var rfl) a_nil) (check_order_nat hn)))]
  rw [then_next (ρ' := [some (encF [a, b, c, d]), some (.int (n : Int)), some (.list ((List.range (n + 1)).map fun j => encF (rowL (n + 1) fun i => Tt n [a, b] [c, d] i j))), none]) (t' := none) (by
    refine x_set (e_lc (g_rng1 (n := n + 1) (a_cons (e_bin (e_var rfl) e_c rfl) a_nil) (by omega)) (by simp; omega) (lc_range fun j hj => ⟨_, rfl, ?_⟩))
    have h := changed_P (en_B n j) hp hq (en_len n j) hn (by omega) (by omega)
    rw [chg_row rfl rfl] at h
    exact e_call (a_cons (e_call (a_cons (e_var rfl) (a_cons (e_var rfl) a_nil)) (unit_form_spec hn)) (a_cons (e_var rfl) a_nil)) h)]
  exact fin_ret (e_call (a_cons (e_var rfl) a_nil) (turned_list (F := fun j i => Tt n [a, b] [c, d] i j) (by omega) (by omega) (by omega)))
/-! what they do -/
theorem Hm_rowL (u v : Rat) (n : Nat) (R : Nat → Rat) : Hm (rowL (n + 1) R) u v = Sg (n + 1) fun k => R k * u ^ (n - k) * v ^ k := by
  rw [Hm_sum, rowL_len]
  refine Sg_congr fun k hk => ?_
  unfold tm
  rw [rowL_get hk, rowL_len]
  rfl
theorem Sg_one (n j : Nat) (F : Nat → Rat) (hj : j < n) : (Sg n fun k => (if k = j then (1 : Rat) else 0) * F k) = F j := by
  have h : ∀ i, i ≤ n → (Sg i fun k => (if k = j then (1 : Rat) else 0) * F k) = if j < i then F j else 0 := by
    intro i
    induction i with
    | zero => intro _; rw [Sg_zero, if_neg (by omega)]
    | succ i ih =>
      intro hi
      rw [Sg_succ, ih (by omega)]
      by_cases e : i = j
      · rw [if_pos e, if_neg (by omega), if_pos (by omega), e]; grind
      · rw [if_neg e]
        by_cases l : j < i
        · rw [if_pos l, if_pos (by omega)]; grind
        · rw [if_neg l, if_neg (by omega)]; grind
  rw [h n (Nat.le_refl _), if_pos hj]
theorem Hm_en (u v : Rat) {n j : Nat} (hj : j ≤ n) : Hm (en n j) u v = u ^ (n - j) * v ^ j := by
  unfold en
  rw [Hm_rowL, ← Sg_one (n + 1) j (fun k => u ^ (n - k) * v ^ k) (by omega)]
  exact Sg_congr fun k _ => by grind
theorem Sg_swap (F : Nat → Nat → Rat) (m : Nat) : ∀ n : Nat, (Sg n fun i => Sg m fun j => F i j) = Sg m fun j => Sg n fun i => F i j
  | 0 => by
    rw [Sg_zero]
    have : ∀ m, (Sg m fun j => (Sg 0 fun i => F i j)) = 0 := fun m => by
      induction m with
      | zero => rfl
      | succ m ih => rw [Sg_succ, ih, Sg_zero]; grind
    exact (this m).symm
  | n + 1 => by
    rw [Sg_succ, Sg_swap F m n, ← Sg_add]
    rfl
/-- a form's change by the table -/
theorem T_form {n : Nat} {p q f : List Rat} (lp : p.length = 2) (lq : q.length = 2) (lf : f.length = n + 1) : rowL (n + 1) (fun i => Sg (n + 1) fun k => Tt n p q i k * f.getD k 0) = chg f p q := by
  refine Hm_ext (by rw [rowL_len, chg_len lp lq, lf]) fun u v => ?_
  rw [Hm_rowL, Hm_chg lp lq, Hm_sum, lf]
  have h1 : ∀ i, (Sg (n + 1) fun k => Tt n p q i k * f.getD k 0) * u ^ (n - i) * v ^ i = Sg (n + 1) fun k => f.getD k 0 * (Tt n p q i k * u ^ (n - i) * v ^ i) := fun i => by
    rw [show (Sg (n + 1) fun k => Tt n p q i k * f.getD k 0) * u ^ (n - i) * v ^ i = (u ^ (n - i) * v ^ i) * Sg (n + 1) fun k => Tt n p q i k * f.getD k 0 by grind, ← Sg_mul]
    exact Sg_congr fun k _ => by grind
  rw [show (fun i => (Sg (n + 1) fun k => Tt n p q i k * f.getD k 0) * u ^ (n - i) * v ^ i) = fun i => Sg (n + 1) fun k => f.getD k 0 * (Tt n p q i k * u ^ (n - i) * v ^ i) from funext h1]
  rw [Sg_swap]
  refine Sg_congr fun k hk => ?_
  rw [Sg_mul, ← Hm_rowL u v n (fun i => Tt n p q i k), ← chg_row lp lq, Hm_chg lp lq, Hm_en _ _ (by omega)]
  unfold tm
  rw [lf, show n + 1 - 1 - k = n - k by omega]
  grind
theorem T_mul {n : Nat} {a b c d p q r s : Rat} : ∀ i, i < n + 1 → ∀ j, j < n + 1 → mulT (n + 1) (Tt n [p, q] [r, s]) (Tt n [a, b] [c, d]) i j = Tt n [a * p + b * r, a * q + b * s] [c * p + d * r, c * q + d * s] i j := fun i hi j hj => by
  have h := T_form (n := n) (p := [p, q]) (q := [r, s]) (f := chg (en n j) [a, b] [c, d]) rfl rfl (by rw [chg_len rfl rfl, en_len])
  rw [chg_chg] at h
  have h2 := congrArg (fun l => l.getD i 0) h
  simp only [rowL_get hi] at h2
  exact h2
theorem T_id (n : Nat) : ∀ i, i < n + 1 → ∀ j, j < n + 1 → Tt n [1, 0] [0, 1] i j = if i = j then 1 else 0 := fun i hi j hj => by
  unfold Tt
  rw [chg_id]
  unfold en
  exact rowL_get hi
end G

end

section
namespace G
open PySem Ev
theorem x_par2 {t : Tp} {A B : Ex} {ρ : Sl} {w w' : W} {i j : Nat} (h1 : A ρ t = .ok w t) (h2 : B ρ t = .ok w' t) : sPar2 i j A B ρ t = .next ((ρ.set i (some w)).set j (some w')) t := by
  rw [s_sPar2, h1, s_toS_ok, h2, s_toS_ok]
def upF (n : Nat) : Tf := fun i j => if i = j + 1 then (((n - j : Nat) : Int) : Rat) else 0
def dnF : Tf := fun i j => if j = i + 1 then (((j : Nat) : Int) : Rat) else 0
def wtF (n : Nat) : Tf := fun i j => if i = j then (((n : Int) - 2 * (i : Int) : Int) : Rat) else 0
def unF : Tf := fun i j => if i = j then 1 else 0
def paF (n : Nat) : Tf := fun i j => if j = n - i then sg i * (1 / (((cb n i : Nat) : Int) : Rat)) else 0
theorem step_up_spec {n : Nat} (hn : n ≤ 5) : moves_step_up [.int (n : Int)] = .ok (encT (mk (n + 1) (n + 1) (upF n))) := by
  rcases five hn with rfl | rfl | rfl | rfl | rfl | rfl <;> kernel_rfl
theorem step_down_spec {n : Nat} (hn : n ≤ 5) : moves_step_down [.int (n : Int)] = .ok (encT (mk (n + 1) (n + 1) dnF)) := by
  rcases five hn with rfl | rfl | rfl | rfl | rfl | rfl <;> kernel_rfl
theorem weight_spec {n : Nat} (hn : n ≤ 5) : moves_weight_table [.int (n : Int)] = .ok (encT (mk (n + 1) (n + 1) (wtF n))) := by
  rcases five hn with rfl | rfl | rfl | rfl | rfl | rfl <;> kernel_rfl
theorem unit_spec {n : Nat} (hn : n ≤ 5) : moves_unit [.int (n : Int)] = .ok (encT (mk (n + 1) (n + 1) unF)) := by
  rcases five hn with rfl | rfl | rfl | rfl | rfl | rfl <;> kernel_rfl
theorem pairing_spec {n : Nat} (hn : n ≤ 5) : moves_pairing_table [.int (n : Int)] = .ok (encT (mk (n + 1) (n + 1) (paF n))) := by
  rcases five hn with rfl | rfl | rfl | rfl | rfl | rfl <;> kernel_rfl
theorem det_power_spec {n : Nat} (hn : n ≤ 5) : moves_determinant_power [.int (n : Int)] = .ok (.int ((n * (n + 1) / 2 : Nat) : Int)) := by
  rcases five hn with rfl | rfl | rfl | rfl | rfl | rfl <;> kernel_rfl
/-! sizes -/
theorem nat_B {n a : Nat} (h : n ≤ 2 ^ a) : B 0 a (((n : Nat) : Int) : Rat) := B.int _ (by simpa using h)
theorem up_B {n : Nat} (hn : n ≤ 5) (r c : Nat) : TB 0 3 r c (upF n) := fun i _ j _ => by
  unfold upF
  by_cases h : i = j + 1
  · rw [if_pos h]; exact nat_B (Nat.le_trans (show n - j ≤ 5 by omega) (by decide))
  · rw [if_neg h]; exact B.zero
theorem dn_B {r c : Nat} (hc : c ≤ 8) : TB 0 3 r c dnF := fun i _ j hj => by
  unfold dnF
  by_cases h : j = i + 1
  · rw [if_pos h]; exact nat_B (Nat.le_trans (show j ≤ 8 by omega) (by decide))
  · rw [if_neg h]; exact B.zero
theorem wt_B {n r c : Nat} (hn : n ≤ 5) (hr : r ≤ 6) : TB 0 4 r c (wtF n) := fun i hi j _ => by
  unfold wtF
  by_cases h : i = j
  · rw [if_pos h]; exact B.int _ (Nat.le_trans (show ((n : Int) - 2 * (i : Int)).natAbs ≤ 16 by omega) (by decide))
  · rw [if_neg h]; exact B.zero
theorem un_B (r c : Nat) : TB 0 0 r c unF := fun i _ j _ => by
  unfold unF
  by_cases h : i = j
  · rw [if_pos h]; exact B.one
  · rw [if_neg h]; exact B.zero
theorem sg_B (i : Nat) : B 0 0 (sg i) := by
  induction i with
  | zero => exact B.one
  | succ i ih => exact ih.neg
theorem cbK {n k : Nat} (hn : n ≤ 5) (hk : k ≤ n) : cb n k ∣ KK ∧ cb n k ≠ 0 := by
  have h : ∀ n, n ≤ 5 → ∀ k, k ≤ n → cb n k ∣ KK ∧ cb n k ≠ 0 := by decide
  exact h n hn k hk
theorem pa_B {n c : Nat} (hn : n ≤ 5) : TB 1 0 (n + 1) c (paF n) := fun i hi j _ => by
  unfold paF
  by_cases h : j = n - i
  · rw [if_pos h]
    have k := cbK hn (show i ≤ n by omega)
    have := (sg_B i).mul (B.inv (d := 1) (a := 0) (by rw [Nat.pow_one]; exact k.1) k.2)
    exact this.mono (by decide) (by decide)
  · rw [if_neg h]; exact B.zero
theorem m1_B : B 0 0 (-1) := by
  have := B.int (d := 0) (a := 0) (-1) (by decide)
  exact this
/-! brackets -/
def brF (n : Nat) (F G : Tf) : Tf := fun i j => mulT n F G i j + -1 * mulT n G F i j
theorem bracket_spec {n d a e b : Nat} {F G : Tf} (hF : TB d a n n F) (hG : TB e b n n G) (h0 : 0 < n) (hn : n ≤ 16) (hd : d + e ≤ 99) (ha : a + b + 4 ≤ 1899) : moves_bracket [encT (mk n n F), encT (mk n n G)] = .ok (encT (mk n n (brF n F G))) := by
  unfold moves_bracket
  rw [runF_eq (n := 2) rfl]
  have t1 := hF.times (c := n) hG hn
  have t2 := hG.times (c := n) hF hn
  have s2 := scaled_spec t2 m1_B (by omega) (by omega) (by omega) (by decide) (by omega) (by decide)
  have q2 := t2.mul m1_B
  exact fin_ret (e_call (a_cons (e_call (a_cons (e_var rfl) (a_cons (e_var rfl) a_nil)) (times_spec hF hG h0 hn hn hn hd ha)) (a_cons (e_call (a_cons (w := enc (-1)) (e_tup (ws := [.int (-1), .int 1]) (a_cons (e_un e_c rfl) (a_cons e_c a_nil)) (by simp)) (a_cons (e_call (a_cons (e_var rfl) (a_cons (e_var rfl) a_nil)) (times_spec hG hF h0 hn hn hn (by omega) (by omega))) a_nil)) s2) a_nil)) (plus_spec t1 q2 (by omega) (by omega) (by omega) (by omega) (by omega) (by omega)))
theorem br_up : ∀ n, n ≤ 5 → ∀ i, i < n + 1 → ∀ j, j < n + 1 → brF (n + 1) (wtF n) (upF n) i j = ((-2 : Int) : Rat) * upF n i j := by decide +kernel
theorem br_dn : ∀ n, n ≤ 5 → ∀ i, i < n + 1 → ∀ j, j < n + 1 → brF (n + 1) (wtF n) dnF i j = ((2 : Int) : Rat) * dnF i j := by decide +kernel
theorem br_wt : ∀ n, n ≤ 5 → ∀ i, i < n + 1 → ∀ j, j < n + 1 → brF (n + 1) dnF (upF n) i j = wtF n i j := by decide +kernel
/-! the middle -/
def midN (n : Nat) : Rat := (((n * (n + 2) : Nat) : Int) : Rat) * (1 / (((2 : Nat) : Int) : Rat))
def midF (n : Nat) : Tf := fun i j => (mulT (n + 1) (upF n) dnF i j + mulT (n + 1) dnF (upF n) i j) + (1 / (((2 : Nat) : Int) : Rat)) * mulT (n + 1) (wtF n) (wtF n) i j
theorem mid_eq : ∀ n, n ≤ 5 → ∀ i, i < n + 1 → ∀ j, j < n + 1 → midF n i j = midN n * unF i j := by decide +kernel
theorem mid_num {n : Nat} (hn : n ≤ 5) : moves_middle_number [.int (n : Int)] = .ok (enc (midN n)) := by
  rcases five hn with rfl | rfl | rfl | rfl | rfl | rfl <;> kernel_rfl
theorem mid_law {n : Nat} (hn : n ≤ 5) : wMul (.int (n : Int)) (.int ((n : Int) + 2)) = some (.int ((n * (n + 2) : Nat) : Int)) ∧ law_make [.int ((n * (n + 2) : Nat) : Int), .int 2] = .ok (enc (midN n)) := by
  rcases five hn with rfl | rfl | rfl | rfl | rfl | rfl <;> exact ⟨by kernel_rfl, by kernel_rfl⟩
theorem half_B : B 1 0 (1 / (((2 : Nat) : Int) : Rat)) := B.inv (by decide) (by decide)
theorem mid_B {n : Nat} (hn : n ≤ 5) : B 1 6 (midN n) := by
  have h : n * (n + 2) ≤ 5 * 7 := Nat.mul_le_mul hn (by omega)
  have := (nat_B (a := 6) (Nat.le_trans h (by decide))).mul half_B
  exact this.mono (by decide) (by decide)
theorem middle_spec {n : Nat} (hn : n ≤ 5) : moves_middle [.int (n : Int)] = .ok (encT (mk (n + 1) (n + 1) fun i j => midN n * unF i j)) := by
  unfold moves_middle
  rw [runF_eq (n := 1) rfl]
  have u := up_B hn (n + 1) (n + 1)
  have d := dn_B (r := n + 1) (c := n + 1) (by omega)
  have w := wt_B (r := n + 1) (c := n + 1) hn (by omega)
  have t1 := u.times (c := n + 1) d (by omega)
  have t2 := d.times (c := n + 1) u (by omega)
  have t3 := w.times (c := n + 1) w (by omega)
  have p1 := t1.add 12 t2 (by omega) (by omega)
  have p3 := (t3.mul half_B)
  rw [then_next (ρ' := [some (.int (n : Int)), some (encT (mk (n + 1) (n + 1) (upF n))), some (encT (mk (n + 1) (n + 1) dnF)), some (encT (mk (n + 1) (n + 1) (wtF n)))]) (t' := none) (by
    exact x_par3 (e_call (a_cons (e_var rfl) a_nil) (step_up_spec hn)) (e_call (a_cons (e_var rfl) a_nil) (step_down_spec hn)) (e_call (a_cons (e_var rfl) a_nil) (weight_spec hn)))]
  rw [← mk_congr (mid_eq n hn)]
  refine fin_ret (e_call (a_cons (e_call (a_cons (e_call (a_cons (e_var rfl) (a_cons (e_var rfl) a_nil)) (times_spec u d (by omega) (by omega) (by omega) (by omega) (by omega) (by omega))) (a_cons (e_call (a_cons (e_var rfl) (a_cons (e_var rfl) a_nil)) (times_spec d u (by omega) (by omega) (by omega) (by omega) (by omega) (by omega))) a_nil)) (plus_spec t1 t2 (by omega) (by omega) (by omega) (by omega) (by omega) (by omega)))
    (a_cons (e_call (a_cons (w := enc (1 / (((2 : Nat) : Int) : Rat))) ?_ (a_cons (e_call (a_cons (e_var rfl) (a_cons (e_var rfl) a_nil)) (times_spec w w (by omega) (by omega) (by omega) (by omega) (by omega) (by omega))) a_nil)) (scaled_spec t3 half_B (by omega) (by omega) (by omega) (by omega) (by omega) (by omega))) a_nil)) (plus_spec p1 p3 (by omega) (by omega) (by omega) (by omega) (by omega) (by omega)))
  rw [← enc_inv (by decide)]
  exact e_tup (a_cons e_c (a_cons e_c a_nil)) (by simp)
/-! ### the exponential -/
def nowT (n : Nat) (F : Tf) : Nat → Tf
  | 0 => unF
  | k + 1 => fun i j => (1 / (((k + 1 : Nat) : Int) : Rat)) * mulT n (nowT n F k) F i j
def fndT (n : Nat) (F : Tf) : Nat → Tf
  | 0 => unF
  | k + 1 => fun i j => fndT n F k i j + nowT n F (k + 1) i j
theorem inv6_B {k : Nat} (hk : k ≤ 5) : B 1 0 (1 / (((k + 1 : Nat) : Int) : Rat)) := by
  have h : ∀ k, k ≤ 5 → k + 1 ∣ KK := by decide
  exact B.inv (by rw [Nat.pow_one]; exact h k hk) (by omega)
theorem now_B {n : Nat} {F : Tf} (hF : TB 1 5 n n F) (hn : n ≤ 6) : ∀ k, k ≤ 6 → TB (2 * k) (9 * k) n n (nowT n F k)
  | 0, _ => un_B n n
  | k + 1, h => by
    have := ((now_B hF hn k (by omega)).times (c := n) hF (by omega)).mul (inv6_B (show k ≤ 5 by omega))
    exact this.mono (by omega) (by omega)
theorem fnd_B {n : Nat} {F : Tf} (hF : TB 1 5 n n F) (hn : n ≤ 6) : ∀ k, k ≤ 6 → TB (2 * k) (10 * k + 1) n n (fndT n F k)
  | 0, _ => (un_B n n).mono (by omega) (by omega)
  | k + 1, h => by
    have := ((fnd_B hF hn k (by omega)).mono (show 2 * k ≤ 2 * (k + 1) by omega) (Nat.le_refl _)).add (10 * (k + 1) + 1) (now_B hF hn (k + 1) h) (by omega) (by omega)
    exact this
theorem rng2 {n : Nat} (hn : n ≤ 5) : gRng2 [.int 1, .int ((n : Int) + 2)] = some ((List.range (n + 1)).map fun k : Nat => (.int ((k + 1 : Nat) : Int) : W)) := by
  rcases five hn with rfl | rfl | rfl | rfl | rfl | rfl <;> kernel_rfl
theorem exp_loop {n : Nat} {F : Tf} (hF : TB 1 5 (n + 1) (n + 1) F) (hn : n ≤ 5) : ∃ o : Option W, moves_exponential [encT (mk (n + 1) (n + 1) F)] = endF false ((sThen (sIf (eTest (eCallB gAny (eCons (eLc (sSeq (eVar 3)) [5] (gN 5) etYes (eCallB gAny (eCons (eLc (sSeq (eVar 5)) [6] (gN 6) etYes (eBin wNe (eVar 6) (eC (.tuple [(.int (0)), (.int (1))])))) eNil))) eNil))) (sRaise X_BadNumber) sNext) (sRet (eVar 2))) [some (encT (mk (n + 1) (n + 1) F)), some (.int (n : Int)), some (encT (mk (n + 1) (n + 1) (fndT (n + 1) F (n + 1)))), some (encT (mk (n + 1) (n + 1) (nowT (n + 1) F (n + 1)))), o, none, none] none) := by
  unfold moves_exponential
  rw [runF_eq (n := 1) rfl]
  rw [then_next (ρ' := [some (encT (mk (n + 1) (n + 1) F)), some (.int (n : Int)), none, none, none, none, none]) (t' := none) (by
    exact x_set (e_bin (e_callB (a_cons (e_var rfl) a_nil) len_T) e_c (by rw [s_wSub_int, show ((n + 1 : Nat) : Int) - 1 = (n : Int) by omega])))]
  rw [then_next (ρ' := [some (encT (mk (n + 1) (n + 1) F)), some (.int (n : Int)), some (encT (mk (n + 1) (n + 1) (fndT (n + 1) F 0))), some (encT (mk (n + 1) (n + 1) (nowT (n + 1) F 0))), none, none, none]) (t' := none) (by
    exact x_par2 (e_call (a_cons (e_var rfl) a_nil) (unit_spec hn)) (e_call (a_cons (e_var rfl) a_nil) (unit_spec hn)))]
  obtain ⟨ρ', e1, o, rfl⟩ := sfor_pred (t := none) (src := sRng gRng2 (eCons (eC (.int (1))) (eCons (eBin wAdd (eVar 1) (eC (.int (2)))) eNil))) (g := gN 4) (items := (List.range (n + 1)).map fun k : Nat => (.int ((k + 1 : Nat) : Int) : W))
    (body := sThen (sSet 3 (eCall moves_scaled (eCons (eTup (eCons (eC (.int (1))) (eCons (eVar 4) eNil))) (eCons (eCall moves_times (eCons (eVar 3) (eCons (eVar 0) eNil))) eNil)))) (sSet 2 (eCall moves_plus (eCons (eVar 2) (eCons (eVar 3) eNil)))))
    (fun i ρ => ∃ o : Option W, ρ = [some (encT (mk (n + 1) (n + 1) F)), some (.int (n : Int)), some (encT (mk (n + 1) (n + 1) (fndT (n + 1) F i))), some (encT (mk (n + 1) (n + 1) (nowT (n + 1) F i))), o, none, none])
    [some (encT (mk (n + 1) (n + 1) F)), some (.int (n : Int)), some (encT (mk (n + 1) (n + 1) (fndT (n + 1) F 0))), some (encT (mk (n + 1) (n + 1) (nowT (n + 1) F 0))), none, none, none]
    (by rw [s_sRng, a_cons e_c (a_cons (e_bin (e_var rfl) e_c rfl) a_nil), s_bind_ok, rng2 hn, s_rOf_some]) ⟨_, rfl⟩
    fun i w ρ hw ⟨o, e⟩ => by
      subst e
      obtain ⟨hi, rfl⟩ := map_item hw
      have b1 := now_B hF (by omega) i (by omega)
      have b2 := now_B hF (by omega) (i + 1) (by omega)
      have b3 := fnd_B hF (by omega) i (by omega)
      have bt := b1.times (c := n + 1) hF (by omega)
      refine ⟨[some (encT (mk (n + 1) (n + 1) F)), some (.int (n : Int)), some (encT (mk (n + 1) (n + 1) (fndT (n + 1) F i))), some (encT (mk (n + 1) (n + 1) (nowT (n + 1) F i))), some (.int ((i + 1 : Nat) : Int)), none, none], [some (encT (mk (n + 1) (n + 1) F)), some (.int (n : Int)), some (encT (mk (n + 1) (n + 1) (fndT (n + 1) F (i + 1)))), some (encT (mk (n + 1) (n + 1) (nowT (n + 1) F (i + 1)))), some (.int ((i + 1 : Nat) : Int)), none, none], rfl, ?_, _, rfl⟩
      rw [then_next (ρ' := [some (encT (mk (n + 1) (n + 1) F)), some (.int (n : Int)), some (encT (mk (n + 1) (n + 1) (fndT (n + 1) F i))), some (encT (mk (n + 1) (n + 1) (nowT (n + 1) F (i + 1)))), some (.int ((i + 1 : Nat) : Int)), none, none]) (t' := none) (by
        refine x_set (e_call (a_cons (w := enc (1 / (((i + 1 : Nat) : Int) : Rat))) ?_ (a_cons (e_call (a_cons (e_var rfl) (a_cons (e_var rfl) a_nil)) (times_spec b1 hF (by omega) (by omega) (by omega) (by omega) (by omega) (by omega))) a_nil)) (scaled_spec bt (inv6_B (show i ≤ 5 by omega)) (by omega) (by omega) (by omega) (by omega) (by omega) (by omega)))
        rw [← enc_inv (by omega)]
        exact e_tup (a_cons e_c (a_cons (e_var rfl) a_nil)) (by simp))]
      exact x_set (e_call (a_cons (e_var rfl) (a_cons (e_var rfl) a_nil)) (plus_spec b3 b2 (by omega) (by omega) (by omega) (by omega) (by omega) (by omega)))
  rw [List.length_map, List.length_range] at e1
  exact ⟨o, by rw [then_next e1]⟩
def anyT (n : Nat) (F : Tf) : Bool := (List.range n).any fun i => (List.range n).any fun j => !decide (F i j = 0)
theorem any_spec {n : Nat} {F : Tf} {w0 w1 w2 w4 w5 w6 : Option W} (hn : n ≤ 100) : eTest (eCallB gAny (eCons (eLc (sSeq (eVar 3)) [5] (gN 5) etYes (eCallB gAny (eCons (eLc (sSeq (eVar 5)) [6] (gN 6) etYes (eBin wNe (eVar 6) (eC (.tuple [(.int (0)), (.int (1))])))) eNil))) eNil)) [w0, w1, w2, some (encT (mk n n F)), w4, w5, w6] none = .ok (anyT n F) none := by
  refine t_test (e_callB (a_cons (e_lc (g_seq (e_var rfl) seq_T) (by simp; omega) (lc_range (F := fun i => .bool ((List.range n).any fun j => !decide (F i j = 0))) fun i hi => ⟨_, rfl, ?_⟩)) a_nil) (gAny_map (fun i => (List.range n).any fun j => !decide (F i j = 0)) (List.range n)))
  exact e_callB (a_cons (e_lc (g_seq (e_var rfl) seq_R) (by simp; omega) (lc_range (F := fun j => .bool (!decide (F i j = 0))) fun j hj => ⟨_, rfl, e_bin (e_var rfl) e_c (wNe_zero _)⟩)) a_nil) (gAny_map (fun j => !decide (F i j = 0)) (List.range n))
theorem exp_ok {n : Nat} {F : Tf} (hF : TB 1 5 (n + 1) (n + 1) F) (hn : n ≤ 5) (h0 : ∀ i, i < n + 1 → ∀ j, j < n + 1 → nowT (n + 1) F (n + 1) i j = 0) : moves_exponential [encT (mk (n + 1) (n + 1) F)] = .ok (encT (mk (n + 1) (n + 1) (fndT (n + 1) F (n + 1)))) := by
  obtain ⟨o, e⟩ := exp_loop hF hn
  have z : anyT (n + 1) (nowT (n + 1) F (n + 1)) = false := by
    unfold anyT
    rw [List.any_eq_false]
    intro i hi
    rw [Bool.not_eq_true, List.any_eq_false]
    intro j hj
    rw [h0 i (List.mem_range.mp hi) j (List.mem_range.mp hj)]
    simp
  rw [e, then_next (i_false (by rw [any_spec (by omega), z]))]
  exact fin_ret (e_var rfl)
theorem exp_bad {n : Nat} {F : Tf} (hF : TB 1 5 (n + 1) (n + 1) F) (hn : n ≤ 5) (h0 : nowT (n + 1) F (n + 1) 0 0 ≠ 0) : moves_exponential [encT (mk (n + 1) (n + 1) F)] = .exc X_BadNumber := by
  obtain ⟨o, e⟩ := exp_loop hF hn
  have z : anyT (n + 1) (nowT (n + 1) F (n + 1)) = true := by
    unfold anyT
    rw [List.any_eq_true]
    refine ⟨0, List.mem_range.mpr (by omega), ?_⟩
    rw [List.any_eq_true]
    exact ⟨0, List.mem_range.mpr (by omega), by simp [h0]⟩
  rw [e, then_exc (i_true' (by rw [any_spec (by omega), z]) rfl)]
  rfl
theorem heavy_ne : ∀ n, n ≤ 5 → n ≠ 0 → nowT (n + 1) (wtF n) (n + 1) 0 0 ≠ 0 := by decide +kernel
end G

end

section
namespace G
open PySem Ev
theorem sx_get {f : List Rat} {k : Nat} (h : k + 1 < f.length) : (sx f).getD k 0 = (((f.length - 1 - k : Nat) : Nat) : Rat) * f.getD k 0 := by
  unfold sx
  rw [if_neg (by omega), List.getD_eq_getElem?_getD, List.getElem?_map, List.getElem?_range (by omega)]
  simp [Rat.intCast_natCast]
theorem sy_get {f : List Rat} {k : Nat} (h : k + 1 < f.length) : (sy f).getD k 0 = (((k + 1 : Nat) : Nat) : Rat) * f.getD (k + 1) 0 := by
  unfold sy
  rw [if_neg (by omega), List.getD_eq_getElem?_getD, List.getElem?_map, List.getElem?_range (by omega)]
  simp [Rat.intCast_natCast]
theorem ix_get {f : List Rat} {k : Nat} : ∀ i, k + i < f.length → (itr sx i f).getD k 0 = ((ff (f.length - 1 - k) i : Nat) : Rat) * f.getD k 0
  | 0, _ => by show f.getD k 0 = ((1 : Nat) : Rat) * f.getD k 0; simp
  | i + 1, h => by
    have l := ix_len (f := f) (by omega) i
    show (sx (itr sx i f)).getD k 0 = _
    rw [sx_get (by omega), ix_get i (by omega), l, ff, show max 1 (f.length - i) - 1 - k = f.length - 1 - k - i by omega, Rat.natCast_mul]
    grind
def rf : Nat → Nat → Nat
  | _, 0 => 1
  | k, i + 1 => (k + 1) * rf (k + 1) i
theorem rf_fac : ∀ i k : Nat, rf k i * fac k = fac (k + i)
  | 0, k => by unfold rf; simp
  | i + 1, k => by
    have h := rf_fac i (k + 1)
    rw [show k + 1 + i = k + (i + 1) by omega] at h
    rw [← h, rf, fac]
    grind
theorem iy_get {f : List Rat} : ∀ i k : Nat, k + i < f.length → (itr sy i f).getD k 0 = ((rf k i : Nat) : Rat) * f.getD (k + i) 0
  | 0, k, _ => by show f.getD k 0 = ((1 : Nat) : Rat) * f.getD k 0; simp
  | i + 1, k, h => by
    have l := iy_len (f := f) (by omega) i
    show (sy (itr sy i f)).getD k 0 = _
    rw [sy_get (by omega), iy_get i (k + 1) (by omega), rf, Rat.natCast_mul, show k + 1 + i = k + (i + 1) by omega]
    grind
theorem ff_self (n : Nat) : ff n n = fac n := by
  have := fac_ff (m := n) (k := n) (Nat.le_refl _)
  rw [Nat.sub_self] at this
  rw [this]
  simp [fac]
theorem lef_get {f : List Rat} {m j : Nat} (lf : f.length = m + 1) (hj : j ≤ m) : lef m f j = [((fac j * fac (m - j) : Nat) : Rat) * f.getD j 0] := by
  have l1 := lef_len (f := f) (k := m) (j := j) (by omega) hj
  rw [lf, show m + 1 - m = 1 by omega] at l1
  obtain ⟨x, hx⟩ := List.length_eq_one_iff.mp l1
  have h : (lef m f j).getD 0 0 = ((fac j * fac (m - j) : Nat) : Rat) * f.getD j 0 := by
    unfold lef
    have l2 := ix_len (f := f) (by omega) (m - j)
    rw [iy_get j 0 (by omega), Nat.zero_add, ix_get (m - j) (by omega), lf, show m + 1 - 1 - j = m - j by omega, ff_self, Rat.natCast_mul]
    have : rf 0 j = fac j := by
      have := rf_fac j 0
      rw [Nat.zero_add] at this
      rw [← this]; simp [fac]
    rw [this]
    grind
  rw [hx] at h ⊢
  simp only [List.getD_cons_zero] at h
  rw [h]
theorem Hm1 (x u v : Rat) : Hm [x] u v = x := by
  rw [Hm_cons, Hm_nil, List.length_nil, Rat.pow_zero]; grind
theorem cb_fac {m j : Nat} (hm : m ≤ 8) (hj : j ≤ m) : cb m j * (fac j * fac (m - j)) = fac m ∧ cb m (m - j) = cb m j := by
  have h : ∀ m, m ≤ 8 → ∀ j, j ≤ m → cb m j * (fac j * fac (m - j)) = fac m ∧ cb m (m - j) = cb m j := by decide
  exact h m hm j hj
theorem wg_get {f : List Rat} {k : Nat} (h : k < f.length) : (wg f).getD k 0 = f.getD k 0 / ((cb (f.length - 1) k : Nat) : Rat) := by
  unfold wg
  rw [List.getD_eq_getElem?_getD, List.getElem?_map, List.getElem?_range h]
  simp [Rat.intCast_natCast]
/-- one term by weighed numbers -/
def lterm (m : Nat) (f g : List Rat) (j : Nat) : Rat := (sg j * ((cb m j : Nat) : Rat)) * ((wg f).getD j 0 * (wg g).getD (m - j) 0)
theorem last_slide {f g : List Rat} {m : Nat} (lf : f.length = m + 1) (lg : g.length = m + 1) (hm : m ≤ 8) : tv m f g = [Sg (m + 1) (lterm m f g)] := by
  have lT := T_len m (f := f) (g := g) (by omega) (by omega)
  obtain ⟨t, ht⟩ := List.length_eq_one_iff.mp (show (T m f g).length = 1 by omega)
  have e : t = Hm (T m f g) 0 0 := by rw [ht, Hm1]
  rw [T_sum 0 0 m (by omega) (by omega)] at e
  unfold tv
  rw [ht, List.map_cons, List.map_nil, e, lf, lg, Nat.add_sub_cancel]
  congr 1
  rw [← Sg_mul]
  refine Sg_congr fun j hj => ?_
  have c := cb_fac hm (show j ≤ m by omega)
  have c0 := (cb8 hm (show j ≤ m by omega)).1
  have e1 : itm m f g 0 0 j = (((fac j * fac (m - j) : Nat) : Rat) * f.getD j 0) * (((fac j * fac (m - j) : Nat) : Rat) * g.getD (m - j) 0) := by
    have a1 := lef_get lf (show j ≤ m by omega)
    have a2 := lef_get lg (show m - j ≤ m by omega)
    unfold lef at a1 a2
    unfold itm
    rw [show m - (m - j) = j by omega] at a2
    rw [a1, a2, Hm1, Hm1, Nat.mul_comm (fac (m - j))]
  have e2 : pf m m m = 1 / (((fac m : Nat) : Rat) * ((fac m : Nat) : Rat)) := by
    unfold pf
    rw [ffm_eq, ff_self, Rat.intCast_natCast, Rat.natCast_mul]
  have z1 : ((cb m j : Nat) : Rat) ≠ 0 := fun z => c0 (Rat.natCast_inj.mp (z.trans rfl))
  have z2 : ((fac j * fac (m - j) : Nat) : Rat) ≠ 0 := fun z => by
    have : fac j * fac (m - j) = 0 := Rat.natCast_inj.mp (z.trans rfl)
    have := Nat.mul_pos (fac_pos j) (fac_pos (m - j))
    omega
  have e3 : ((fac m : Nat) : Rat) = ((cb m j : Nat) : Rat) * ((fac j * fac (m - j) : Nat) : Rat) := by rw [← Rat.natCast_mul, c.1]
  unfold lterm
  rw [wg_get (by omega), wg_get (by omega), lf, lg, Nat.add_sub_cancel, c.2, e1, e2, e3]
  generalize ((cb m j : Nat) : Rat) = C at *
  generalize ((fac j * fac (m - j) : Nat) : Rat) = D at *
  grind
/-! ### the pairing -/
theorem pair_inv {n : Nat} {f g : List Rat} (a b c d : Rat) (lf : f.length = n + 1) (lg : g.length = n + 1) (hn : n ≤ 5) :
    Sg (n + 1) (lterm n (chg f [a, b] [c, d]) (chg g [a, b] [c, d])) = (a * d - b * c) ^ n * Sg (n + 1) (lterm n f g) := by
  have l1 := last_slide (f := f) (g := g) lf lg (by omega)
  have l2 := last_slide (f := chg f [a, b] [c, d]) (g := chg g [a, b] [c, d]) (m := n) (by rw [chg_len rfl rfl, lf]) (by rw [chg_len rfl rfl, lg]) (by omega)
  have h1 := Hm1 (Sg (n + 1) (lterm n f g)) 0 0
  have h2 := Hm1 (Sg (n + 1) (lterm n (chg f [a, b] [c, d]) (chg g [a, b] [c, d]))) 0 0
  rw [← l1] at h1
  rw [← l2] at h2
  rw [Hm_tv] at h1 h2
  rw [chg_len rfl rfl, chg_len rfl rfl, T_chg a b c d n 0 0 (by omega) (by omega)] at h2
  have h3 : Hm (T n f g) (a * 0 + b * 0) (c * 0 + d * 0) = Hm (T n f g) 0 0 := by
    rw [show a * 0 + b * 0 = (0 : Rat) by grind, show c * 0 + d * 0 = (0 : Rat) by grind]
  rw [h3] at h2
  rw [← h1, ← h2]
  grind
theorem Sg_pick (n j : Nat) (F : Nat → Rat) (h : ∀ k, k < n → k ≠ j → F k = 0) : Sg n F = if j < n then F j else 0 := by
  have q : ∀ i, i ≤ n → Sg i F = if j < i then F j else 0 := by
    intro i
    induction i with
    | zero => intro _; rw [Sg_zero, if_neg (by omega)]
    | succ i ih =>
      intro hi
      rw [Sg_succ, ih (by omega)]
      by_cases e : i = j
      · rw [if_neg (by omega), if_pos (by omega), e]; grind
      · rw [h i (by omega) e]
        by_cases l : j < i
        · rw [if_pos l, if_pos (by omega)]; grind
        · rw [if_neg l, if_neg (by omega)]; grind
  exact q n (Nat.le_refl _)
theorem lterm_eq {n : Nat} {f g : List Rat} (lf : f.length = n + 1) (lg : g.length = n + 1) (hn : n ≤ 5) {j : Nat} (hj : j ≤ n) : lterm n f g j = sg j * (1 / (((cb n j : Nat) : Int) : Rat)) * (f.getD j 0 * g.getD (n - j) 0) := by
  unfold lterm
  have c := cb_fac (show n ≤ 8 by omega) hj
  have z1 : ((cb n j : Nat) : Rat) ≠ 0 := fun z => (cb8 (show n ≤ 8 by omega) hj).1 (Rat.natCast_inj.mp (z.trans rfl))
  rw [wg_get (by omega), wg_get (by omega), lf, lg, Nat.add_sub_cancel, c.2, Rat.intCast_natCast]
  generalize ((cb n j : Nat) : Rat) = C at *
  grind
theorem pair_row {n i : Nat} (hi : i < n + 1) (R : Nat → Rat) : (Sg (n + 1) fun m => paF n i m * R m) = sg i * (1 / (((cb n i : Nat) : Int) : Rat)) * R (n - i) := by
  rw [Sg_pick (n + 1) (n - i) _ (fun k _ hk => by unfold paF; rw [if_neg hk]; grind), if_pos (by omega)]
  unfold paF
  rw [if_pos rfl]
theorem pairing_eq {n : Nat} (hn : n ≤ 5) (a b c d : Rat) : ∀ i, i < n + 1 → ∀ j, j < n + 1 → mulT (n + 1) (fun i j => Tt n [a, b] [c, d] j i) (mulT (n + 1) (paF n) (Tt n [a, b] [c, d])) i j = (a * d - b * c) ^ n * paF n i j := fun i hi j hj => by
  have h := pair_inv a b c d (f := en n i) (g := en n j) (en_len n i) (en_len n j) hn
  have r : (Sg (n + 1) (lterm n (en n i) (en n j))) = paF n i j := by
    have : (Sg (n + 1) (lterm n (en n i) (en n j))) = Sg (n + 1) fun k => sg k * (1 / (((cb n k : Nat) : Int) : Rat)) * ((if k = i then 1 else 0) * (if n - k = j then 1 else 0)) := Sg_congr fun k hk => by
      rw [lterm_eq (en_len _ _) (en_len _ _) hn (by omega)]
      unfold en
      rw [rowL_get hk, rowL_get (by omega)]
    rw [this, Sg_pick (n + 1) i _ (fun k _ hk => by rw [if_neg hk]; grind), if_pos hi, if_pos rfl]
    unfold paF
    by_cases e : j = n - i
    · rw [if_pos e, if_pos e.symm]; grind
    · rw [if_neg e, if_neg (fun q => e q.symm)]; grind
  rw [r] at h
  rw [← h]
  refine Sg_congr fun k hk => ?_
  rw [lterm_eq (by rw [chg_len rfl rfl, en_len]) (by rw [chg_len rfl rfl, en_len]) hn (by omega)]
  show Tt n [a, b] [c, d] k i * (Sg (n + 1) fun m => paF n k m * Tt n [a, b] [c, d] m j) = _
  rw [pair_row hk]
  unfold Tt
  grind
end G

end

section
namespace G
open PySem Ev
/-! ### exponentials of steps -/
theorem cb_abs {m k : Nat} (hm : m ≤ 5) (hk : k ≤ 6) : (k + 1) * cb (m + 1) (k + 1) = (m + 1) * cb m k := by
  have h : ∀ m, m ≤ 5 → ∀ k, k ≤ 6 → (k + 1) * cb (m + 1) (k + 1) = (m + 1) * cb m k := by decide
  exact h m hm k hk
theorem nat_ne {k : Nat} : (((k + 1 : Nat) : Nat) : Rat) ≠ 0 := fun z => by
  have : k + 1 = 0 := Rat.natCast_inj.mp (z.trans rfl)
  omega
theorem now_up {n : Nat} (hn : n ≤ 5) (b : Rat) : ∀ k, k ≤ 6 → ∀ i, i < n + 1 → ∀ j, j < n + 1 → nowT (n + 1) (fun i j => b * upF n i j) k i j = if i = j + k then ((cb (n - j) k : Nat) : Rat) * b ^ k else 0
  | 0, _, i, hi, j, hj => by
    show unF i j = _
    unfold unF
    rw [cb_zero, Rat.pow_zero, Nat.add_zero]
    by_cases e : i = j
    · rw [if_pos e, if_pos e]; simp
    · rw [if_neg e, if_neg e]
  | k + 1, hk, i, hi, j, hj => by
    show (1 / (((k + 1 : Nat) : Int) : Rat)) * (Sg (n + 1) fun m => nowT (n + 1) (fun i j => b * upF n i j) k i m * (b * upF n m j)) = _
    rw [Sg_pick (n + 1) (j + 1) _ (fun m _ hm => by unfold upF; rw [if_neg hm]; grind)]
    by_cases l : j + 1 < n + 1
    · rw [if_pos l, now_up hn b k (by omega) i hi (j + 1) l]
      unfold upF
      rw [if_pos rfl, show j + 1 + k = j + (k + 1) by omega, Rat.intCast_natCast, Rat.intCast_natCast]
      obtain ⟨m, hm⟩ : ∃ m, n - j = m + 1 := ⟨n - j - 1, by omega⟩
      rw [hm, show n - (j + 1) = m by omega]
      have c := congrArg (fun x : Nat => (x : Rat)) (cb_abs (m := m) (k := k) (by omega) (by omega))
      simp only [Rat.natCast_mul] at c
      have k0 := nat_ne (k := k)
      by_cases e : i = j + (k + 1)
      · rw [if_pos e, if_pos e, Rat.pow_succ]
        generalize ((cb (m + 1) (k + 1) : Nat) : Rat) = X at *
        generalize ((cb m k : Nat) : Rat) = Y at *
        generalize ((k + 1 : Nat) : Rat) = K at *
        generalize ((m + 1 : Nat) : Rat) = M at *
        have : X = M * Y / K := by grind
        rw [this]; grind
      · rw [if_neg e, if_neg e]; grind
    · rw [if_neg l, if_neg (by omega)]; grind
theorem fnd_up {n : Nat} (hn : n ≤ 5) (b : Rat) {i j : Nat} (hi : i < n + 1) (hj : j < n + 1) : ∀ k, k ≤ 6 → fndT (n + 1) (fun i j => b * upF n i j) k i j = if j ≤ i ∧ i ≤ j + k then ((cb (n - j) (i - j) : Nat) : Rat) * b ^ (i - j) else 0
  | 0, _ => by
    show unF i j = _
    unfold unF
    by_cases e : i = j
    · rw [if_pos e, if_pos (by omega), e, Nat.sub_self, cb_zero, Rat.pow_zero]; simp
    · rw [if_neg e, if_neg (by omega)]
  | k + 1, hk => by
    show fndT (n + 1) (fun i j => b * upF n i j) k i j + nowT (n + 1) (fun i j => b * upF n i j) (k + 1) i j = _
    rw [fnd_up hn b hi hj k (by omega), now_up hn b (k + 1) hk i hi j hj]
    by_cases e : i = j + (k + 1)
    · rw [if_neg (by omega), if_pos e, if_pos (by omega), show i - j = k + 1 by omega]; grind
    · rw [if_neg e]
      by_cases l : j ≤ i ∧ i ≤ j + k
      · rw [if_pos l, if_pos (by omega)]; grind
      · rw [if_neg l, if_neg (by omega)]; grind
theorem now_dn {n : Nat} (hn : n ≤ 5) (b : Rat) : ∀ k, k ≤ 6 → ∀ i, i < n + 1 → ∀ j, j < n + 1 → nowT (n + 1) (fun i j => b * dnF i j) k i j = if j = i + k then ((cb j k : Nat) : Rat) * b ^ k else 0
  | 0, _, i, hi, j, hj => by
    show unF i j = _
    unfold unF
    rw [cb_zero, Rat.pow_zero, Nat.add_zero]
    by_cases e : i = j
    · rw [if_pos e, if_pos e.symm]; simp
    · rw [if_neg e, if_neg (fun z => e z.symm)]
  | k + 1, hk, i, hi, j, hj => by
    show (1 / (((k + 1 : Nat) : Int) : Rat)) * (Sg (n + 1) fun m => nowT (n + 1) (fun i j => b * dnF i j) k i m * (b * dnF m j)) = _
    by_cases j0 : j = 0
    · have : (Sg (n + 1) fun m => nowT (n + 1) (fun i j => b * dnF i j) k i m * (b * dnF m j)) = 0 := by
        rw [Sg_pick (n + 1) 0 _ (fun m _ hm => by unfold dnF; rw [if_neg (by omega)]; grind), if_pos (by omega)]
        unfold dnF
        rw [if_neg (by omega)]; grind
      rw [this, if_neg (by omega)]; grind
    · obtain ⟨m, rfl⟩ : ∃ m, j = m + 1 := ⟨j - 1, by omega⟩
      rw [Sg_pick (n + 1) m _ (fun q _ hq => by unfold dnF; rw [if_neg (by omega)]; grind), if_pos (by omega), now_dn hn b k (by omega) i hi m (by omega)]
      unfold dnF
      rw [if_pos rfl, Rat.intCast_natCast, Rat.intCast_natCast]
      have c := congrArg (fun x : Nat => (x : Rat)) (cb_abs (m := m) (k := k) (by omega) (by omega))
      simp only [Rat.natCast_mul] at c
      have k0 := nat_ne (k := k)
      by_cases e : m = i + k
      · rw [if_pos e, if_pos (by omega), Rat.pow_succ]
        generalize ((cb (m + 1) (k + 1) : Nat) : Rat) = X at *
        generalize ((cb m k : Nat) : Rat) = Y at *
        generalize ((k + 1 : Nat) : Rat) = K at *
        generalize ((m + 1 : Nat) : Rat) = M at *
        have : X = M * Y / K := by grind
        rw [this]; grind
      · rw [if_neg e, if_neg (by omega)]; grind
theorem fnd_dn {n : Nat} (hn : n ≤ 5) (b : Rat) {i j : Nat} (hi : i < n + 1) (hj : j < n + 1) : ∀ k, k ≤ 6 → fndT (n + 1) (fun i j => b * dnF i j) k i j = if i ≤ j ∧ j ≤ i + k then ((cb j (j - i) : Nat) : Rat) * b ^ (j - i) else 0
  | 0, _ => by
    show unF i j = _
    unfold unF
    by_cases e : i = j
    · rw [if_pos e, if_pos (by omega), e, Nat.sub_self, cb_zero, Rat.pow_zero]; simp
    · rw [if_neg e, if_neg (by omega)]
  | k + 1, hk => by
    show fndT (n + 1) (fun i j => b * dnF i j) k i j + nowT (n + 1) (fun i j => b * dnF i j) (k + 1) i j = _
    rw [fnd_dn hn b hi hj k (by omega), now_dn hn b (k + 1) hk i hi j hj]
    by_cases e : j = i + (k + 1)
    · rw [if_neg (by omega), if_pos e, if_pos (by omega), show j - i = k + 1 by omega]; grind
    · rw [if_neg e]
      by_cases l : i ≤ j ∧ j ≤ i + k
      · rw [if_pos l, if_pos (by omega)]; grind
      · rw [if_neg l, if_neg (by omega)]; grind
/-! the tables of slants -/
theorem rmul_pow (a b : Rat) : ∀ n : Nat, (a * b) ^ n = a ^ n * b ^ n
  | 0 => by rw [Rat.pow_zero, Rat.pow_zero, Rat.pow_zero]; grind
  | n + 1 => by rw [Rat.pow_succ, Rat.pow_succ, Rat.pow_succ, rmul_pow a b n]; grind
theorem binom (x y : Rat) : ∀ m : Nat, (x + y) ^ m = Sg (m + 1) fun t => ((cb m t : Nat) : Rat) * (x ^ (m - t) * y ^ t)
  | 0 => by
    rw [Sg_succ, Sg_zero, cb_zero, Rat.pow_zero, Rat.pow_zero, Rat.pow_zero]; simp; grind
  | m + 1 => by
    have a1 : (Sg (m + 1) fun t => ((cb m t : Nat) : Rat) * (x ^ (m - t) * y ^ t)) * y = Sg (m + 1) fun t => ((cb m t : Nat) : Rat) * (x ^ (m - t) * y ^ (t + 1)) := by
      rw [show ∀ s : Rat, s * y = y * s from fun s => by grind, ← Sg_mul]
      exact Sg_congr fun t _ => by rw [Rat.pow_succ]; grind
    have a2 : (Sg (m + 1) fun t => ((cb m t : Nat) : Rat) * (x ^ (m - t) * y ^ t)) * x = Sg (m + 2) fun t => ((cb m t : Nat) : Rat) * (x ^ (m + 1 - t) * y ^ t) := by
      rw [Sg_succ (m + 1), cb_over (by omega)]
      rw [show ∀ s : Rat, s * x = x * s from fun s => by grind, ← Sg_mul]
      rw [show (Sg (m + 1) fun i => x * (((cb m i : Nat) : Rat) * (x ^ (m - i) * y ^ i))) = Sg (m + 1) fun t => ((cb m t : Nat) : Rat) * (x ^ (m + 1 - t) * y ^ t) from Sg_congr fun t ht => by
        rw [show m + 1 - t = (m - t) + 1 by omega, Rat.pow_succ]; grind]
      simp; grind
    rw [Rat.pow_succ, binom x y m, show ∀ s : Rat, s * (x + y) = s * y + s * x from fun s => by grind, a1, a2, Sg_first (n := m + 1) (F := fun t => ((cb m t : Nat) : Rat) * (x ^ (m + 1 - t) * y ^ t)), Sg_first (n := m + 1) (F := fun t => ((cb (m + 1) t : Nat) : Rat) * (x ^ (m + 1 - t) * y ^ t)), cb_zero, cb_zero]
    rw [show (Sg (m + 1) fun i => ((cb (m + 1) (i + 1) : Nat) : Rat) * (x ^ (m + 1 - (i + 1)) * y ^ (i + 1))) = (Sg (m + 1) fun t => ((cb m t : Nat) : Rat) * (x ^ (m - t) * y ^ (t + 1))) + Sg (m + 1) fun i => ((cb m (i + 1) : Nat) : Rat) * (x ^ (m + 1 - (i + 1)) * y ^ (i + 1)) from by
      rw [← Sg_add]
      exact Sg_congr fun t _ => by
        rw [show m + 1 - (t + 1) = m - t by omega, show cb (m + 1) (t + 1) = cb m t + cb m (t + 1) from rfl, Rat.natCast_add]; grind]
    grind
theorem Sg_split (F : Nat → Rat) (m : Nat) : ∀ n : Nat, Sg (m + n) F = Sg m F + Sg n fun t => F (m + t)
  | 0 => by rw [Sg_zero, Nat.add_zero]; grind
  | n + 1 => by rw [← Nat.add_assoc, Sg_succ, Sg_succ, Sg_split F m n]; grind
theorem Sg_nil {n : Nat} {F : Nat → Rat} (h : ∀ k, k < n → F k = 0) : Sg n F = 0 := by
  rw [Sg_congr (F' := fun _ => 0) h]
  induction n with
  | zero => rfl
  | succ n ih => rw [Sg_succ, ih (fun k hk => h k (by omega))]; grind
theorem T_up {n : Nat} (b : Rat) : ∀ i, i < n + 1 → ∀ j, j < n + 1 → Tt n [1, b] [0, 1] i j = if j ≤ i then ((cb (n - j) (i - j) : Nat) : Rat) * b ^ (i - j) else 0 := fun i hi j hj => by
  have h : chg (en n j) [1, b] [0, 1] = rowL (n + 1) fun i => if j ≤ i then ((cb (n - j) (i - j) : Nat) : Rat) * b ^ (i - j) else 0 := by
    refine Hm_ext (by rw [chg_len rfl rfl, en_len, rowL_len]) fun u v => ?_
    rw [Hm_chg rfl rfl, Hm_en _ _ (by omega), Hm_rowL, Hm2, Hm2, show n + 1 = j + (n - j + 1) by omega, Sg_split, Sg_nil (n := j) (fun k hk => by rw [if_neg (by omega)]; grind), show (1 : Rat) * u + b * v = u + b * v by grind, binom u (b * v) (n - j), show (0 : Rat) * u + 1 * v = v by grind]
    rw [show ∀ s : Rat, s * v ^ j = v ^ j * s from fun s => by grind, ← Sg_mul]
    rw [show ∀ s : Rat, 0 + s = s from fun s => by grind]
    refine Sg_congr fun t ht => ?_
    rw [if_pos (by omega), show j + t - j = t by omega, show n - (j + t) = n - j - t by omega, rpow_add]
    rw [show (b * v) ^ t = b ^ t * v ^ t from rmul_pow ..]
    grind
  unfold Tt
  rw [h, rowL_get hi]
theorem cb_sym {j i : Nat} (hj : j ≤ 5) (hi : i ≤ j) : cb j (j - i) = cb j i := by
  have h : ∀ j, j ≤ 5 → ∀ i, i ≤ j → cb j (j - i) = cb j i := by decide
  exact h j hj i hi
theorem T_dn {n : Nat} (b : Rat) : ∀ i, i < n + 1 → ∀ j, j < n + 1 → Tt n [1, 0] [b, 1] i j = if i ≤ j then ((cb j i : Nat) : Rat) * b ^ (j - i) else 0 := fun i hi j hj => by
  have h : chg (en n j) [1, 0] [b, 1] = rowL (n + 1) fun i => if i ≤ j then ((cb j i : Nat) : Rat) * b ^ (j - i) else 0 := by
    refine Hm_ext (by rw [chg_len rfl rfl, en_len, rowL_len]) fun u v => ?_
    rw [Hm_chg rfl rfl, Hm_en _ _ (by omega), Hm_rowL, Hm2, Hm2, show n + 1 = (j + 1) + (n - j) by omega, Sg_split, Sg_nil (n := n - j) (fun k hk => by rw [if_neg (by omega)]; grind), show (1 : Rat) * u + 0 * v = u by grind, show b * u + 1 * v = b * u + v by grind, binom (b * u) v j]
    rw [← Sg_mul]
    rw [show ∀ s : Rat, s + 0 = s from fun s => by grind]
    refine Sg_congr fun t ht => ?_
    rw [if_pos (by omega), show n - t = (n - j) + (j - t) by omega, rpow_add]
    rw [show (b * u) ^ (j - t) = b ^ (j - t) * u ^ (j - t) from rmul_pow ..]
    grind
  unfold Tt
  rw [h, rowL_get hi]
theorem exp_up_spec {n : Nat} {b : Rat} (hn : n ≤ 5) (hb : B 1 2 b) : moves_exponential [encT (mk (n + 1) (n + 1) fun i j => b * upF n i j)] = .ok (encT (mk (n + 1) (n + 1) (Tt n [1, b] [0, 1]))) := by
  have hF : TB 1 5 (n + 1) (n + 1) (fun i j => b * upF n i j) := ((up_B hn (n + 1) (n + 1)).mul hb).mono (by decide) (by decide)
  rw [exp_ok hF hn (fun i hi j hj => by rw [now_up hn b (n + 1) (by omega) i hi j hj, if_neg (by omega)])]
  rw [mk_congr fun i hi j hj => show fndT (n + 1) (fun i j => b * upF n i j) (n + 1) i j = Tt n [1, b] [0, 1] i j by
    rw [fnd_up hn b hi hj (n + 1) (by omega), T_up b i hi j hj]
    by_cases l : j ≤ i
    · rw [if_pos (by omega), if_pos l]
    · rw [if_neg (by omega), if_neg l]]
theorem exp_dn_spec {n : Nat} {b : Rat} (hn : n ≤ 5) (hb : B 1 2 b) : moves_exponential [encT (mk (n + 1) (n + 1) fun i j => b * dnF i j)] = .ok (encT (mk (n + 1) (n + 1) (Tt n [1, 0] [b, 1]))) := by
  have hF : TB 1 5 (n + 1) (n + 1) (fun i j => b * dnF i j) := ((dn_B (by omega)).mul hb).mono (by decide) (by decide)
  rw [exp_ok hF hn (fun i hi j hj => by rw [now_dn hn b (n + 1) (by omega) i hi j hj, if_neg (by omega)])]
  rw [mk_congr fun i hi j hj => show fndT (n + 1) (fun i j => b * dnF i j) (n + 1) i j = Tt n [1, 0] [b, 1] i j by
    rw [fnd_dn hn b hi hj (n + 1) (by omega), T_dn b i hi j hj]
    by_cases l : i ≤ j
    · rw [if_pos (by omega), if_pos l, cb_sym (by omega) l]
    · rw [if_neg (by omega), if_neg l]]
end G

end

section
namespace G
open PySem Ev
/-! ### doing -/
def dgF (n : Nat) (a d : Rat) : Tf := fun i j => if i = j then (((n - i : Nat) : Int) : Rat) * a + (((i : Nat) : Int) : Rat) * d else 0
def doF (n : Nat) (a b c d : Rat) : Tf := fun i j => (b * upF n i j + c * dnF i j) + dgF n a d i j
theorem doing_spec {n : Nat} {a b c d : Rat} (hn : n ≤ 5) (ha : B 1 2 a) (hb : B 1 2 b) (hc : B 1 2 c) (hd : B 1 2 d) : moves_doing [encF [a, b, c, d], .int (n : Int)] = .ok (encT (mk (n + 1) (n + 1) (doF n a b c d))) := by
  unfold moves_doing
  rw [runF_eq (n := 2) rfl]
  have okd : ∀ {x : Rat}, B 1 2 x → Ok x := fun h => h.ok (by decide) (by decide)
  have hall : ∀ q ∈ [a, b, c, d], Ok q := fun q hq => by
    simp at hq
    rcases hq with rfl | rfl | rfl | rfl
    · exact okd ha
    · exact okd hb
    · exact okd hc
    · exact okd hd
  have t1 : noDict (encF [a, b, c, d]) = true := rfl
  have t2 : isIn (tyN (encF [a, b, c, d])) "tuple" = true := (by decide : isIn "tuple" "tuple" = true)
  rw [then_next (ρ' := [some (encF [a, b, c, d]), some (.int (n : Int)), none, none, none, none, none, none, none, none, none, none]) (t' := none) (by
    refine i_false (t_orF (t_not (v := true) (t_test ?_)) (t_orF (t_test (e_bin (e_callB (a_cons (e_var rfl) a_nil) rfl) e_c (neqN rfl))) (t_not (v := true) (t_test (e_callB (a_cons (e_lc (g_seq (e_var rfl) rfl) (by simp) (all_ratio (f := [a, b, c, d]) (ρ' := fun _ => []) hall 10 (fun _ => rfl))) a_nil) ((gAll_map (fun _ : Rat => true) [a, b, c, d]).trans rfl))))))
    rw [s_eIsI, e_var rfl, s_bind_ok, if_pos t1, t2])]
  rw [then_next (ρ' := [some (encF [a, b, c, d]), some (.int (n : Int)), some (enc a), some (enc b), some (enc c), some (enc d), none, none, none, none, none, none]) (t' := none) (by exact x_asg (e_var rfl) rfl)]
  have u := up_B hn (n + 1) (n + 1)
  have w := dn_B (r := n + 1) (c := n + 1) (by omega)
  have p1 := u.mul hb
  have p2 := w.mul hc
  have p3 := p1.add 6 p2 (by omega) (by omega)
  rw [then_next (ρ' := [some (encF [a, b, c, d]), some (.int (n : Int)), some (enc a), some (enc b), some (enc c), some (enc d), some (encT (mk (n + 1) (n + 1) fun i j => b * upF n i j + c * dnF i j)), none, none, none, none, none]) (t' := none) (by
    exact x_set (e_call (a_cons (e_call (a_cons (e_var rfl) (a_cons (e_call (a_cons (e_var rfl) a_nil) (step_up_spec hn)) a_nil)) (scaled_spec u hb (by omega) (by omega) (by omega) (by omega) (by omega) (by omega))) (a_cons (e_call (a_cons (e_var rfl) (a_cons (e_call (a_cons (e_var rfl) a_nil) (step_down_spec hn)) a_nil)) (scaled_spec w hc (by omega) (by omega) (by omega) (by omega) (by omega) (by omega))) a_nil)) (plus_spec p1 p2 (by omega) (by omega) (by omega) (by omega) (by omega) (by omega))))]
  rw [then_next (ρ' := [some (encF [a, b, c, d]), some (.int (n : Int)), some (enc a), some (enc b), some (enc c), some (enc d), some (encT (mk (n + 1) (n + 1) fun i j => b * upF n i j + c * dnF i j)), some (.list ((List.range 0).map fun i => encF (rowL (n + 1) (dgF n a d i)))), none, none, none, none]) (t' := none) (by exact x_set (e_lst a_nil (by simp)))]
  have db : ∀ k, k < n + 1 → B 1 5 ((((n - k : Nat) : Int) : Rat) * a) ∧ B 1 5 ((((k : Nat) : Int) : Rat) * d) := fun k hk => by
    have h1 := (nat_B (n := n - k) (a := 3) (by omega)).mul ha
    have h2 := (nat_B (n := k) (a := 3) (by omega)).mul hd
    exact ⟨h1.mono (by decide) (by decide), h2.mono (by decide) (by decide)⟩
  have dB : TB 1 6 (n + 1) (n + 1) (dgF n a d) := fun i hi j _ => by
    unfold dgF
    by_cases h : i = j
    · rw [if_pos h]; exact (db i hi).1.add (db i hi).2 (by omega) (by omega)
    · rw [if_neg h]; exact B.zero
  obtain ⟨ρ', e1, o8, o9, rfl⟩ := sfor_pred (t := none) (src := sRng gRng1 (eCons (eBin wAdd (eVar 1) (eC (.int (1)))) eNil)) (g := gN 8) (items := (List.range (n + 1)).map fun i : Nat => (.int (i : Int) : W))
    (body := sThen (sSet 9 (eCall ratios_add (eCons (eCall ratios_multiply (eCons (eTup (eCons (eBin wSub (eVar 1) (eVar 8)) (eCons (eC (.int (1))) eNil))) (eCons (eVar 2) eNil))) (eCons (eCall ratios_multiply (eCons (eTup (eCons (eVar 8) (eCons (eC (.int (1))) eNil))) (eCons (eVar 5) eNil))) eNil)))) (sApp 7 (eCallB gTuple (eCons (eLc (sRng gRng1 (eCons (eBin wAdd (eVar 1) (eC (.int (1)))) eNil)) [11] (gN 11) etYes (eIf (eTest (eBin wEq (eVar 8) (eVar 11))) (eVar 9) (eC (.tuple [(.int (0)), (.int (1))])))) eNil))))
    (fun i ρ => ∃ o8 o9 : Option W, ρ = [some (encF [a, b, c, d]), some (.int (n : Int)), some (enc a), some (enc b), some (enc c), some (enc d), some (encT (mk (n + 1) (n + 1) fun i j => b * upF n i j + c * dnF i j)), some (.list ((List.range i).map fun i => encF (rowL (n + 1) (dgF n a d i)))), o8, o9, none, none])
    [some (encF [a, b, c, d]), some (.int (n : Int)), some (enc a), some (enc b), some (enc c), some (enc d), some (encT (mk (n + 1) (n + 1) fun i j => b * upF n i j + c * dnF i j)), some (.list ((List.range 0).map fun i => encF (rowL (n + 1) (dgF n a d i)))), none, none, none, none]
    (g_rng1 (n := n + 1) (a_cons (e_bin (e_var rfl) e_c rfl) a_nil) (by omega)) ⟨_, _, rfl⟩
    fun i w ρ hw ⟨o8, o9, e⟩ => by
      subst e
      obtain ⟨hi, rfl⟩ := rng_item hw
      obtain ⟨b1, b2⟩ := db i hi
      refine ⟨[some (encF [a, b, c, d]), some (.int (n : Int)), some (enc a), some (enc b), some (enc c), some (enc d), some (encT (mk (n + 1) (n + 1) fun i j => b * upF n i j + c * dnF i j)), some (.list ((List.range i).map fun i => encF (rowL (n + 1) (dgF n a d i)))), some (.int (i : Int)), o9, none, none], [some (encF [a, b, c, d]), some (.int (n : Int)), some (enc a), some (enc b), some (enc c), some (enc d), some (encT (mk (n + 1) (n + 1) fun i j => b * upF n i j + c * dnF i j)), some (.list ((List.range (i + 1)).map fun i => encF (rowL (n + 1) (dgF n a d i)))), some (.int (i : Int)), some (enc ((((n - i : Nat) : Int) : Rat) * a + (((i : Nat) : Int) : Rat) * d)), none, none], rfl, ?_, _, _, rfl⟩
      rw [then_next (ρ' := [some (encF [a, b, c, d]), some (.int (n : Int)), some (enc a), some (enc b), some (enc c), some (enc d), some (encT (mk (n + 1) (n + 1) fun i j => b * upF n i j + c * dnF i j)), some (.list ((List.range i).map fun i => encF (rowL (n + 1) (dgF n a d i)))), some (.int (i : Int)), some (enc ((((n - i : Nat) : Int) : Rat) * a + (((i : Nat) : Int) : Rat) * d)), none, none]) (t' := none) (by
        have m1 := ratios_multiply_spec (x := (((n - i : Nat) : Int) : Rat)) (y := a) ((nat_B (n := n - i) (a := 3) (by omega)).ok (by decide) (by decide)) (okd ha)
        have m2 := ratios_multiply_spec (x := (((i : Nat) : Int) : Rat)) (y := d) ((nat_B (n := i) (a := 3) (by omega)).ok (by decide) (by decide)) (okd hd)
        refine x_set (e_call (a_cons (e_call (a_cons (w := enc (((n - i : Nat) : Int) : Rat)) ?_ (a_cons (e_var rfl) a_nil)) m1) (a_cons (e_call (a_cons (w := enc (((i : Nat) : Int) : Rat)) ?_ (a_cons (e_var rfl) a_nil)) m2) a_nil)) (ratios_add_spec (b1.ok (by decide) (by decide)) (b2.ok (by decide) (by decide))))
        · rw [enc_int]
          exact e_tup (a_cons (e_bin (e_var rfl) (e_var rfl) (by rw [s_wSub_int, show (n : Int) - (i : Int) = ((n - i : Nat) : Int) by omega])) (a_cons e_c a_nil)) (by simp)
        · rw [enc_int]
          exact e_tup (a_cons (e_var rfl) (a_cons e_c a_nil)) (by simp))]
      refine (x_app rfl (e_row (R := dgF n a d i) (g_rng1 (n := n + 1) (a_cons (e_bin (e_var rfl) e_c rfl) a_nil) (by omega)) (by omega) fun j hj => ⟨_, rfl, ?_⟩) (by simp; omega)).trans ?_
      · unfold dgF
        by_cases h : i = j
        · simp only [if_pos h]
          exact e_ifT (t_test (e_bin (e_var rfl) (e_var rfl) (eqT (by omega)))) (e_var rfl)
        · simp only [if_neg h]
          exact e_ifF (t_test (e_bin (e_var rfl) (e_var rfl) (eqN (by omega)))) e_c
      · rw [List.range_succ, List.map_append]; rfl
  rw [then_next e1, List.length_map, List.length_range]
  exact fin_ret (e_call (a_cons (e_var rfl) (a_cons (e_callB (a_cons (e_var rfl) a_nil) tup_rows) a_nil)) (plus_spec p3 dB (by omega) (by omega) (by omega) (by omega) (by omega) (by omega)))
/-! ### traces -/
theorem trace_spec {n d a : Nat} {F : Tf} (hF : TB d a n n F) (hn : n ≤ 16) (hd : d ≤ 99) (ha : a + 4 ≤ 1899) : moves_trace [encT (mk n n F)] = .ok (enc (Sg n fun k => F k k)) := by
  unfold moves_trace
  rw [runF_eq (n := 1) rfl]
  rw [then_next (ρ' := [some (encT (mk n n F)), some (enc (Sg 0 fun k => F k k)), none, none]) (t' := none) (by exact x_set (w := enc 0) e_c)]
  obtain ⟨ρ', e1, o2, o3, rfl⟩ := sfor_pred (t := none) (src := sEnum (eVar 0)) (g := gTp (gsC (gN 2) (gsC (gN 3) gsN))) (items := (List.range n).map fun k : Nat => .tuple [.int (k : Int), encF (rowL n (F k))])
    (body := sSet 1 (eCall ratios_add (eCons (eVar 1) (eCons (eBin wIdx (eVar 3) (eVar 2)) eNil))))
    (fun i ρ => ∃ o2 o3 : Option W, ρ = [some (encT (mk n n F)), some (enc (Sg i fun k => F k k)), o2, o3])
    [some (encT (mk n n F)), some (enc (Sg 0 fun k => F k k)), none, none]
    (z_enum (e_var rfl) seq_T) ⟨_, _, rfl⟩
    fun i w ρ hw ⟨o2, o3, e⟩ => by
      subst e
      obtain ⟨hi, rfl⟩ := map_item hw
      have bs : B d (a + 4) (Sg i fun k => F k k) := Sg_B' _ (fun k hk => hF k hk k hk) hn (by omega)
      exact ⟨[some (encT (mk n n F)), some (enc (Sg i fun k => F k k)), some (.int (i : Int)), some (encF (rowL n (F i)))], [some (encT (mk n n F)), some (enc (Sg (i + 1) fun k => F k k)), some (.int (i : Int)), some (encF (rowL n (F i)))], rfl, x_set (e_call (a_cons (e_var rfl) (a_cons (e_bin (e_var rfl) (e_var rfl) (idx_R hi)) a_nil)) (ratios_add_spec (bs.ok hd (by omega)) ((hF i hi i hi).ok hd (by omega)))), _, _, rfl⟩
  rw [then_next e1, List.length_map, List.length_range]
  exact fin_ret (e_var rfl)
def trS (w d : Rat) : Nat → Rat
  | 0 => 0
  | 1 => 1
  | n + 2 => w * trS w d (n + 1) - d * trS w d n
theorem trS_B {w d : Rat} (hw : B 3 10 w) (hd : B 6 19 d) : ∀ n, B (6 * n) (20 * n) (trS w d n) ∧ B (6 * (n + 1)) (20 * (n + 1)) (trS w d (n + 1))
  | 0 => ⟨B.zero, B.one⟩
  | n + 1 => by
    obtain ⟨h1, h2⟩ := trS_B hw hd n
    refine ⟨h2, ?_⟩
    have q1 := hw.mul h2
    have q2 := hd.mul h1
    exact B.sub (a := 20 * n + 30) (b := 20 * n + 30) (q1.mono (by omega) (by omega)) (q2.mono (by omega) (by omega)) (by omega) (by omega)
theorem chg_en {n k : Nat} {p q : List Rat} (lp : p.length = 2) (lq : q.length = 2) (hk : k ≤ n) : chg (en n k) p q = cv (pw p (n - k)) (pw q k) := by
  have l1 := pw_len (f := p) (by omega) (n - k)
  have l2 := pw_len (f := q) (by omega) k
  rw [lp] at l1
  rw [lq] at l2
  refine Hm_ext (by rw [chg_len lp lq, en_len, cv_len (by omega), l1, l2]; omega) fun u v => ?_
  rw [Hm_chg lp lq, Hm_en _ _ hk, Hm_cv u v (by omega), Hm_pw u v (by omega), Hm_pw u v (by omega)]
theorem trace_eq {n : Nat} (hn : n ≤ 5) (a b c d : Rat) : (Sg (n + 1) fun k => Tt n [a, b] [c, d] k k) = trS (a + d) (a * d - b * c) (n + 1) := by
  have h : (Sg (n + 1) fun k => Tt n [a, b] [c, d] k k) = Sg (n + 1) fun k => (cv (pw [a, b] (n - k)) (pw [c, d] k)).getD k 0 := Sg_congr fun k hk => by
    unfold Tt
    rw [chg_en rfl rfl (by omega)]
  rw [h]
  rcases five hn with rfl | rfl | rfl | rfl | rfl | rfl <;> simp [Sg, cv, pw, trS] <;> grind
end G

end

section
namespace G
open PySem Ev
section
variable {a b c d : Rat}
/-- a change as drawn -/
structure Ch (a b c d : Rat) : Prop where
  xa : B 3 9 a
  xb : B 3 9 b
  xc : B 3 9 c
  xd : B 3 9 d
  n0 : a * d - b * c ≠ 0
theorem B39 {x : Rat} (h : B 3 9 x) : Ok x := h.ok (by decide) (by decide)
theorem Ch.ad (h : Ch a b c d) : B 6 18 (a * d) := (h.xa.mul h.xd).mono (by decide) (by decide)
theorem Ch.bc (h : Ch a b c d) : B 6 18 (b * c) := (h.xb.mul h.xc).mono (by decide) (by decide)
theorem Ch.det (h : Ch a b c d) : B 6 19 (a * d - b * c) := h.ad.sub h.bc (by decide) (by decide)
theorem B618 {x : Rat} (h : B 6 18 x) : Ok x := h.ok (by decide) (by decide)
theorem Ch.check (h : Ch a b c d) : forms_check_change [encF [a, b, c, d]] = .ok .none := check_change_spec (B39 h.xa) (B39 h.xb) (B39 h.xc) (B39 h.xd) (B618 h.ad) (B618 h.bc) h.n0
theorem Ch.deter (h : Ch a b c d) : forms_determinant [encF [a, b, c, d]] = .ok (enc (a * d - b * c)) := determinant_spec (B39 h.xa) (B39 h.xb) (B39 h.xc) (B39 h.xd) (B618 h.ad) (B618 h.bc)
theorem trace_of_spec (h : Ch a b c d) {n : Nat} (hn : n ≤ 5) : moves_trace_of [encF [a, b, c, d], .int (n : Int)] = .ok (enc (trS (a + d) (a * d - b * c) (n + 1))) := by
  unfold moves_trace_of
  rw [runF_eq (n := 2) rfl]
  have hw : B 3 10 (a + d) := h.xa.add h.xd (by decide) (by decide)
  rw [then_next (ρ' := [some (encF [a, b, c, d]), some (.int (n : Int)), none, none, none, none, none]) (t' := none) (by exact x_drop (e_call (a_cons (e_var rfl) a_nil) h.check))]
  rw [then_next (ρ' := [some (encF [a, b, c, d]), some (.int (n : Int)), some (enc (a + d)), none, none, none, none]) (t' := none) (by
    exact x_set (e_call (a_cons (e_bin (e_var rfl) e_c (w := enc a) rfl) (a_cons (e_bin (e_var rfl) e_c (w := enc d) rfl) a_nil)) (ratios_add_spec (B39 h.xa) (B39 h.xd))))]
  rw [then_next (ρ' := [some (encF [a, b, c, d]), some (.int (n : Int)), some (enc (a + d)), some (enc (a * d - b * c)), none, none, none]) (t' := none) (by
    exact x_set (e_call (a_cons (e_call (a_cons (e_bin (e_var rfl) e_c (w := enc a) rfl) (a_cons (e_bin (e_var rfl) e_c (w := enc d) rfl) a_nil)) (ratios_multiply_spec (B39 h.xa) (B39 h.xd))) (a_cons (e_call (a_cons (e_bin (e_var rfl) e_c (w := enc b) rfl) (a_cons (e_bin (e_var rfl) e_c (w := enc c) rfl) a_nil)) (ratios_multiply_spec (B39 h.xb) (B39 h.xc))) a_nil)) (ratios_subtract_spec (B618 h.ad) (B618 h.bc))))]
  rw [then_next (ρ' := [some (encF [a, b, c, d]), some (.int (n : Int)), some (enc (a + d)), some (enc (a * d - b * c)), some (enc (trS (a + d) (a * d - b * c) 0)), some (enc (trS (a + d) (a * d - b * c) (0 + 1))), none]) (t' := none) (by
    exact x_par2 (w := enc 0) (w' := enc 1) e_c e_c)]
  obtain ⟨ρ', e1, o, rfl⟩ := sfor_pred (t := none) (src := sRng gRng1 (eCons (eVar 1) eNil)) (g := gN 6) (items := (List.range n).map fun i : Nat => (.int (i : Int) : W))
    (body := sPar2 4 5 (eVar 5) (eCall ratios_subtract (eCons (eCall ratios_multiply (eCons (eVar 2) (eCons (eVar 5) eNil))) (eCons (eCall ratios_multiply (eCons (eVar 3) (eCons (eVar 4) eNil))) eNil))))
    (fun i ρ => ∃ o : Option W, ρ = [some (encF [a, b, c, d]), some (.int (n : Int)), some (enc (a + d)), some (enc (a * d - b * c)), some (enc (trS (a + d) (a * d - b * c) i)), some (enc (trS (a + d) (a * d - b * c) (i + 1))), o])
    [some (encF [a, b, c, d]), some (.int (n : Int)), some (enc (a + d)), some (enc (a * d - b * c)), some (enc (trS (a + d) (a * d - b * c) 0)), some (enc (trS (a + d) (a * d - b * c) (0 + 1))), none]
    (g_rng1 (a_cons (e_var rfl) a_nil) (by omega)) ⟨_, rfl⟩
    fun i w ρ hw' ⟨o, e⟩ => by
      subst e
      obtain ⟨hi, rfl⟩ := rng_item hw'
      obtain ⟨b1, b2⟩ := trS_B hw h.det i
      have b3 := hw.mul b2
      have b4 := h.det.mul b1
      exact ⟨[some (encF [a, b, c, d]), some (.int (n : Int)), some (enc (a + d)), some (enc (a * d - b * c)), some (enc (trS (a + d) (a * d - b * c) i)), some (enc (trS (a + d) (a * d - b * c) (i + 1))), some (.int (i : Int))], [some (encF [a, b, c, d]), some (.int (n : Int)), some (enc (a + d)), some (enc (a * d - b * c)), some (enc (trS (a + d) (a * d - b * c) (i + 1))), some (enc (trS (a + d) (a * d - b * c) (i + 1 + 1))), some (.int (i : Int))], rfl,
        x_par2 (e_var rfl) (e_call (a_cons (e_call (a_cons (e_var rfl) (a_cons (e_var rfl) a_nil)) (ratios_multiply_spec (hw.ok (by decide) (by decide)) (b2.ok (by omega) (by omega)))) (a_cons (e_call (a_cons (e_var rfl) (a_cons (e_var rfl) a_nil)) (ratios_multiply_spec (h.det.ok (by decide) (by decide)) (b1.ok (by omega) (by omega)))) a_nil)) (ratios_subtract_spec (b3.ok (by omega) (by omega)) (b4.ok (by omega) (by omega)))), _, rfl⟩
  rw [then_next e1, List.length_map, List.length_range]
  exact fin_ret (e_var rfl)
end
/-! ### products of two changes, by heights -/
theorem Ht.add {A B : Nat} {x y : Rat} (hx : Ht A x) (hy : Ht B y) : Ht (A + B + 1) (x + y) := by
  have : Ht B (-y) := ⟨by show (-(y.num)).natAbs < _; rw [Int.natAbs_neg]; exact hy.1, hy.2⟩
  have h := hx.sub this
  rwa [show x - -y = x + y by grind] at h
theorem law_sum2 {x y : Rat} {A : Nat} (hx : Ht A x) (hy : Ht A y) (hA : A ≤ 1900) : law_sum [.list [enc x, enc y]] = .ok (enc (x + y)) := by
  unfold law_sum
  rw [runF_eq (n := 1) rfl]
  have z : Ht 1 0 := Ht.zero (by decide)
  have h1 := law_add_spec (z.ok (by decide)) (hx.ok (by omega))
  have h2 := law_add_spec ((z.add hx).ok (by omega)) (hy.ok (by omega))
  rw [show (0 : Rat) + x = x by grind] at h1 h2
  rw [then_next (ρ' := [some (.list [enc x, enc y]), some (enc 0), none]) (t' := none) (by exact x_set (w := enc 0) (e_tup (a_cons e_c (a_cons e_c a_nil)) (by simp)))]
  rw [then_next (ρ' := [some (.list [enc x, enc y]), some (enc (x + y)), some (enc y)]) (t' := none) (by
    refine Eq.trans (for_src (g_seq (e_var rfl) rfl)) ?_
    refine Eq.trans (for_step (ρ1 := [some (.list [enc x, enc y]), some (enc 0), some (enc x)]) (ρ2 := [some (.list [enc x, enc y]), some (enc x), some (enc x)]) rfl (x_set (e_call (a_cons (e_var rfl) (a_cons (e_var rfl) a_nil)) h1))) ?_
    refine Eq.trans (for_step (ρ1 := [some (.list [enc x, enc y]), some (enc x), some (enc y)]) (ρ2 := [some (.list [enc x, enc y]), some (enc (x + y)), some (enc y)]) rfl (x_set (e_call (a_cons (e_var rfl) (a_cons (e_var rfl) a_nil)) h2))) ?_
    rfl)]
  exact fin_ret (e_var rfl)
def HB (h : Nat) (F : Tf) : Prop := ∀ i j, Ht h (F i j)
theorem law_times2 {h : Nat} {F G : Tf} (hF : HB h F) (hG : HB h G) (hh : h ≤ 900) : law_times [encT (mk 2 2 F), encT (mk 2 2 G)] = .ok (encT (mk 2 2 fun i j => F i 0 * G 0 j + F i 1 * G 1 j)) := by
  unfold law_times
  rw [runF_eq (n := 2) rfl]
  rw [then_next (ρ' := [some (encT (mk 2 2 F)), some (encT (mk 2 2 G)), some (.int (2 : Int)), none, none, none, none]) (t' := none) (by exact x_set (e_callB (a_cons (e_bin (e_var rfl) e_c (idx_T (k := 0) (by decide))) a_nil) len_R))]
  refine fin_ret (e_rows (F := fun i j => F i 0 * G 0 j + F i 1 * G 1 j) (g_seq (e_var rfl) seq_T) (by omega) fun i hi => ⟨_, rfl, ?_⟩)
  refine e_row (R := fun j => F i 0 * G 0 j + F i 1 * G 1 j) (g_rng1 (n := 2) (a_cons (e_var rfl) a_nil) (by omega)) (by omega) fun j hj => ⟨_, rfl, ?_⟩
  have hs := law_sum2 ((hF i 0).mul (hG 0 j)) ((hF i 1).mul (hG 1 j)) (by omega)
  refine e_call (a_cons (e_lc (z_enum (m := 2) (e_var rfl) seq_R) (by simp) (lc_range (F := fun k => enc (F i k * G k j)) fun k hk => ⟨_, rfl, ?_⟩)) a_nil) hs
  exact e_call (a_cons (e_var rfl) (a_cons (e_bin (e_bin (e_var rfl) (e_var rfl) (idx_T hk)) (e_var rfl) (idx_R hj)) a_nil)) (law_mul_spec ((hF i k).ok (by omega)) ((hG k j).ok (by omega)))
theorem law_two_H {a b c d p q r s : Rat} {h : Nat} (H : ∀ z ∈ [a, b, c, d, p, q, r, s], Ht h z) (hh : h ≤ 900) : law_two [encF [a, b, c, d], encF [p, q, r, s]] = .ok (encF [a * p + b * r, a * q + b * s, c * p + d * r, c * q + d * s]) := by
  let F : Tf := fun i j => if i = 0 then (if j = 0 then a else b) else (if j = 0 then c else d)
  let G : Tf := fun i j => if i = 0 then (if j = 0 then p else q) else (if j = 0 then r else s)
  have tF : HB h F := fun i j => by
    have : F i j = a ∨ F i j = b ∨ F i j = c ∨ F i j = d := by
      by_cases i0 : i = 0 <;> by_cases j0 : j = 0 <;> simp [F, i0, j0]
    rcases this with z | z | z | z <;> rw [z] <;> exact H _ (by simp)
  have tG : HB h G := fun i j => by
    have : G i j = p ∨ G i j = q ∨ G i j = r ∨ G i j = s := by
      by_cases i0 : i = 0 <;> by_cases j0 : j = 0 <;> simp [G, i0, j0]
    rcases this with z | z | z | z <;> rw [z] <;> exact H _ (by simp)
  have ht := law_times2 tF tG hh
  have eR : encT (mk 2 2 fun i j => F i 0 * G 0 j + F i 1 * G 1 j) = .tuple [encF [a * p + b * r, a * q + b * s], encF [c * p + d * r, c * q + d * s]] := rfl
  rw [eR] at ht
  unfold law_two
  rw [runF_eq (n := 2) rfl]
  rw [then_next (ρ' := [some (encF [a, b, c, d]), some (encF [p, q, r, s]), some (enc a), some (enc b), some (enc c), some (enc d), none, none, none, none, none]) (t' := none) (by exact x_asg (e_var rfl) rfl)]
  rw [then_next (ρ' := [some (encF [a, b, c, d]), some (encF [p, q, r, s]), some (enc a), some (enc b), some (enc c), some (enc d), some (enc p), some (enc q), some (enc r), some (enc s), none]) (t' := none) (by exact x_asg (e_var rfl) rfl)]
  rw [then_next (ρ' := [some (encF [a, b, c, d]), some (encF [p, q, r, s]), some (enc a), some (enc b), some (enc c), some (enc d), some (enc p), some (enc q), some (enc r), some (enc s), some (.tuple [encF [a * p + b * r, a * q + b * s], encF [c * p + d * r, c * q + d * s]])]) (t' := none) (by
    exact x_set (e_call (a_cons (w := encT (mk 2 2 F)) (e_tup (ws := [encF [a, b], encF [c, d]]) (a_cons (e_tup (a_cons (e_var rfl) (a_cons (e_var rfl) a_nil)) (by simp)) (a_cons (e_tup (a_cons (e_var rfl) (a_cons (e_var rfl) a_nil)) (by simp)) a_nil)) (by simp)) (a_cons (w := encT (mk 2 2 G)) (e_tup (ws := [encF [p, q], encF [r, s]]) (a_cons (e_tup (a_cons (e_var rfl) (a_cons (e_var rfl) a_nil)) (by simp)) (a_cons (e_tup (a_cons (e_var rfl) (a_cons (e_var rfl) a_nil)) (by simp)) a_nil)) (by simp)) a_nil)) ht))]
  exact fin_ret (e_bin (e_bin (e_var rfl) e_c rfl) (e_bin (e_var rfl) e_c rfl) rfl)
theorem mcross_spec {a b c d : Rat} {h : Nat} (h1 : Ht h a) (h2 : Ht h b) (h3 : Ht h c) (h4 : Ht h d) (hh : h ≤ 900) : moves_cross [enc a, enc b, enc c, enc d] = .ok (enc (a * b + c * d)) := by
  unfold moves_cross
  rw [runF_eq (n := 4) rfl]
  exact fin_ret (e_call (a_cons (e_call (a_cons (e_var rfl) (a_cons (e_var rfl) a_nil)) (ratios_multiply_spec (h1.ok (by omega)) (h2.ok (by omega)))) (a_cons (e_call (a_cons (e_var rfl) (a_cons (e_var rfl) a_nil)) (ratios_multiply_spec (h3.ok (by omega)) (h4.ok (by omega)))) a_nil)) (ratios_add_spec ((h1.mul h2).ok (by omega)) ((h3.mul h4).ok (by omega))))
abbrev prB : Sv := sThen (sAsg (gTp (gsC (gN 3) (gsC (gN 4) (gsC (gN 5) (gsC (gN 6) gsN))))) (eVar 1)) (sThen (sAsg (gTp (gsC (gN 7) (gsC (gN 8) (gsC (gN 9) (gsC (gN 10) gsN))))) (eVar 2)) (sThen (sSet 11 (eTup (eCons (eCall moves_cross (eCons (eVar 3) (eCons (eVar 7) (eCons (eVar 4) (eCons (eVar 9) eNil))))) (eCons (eCall moves_cross (eCons (eVar 3) (eCons (eVar 8) (eCons (eVar 4) (eCons (eVar 10) eNil))))) eNil)))) (sSet 1 (eBin wAdd (eVar 11) (eTup (eCons (eCall moves_cross (eCons (eVar 5) (eCons (eVar 7) (eCons (eVar 6) (eCons (eVar 9) eNil))))) (eCons (eCall moves_cross (eCons (eVar 5) (eCons (eVar 8) (eCons (eVar 6) (eCons (eVar 10) eNil))))) eNil)))))))
def prS (w0 : W) (f : List Rat) (o : List (Option W)) : Sl := some w0 :: some (encF f) :: o
theorem pr_step {a b c d p q r s x y z t : Rat} {h : Nat} (H : ∀ z ∈ [a, b, c, d, p, q, r, s], Ht h z) (hh : h ≤ 900) (ex : a * p + b * r = x) (ey : a * q + b * s = y) (ez : c * p + d * r = z) (et : c * q + d * s = t) {w0 : W} {ws : List W} {o : List (Option W)} (ho : o.length = 10) :
    ∃ o' : List (Option W), o'.length = 10 ∧ forL (gN 2) prB (encF [p, q, r, s] :: ws) (prS w0 [a, b, c, d] o) none = forL (gN 2) prB ws (prS w0 [x, y, z, t] o') none := by
  have k1 := mcross_spec (H a (by simp)) (H p (by simp)) (H b (by simp)) (H r (by simp)) hh
  have k2 := mcross_spec (H a (by simp)) (H q (by simp)) (H b (by simp)) (H s (by simp)) hh
  have k3 := mcross_spec (H c (by simp)) (H p (by simp)) (H d (by simp)) (H r (by simp)) hh
  have k4 := mcross_spec (H c (by simp)) (H q (by simp)) (H d (by simp)) (H s (by simp)) hh
  rw [ex] at k1
  rw [ey] at k2
  rw [ez] at k3
  rw [et] at k4
  rcases o with _ | ⟨o2, _ | ⟨o3, _ | ⟨o4, _ | ⟨o5, _ | ⟨o6, _ | ⟨o7, _ | ⟨o8, _ | ⟨o9, _ | ⟨o10, _ | ⟨o11, _ | ⟨_, _⟩⟩⟩⟩⟩⟩⟩⟩⟩⟩⟩ <;> try (simp at ho; done)
  refine ⟨[some (encF [p, q, r, s]), some (enc a), some (enc b), some (enc c), some (enc d), some (enc p), some (enc q), some (enc r), some (enc s), some (encF [x, y])], rfl, ?_⟩
  refine for_step (ρ1 := [some w0, some (encF [a, b, c, d]), some (encF [p, q, r, s]), o3, o4, o5, o6, o7, o8, o9, o10, o11]) rfl ?_
  unfold prB
  rw [then_next (ρ' := [some w0, some (encF [a, b, c, d]), some (encF [p, q, r, s]), some (enc a), some (enc b), some (enc c), some (enc d), o7, o8, o9, o10, o11]) (t' := none) (by exact x_asg (e_var rfl) rfl)]
  rw [then_next (ρ' := [some w0, some (encF [a, b, c, d]), some (encF [p, q, r, s]), some (enc a), some (enc b), some (enc c), some (enc d), some (enc p), some (enc q), some (enc r), some (enc s), o11]) (t' := none) (by exact x_asg (e_var rfl) rfl)]
  rw [then_next (ρ' := [some w0, some (encF [a, b, c, d]), some (encF [p, q, r, s]), some (enc a), some (enc b), some (enc c), some (enc d), some (enc p), some (enc q), some (enc r), some (enc s), some (encF [x, y])]) (t' := none) (by
    exact x_set (e_tup (a_cons (e_call (a_cons (e_var rfl) (a_cons (e_var rfl) (a_cons (e_var rfl) (a_cons (e_var rfl) a_nil)))) k1) (a_cons (e_call (a_cons (e_var rfl) (a_cons (e_var rfl) (a_cons (e_var rfl) (a_cons (e_var rfl) a_nil)))) k2) a_nil)) (by simp)))]
  exact x_set (e_bin (e_var rfl) (e_tup (a_cons (e_call (a_cons (e_var rfl) (a_cons (e_var rfl) (a_cons (e_var rfl) (a_cons (e_var rfl) a_nil)))) k3) (a_cons (e_call (a_cons (e_var rfl) (a_cons (e_var rfl) (a_cons (e_var rfl) (a_cons (e_var rfl) a_nil)))) k4) a_nil)) (by simp)) rfl)
theorem product_start {ws : List W} {w : W} {o : List (Option W)} {f : List Rat} (h : forL (gN 2) prB ws (prS (.tuple ws) [1, 0, 0, 1] (List.replicate 10 none)) none = .next (prS (.tuple ws) f o) none) : moves_product_of [.tuple ws] = .ok (encF f) := by
  unfold moves_product_of
  rw [runF_eq (n := 1) rfl]
  rw [then_next (ρ' := prS (.tuple ws) [1, 0, 0, 1] (List.replicate 10 none)) (t' := none) (by exact x_set (w := encF [1, 0, 0, 1]) (e_tup (a_cons e_c (a_cons e_c (a_cons e_c (a_cons e_c a_nil)))) (by simp)))]
  rw [then_next (show sFor _ _ _ _ _ = _ from (for_src (g_seq (e_var rfl) rfl)).trans h)]
  exact fin_ret (e_var rfl)
end G

end

section
namespace G
open PySem Ev
/-! ### plain changes -/
def Plain (p q r s : Rat) : Prop := (q = 0 ∧ r = 0) ∨ (p = 1 ∧ s = 1 ∧ (q = 0 ∨ r = 0)) ∨ (p = 0 ∧ q = 1 ∧ r = -1 ∧ s = 0)
abbrev plE : Ex := (eOr (eBin wEq (eSlice (eVar 28) (oSome (eC (.int (1)))) (oSome (eC (.int (3))))) (eTup (eCons (eTup (eCons (eC (.int (0))) (eCons (eC (.int (1))) eNil))) (eCons (eTup (eCons (eC (.int (0))) (eCons (eC (.int (1))) eNil))) eNil)))) (eOr (eAnd (eBin wEq (eBin wIdx (eVar 28) (eC (.int (0)))) (eTup (eCons (eC (.int (1))) (eCons (eC (.int (1))) eNil)))) (eAnd (eBin wEq (eBin wIdx (eVar 28) (eC (.int (3)))) (eTup (eCons (eC (.int (1))) (eCons (eC (.int (1))) eNil)))) (eBin (wIn false) (eTup (eCons (eC (.int (0))) (eCons (eC (.int (1))) eNil))) (eSlice (eVar 28) (oSome (eC (.int (1)))) (oSome (eC (.int (3)))))))) (eBin wEq (eVar 28) (eTup (eCons (eTup (eCons (eC (.int (0))) (eCons (eC (.int (1))) eNil))) (eCons (eTup (eCons (eC (.int (1))) (eCons (eC (.int (1))) eNil))) (eCons (eTup (eCons (eUn wNeg (eC (.int (1)))) (eCons (eC (.int (1))) eNil))) (eCons (eTup (eCons (eC (.int (0))) (eCons (eC (.int (1))) eNil))) eNil))))))))
theorem e_orT {t : Tp} {A B : Ex} {ρ : Sl} (h : A ρ t = .ok (.bool true) t) : eOr A B ρ t = .ok (.bool true) t := by rw [s_eOr, h, s_bind_ok]
theorem e_orF {t : Tp} {A B : Ex} {ρ : Sl} {w : W} (h : A ρ t = .ok (.bool false) t) (h2 : B ρ t = .ok w t) : eOr A B ρ t = .ok w t := by rw [s_eOr, h, s_bind_ok]; exact h2
theorem e_andT {t : Tp} {A B : Ex} {ρ : Sl} {w : W} (h : A ρ t = .ok (.bool true) t) (h2 : B ρ t = .ok w t) : eAnd A B ρ t = .ok w t := by rw [s_eAnd, h, s_bind_ok]; exact h2
theorem e_andF {t : Tp} {A B : Ex} {ρ : Sl} (h : A ρ t = .ok (.bool false) t) : eAnd A B ρ t = .ok (.bool false) t := by rw [s_eAnd, h, s_bind_ok]
theorem in_pair (q r : Rat) : wIn false (enc 0) (encF [q, r]) = some (.bool (decide (q = 0) || decide (r = 0))) := by
  show (if (SeqAt.shaped (enc 0) && SeqAt.shaped (encF [q, r])) = true then some (PyData.bool ([enc q, enc r].any fun z => PyData.eqv z (enc 0))) else none) = _
  rw [shaped_enc, shaped_encF, if_pos (by rfl)]
  simp only [List.any_cons, List.any_nil, eqv_enc, Bool.or_false]
theorem plain_ev {ρ : Sl} {t : Tp} {p q r s : Rat} (h : ρ[28]? = some (some (encF [p, q, r, s]))) (hp : Plain p q r s) : plE ρ t = .ok (.bool true) t := by
  have sl : eSlice (eVar 28) (oSome (eC (.int (1)))) (oSome (eC (.int (3)))) ρ t = .ok (encF [q, r]) t := by rw [s_eSlice, e_var h]; rfl
  have z : ∀ {i : Int}, eTup (eCons (eC (.int i)) (eCons (eC (.int (1))) eNil)) ρ t = .ok (.tuple [.int i, .int 1]) t := fun {i} => e_tup (a_cons e_c (a_cons e_c a_nil)) (by simp)
  have c1 : wEq (encF [q, r]) (.tuple [.tuple [.int 0, .int 1], .tuple [.int 0, .int 1]]) = some (.bool (decide ([q, r] = [0, 0]))) := wEq_encF [q, r] [0, 0]
  have c2 : wEq (enc p) (.tuple [.int 1, .int 1]) = some (.bool (decide (p = 1))) := wEq_enc p 1
  have c3 : wEq (enc s) (.tuple [.int 1, .int 1]) = some (.bool (decide (s = 1))) := wEq_enc s 1
  have c4 : wEq (encF [p, q, r, s]) (.tuple [.tuple [.int 0, .int 1], .tuple [.int 1, .int 1], .tuple [.int (-1), .int 1], .tuple [.int 0, .int 1]]) = some (.bool (decide ([p, q, r, s] = [0, 1, -1, 0]))) := wEq_encF [p, q, r, s] [0, 1, -1, 0]
  by_cases k1 : q = 0 ∧ r = 0
  · refine e_orT (e_bin sl (e_tup (a_cons z (a_cons z a_nil)) (by simp)) (c1.trans ?_))
    simp [k1.1, k1.2]
  refine e_orF (e_bin sl (e_tup (a_cons z (a_cons z a_nil)) (by simp)) (c1.trans (by simp; exact fun z1 z2 => k1 ⟨z1, z2⟩))) ?_
  rcases hp with e | ⟨e1, e2, e3⟩ | ⟨e1, e2, e3, e4⟩
  · exact (k1 e).elim
  · refine e_orT (e_andT (e_bin (e_bin (e_var h) e_c (w := enc p) rfl) z (c2.trans (by simp [e1]))) (e_andT (e_bin (e_bin (e_var h) e_c (w := enc s) rfl) z (c3.trans (by simp [e2]))) (e_bin z sl ((in_pair q r).trans ?_))))
    rcases e3 with e | e <;> simp [e]
  · refine e_orF (e_andF (e_bin (e_bin (e_var h) e_c (w := enc p) rfl) z (c2.trans (by simp [e1])))) (e_bin (e_var h) (e_tup (a_cons z (a_cons z (a_cons (e_tup (a_cons (e_un e_c rfl) (a_cons e_c a_nil)) (by simp)) (a_cons z a_nil)))) (by simp)) (c4.trans ?_))
    rw [e1, e2, e3, e4]
    simp
abbrev spB : Sv := (sThen (sSet 27 (eCall law_two (eCons (eVar 27) (eCons (eVar 28) eNil)))) (sThen (sSet 29 (eOr (eBin wEq (eSlice (eVar 28) (oSome (eC (.int (1)))) (oSome (eC (.int (3))))) (eTup (eCons (eTup (eCons (eC (.int (0))) (eCons (eC (.int (1))) eNil))) (eCons (eTup (eCons (eC (.int (0))) (eCons (eC (.int (1))) eNil))) eNil)))) (eOr (eAnd (eBin wEq (eBin wIdx (eVar 28) (eC (.int (0)))) (eTup (eCons (eC (.int (1))) (eCons (eC (.int (1))) eNil)))) (eAnd (eBin wEq (eBin wIdx (eVar 28) (eC (.int (3)))) (eTup (eCons (eC (.int (1))) (eCons (eC (.int (1))) eNil)))) (eBin (wIn false) (eTup (eCons (eC (.int (0))) (eCons (eC (.int (1))) eNil))) (eSlice (eVar 28) (oSome (eC (.int (1)))) (oSome (eC (.int (3)))))))) (eBin wEq (eVar 28) (eTup (eCons (eTup (eCons (eC (.int (0))) (eCons (eC (.int (1))) eNil))) (eCons (eTup (eCons (eC (.int (1))) (eCons (eC (.int (1))) eNil))) (eCons (eTup (eCons (eUn wNeg (eC (.int (1)))) (eCons (eC (.int (1))) eNil))) (eCons (eTup (eCons (eC (.int (0))) (eCons (eC (.int (1))) eNil))) eNil))))))))) (sIf (eNotT (eTest (eVar 29))) (sRet (eC (.bool false))) sNext)))
theorem sp_step {t : Tp} {a b c d p q r s x y z u : Rat} {h : Nat} (H : ∀ z ∈ [a, b, c, d, p, q, r, s], Ht h z) (hh : h ≤ 900) (ex : a * p + b * r = x) (ey : a * q + b * s = y) (ez : c * p + d * r = z) (et : c * q + d * s = u) (hp : Plain p q r s) {ws : List W} (w0 w1 w2 w3 w4 w5 w6 w7 w8 w9 w10 w11 w12 w13 w14 w15 w16 w17 w18 w19 w20 w21 w22 w23 w24 w25 w26 o28 o29 w30 w31 w32 : Option W) :
    forL (gN 28) spB (encF [p, q, r, s] :: ws) [w0, w1, w2, w3, w4, w5, w6, w7, w8, w9, w10, w11, w12, w13, w14, w15, w16, w17, w18, w19, w20, w21, w22, w23, w24, w25, w26, some (encF [a, b, c, d]), o28, o29, w30, w31, w32] t = forL (gN 28) spB ws [w0, w1, w2, w3, w4, w5, w6, w7, w8, w9, w10, w11, w12, w13, w14, w15, w16, w17, w18, w19, w20, w21, w22, w23, w24, w25, w26, some (encF [x, y, z, u]), some (encF [p, q, r, s]), some (.bool true), w30, w31, w32] t := by
  have k := law_two_H H hh
  rw [ex, ey, ez, et] at k
  refine for_step (ρ1 := [w0, w1, w2, w3, w4, w5, w6, w7, w8, w9, w10, w11, w12, w13, w14, w15, w16, w17, w18, w19, w20, w21, w22, w23, w24, w25, w26, some (encF [a, b, c, d]), some (encF [p, q, r, s]), o29, w30, w31, w32]) rfl ?_
  unfold spB
  rw [then_next (ρ' := [w0, w1, w2, w3, w4, w5, w6, w7, w8, w9, w10, w11, w12, w13, w14, w15, w16, w17, w18, w19, w20, w21, w22, w23, w24, w25, w26, some (encF [x, y, z, u]), some (encF [p, q, r, s]), o29, w30, w31, w32]) (t' := t) (by exact x_set (e_call (a_cons (e_var rfl) (a_cons (e_var rfl) a_nil)) k))]
  rw [then_next (ρ' := [w0, w1, w2, w3, w4, w5, w6, w7, w8, w9, w10, w11, w12, w13, w14, w15, w16, w17, w18, w19, w20, w21, w22, w23, w24, w25, w26, some (encF [x, y, z, u]), some (encF [p, q, r, s]), some (.bool true), w30, w31, w32]) (t' := t) (by exact x_set (plain_ev rfl hp))]
  exact i_false (t_not (v := true) (t_test (e_var rfl)))
/-! ### parts of a change -/
theorem split_nz {self : Fs} {a b c d : Rat} (H : ∀ z ∈ [a, b, c, d], Ht 70 z) (n0 : a * d - b * c ≠ 0) (a0 : a ≠ 0) : b_moves_split_change self [encF [a, b, c, d]] = .ok (.tuple [encF [1, 0, c / a, 1], encF [a, 0, 0, d - c / a * b], encF [1, b / a, 0, 1]]) := by
  have ha := H a (by simp)
  have hb := H b (by simp)
  have hc := H c (by simp)
  have hd := H d (by simp)
  have o : ∀ {k : Nat} {x : Rat}, Ht k x → k ≤ 4000 → Ok x := fun h hk => h.ok hk
  have hlo := hc.div ha a0
  have hk := check_change_spec (o ha (by decide)) (o hb (by decide)) (o hc (by decide)) (o hd (by decide)) (o (ha.mul hd) (by decide)) (o (hb.mul hc) (by decide)) n0
  unfold b_moves_split_change
  rw [runF_eq (n := 1) rfl]
  rw [then_next (ρ' := [some (encF [a, b, c, d]), none, none, none, none, none, none, none, none]) (t' := none) (by exact x_drop (e_call (a_cons (e_var rfl) a_nil) hk))]
  rw [then_next (ρ' := [some (encF [a, b, c, d]), some (enc a), some (enc b), some (enc c), some (enc d), none, none, none, none]) (t' := none) (by exact x_asg (e_var rfl) rfl)]
  rw [then_next (ρ' := [some (encF [a, b, c, d]), some (enc a), some (enc b), some (enc c), some (enc d), none, none, none, none]) (t' := none) (by
    exact i_false (t_test (e_bin (e_var rfl) e_c ((wEq_enc a 0).trans (by simp [a0])))))]
  rw [then_next (ρ' := [some (encF [a, b, c, d]), some (enc a), some (enc b), some (enc c), some (enc d), none, some (enc (c / a)), none, none]) (t' := none) (by
    exact x_set (e_call (a_cons (e_var rfl) (a_cons (e_var rfl) a_nil)) (ratios_divide_spec (o hc (by decide)) (o ha (by decide)) a0)))]
  rw [then_next (ρ' := [some (encF [a, b, c, d]), some (enc a), some (enc b), some (enc c), some (enc d), none, some (enc (c / a)), some (enc (b / a)), none]) (t' := none) (by
    exact x_set (e_call (a_cons (e_var rfl) (a_cons (e_var rfl) a_nil)) (ratios_divide_spec (o hb (by decide)) (o ha (by decide)) a0)))]
  rw [then_next (ρ' := [some (encF [a, b, c, d]), some (enc a), some (enc b), some (enc c), some (enc d), none, some (enc (c / a)), some (enc (b / a)), some (enc (d - c / a * b))]) (t' := none) (by
    exact x_set (e_call (a_cons (e_var rfl) (a_cons (e_call (a_cons (e_var rfl) (a_cons (e_var rfl) a_nil)) (ratios_multiply_spec (o hlo (by decide)) (o hb (by decide)))) a_nil)) (ratios_subtract_spec (o hd (by decide)) (o (hlo.mul hb) (by decide)))))]
  exact fin_ret (e_tup (ws := [encF [1, 0, c / a, 1], encF [a, 0, 0, d - c / a * b], encF [1, b / a, 0, 1]]) (a_cons (e_tup (ws := [enc 1, enc 0, enc (c / a), enc 1]) (a_cons e_c (a_cons e_c (a_cons (e_var rfl) (a_cons e_c a_nil)))) (by simp)) (a_cons (e_tup (ws := [enc a, enc 0, enc 0, enc (d - c / a * b)]) (a_cons (e_var rfl) (a_cons e_c (a_cons e_c (a_cons (e_var rfl) a_nil)))) (by simp)) (a_cons (e_tup (ws := [enc 1, enc (b / a), enc 0, enc 1]) (a_cons e_c (a_cons (e_var rfl) (a_cons e_c (a_cons e_c a_nil)))) (by simp)) a_nil))) (by simp))
theorem split_z {n : Nat} {b c d : Rat} (H : ∀ z ∈ [0, b, c, d], Ht 70 z) (n0 : 0 * d - b * c ≠ 0) : moves_split_change (n + 2) [encF [0, b, c, d]] = .ok (.tuple [encF [0, 1, -1, 0], encF [1, 0, 0 / -c, 1], encF [-c, 0, 0, b - 0 / -c * -d], encF [1, -d / -c, 0, 1]]) := by
  have h0 := H 0 (by simp)
  have hb := H b (by simp)
  have hc := H c (by simp)
  have hd := H d (by simp)
  have ng : ∀ {k : Nat} {x : Rat}, Ht k x → Ht k (-x) := fun {k x} h => ⟨by show (-(x.num)).natAbs < _; rw [Int.natAbs_neg]; exact h.1, h.2⟩
  have o : ∀ {k : Nat} {x : Rat}, Ht k x → k ≤ 4000 → Ok x := fun h hk => h.ok hk
  have c0 : -c ≠ 0 := fun z => n0 (by grind)
  have hk := check_change_spec (o h0 (by decide)) (o hb (by decide)) (o hc (by decide)) (o hd (by decide)) (o (h0.mul hd) (by decide)) (o (hb.mul hc) (by decide)) n0
  have nz : moves_split_change (n + 1) [encF [-c, -d, 0, b]] = _ := split_nz (self := moves_split_change n) (a := -c) (b := -d) (c := 0) (d := b) (fun z hz => by
    simp at hz
    rcases hz with rfl | rfl | rfl | rfl
    · exact ng hc
    · exact ng hd
    · exact h0
    · exact hb) (by grind) c0
  show b_moves_split_change (moves_split_change (n + 1)) _ = _
  unfold b_moves_split_change
  rw [runF_eq (n := 1) rfl]
  rw [then_next (ρ' := [some (encF [0, b, c, d]), none, none, none, none, none, none, none, none]) (t' := none) (by exact x_drop (e_call (a_cons (e_var rfl) a_nil) hk))]
  rw [then_next (ρ' := [some (encF [0, b, c, d]), some (enc 0), some (enc b), some (enc c), some (enc d), none, none, none, none]) (t' := none) (by exact x_asg (e_var rfl) rfl)]
  have asw : moves_after_swap [encF [0, b, c, d]] = .ok (encF [-c, -d, 0, b]) := by
    unfold moves_after_swap
    rw [runF_eq (n := 1) rfl]
    rw [then_next (ρ' := [some (encF [0, b, c, d]), some (enc 0), some (enc b), some (enc c), some (enc d)]) (t' := none) (by exact x_asg (e_var rfl) rfl)]
    exact fin_ret (e_tup (ws := [enc (-c), enc (-d), enc 0, enc b]) (a_cons (e_call (a_cons (e_var rfl) a_nil) (ratios_negative_spec _)) (a_cons (e_call (a_cons (e_var rfl) a_nil) (ratios_negative_spec _)) (a_cons (e_var rfl) (a_cons (e_var rfl) a_nil)))) (by simp))
  rw [then_ret (w := .tuple [encF [0, 1, -1, 0], encF [1, 0, 0 / -c, 1], encF [-c, 0, 0, b - 0 / -c * -d], encF [1, -d / -c, 0, 1]]) (t' := none)]
  · rfl
  refine i_true' (t_test (e_bin (e_var rfl) e_c ((wEq_enc 0 0).trans (by simp)))) ?_
  rw [then_next (ρ' := [some (encF [0, b, c, d]), some (enc 0), some (enc b), some (enc c), some (enc d), some (encF [0, 1, -1, 0]), none, none, none]) (t' := none) (by
    exact x_set (w := encF [0, 1, -1, 0]) (e_tup (ws := [enc 0, enc 1, enc (-1), enc 0]) (a_cons e_c (a_cons e_c (a_cons (w := enc (-1)) (e_tup (ws := [.int (-1), .int 1]) (a_cons (e_un e_c rfl) (a_cons e_c a_nil)) (by simp)) (a_cons e_c a_nil)))) (by simp)))]
  rw [s_sRet, e_bin (w := .tuple [encF [0, 1, -1, 0], encF [1, 0, 0 / -c, 1], encF [-c, 0, 0, b - 0 / -c * -d], encF [1, -d / -c, 0, 1]]) (e_tup (a_cons (e_var rfl) a_nil) (by simp)) (e_call (a_cons (e_call (a_cons (e_var rfl) a_nil) asw) a_nil) nz) rfl]
  rfl
end G

end

section
namespace G
open PySem Ev
theorem B39H {x : Rat} (h : B 3 9 x) : Ht 70 x := Bd.ht h (KKn 3) (by decide) (by decide)
theorem Ht.one {h : Nat} (hh : 1 ≤ h) : Ht h 1 := ⟨by show 1 < 2 ^ h; exact Nat.one_lt_two_pow (by omega), by show 1 < 2 ^ h; exact Nat.one_lt_two_pow (by omega)⟩
theorem Ht.neg {h : Nat} {x : Rat} (hx : Ht h x) : Ht h (-x) := ⟨by show (-(x.num)).natAbs < _; rw [Int.natAbs_neg]; exact hx.1, hx.2⟩
/-- all of these are small -/
theorem all8 {h : Nat} {a b c d p q r s : Rat} (ha : Ht h a) (hb : Ht h b) (hc : Ht h c) (hd : Ht h d) (hp : Ht h p) (hq : Ht h q) (hr : Ht h r) (hs : Ht h s) : ∀ z ∈ [a, b, c, d, p, q, r, s], Ht h z := fun z hz => by
  simp at hz
  rcases hz with rfl | rfl | rfl | rfl | rfl | rfl | rfl | rfl <;> assumption
/-- what the parts of a change do -/
structure Parts (ws : List W) (a b c d : Rat) : Prop where
  prod : moves_product_of [.tuple ws] = .ok (encF [a, b, c, d])
  loop : ∀ (t : Tp) (w0 w1 w2 w3 w4 w5 w6 w7 w8 w9 w10 w11 w12 w13 w14 w15 w16 w17 w18 w19 w20 w21 w22 w23 w24 w25 w26 o28 o29 w30 w31 w32 : Option W), ∃ q28 q29 : Option W, forL (gN 28) spB ws [w0, w1, w2, w3, w4, w5, w6, w7, w8, w9, w10, w11, w12, w13, w14, w15, w16, w17, w18, w19, w20, w21, w22, w23, w24, w25, w26, some (encF [1, 0, 0, 1]), o28, o29, w30, w31, w32] t = .next [w0, w1, w2, w3, w4, w5, w6, w7, w8, w9, w10, w11, w12, w13, w14, w15, w16, w17, w18, w19, w20, w21, w22, w23, w24, w25, w26, some (encF [a, b, c, d]), q28, q29, w30, w31, w32] t
theorem parts_nz {a b c d : Rat} (H : ∀ z ∈ [a, b, c, d], Ht 70 z) (a0 : a ≠ 0) : Parts [encF [1, 0, c / a, 1], encF [a, 0, 0, d - c / a * b], encF [1, b / a, 0, 1]] a b c d := by
  have k0 : Ht 300 0 := Ht.zero (by decide)
  have k1 : Ht 300 1 := Ht.one (by decide)
  have g : ∀ {x : Rat}, Ht 70 x → Ht 300 x := fun h => h.le (by decide)
  have ha := H a (by simp)
  have hb := H b (by simp)
  have hc := H c (by simp)
  have hd := H d (by simp)
  have hlo : Ht 300 (c / a) := (hc.div ha a0).le (by decide)
  have hhi : Ht 300 (b / a) := (hb.div ha a0).le (by decide)
  have hre : Ht 300 (d - c / a * b) := (hd.sub ((hc.div ha a0).mul hb)).le (by decide)
  refine ⟨?_, ?_⟩
  · obtain ⟨o1, l1, e1⟩ := pr_step (a := 1) (b := 0) (c := 0) (d := 1) (p := 1) (q := 0) (r := c / a) (s := 1) (x := 1) (y := 0) (z := c / a) (t := 1) (all8 (k1) (k0) (k0) (k1) (k1) (k0) (hlo) (k1)) (by decide) (by grind) (by grind) (by grind) (by grind) (w0 := .tuple [encF [1, 0, c / a, 1], encF [a, 0, 0, d - c / a * b], encF [1, b / a, 0, 1]]) (ws := [encF [a, 0, 0, d - c / a * b], encF [1, b / a, 0, 1]]) (o := (List.replicate 10 none)) rfl
    obtain ⟨o2, l2, e2⟩ := pr_step (a := 1) (b := 0) (c := c / a) (d := 1) (p := a) (q := 0) (r := 0) (s := d - c / a * b) (x := a) (y := 0) (z := c) (t := d - c / a * b) (all8 (k1) (k0) (hlo) (k1) (g ha) (k0) (k0) (hre)) (by decide) (by grind) (by grind) (by grind) (by grind) (w0 := .tuple [encF [1, 0, c / a, 1], encF [a, 0, 0, d - c / a * b], encF [1, b / a, 0, 1]]) (ws := [encF [1, b / a, 0, 1]]) (o := o1) l1
    obtain ⟨o3, l3, e3⟩ := pr_step (a := a) (b := 0) (c := c) (d := d - c / a * b) (p := 1) (q := b / a) (r := 0) (s := 1) (x := a) (y := b) (z := c) (t := d) (all8 (g ha) (k0) (g hc) (hre) (k1) (hhi) (k0) (k1)) (by decide) (by grind) (by grind) (by grind) (by grind) (w0 := .tuple [encF [1, 0, c / a, 1], encF [a, 0, 0, d - c / a * b], encF [1, b / a, 0, 1]]) (ws := []) (o := o2) l2
    exact product_start (w := .none) (e1.trans (e2.trans (e3.trans (rfl))))
  · intro t w0 w1 w2 w3 w4 w5 w6 w7 w8 w9 w10 w11 w12 w13 w14 w15 w16 w17 w18 w19 w20 w21 w22 w23 w24 w25 w26 o28 o29 w30 w31 w32
    have e1 := sp_step (t := t) (a := 1) (b := 0) (c := 0) (d := 1) (p := 1) (q := 0) (r := c / a) (s := 1) (x := 1) (y := 0) (z := c / a) (u := 1) (all8 (k1) (k0) (k0) (k1) (k1) (k0) (hlo) (k1)) (by decide) (by grind) (by grind) (by grind) (by grind) (.inr (.inl ⟨rfl, rfl, .inl rfl⟩)) (ws := [encF [a, 0, 0, d - c / a * b], encF [1, b / a, 0, 1]]) w0 w1 w2 w3 w4 w5 w6 w7 w8 w9 w10 w11 w12 w13 w14 w15 w16 w17 w18 w19 w20 w21 w22 w23 w24 w25 w26 o28 o29 w30 w31 w32
    have e2 := sp_step (t := t) (a := 1) (b := 0) (c := c / a) (d := 1) (p := a) (q := 0) (r := 0) (s := d - c / a * b) (x := a) (y := 0) (z := c) (u := d - c / a * b) (all8 (k1) (k0) (hlo) (k1) (g ha) (k0) (k0) (hre)) (by decide) (by grind) (by grind) (by grind) (by grind) (.inl ⟨rfl, rfl⟩) (ws := [encF [1, b / a, 0, 1]]) w0 w1 w2 w3 w4 w5 w6 w7 w8 w9 w10 w11 w12 w13 w14 w15 w16 w17 w18 w19 w20 w21 w22 w23 w24 w25 w26 (some (encF [1, 0, c / a, 1])) (some (.bool true)) w30 w31 w32
    have e3 := sp_step (t := t) (a := a) (b := 0) (c := c) (d := d - c / a * b) (p := 1) (q := b / a) (r := 0) (s := 1) (x := a) (y := b) (z := c) (u := d) (all8 (g ha) (k0) (g hc) (hre) (k1) (hhi) (k0) (k1)) (by decide) (by grind) (by grind) (by grind) (by grind) (.inr (.inl ⟨rfl, rfl, .inr rfl⟩)) (ws := []) w0 w1 w2 w3 w4 w5 w6 w7 w8 w9 w10 w11 w12 w13 w14 w15 w16 w17 w18 w19 w20 w21 w22 w23 w24 w25 w26 (some (encF [a, 0, 0, d - c / a * b])) (some (.bool true)) w30 w31 w32
    exact ⟨_, _, e1.trans (e2.trans (e3.trans (rfl)))⟩
theorem parts_z {b c d : Rat} (H : ∀ z ∈ [0, b, c, d], Ht 70 z) (c0 : c ≠ 0) : Parts [encF [0, 1, -1, 0], encF [1, 0, 0 / -c, 1], encF [-c, 0, 0, b - 0 / -c * -d], encF [1, -d / -c, 0, 1]] 0 b c d := by
  have k0 : Ht 300 0 := Ht.zero (by decide)
  have k1 : Ht 300 1 := Ht.one (by decide)
  have g : ∀ {x : Rat}, Ht 70 x → Ht 300 x := fun h => h.le (by decide)
  have hb := H b (by simp)
  have hc := H c (by simp)
  have hd := H d (by simp)
  have c1 : -c ≠ 0 := fun z => c0 (by grind)
  have hlo : Ht 300 (0 / -c) := ((Ht.zero (B := 70) (by decide)).div hc.neg c1).le (by decide)
  have hhi : Ht 300 (-d / -c) := (hd.neg.div hc.neg c1).le (by decide)
  have e0 : 0 / -c = 0 := by grind
  have hre : Ht 300 (b - 0 / -c * -d) := by rw [e0, show b - 0 * -d = b by grind]; exact g hb
  refine ⟨?_, ?_⟩
  · obtain ⟨o1, l1, e1⟩ := pr_step (a := 1) (b := 0) (c := 0) (d := 1) (p := 0) (q := 1) (r := -1) (s := 0) (x := 0) (y := 1) (z := -1) (t := 0) (all8 (k1) (k0) (k0) (k1) (k0) (k1) (k1.neg) (k0)) (by decide) (by grind) (by grind) (by grind) (by grind) (w0 := .tuple [encF [0, 1, -1, 0], encF [1, 0, 0 / -c, 1], encF [-c, 0, 0, b - 0 / -c * -d], encF [1, -d / -c, 0, 1]]) (ws := [encF [1, 0, 0 / -c, 1], encF [-c, 0, 0, b - 0 / -c * -d], encF [1, -d / -c, 0, 1]]) (o := (List.replicate 10 none)) rfl
    obtain ⟨o2, l2, e2⟩ := pr_step (a := 0) (b := 1) (c := -1) (d := 0) (p := 1) (q := 0) (r := 0 / -c) (s := 1) (x := 0) (y := 1) (z := -1) (t := 0) (all8 (k0) (k1) (k1.neg) (k0) (k1) (k0) (hlo) (k1)) (by decide) (by grind) (by grind) (by grind) (by grind) (w0 := .tuple [encF [0, 1, -1, 0], encF [1, 0, 0 / -c, 1], encF [-c, 0, 0, b - 0 / -c * -d], encF [1, -d / -c, 0, 1]]) (ws := [encF [-c, 0, 0, b - 0 / -c * -d], encF [1, -d / -c, 0, 1]]) (o := o1) l1
    obtain ⟨o3, l3, e3⟩ := pr_step (a := 0) (b := 1) (c := -1) (d := 0) (p := -c) (q := 0) (r := 0) (s := b - 0 / -c * -d) (x := 0) (y := b) (z := c) (t := 0) (all8 (k0) (k1) (k1.neg) (k0) (g hc.neg) (k0) (k0) (hre)) (by decide) (by grind) (by grind) (by grind) (by grind) (w0 := .tuple [encF [0, 1, -1, 0], encF [1, 0, 0 / -c, 1], encF [-c, 0, 0, b - 0 / -c * -d], encF [1, -d / -c, 0, 1]]) (ws := [encF [1, -d / -c, 0, 1]]) (o := o2) l2
    obtain ⟨o4, l4, e4⟩ := pr_step (a := 0) (b := b) (c := c) (d := 0) (p := 1) (q := -d / -c) (r := 0) (s := 1) (x := 0) (y := b) (z := c) (t := d) (all8 (k0) (g hb) (g hc) (k0) (k1) (hhi) (k0) (k1)) (by decide) (by grind) (by grind) (by grind) (by grind) (w0 := .tuple [encF [0, 1, -1, 0], encF [1, 0, 0 / -c, 1], encF [-c, 0, 0, b - 0 / -c * -d], encF [1, -d / -c, 0, 1]]) (ws := []) (o := o3) l3
    exact product_start (w := .none) (e1.trans (e2.trans (e3.trans (e4.trans (rfl)))))
  · intro t w0 w1 w2 w3 w4 w5 w6 w7 w8 w9 w10 w11 w12 w13 w14 w15 w16 w17 w18 w19 w20 w21 w22 w23 w24 w25 w26 o28 o29 w30 w31 w32
    have e1 := sp_step (t := t) (a := 1) (b := 0) (c := 0) (d := 1) (p := 0) (q := 1) (r := -1) (s := 0) (x := 0) (y := 1) (z := -1) (u := 0) (all8 (k1) (k0) (k0) (k1) (k0) (k1) (k1.neg) (k0)) (by decide) (by grind) (by grind) (by grind) (by grind) (.inr (.inr ⟨rfl, rfl, rfl, rfl⟩)) (ws := [encF [1, 0, 0 / -c, 1], encF [-c, 0, 0, b - 0 / -c * -d], encF [1, -d / -c, 0, 1]]) w0 w1 w2 w3 w4 w5 w6 w7 w8 w9 w10 w11 w12 w13 w14 w15 w16 w17 w18 w19 w20 w21 w22 w23 w24 w25 w26 o28 o29 w30 w31 w32
    have e2 := sp_step (t := t) (a := 0) (b := 1) (c := -1) (d := 0) (p := 1) (q := 0) (r := 0 / -c) (s := 1) (x := 0) (y := 1) (z := -1) (u := 0) (all8 (k0) (k1) (k1.neg) (k0) (k1) (k0) (hlo) (k1)) (by decide) (by grind) (by grind) (by grind) (by grind) (.inr (.inl ⟨rfl, rfl, .inl rfl⟩)) (ws := [encF [-c, 0, 0, b - 0 / -c * -d], encF [1, -d / -c, 0, 1]]) w0 w1 w2 w3 w4 w5 w6 w7 w8 w9 w10 w11 w12 w13 w14 w15 w16 w17 w18 w19 w20 w21 w22 w23 w24 w25 w26 (some (encF [0, 1, -1, 0])) (some (.bool true)) w30 w31 w32
    have e3 := sp_step (t := t) (a := 0) (b := 1) (c := -1) (d := 0) (p := -c) (q := 0) (r := 0) (s := b - 0 / -c * -d) (x := 0) (y := b) (z := c) (u := 0) (all8 (k0) (k1) (k1.neg) (k0) (g hc.neg) (k0) (k0) (hre)) (by decide) (by grind) (by grind) (by grind) (by grind) (.inl ⟨rfl, rfl⟩) (ws := [encF [1, -d / -c, 0, 1]]) w0 w1 w2 w3 w4 w5 w6 w7 w8 w9 w10 w11 w12 w13 w14 w15 w16 w17 w18 w19 w20 w21 w22 w23 w24 w25 w26 (some (encF [1, 0, 0 / -c, 1])) (some (.bool true)) w30 w31 w32
    have e4 := sp_step (t := t) (a := 0) (b := b) (c := c) (d := 0) (p := 1) (q := -d / -c) (r := 0) (s := 1) (x := 0) (y := b) (z := c) (u := d) (all8 (k0) (g hb) (g hc) (k0) (k1) (hhi) (k0) (k1)) (by decide) (by grind) (by grind) (by grind) (by grind) (.inr (.inl ⟨rfl, rfl, .inr rfl⟩)) (ws := []) w0 w1 w2 w3 w4 w5 w6 w7 w8 w9 w10 w11 w12 w13 w14 w15 w16 w17 w18 w19 w20 w21 w22 w23 w24 w25 w26 (some (encF [-c, 0, 0, b - 0 / -c * -d])) (some (.bool true)) w30 w31 w32
    exact ⟨_, _, e1.trans (e2.trans (e3.trans (e4.trans (rfl))))⟩
theorem split_spec {a b c d : Rat} (h : Ch a b c d) : ∃ ws, moves_split_change 40 [encF [a, b, c, d]] = .ok (.tuple ws) ∧ Parts ws a b c d := by
  have H : ∀ z ∈ [a, b, c, d], Ht 70 z := fun z hz => by
    simp at hz
    rcases hz with rfl | rfl | rfl | rfl
    · exact B39H h.xa
    · exact B39H h.xb
    · exact B39H h.xc
    · exact B39H h.xd
  by_cases a0 : a = 0
  · subst a0
    have c0 : c ≠ 0 := fun z => h.n0 (by rw [z]; grind)
    exact ⟨_, split_z (n := 38) H h.n0, parts_z H c0⟩
  · exact ⟨_, split_nz (self := moves_split_change 39) H h.n0 a0, parts_nz H a0⟩
theorem product_two {a b c d p q r s : Rat} (h : Ch a b c d) (g : Ch p q r s) : moves_product_of [.tuple [encF [a, b, c, d], encF [p, q, r, s]]] = .ok (encF [a * p + b * r, a * q + b * s, c * p + d * r, c * q + d * s]) := by
  have k0 : Ht 70 0 := Ht.zero (by decide)
  have k1 : Ht 70 1 := Ht.one (by decide)
  obtain ⟨o1, l1, e1⟩ := pr_step (a := 1) (b := 0) (c := 0) (d := 1) (p := a) (q := b) (r := c) (s := d) (x := a) (y := b) (z := c) (t := d) (all8 k1 k0 k0 k1 (B39H h.xa) (B39H h.xb) (B39H h.xc) (B39H h.xd)) (by decide) (by grind) (by grind) (by grind) (by grind) (w0 := .tuple [encF [a, b, c, d], encF [p, q, r, s]]) (ws := [encF [p, q, r, s]]) (o := List.replicate 10 none) rfl
  obtain ⟨o2, l2, e2⟩ := pr_step (a := a) (b := b) (c := c) (d := d) (p := p) (q := q) (r := r) (s := s) (all8 (B39H h.xa) (B39H h.xb) (B39H h.xc) (B39H h.xd) (B39H g.xa) (B39H g.xb) (B39H g.xc) (B39H g.xd)) (by decide) rfl rfl rfl rfl (w0 := .tuple [encF [a, b, c, d], encF [p, q, r, s]]) (ws := []) (o := o1) l1
  exact product_start (w := .none) (e1.trans (e2.trans rfl))
end G

end

section
namespace G
open PySem Ev
/-! ### the tape -/
def Good (t : Tp) : Prop := ∃ (cells : List Int) (seed : Int), t = some (cells, seed) ∧ seed.natAbs < 2 ^ 40
theorem nextS_small (s : Int) : (nextS s).natAbs < 2 ^ 40 := by
  have a := Int.fmod_nonneg_of_pos (s * 48271 + 12345) (b := 2147483647) (by decide)
  have b := Int.fmod_lt_of_pos (s * 48271 + 12345) (b := 2147483647) (by decide)
  unfold nextS
  omega
theorem draw_spec {t : Tp} (ht : Good t) {m : Nat} (h0 : 0 < m) (hm : m < 2 ^ 40) : ∃ (r : Nat) (t' : Tp), law_draw [.int (m : Int)] t = .ok (.int (r : Int)) t' ∧ r < m ∧ Good t' := by
  obtain ⟨cells, seed, rfl, hs⟩ := ht
  have m9 : (m : Int).natAbs < 2 ^ 9000 := by
    have : (2 : Nat) ^ 40 < 2 ^ 9000 := Nat.pow_lt_pow_right (by decide) (by decide)
    omega
  unfold law_draw
  show ∃ (r : Nat) (t' : Tp), (match drawD (m : Int) cells seed with
    | some (r, cs, sd) => Rs.ok (PyData.int r) (some (cs, sd))
    | none => .bad) = _ ∧ _
  unfold drawD
  cases hc : cells.dropWhile (· == 0) with
  | nil =>
    have n40 := nextS_small seed
    have o1 : mulOk seed 48271 = true := mulOk_of (Nat.lt_trans hs (Nat.pow_lt_pow_right (by decide) (by decide))) (by
      show 48271 < 2 ^ 4000
      exact Nat.lt_trans (show 48271 < 2 ^ 16 by decide) (Nat.pow_lt_pow_right (by decide) (by decide)))
    have o2 : divOk (nextS seed) 64 = true := divOk_of (by decide) (by
      show 64 < 2 ^ 9000
      exact Nat.lt_trans (show 64 < 2 ^ 16 by decide) (Nat.pow_lt_pow_right (by decide) (by decide)))
    have o3 : ((m : Int) == 0) = false := by simp; omega
    obtain ⟨r, er, hr⟩ := fmod_nat ((nextS seed).fdiv 64) h0
    simp only [o1, o2, o3, Bool.not_false, Bool.and_self, if_true]
    exact ⟨r, _, by rw [er], hr, _, _, rfl, n40⟩
  | cons n r =>
    have o1 : divOk n (m : Int) = true := divOk_of (by omega) m9
    obtain ⟨q, eq, hq⟩ := fmod_nat n h0
    simp only [o1, if_true]
    exact ⟨q, _, by rw [eq], hq, _, _, rfl, hs⟩
/-! steps that draw -/
section
variable {t t1 t2 : Tp} {A B : Ex} {ρ : Sl} {w w' y : W} {ws : List W} {As : Exs}
theorem T_cons (h1 : A ρ t = .ok w t1) (h2 : As ρ t1 = .ok ws t2) : eCons A As ρ t = .ok (w :: ws) t2 := by
  rw [s_eCons, h1, s_bind_ok, h2, s_bind_ok]
theorem T_callT {f : Ft} (h1 : As ρ t = .ok ws t1) (h2 : f ws t1 = .ok w t2) : eCallT f As ρ t = .ok w t2 := by
  show (As ρ t).bind _ = _
  rw [h1, s_bind_ok, h2]
theorem T_call {f : Fs} (h1 : As ρ t = .ok ws t1) (h2 : f ws = .ok w) : eCall f As ρ t = .ok w t1 := by
  rw [s_eCall, h1, s_bind_ok, h2, s_fR_ok]
theorem T_callB {g : List W → Option W} (h1 : As ρ t = .ok ws t1) (h2 : g ws = some w) : eCallB g As ρ t = .ok w t1 := by
  rw [s_eCallB, h1, s_bind_ok, h2, s_rOf_some]
theorem T_bin {f : W → W → Option W} (h1 : A ρ t = .ok w t1) (h2 : B ρ t1 = .ok w' t2) (h : f w w' = some y) : eBin f A B ρ t = .ok y t2 := by
  rw [s_eBin, h1, s_bind_ok, h2, s_bind_ok, h, s_rOf_some]
theorem T_tup (h1 : As ρ t = .ok ws t1) (h2 : ws.length ≤ 1000) : eTup As ρ t = .ok (.tuple ws) t1 := by
  rw [s_eTup, h1, s_bind_ok, if_pos (few_of h2)]
theorem T_lst (h1 : As ρ t = .ok ws t1) (h2 : ws.length ≤ 1000) : eLst As ρ t = .ok (.list ws) t1 := by
  rw [s_eLst, h1, s_bind_ok, if_pos (few_of h2)]
theorem T_set {i : Nat} (h : A ρ t = .ok w t1) : sSet i A ρ t = .next (ρ.set i (some w)) t1 := by
  rw [s_sSet, h, s_toS_ok]
theorem T_asg {g : Gw} {ρ' : Sl} (h : A ρ t = .ok w t1) (h2 : g w ρ = some ρ') : sAsg g A ρ t = .next ρ' t1 := by
  rw [s_sAsg, h, s_toS_ok, h2]
theorem T_test {b : Bool} (h1 : A ρ t = .ok (.bool b) t1) : eTest A ρ t = .ok b t1 := by
  rw [s_eTest, h1, s_bind_ok, s_wB, s_rOf_some]
theorem T_if {c : Et} {u : Sv} (h : c ρ t = .ok false t1) : sIf c u sNext ρ t = .next ρ t1 := by
  rw [s_sIf, h, s_toS_ok, if_neg (by decide), s_sNext]
theorem T_step {g : Gw} {body : Sv} {items : List W} {ρ1 ρ2 : Sl} (h1 : g w ρ = some ρ1) (h2 : body ρ1 t = .next ρ2 t1) : forL g body (w :: items) ρ t = forL g body items ρ2 t1 := by
  show (match g w ρ with | none => _ | some ρ1 => sThen body (forL g body items) ρ1 t) = _
  rw [h1]
  show sThen body (forL g body items) ρ1 t = _
  rw [then_next h2]
end
theorem endT_ret {t t' : Tp} {A : Ex} {ρ : Sl} {w : W} (h : A ρ t = .ok w t') : endT (sRet A ρ t) = .ok w t' := by
  rw [s_sRet, h]; rfl
theorem runT_eq {n m : Nat} {body : Sv} {ws : List W} {t : Tp} (h : ws.length + 1 = n) : runT n m body ws t = endT (body (startT m ws) t) := if_pos h
/-! ### what is drawn -/
theorem pick_spec {t : Tp} (ht : Good t) {ws : List W} (h0 : 0 < ws.length) (hl : ws.length ≤ 1000) : ∃ (w : W) (t' : Tp), law_pick [.list ws] t = .ok w t' ∧ w ∈ ws ∧ Good t' := by
  obtain ⟨r, t', e, hr, g⟩ := draw_spec ht h0 (Nat.lt_of_le_of_lt hl (by decide))
  refine ⟨ws[r], t', ?_, List.getElem_mem hr, g⟩
  unfold law_pick
  rw [runT_eq (n := 2) rfl]
  exact endT_ret (T_bin (t1 := t) (e_var rfl) (T_callT (T_cons (t1 := t) (e_callB (a_cons (e_var rfl) a_nil) rfl) a_nil) e) (idx_list (List.getElem?_eq_getElem hr)))
theorem frac_spec {t : Tp} (ht : Good t) : ∃ (x : Rat) (t' : Tp), law_fraction [] t = .ok (enc x) t' ∧ B 1 2 x ∧ Good t' := by
  obtain ⟨r, t1, e1, hr, g1⟩ := draw_spec ht (m := 7) (by decide) (by decide)
  obtain ⟨s, t2, e2, hs, g2⟩ := draw_spec g1 (m := 2) (by decide) (by decide)
  have d9 : (1 + (s : Int)).natAbs < 2 ^ 8000 := by
    have : (2 : Nat) ^ 40 < 2 ^ 8000 := Nat.pow_lt_pow_right (by decide) (by decide)
    omega
  refine ⟨Rat.divInt ((r : Int) - 3) (1 + (s : Int)), t2, ?_, ?_, g2⟩
  · unfold law_fraction
    rw [runT_eq (n := 1) rfl]
    exact endT_ret (T_call (T_cons (T_bin (T_callT (T_cons (t1 := t) e_c a_nil) e1) e_c rfl) (T_cons (T_bin (t1 := t1) e_c (T_callT (T_cons (t1 := t1) e_c a_nil) e2) rfl) a_nil)) (law_make_raw _ _ d9 (by omega)))
  · have : Rat.divInt ((r : Int) - 3) (1 + (s : Int)) = mkRat ((r : Int) - 3) (1 + s) := by
      rw [show (1 + (s : Int)) = ((1 + s : Nat) : Int) by omega, Rat.divInt_ofNat]
    rw [this]
    have h : Bd (1 + s) 3 (mkRat ((r : Int) - 3) (1 + s)) := ⟨_, rfl, by omega⟩
    refine h.toB ?_ (by decide)
    have : s = 0 ∨ s = 1 := by omega
    rcases this with rfl | rfl <;> decide
theorem fracs_spec {ρ : Sl} {i : Nat} : ∀ (items : List W) (t : Tp), Good t → ∃ (f : List Rat) (t' : Tp), lcL (gN i) etYes (eCallT law_fraction eNil) items ρ t = .ok (f.map enc) t' ∧ f.length = items.length ∧ BF 1 2 f ∧ Good t'
  | [], t, ht => ⟨[], t, rfl, rfl, BF.nil, ht⟩
  | w :: items, t, ht => by
    obtain ⟨x, t1, e1, b1, g1⟩ := frac_spec ht
    obtain ⟨f, t2, e2, l2, b2, g2⟩ := fracs_spec (ρ := ρ) (i := i) items t1 g1
    refine ⟨x :: f, t2, ?_, by simp [l2], BF.cons b1 b2, g2⟩
    show (noexc (Rs.ok true t)).bind (fun b t1 => if b = true then (noexc (eCallT law_fraction eNil (ρ.set i (some w)) t1)).bind fun w t2 => (lcL (gN i) etYes (eCallT law_fraction eNil) items ρ t2).bind fun ws t3 => .ok (w :: ws) t3 else lcL (gN i) etYes (eCallT law_fraction eNil) items ρ t1) = _
    rw [s_noexc, s_bind_ok, if_pos rfl, T_callT (t1 := t) a_nil e1, s_noexc, s_bind_ok, e2, s_bind_ok]
    rfl
/-- a change under way -/
structure Chi (i : Nat) (a b c d : Rat) : Prop where
  xa : B i (3 * i) a
  xb : B i (3 * i) b
  xc : B i (3 * i) c
  xd : B i (3 * i) d
  n0 : a * d - b * c ≠ 0
theorem Chi.two {i : Nat} {a b c d p q r s : Rat} (h : Chi i a b c d) (g : ∀ z ∈ [p, q, r, s], B 1 2 z) (g0 : p * s - q * r ≠ 0) : Chi (i + 1) (a * p + b * r) (a * q + b * s) (c * p + d * r) (c * q + d * s) := by
  have k : ∀ {x y z w : Rat}, B i (3 * i) x → B 1 2 y → B i (3 * i) z → B 1 2 w → B (i + 1) (3 * (i + 1)) (x * y + z * w) := fun h1 h2 h3 h4 => B.add (h1.mul h2) (h3.mul h4) (by omega) (by omega)
  have gp := g p (by simp)
  have gq := g q (by simp)
  have gr := g r (by simp)
  have gs := g s (by simp)
  refine ⟨k h.xa gp h.xb gr, k h.xa gq h.xb gs, k h.xc gp h.xd gr, k h.xc gq h.xd gs, fun z => ?_⟩
  have : (a * d - b * c) * (p * s - q * r) = 0 := by grind
  rcases Rat.mul_eq_zero.mp this with e | e
  · exact h.n0 e
  · exact g0 e
theorem mhalf : (.tuple [.int (-1), .int 2] : W) = enc (-(1 / (((2 : Nat) : Int) : Rat))) := by
  have e := enc_inv (c := 2) (by decide)
  unfold enc at e ⊢
  show _ = PyData.tuple [.int (-((1 / (((2 : Nat) : Int) : Rat)).num)), .int (((1 / (((2 : Nat) : Int) : Rat)).den : Nat) : Int)]
  injection e with e
  injection e with e1 e
  injection e with e2 e
  rw [← e2]
  injection e1 with e1
  rw [← e1]
  rfl
abbrev known (x : Rat) : List W := [encF [1, x, 0, 1], encF [0, 1, -1, 0], encF [((2 : Int) : Rat), 0, 0, -(1 / (((2 : Nat) : Int) : Rat))], encF [((3 : Int) : Rat), 0, 0, 1]]
theorem known_ok {x : Rat} (hx : B 1 2 x) {w : W} (hw : w ∈ known x) : ∃ p q r s, w = encF [p, q, r, s] ∧ (∀ z ∈ [p, q, r, s], B 1 2 z) ∧ p * s - q * r ≠ 0 := by
  have k0 : B 1 2 0 := B.zero
  have k1 : B 1 2 1 := B.one
  have all : ∀ {p q r s : Rat}, B 1 2 p → B 1 2 q → B 1 2 r → B 1 2 s → ∀ z ∈ [p, q, r, s], B 1 2 z := fun h1 h2 h3 h4 z hz => by
    simp at hz
    rcases hz with rfl | rfl | rfl | rfl <;> assumption
  simp only [known, List.mem_cons, List.not_mem_nil, or_false] at hw
  rcases hw with rfl | rfl | rfl | rfl
  · exact ⟨_, _, _, _, rfl, all k1 hx k0 k1, by grind⟩
  · exact ⟨_, _, _, _, rfl, all k0 k1 k1.neg k0, by grind⟩
  · refine ⟨_, _, _, _, rfl, all (B.int 2 (by decide)) k0 k0 (half_B.mono (by decide) (by decide)).neg, ?_⟩
    rw [Rat.intCast_natCast]
    intro z
    have : (((2 : Int) : Rat)) = 2 := rfl
    have : (((2 : Nat) : Rat)) = 2 := rfl
    grind
  · refine ⟨_, _, _, _, rfl, all (B.int 3 (by decide)) k0 k0 k1, ?_⟩
    have : (((3 : Int) : Rat)) = 3 := rfl
    grind
abbrev chB' : Sv := sThen (sSet 3 (eLst (eCons (eTup (eCons (eTup (eCons (eC (.int (1))) (eCons (eC (.int (1))) eNil))) (eCons (eCallT law_fraction eNil) (eCons (eTup (eCons (eC (.int (0))) (eCons (eC (.int (1))) eNil))) (eCons (eTup (eCons (eC (.int (1))) (eCons (eC (.int (1))) eNil))) eNil))))) (eCons (eTup (eCons (eTup (eCons (eC (.int (0))) (eCons (eC (.int (1))) eNil))) (eCons (eTup (eCons (eC (.int (1))) (eCons (eC (.int (1))) eNil))) (eCons (eTup (eCons (eUn wNeg (eC (.int (1)))) (eCons (eC (.int (1))) eNil))) (eCons (eTup (eCons (eC (.int (0))) (eCons (eC (.int (1))) eNil))) eNil))))) (eCons (eTup (eCons (eTup (eCons (eC (.int (2))) (eCons (eC (.int (1))) eNil))) (eCons (eTup (eCons (eC (.int (0))) (eCons (eC (.int (1))) eNil))) (eCons (eTup (eCons (eC (.int (0))) (eCons (eC (.int (1))) eNil))) (eCons (eTup (eCons (eUn wNeg (eC (.int (1)))) (eCons (eC (.int (2))) eNil))) eNil))))) (eCons (eTup (eCons (eTup (eCons (eC (.int (3))) (eCons (eC (.int (1))) eNil))) (eCons (eTup (eCons (eC (.int (0))) (eCons (eC (.int (1))) eNil))) (eCons (eTup (eCons (eC (.int (0))) (eCons (eC (.int (1))) eNil))) (eCons (eTup (eCons (eC (.int (1))) (eCons (eC (.int (1))) eNil))) eNil))))) eNil)))))) (sSet 1 (eCall law_two (eCons (eVar 1) (eCons (eCallT law_pick (eCons (eVar 3) eNil)) eNil))))
theorem p2c {ρ : Sl} {t : Tp} {i j : Int} : eTup (eCons (eC (.int i)) (eCons (eC (.int j)) eNil)) ρ t = .ok (.tuple [.int i, .int j]) t := e_tup (a_cons e_c (a_cons e_c a_nil)) (by simp)
theorem p2n {ρ : Sl} {t : Tp} {j : Int} : eTup (eCons (eUn wNeg (eC (.int 1))) (eCons (eC (.int j)) eNil)) ρ t = .ok (.tuple [.int (-1), .int j]) t := e_tup (a_cons (e_un e_c rfl) (a_cons e_c a_nil)) (by simp)
theorem known_ev {t t1 : Tp} {x : Rat} {ρ : Sl} (e : law_fraction [] t = .ok (enc x) t1) : (eLst (eCons (eTup (eCons (eTup (eCons (eC (.int (1))) (eCons (eC (.int (1))) eNil))) (eCons (eCallT law_fraction eNil) (eCons (eTup (eCons (eC (.int (0))) (eCons (eC (.int (1))) eNil))) (eCons (eTup (eCons (eC (.int (1))) (eCons (eC (.int (1))) eNil))) eNil))))) (eCons (eTup (eCons (eTup (eCons (eC (.int (0))) (eCons (eC (.int (1))) eNil))) (eCons (eTup (eCons (eC (.int (1))) (eCons (eC (.int (1))) eNil))) (eCons (eTup (eCons (eUn wNeg (eC (.int (1)))) (eCons (eC (.int (1))) eNil))) (eCons (eTup (eCons (eC (.int (0))) (eCons (eC (.int (1))) eNil))) eNil))))) (eCons (eTup (eCons (eTup (eCons (eC (.int (2))) (eCons (eC (.int (1))) eNil))) (eCons (eTup (eCons (eC (.int (0))) (eCons (eC (.int (1))) eNil))) (eCons (eTup (eCons (eC (.int (0))) (eCons (eC (.int (1))) eNil))) (eCons (eTup (eCons (eUn wNeg (eC (.int (1)))) (eCons (eC (.int (2))) eNil))) eNil))))) (eCons (eTup (eCons (eTup (eCons (eC (.int (3))) (eCons (eC (.int (1))) eNil))) (eCons (eTup (eCons (eC (.int (0))) (eCons (eC (.int (1))) eNil))) (eCons (eTup (eCons (eC (.int (0))) (eCons (eC (.int (1))) eNil))) (eCons (eTup (eCons (eC (.int (1))) (eCons (eC (.int (1))) eNil))) eNil))))) eNil))))) ρ t = .ok (.list (known x)) t1 := by
  have w3 : encF [((2 : Int) : Rat), 0, 0, -(1 / (((2 : Nat) : Int) : Rat))] = .tuple [.tuple [.int 2, .int 1], .tuple [.int 0, .int 1], .tuple [.int 0, .int 1], .tuple [.int (-1), .int 2]] := by
    unfold encF
    rw [List.map_cons, List.map_cons, List.map_cons, List.map_cons, List.map_nil, ← mhalf]
    rfl
  refine T_lst (T_cons (t1 := t1) (T_tup (T_cons (t1 := t) p2c (T_cons (T_callT (t1 := t) a_nil e) (a_cons p2c (a_cons p2c a_nil)))) (by simp)) (a_cons (w := encF [0, 1, -1, 0]) (e_tup (a_cons p2c (a_cons p2c (a_cons p2n (a_cons p2c a_nil)))) (by simp)) (a_cons (w := encF [((2 : Int) : Rat), 0, 0, -(1 / (((2 : Nat) : Int) : Rat))]) ?_ (a_cons (w := encF [((3 : Int) : Rat), 0, 0, 1]) (e_tup (a_cons p2c (a_cons p2c (a_cons p2c (a_cons p2c a_nil)))) (by simp)) a_nil)))) (by simp)
  rw [w3]
  exact e_tup (a_cons p2c (a_cons p2c (a_cons p2c (a_cons p2n a_nil)))) (by simp)
theorem change_loop : ∀ (items : List W) (i : Nat) (a b c d : Rat) (t : Tp) (o2 o3 : Option W), Chi i a b c d → i + items.length ≤ 3 → Good t →
    ∃ (p q r s : Rat) (t' : Tp) (q2 q3 : Option W), forL (gN 2) chB' items [none, some (encF [a, b, c, d]), o2, o3] t = .next [none, some (encF [p, q, r, s]), q2, q3] t' ∧ Chi (i + items.length) p q r s ∧ Good t'
  | [], i, a, b, c, d, t, o2, o3, h, _, g => ⟨a, b, c, d, t, o2, o3, rfl, h, g⟩
  | w :: items, i, a, b, c, d, t, o2, o3, h, hl, g => by
    rw [List.length_cons] at hl ⊢
    obtain ⟨x, t1, e1, b1, g1⟩ := frac_spec g
    obtain ⟨w', t2, e2, m2, g2⟩ := pick_spec g1 (ws := known x) (show 0 < 4 by decide) (show 4 ≤ 1000 by decide)
    obtain ⟨p, q, r, s, rfl, hb, h0⟩ := known_ok b1 m2
    have h' := h.two hb h0
    have bs : ∀ z ∈ [a, b, c, d], B i (3 * i) z := fun z hz => by
      simp at hz
      rcases hz with rfl | rfl | rfl | rfl
      · exact h.xa
      · exact h.xb
      · exact h.xc
      · exact h.xd
    have e3 := law_two_spec bs hb (by omega) (by omega)
    obtain ⟨p', q', r', s', t', q2, q3, e, hc, gt⟩ := change_loop items (i + 1) _ _ _ _ t2 (some w) (some (.list (known x))) h' (by omega) g2
    refine ⟨p', q', r', s', t', q2, q3, (T_step (t1 := t2) (ρ1 := [none, some (encF [a, b, c, d]), some w, o3]) rfl ?_).trans e, by rw [show i + (items.length + 1) = i + 1 + items.length by omega]; exact hc, gt⟩
    unfold chB'
    rw [then_next (ρ' := [none, some (encF [a, b, c, d]), some w, some (.list (known x))]) (t' := t1) (by exact T_set (known_ev e1))]
    exact T_set (T_call (T_cons (t1 := t1) (e_var rfl) (T_cons (T_callT (t1 := t1) (a_cons (e_var rfl) a_nil) e2) a_nil)) e3)
theorem change_spec {t : Tp} (ht : Good t) : ∃ (a b c d : Rat) (t' : Tp), law_change [] t = .ok (encF [a, b, c, d]) t' ∧ Ch a b c d ∧ Good t' := by
  obtain ⟨r, t1, e1, hr, g1⟩ := draw_spec ht (m := 3) (by decide) (by decide)
  obtain ⟨p, q, r', s, t', q2, q3, e, hc, g⟩ := change_loop ((List.range (1 + r)).map fun i : Nat => (.int (i : Int) : W)) 0 1 0 0 1 t1 none none ⟨B.one, B.zero, B.zero, B.one, by grind⟩ (by simp; omega) g1
  rw [List.length_map, List.length_range] at hc
  refine ⟨p, q, r', s, t', ?_, ⟨hc.xa.mono (by omega) (by omega), hc.xb.mono (by omega) (by omega), hc.xc.mono (by omega) (by omega), hc.xd.mono (by omega) (by omega), hc.n0⟩, g⟩
  unfold law_change
  rw [runT_eq (n := 1) rfl]
  rw [then_next (ρ' := [none, some (encF [1, 0, 0, 1]), none, none]) (t' := t) (by exact x_set (w := encF [1, 0, 0, 1]) (e_tup (a_cons p2c (a_cons p2c (a_cons p2c (a_cons p2c a_nil)))) (by simp)))]
  rw [then_next (ρ' := [none, some (encF [p, q, r', s]), q2, q3]) (t' := t') (by
    have src : sRng gRng1 (eCons (eBin wAdd (eC (.int (1))) (eCallT law_draw (eCons (eC (.int (3))) eNil))) eNil) [none, some (encF [1, 0, 0, 1]), none, none] t = .ok ((List.range (1 + r)).map fun i : Nat => (.int (i : Int) : W)) t1 := by
      have e1' : law_draw [.int 3] t = .ok (.int (r : Int)) t1 := e1
      rw [s_sRng, T_cons (T_bin (f := wAdd) (t1 := t) (e_c (w := .int 1)) (T_callT (t1 := t) (a_cons (e_c (w := .int 3)) a_nil) e1') rfl) a_nil, s_bind_ok, show (1 : Int) + (r : Int) = ((1 + r : Nat) : Int) by omega, gRng1_nat (by omega), s_rOf_some]
    show sFor _ _ _ _ _ = _
    rw [s_sFor, src, s_toS_ok]
    exact e)]
  exact endT_ret (e_var rfl)
end G

end

section
namespace G
open PySem Ev
/-! ### the law's small steps -/
theorem ints_back : ∀ ns : List Int, intsW (ns.map PyData.int) = some ns
  | [] => rfl
  | n :: ns => by
    show (intsW (ns.map PyData.int)).map (n :: ·) = _
    rw [ints_back ns]; rfl
theorem runL_eq {m : Nat} {f : List Int → Option (List Int × Int)} {body : Sv} {ns : List Int} {t : List Int × Int} (h : f ns = some t) : runL 1 m f body [.list (ns.map PyData.int)] = endF false (body (startW m [.list (ns.map PyData.int)]) (some t)) := by
  unfold runL
  simp only [ints_back, h, if_true]
theorem fmod_small (i : Int) (m : Nat) (hm : 0 < m) (hm2 : m ≤ 2 ^ 30) : (i.fmod (m : Int)).natAbs < 2 ^ 30 := by
  have a := Int.fmod_nonneg_of_pos i (b := (m : Int)) (by omega)
  have b := Int.fmod_lt_of_pos i (b := (m : Int)) (by omega)
  omega
theorem abs_loop {i : Nat} {ρ : Sl} (hi : ∀ w : W, (ρ.set i (some w))[i]? = some (some w)) : ∀ ns : List Int, lcL (gN i) etYes (eCallB gAbs (eCons (eCallB gInt (eCons (eVar i) eNil)) eNil)) (ns.map PyData.int) ρ none = .ok (ns.map fun n => (.int (n.natAbs : Int) : W)) none := fun ns =>
  lc_map (e := PyData.int) (fun n => (.int (n.natAbs : Int) : W)) ns fun n _ => ⟨_, rfl, e_callB (a_cons (e_callB (a_cons (e_var (hi _)) a_nil) rfl) a_nil) (gAbs_int n)⟩
theorem tape_ok (ns : List Int) (hl : ns.length ≤ 63) : ∃ (cells : List Int) (seed : Int), law_tape ns = some (cells, seed) ∧ seed.natAbs < 2 ^ 40 := by
  generalize hS : (PyData.list (ns.map PyData.int) : W) = S
  obtain ⟨ρ', e1, z, o, rfl, hz⟩ := sfor_pred (t := none) (src := sSeq (eVar 0)) (g := gN 2) (items := ns.map PyData.int)
    (body := sSet 1 (eBin wMod (eCallB gInt (eCons (eBin wAdd (eBin wMul (eVar 1) (eC (.int (31)))) (eVar 2)) eNil)) (eC (.int (1000003)))))
    (fun i ρ => ∃ (z : Int) (o : Option W), ρ = [some S, some (.int z), o] ∧ z.natAbs < 2 ^ 30)
    [some S, some (.int 7), none]
    (g_seq (e_var rfl) (by rw [← hS]; rfl)) ⟨7, none, rfl, by decide⟩
    fun i w ρ hw ⟨z, o, e, hz⟩ => by
      subst e
      obtain ⟨x, rfl⟩ : ∃ x, w = .int x := by
        rw [List.getElem?_map] at hw
        cases h : ns[i]? with
        | none => rw [h] at hw; cases hw
        | some x => rw [h] at hw; exact ⟨x, (Option.some.inj hw).symm⟩
      have m1 : mulOk z 31 = true := mulOk_of (Nat.lt_trans hz (Nat.pow_lt_pow_right (by decide) (by decide))) (by
        show 31 < 2 ^ 4000
        exact Nat.lt_trans (show 31 < 2 ^ 16 by decide) (Nat.pow_lt_pow_right (by decide) (by decide)))
      refine ⟨[some S, some (.int z), some (.int x)], [some S, some (.int ((z * 31 + x).fmod ((1000003 : Nat) : Int))), some (.int x)], rfl, ?_, _, _, rfl, fmod_small _ _ (by decide) (by decide)⟩
      exact x_set (e_bin (e_callB (a_cons (e_bin (e_bin (e_var rfl) e_c (wMul_of m1)) (e_var rfl) rfl) a_nil) rfl) e_c (wMod_nz _ _ (by decide)))
  refine ⟨ns.map fun n => (n.natAbs : Int), z + 1, ?_, by omega⟩
  unfold law_tape tapeF
  rw [hS]
  rw [then_next (ρ' := [some S, some (.int 7), none]) (t' := none) (by exact x_set e_c)]
  rw [e1]
  have lc : eLc (sSeq (eVar 0)) [2] (gN 2) etYes (eCallB gAbs (eCons (eCallB gInt (eCons (eVar 2) eNil)) eNil)) [some S, some (.int z), o] none = .ok (.list (ns.map fun n => (.int (n.natAbs : Int) : W))) none :=
    e_lc (g_seq (e_var rfl) (by rw [← hS]; rfl)) (by simp; omega) (abs_loop (fun _ => rfl) ns)
  have e2 : eBin wAdd (eVar 1) (eC (.int (1))) [some S, some (.int z), o] none = .ok (.int (z + 1)) none := e_bin (e_var rfl) e_c rfl
  simp only [lc, e2]
  have := ints_back (ns.map fun n => (n.natAbs : Int))
  rw [List.map_map] at this
  show (intsW (ns.map fun n => (.int (n.natAbs : Int) : W))).map (·, z + 1) = _
  rw [show (ns.map fun n => (.int (n.natAbs : Int) : W)) = ns.map (PyData.int ∘ fun n => (n.natAbs : Int)) from rfl, this]
  rfl
theorem T_lc {src : Exs} {vs : List Nat} {g : Gw} {te : Ex} {items ws : List W} {ρ : Sl} {t t1 t2 : Tp} (h1 : src ρ t = .ok items t1) (h2 : items.length ≤ 1000000) (h3 : lcL g etYes te items (wipeW ρ vs) t1 = .ok ws t2) : eLc src vs g etYes te ρ t = .ok (.list ws) t2 := by
  rw [s_eLc, h1, s_bind_ok, if_pos (few_1M h2), h3, s_noexc, s_bind_ok]
theorem told_T {As : Exs} {f : Fs} {ρ : Sl} {ws : List W} {k : Nat} {n : Nat} {hs : List (Nat × W)} {w : W} {t t1 : Tp} (h1 : As ρ t = .ok ws t1) (h2 : f ws = .exc k) (h3 : exC n hs k t1 = .ok w t1) : eToldB n hs (eCall f As) ρ t = .ok w t1 := by
  have : eCall f As ρ t = .exc k t1 := by rw [s_eCall, h1, s_bind_ok, h2, s_fR_exc]
  unfold eToldB
  rw [this]
  exact h3
theorem forget_fin {i : Nat} {u : Sv} {ρ : Sl} {t : Tp} (h : endF false (u (ρ.set i none) t) = .ok (.bool true)) : endF false (sForget i u ρ t) = .ok (.bool true) := by
  unfold sForget
  cases hu : u (ρ.set i none) t with
  | next ρ' t' => rw [hu] at h; cases h
  | ret w t' => rw [hu] at h; exact h
  | exc e t' => rw [hu] at h; exact h
  | bad => rw [hu] at h; exact h
theorem T_ret {A : Ex} {ρ : Sl} {t t' : Tp} {w : W} (h : A ρ t = .ok w t') : endF false (sRet A ρ t) = .ok w := by
  rw [s_sRet, h]; rfl
theorem eqv_encF (f g : List Rat) : PyData.eqv (encF f) (encF g) = decide (f = g) := eqv_map eqv_enc f g
theorem lay_encF (f : List Rat) : PyData.canLay0 (encF f) = true ∧ PyData.depth (encF f) ≤ 2 := by
  have h := lay_map enc 1 f fun x _ => ⟨rfl, Nat.le_refl _⟩
  exact ⟨h.1, Nat.succ_le_succ h.2⟩
theorem neqTab (x : List (List Rat)) : wNe (encT x) (encT x) = some (.bool false) := by
  unfold wNe
  have s : SeqAt.shaped (encT x) = true := shaped_tup 2 (by decide) fun f _ => lay_encF f
  have e : PyData.eqv (encT x) (encT x) = true := (eqv_map eqv_encF x x).trans (decide_eq_true rfl)
  rw [s, e]; rfl
theorem t_neT {A B : Ex} {ρ : Sl} {t : Tp} {f : List (List Rat)} (h1 : A ρ t = .ok (encT f) t) (h2 : B ρ t = .ok (encT f) t) : eTest (eBin wNe A B) ρ t = .ok false t :=
  t_test (e_bin h1 h2 (neqTab f))
theorem seq_F {f : List Rat} {n : Nat} (lf : f.length = n + 1) : wSeq (encF f) = some ((List.range (n + 1)).map fun i => enc (f.getD i 0)) := by
  have h := rowL_self f
  rw [lf] at h
  have := seq_R (c := n + 1) (R := fun k => f.getD k 0)
  rw [h] at this
  exact this
theorem Ch.bp (h : Ch a b c d) : BF 3 9 [a, b] := BF.two h.xa h.xb
theorem Ch.bq (h : Ch a b c d) : BF 3 9 [c, d] := BF.two h.xc h.xd
theorem Ch.c4 (h : Ch a b c d) : C4 (KK ^ 3) (2 ^ 9) a b c d := ⟨szB (by decide) (by decide), by rw [← Nat.pow_add, ← Nat.pow_add]; exact szB (by decide) (by decide), h.xa, h.xb, h.xc, h.xd⟩
theorem Ch.all (h : Ch a b c d) : ∀ z ∈ [a, b, c, d], B 3 9 z := fun z hz => by
  simp at hz
  rcases hz with rfl | rfl | rfl | rfl
  · exact h.xa
  · exact h.xb
  · exact h.xc
  · exact h.xd
theorem Ch.both (h : Ch a b c d) (g : Ch p q r s) : BF 6 19 [a * p + b * r, a * q + b * s] ∧ BF 6 19 [c * p + d * r, c * q + d * s] := by
  have k : ∀ {x y z w : Rat}, B 3 9 x → B 3 9 y → B 3 9 z → B 3 9 w → B 6 19 (x * y + z * w) := fun h1 h2 h3 h4 => B.add (h1.mul h2) (h3.mul h4) (by decide) (by decide)
  exact ⟨BF.two (k h.xa g.xa h.xb g.xc) (k h.xa g.xb h.xb g.xd), BF.two (k h.xc g.xa h.xd g.xc) (k h.xc g.xb h.xd g.xd)⟩
/-! the lines of the steps -/
theorem line_up {n i k : Nat} : upF n i k = if (i : Int) = (k : Int) + 1 then (((n - k : Nat) : Int) : Rat) else 0 := by
  unfold upF
  by_cases h : i = k + 1
  · rw [if_pos h, if_pos (by omega)]
  · rw [if_neg h, if_neg (by omega)]
theorem line_dn {i k : Nat} : dnF i k = if (i : Int) = (k : Int) - 1 then (((k : Nat) : Int) : Rat) else 0 := by
  unfold dnF
  by_cases h : k = i + 1
  · rw [if_pos h, if_pos (by omega)]
  · rw [if_neg h, if_neg (by omega)]
theorem line_wt {n i k : Nat} : wtF n i k = if (i : Int) = (k : Int) then (((n : Int) - 2 * (k : Int) : Int) : Rat) else 0 := by
  unfold wtF
  by_cases h : i = k
  · rw [if_pos h, if_pos (by omega), h]
  · rw [if_neg h, if_neg (by omega)]
/-! the lines of doing -/
def lineL (n k : Nat) (a b c d : Rat) : List Rat :=
  let l1 := (List.replicate (n + 1) (0 : Rat)).set k ((((n - k : Nat) : Int) : Rat) * a + (((k : Nat) : Int) : Rat) * d)
  let l2 := if k < n then l1.set (k + 1) ((((n - k : Nat) : Int) : Rat) * b) else l1
  if 0 < k then l2.set (k - 1) ((((k : Nat) : Int) : Rat) * c) else l2
theorem lineL_len (n k : Nat) (a b c d : Rat) : (lineL n k a b c d).length = n + 1 := by
  unfold lineL
  by_cases h1 : k < n <;> by_cases h2 : 0 < k <;> simp [h1, h2]
theorem lineL_eq {n k : Nat} (hk : k < n + 1) (a b c d : Rat) : rowL (n + 1) (fun i => doF n a b c d i k) = lineL n k a b c d := by
  apply List.ext_getElem?
  intro i
  by_cases hi : i < n + 1
  · have e1 : (rowL (n + 1) fun i => doF n a b c d i k)[i]? = some (doF n a b c d i k) := by
      unfold rowL; rw [List.getElem?_map, List.getElem?_range hi]; rfl
    rw [e1]
    unfold lineL doF upF dnF dgF
    by_cases h1 : k < n <;> by_cases h2 : 0 < k <;> simp only [h1, h2, if_true, if_false] <;> simp only [List.getElem?_set, List.length_set, List.length_replicate, List.getElem?_replicate, hi, if_true]
    all_goals
      by_cases c1 : i = k
      · subst c1
        simp <;> (try rw [if_neg (by omega)]) <;> (try rw [if_neg (by omega)]) <;> simp [hi] <;> grind
      · by_cases c2 : i = k + 1
        · subst c2
          simp <;> (try rw [if_neg (by omega)]) <;> (try rw [if_neg (by omega)]) <;> simp <;> grind
        · by_cases c3 : k = i + 1
          · subst c3
            simp <;> (try rw [if_neg (by omega)]) <;> simp <;> grind
          · simp [c1, c2, c3] <;> grind
  · rw [List.getElem?_eq_none (by rw [rowL_len]; omega), List.getElem?_eq_none (by rw [lineL_len]; omega)]
end G

end

section
namespace G
open PySem Ev

theorem line_step {n k : Nat} {F : Tf} {g z : Int} {t : Tp} (hn : n ≤ 5) (hk : k < n + 1) (hF : ∀ i, i < n + 1 → F i k = if (i : Int) = g then ((z : Int) : Rat) else 0) (w0 w1 w3 w4 w5 w6 w7 w8 w9 w10 w11 w12 w18 w19 w20 w21 w22 w23 w24 w25 w26 w27 w28 w29 w30 w31 w32 o17 : Option W) :
    ((sThen (sSet 17 (eCallB gTuple (eCons (eLc (sSeq (eVar 14)) [32] (gN 32) etYes (eBin wIdx (eVar 32) (eVar 13))) eNil))) (sIf (eTest (eBin wNe (eVar 17) (eCallB gTuple (eCons (eLc (sRng gRng1 (eCons (eBin wAdd (eVar 2) (eC (.int (1)))) eNil)) [30] (gN 30) etYes (eIf (eTest (eBin wEq (eVar 30) (eVar 15))) (eTup (eCons (eVar 16) (eCons (eC (.int (1))) eNil))) (eTup (eCons (eC (.int (0))) (eCons (eC (.int (1))) eNil))))) eNil)))) (sRet (eC (.bool false))) sNext))) [w0, w1, some (.int (n : Int)), w3, w4, w5, w6, w7, w8, w9, w10, w11, w12, some (.int (k : Int)), some (encT (mk (n + 1) (n + 1) F)), some (.int g), some (.int z), o17, w18, w19, w20, w21, w22, w23, w24, w25, w26, w27, w28, w29, w30, w31, w32] t = .next [w0, w1, some (.int (n : Int)), w3, w4, w5, w6, w7, w8, w9, w10, w11, w12, some (.int (k : Int)), some (encT (mk (n + 1) (n + 1) F)), some (.int g), some (.int z), some (encF (rowL (n + 1) fun i => F i k)), w18, w19, w20, w21, w22, w23, w24, w25, w26, w27, w28, w29, w30, w31, w32] t := by
  rw [then_next (ρ' := [w0, w1, some (.int (n : Int)), w3, w4, w5, w6, w7, w8, w9, w10, w11, w12, some (.int (k : Int)), some (encT (mk (n + 1) (n + 1) F)), some (.int g), some (.int z), some (encF (rowL (n + 1) fun i => F i k)), w18, w19, w20, w21, w22, w23, w24, w25, w26, w27, w28, w29, w30, w31, w32]) (t' := t) (by exact x_set (e_row (R := fun i => F i k) (g_seq (e_var rfl) seq_T) (by omega) fun i hi => ⟨_, rfl, e_bin (e_var rfl) (e_var rfl) (idx_R hk)⟩))]
  refine i_false (t_neF (e_var rfl) (e_row (R := fun i => F i k) (g_rng1 (n := n + 1) (a_cons (e_bin (e_var rfl) e_c rfl) a_nil) (by omega)) (by omega) fun i hi => ⟨_, rfl, ?_⟩))
  rw [hF i hi]
  by_cases e : (i : Int) = g
  · rw [if_pos e, enc_int]
    exact e_ifT (t_test (e_bin (e_var rfl) (e_var rfl) (eqT e))) (e_tup (a_cons (e_var rfl) (a_cons e_c a_nil)) (by simp))
  · rw [if_neg e]
    exact e_ifF (t_test (e_bin (e_var rfl) (e_var rfl) (eqN e))) (e_tup (a_cons e_c (a_cons e_c a_nil)) (by simp))
theorem line_item {n k : Nat} {t : Tp} (hn : n ≤ 5) (hk : k < n + 1) (w0 w1 w3 w4 w5 w6 w7 w8 w9 w18 w19 w20 w21 w22 w23 w24 w25 w26 w27 w28 w29 w30 w31 w32 o14 o15 o16 o17 : Option W) :
    ∃ p14 p15 p16 p17 : Option W, ((sFor (sSeq (eLst (eCons (eTup (eCons (eVar 10) (eCons (eBin wAdd (eVar 13) (eC (.int (1)))) (eCons (eBin wSub (eVar 2) (eVar 13)) eNil)))) (eCons (eTup (eCons (eVar 11) (eCons (eBin wSub (eVar 13) (eC (.int (1)))) (eCons (eVar 13) eNil)))) (eCons (eTup (eCons (eVar 12) (eCons (eVar 13) (eCons (eBin wSub (eVar 2) (eBin wMul (eC (.int (2))) (eVar 13))) eNil)))) eNil))))) (gTp (gsC (gN 14) (gsC (gN 15) (gsC (gN 16) gsN)))) (sThen (sSet 17 (eCallB gTuple (eCons (eLc (sSeq (eVar 14)) [32] (gN 32) etYes (eBin wIdx (eVar 32) (eVar 13))) eNil))) (sIf (eTest (eBin wNe (eVar 17) (eCallB gTuple (eCons (eLc (sRng gRng1 (eCons (eBin wAdd (eVar 2) (eC (.int (1)))) eNil)) [30] (gN 30) etYes (eIf (eTest (eBin wEq (eVar 30) (eVar 15))) (eTup (eCons (eVar 16) (eCons (eC (.int (1))) eNil))) (eTup (eCons (eC (.int (0))) (eCons (eC (.int (1))) eNil))))) eNil)))) (sRet (eC (.bool false))) sNext)))) [w0, w1, some (.int (n : Int)), w3, w4, w5, w6, w7, w8, w9, some (encT (mk (n + 1) (n + 1) (upF n))), some (encT (mk (n + 1) (n + 1) dnF)), some (encT (mk (n + 1) (n + 1) (wtF n))), some (.int (k : Int)), o14, o15, o16, o17, w18, w19, w20, w21, w22, w23, w24, w25, w26, w27, w28, w29, w30, w31, w32] t = .next [w0, w1, some (.int (n : Int)), w3, w4, w5, w6, w7, w8, w9, some (encT (mk (n + 1) (n + 1) (upF n))), some (encT (mk (n + 1) (n + 1) dnF)), some (encT (mk (n + 1) (n + 1) (wtF n))), some (.int (k : Int)), p14, p15, p16, p17, w18, w19, w20, w21, w22, w23, w24, w25, w26, w27, w28, w29, w30, w31, w32] t := by
  refine ⟨some (encT (mk (n + 1) (n + 1) (wtF n))), some (.int ((k : Int))), some (.int ((n : Int) - 2 * (k : Int))), some (encF (rowL (n + 1) fun i => wtF n i k)), ?_⟩
  · have m2 : wMul (.int 2) (.int (k : Int)) = some (.int (2 * (k : Int))) := by
      have : k = 0 ∨ k = 1 ∨ k = 2 ∨ k = 3 ∨ k = 4 ∨ k = 5 := by omega
      rcases this with rfl | rfl | rfl | rfl | rfl | rfl <;> kernel_rfl
    refine Eq.trans (for_src (items := [.tuple [encT (mk (n + 1) (n + 1) (upF n)), .int ((k : Int) + 1), .int ((n : Int) - (k : Int))], .tuple [encT (mk (n + 1) (n + 1) dnF), .int ((k : Int) - 1), .int (k : Int)], .tuple [encT (mk (n + 1) (n + 1) (wtF n)), .int (k : Int), .int ((n : Int) - 2 * (k : Int))]]) (g_seq (e_lst (a_cons (e_tup (a_cons (e_var rfl) (a_cons (e_bin (e_var rfl) e_c rfl) (a_cons (e_bin (e_var rfl) (e_var rfl) rfl) a_nil))) (by simp)) (a_cons (e_tup (a_cons (e_var rfl) (a_cons (e_bin (e_var rfl) e_c rfl) (a_cons (e_var rfl) a_nil))) (by simp)) (a_cons (e_tup (a_cons (e_var rfl) (a_cons (e_var rfl) (a_cons (e_bin (e_var rfl) (e_bin e_c (e_var rfl) m2) rfl) a_nil))) (by simp)) a_nil))) (by simp)) rfl)) ?_
    refine Eq.trans (for_step (ρ1 := [w0, w1, some (.int (n : Int)), w3, w4, w5, w6, w7, w8, w9, some (encT (mk (n + 1) (n + 1) (upF n))), some (encT (mk (n + 1) (n + 1) dnF)), some (encT (mk (n + 1) (n + 1) (wtF n))), some (.int (k : Int)), some (encT (mk (n + 1) (n + 1) (upF n))), some (.int ((k : Int) + 1)), some (.int ((n : Int) - (k : Int))), o17, w18, w19, w20, w21, w22, w23, w24, w25, w26, w27, w28, w29, w30, w31, w32]) (ρ2 := [w0, w1, some (.int (n : Int)), w3, w4, w5, w6, w7, w8, w9, some (encT (mk (n + 1) (n + 1) (upF n))), some (encT (mk (n + 1) (n + 1) dnF)), some (encT (mk (n + 1) (n + 1) (wtF n))), some (.int (k : Int)), some (encT (mk (n + 1) (n + 1) (upF n))), some (.int ((k : Int) + 1)), some (.int ((n : Int) - (k : Int))), some (encF (rowL (n + 1) fun i => upF n i k)), w18, w19, w20, w21, w22, w23, w24, w25, w26, w27, w28, w29, w30, w31, w32]) rfl (line_step (F := upF n) (g := (k : Int) + 1) (z := (n : Int) - (k : Int)) hn hk (fun i _ => by rw [line_up, show (n : Int) - (k : Int) = ((n - k : Nat) : Int) by omega]) w0 w1 w3 w4 w5 w6 w7 w8 w9 (some (encT (mk (n + 1) (n + 1) (upF n)))) (some (encT (mk (n + 1) (n + 1) dnF))) (some (encT (mk (n + 1) (n + 1) (wtF n)))) w18 w19 w20 w21 w22 w23 w24 w25 w26 w27 w28 w29 w30 w31 w32 o17)) ?_
    refine Eq.trans (for_step (ρ1 := [w0, w1, some (.int (n : Int)), w3, w4, w5, w6, w7, w8, w9, some (encT (mk (n + 1) (n + 1) (upF n))), some (encT (mk (n + 1) (n + 1) dnF)), some (encT (mk (n + 1) (n + 1) (wtF n))), some (.int (k : Int)), some (encT (mk (n + 1) (n + 1) dnF)), some (.int ((k : Int) - 1)), some (.int ((k : Int))), some (encF (rowL (n + 1) fun i => upF n i k)), w18, w19, w20, w21, w22, w23, w24, w25, w26, w27, w28, w29, w30, w31, w32]) (ρ2 := [w0, w1, some (.int (n : Int)), w3, w4, w5, w6, w7, w8, w9, some (encT (mk (n + 1) (n + 1) (upF n))), some (encT (mk (n + 1) (n + 1) dnF)), some (encT (mk (n + 1) (n + 1) (wtF n))), some (.int (k : Int)), some (encT (mk (n + 1) (n + 1) dnF)), some (.int ((k : Int) - 1)), some (.int ((k : Int))), some (encF (rowL (n + 1) fun i => dnF i k)), w18, w19, w20, w21, w22, w23, w24, w25, w26, w27, w28, w29, w30, w31, w32]) rfl (line_step (F := dnF) (g := (k : Int) - 1) (z := (k : Int)) hn hk (fun i _ => line_dn) w0 w1 w3 w4 w5 w6 w7 w8 w9 (some (encT (mk (n + 1) (n + 1) (upF n)))) (some (encT (mk (n + 1) (n + 1) dnF))) (some (encT (mk (n + 1) (n + 1) (wtF n)))) w18 w19 w20 w21 w22 w23 w24 w25 w26 w27 w28 w29 w30 w31 w32 (some (encF (rowL (n + 1) fun i => upF n i k))))) ?_
    refine Eq.trans (for_step (ρ1 := [w0, w1, some (.int (n : Int)), w3, w4, w5, w6, w7, w8, w9, some (encT (mk (n + 1) (n + 1) (upF n))), some (encT (mk (n + 1) (n + 1) dnF)), some (encT (mk (n + 1) (n + 1) (wtF n))), some (.int (k : Int)), some (encT (mk (n + 1) (n + 1) (wtF n))), some (.int ((k : Int))), some (.int ((n : Int) - 2 * (k : Int))), some (encF (rowL (n + 1) fun i => dnF i k)), w18, w19, w20, w21, w22, w23, w24, w25, w26, w27, w28, w29, w30, w31, w32]) (ρ2 := [w0, w1, some (.int (n : Int)), w3, w4, w5, w6, w7, w8, w9, some (encT (mk (n + 1) (n + 1) (upF n))), some (encT (mk (n + 1) (n + 1) dnF)), some (encT (mk (n + 1) (n + 1) (wtF n))), some (.int (k : Int)), some (encT (mk (n + 1) (n + 1) (wtF n))), some (.int ((k : Int))), some (.int ((n : Int) - 2 * (k : Int))), some (encF (rowL (n + 1) fun i => wtF n i k)), w18, w19, w20, w21, w22, w23, w24, w25, w26, w27, w28, w29, w30, w31, w32]) rfl (line_step (F := wtF n) (g := (k : Int)) (z := (n : Int) - 2 * (k : Int)) hn hk (fun i _ => line_wt) w0 w1 w3 w4 w5 w6 w7 w8 w9 (some (encT (mk (n + 1) (n + 1) (upF n)))) (some (encT (mk (n + 1) (n + 1) dnF))) (some (encT (mk (n + 1) (n + 1) (wtF n)))) w18 w19 w20 w21 w22 w23 w24 w25 w26 w27 w28 w29 w30 w31 w32 (some (encF (rowL (n + 1) fun i => dnF i k))))) ?_
    rfl
theorem line_loop {n : Nat} {t : Tp} (hn : n ≤ 5) (w0 w1 w3 w4 w5 w6 w7 w8 w9 w18 w19 w20 w21 w22 w23 w24 w25 w26 w27 w28 w29 w30 w31 w32 o13 o14 o15 o16 o17 : Option W) :
    ∃ p13 p14 p15 p16 p17 : Option W, ((sFor (sRng gRng1 (eCons (eBin wAdd (eVar 2) (eC (.int (1)))) eNil)) (gN 13) (sFor (sSeq (eLst (eCons (eTup (eCons (eVar 10) (eCons (eBin wAdd (eVar 13) (eC (.int (1)))) (eCons (eBin wSub (eVar 2) (eVar 13)) eNil)))) (eCons (eTup (eCons (eVar 11) (eCons (eBin wSub (eVar 13) (eC (.int (1)))) (eCons (eVar 13) eNil)))) (eCons (eTup (eCons (eVar 12) (eCons (eVar 13) (eCons (eBin wSub (eVar 2) (eBin wMul (eC (.int (2))) (eVar 13))) eNil)))) eNil))))) (gTp (gsC (gN 14) (gsC (gN 15) (gsC (gN 16) gsN)))) (sThen (sSet 17 (eCallB gTuple (eCons (eLc (sSeq (eVar 14)) [32] (gN 32) etYes (eBin wIdx (eVar 32) (eVar 13))) eNil))) (sIf (eTest (eBin wNe (eVar 17) (eCallB gTuple (eCons (eLc (sRng gRng1 (eCons (eBin wAdd (eVar 2) (eC (.int (1)))) eNil)) [30] (gN 30) etYes (eIf (eTest (eBin wEq (eVar 30) (eVar 15))) (eTup (eCons (eVar 16) (eCons (eC (.int (1))) eNil))) (eTup (eCons (eC (.int (0))) (eCons (eC (.int (1))) eNil))))) eNil)))) (sRet (eC (.bool false))) sNext))))) [w0, w1, some (.int (n : Int)), w3, w4, w5, w6, w7, w8, w9, some (encT (mk (n + 1) (n + 1) (upF n))), some (encT (mk (n + 1) (n + 1) dnF)), some (encT (mk (n + 1) (n + 1) (wtF n))), o13, o14, o15, o16, o17, w18, w19, w20, w21, w22, w23, w24, w25, w26, w27, w28, w29, w30, w31, w32] t = .next [w0, w1, some (.int (n : Int)), w3, w4, w5, w6, w7, w8, w9, some (encT (mk (n + 1) (n + 1) (upF n))), some (encT (mk (n + 1) (n + 1) dnF)), some (encT (mk (n + 1) (n + 1) (wtF n))), p13, p14, p15, p16, p17, w18, w19, w20, w21, w22, w23, w24, w25, w26, w27, w28, w29, w30, w31, w32] t := by
  obtain ⟨ρ', e, p13, p14, p15, p16, p17, rfl⟩ := sfor_pred (t := t) (src := (sRng gRng1 (eCons (eBin wAdd (eVar 2) (eC (.int (1)))) eNil))) (g := gN 13) (body := (sFor (sSeq (eLst (eCons (eTup (eCons (eVar 10) (eCons (eBin wAdd (eVar 13) (eC (.int (1)))) (eCons (eBin wSub (eVar 2) (eVar 13)) eNil)))) (eCons (eTup (eCons (eVar 11) (eCons (eBin wSub (eVar 13) (eC (.int (1)))) (eCons (eVar 13) eNil)))) (eCons (eTup (eCons (eVar 12) (eCons (eVar 13) (eCons (eBin wSub (eVar 2) (eBin wMul (eC (.int (2))) (eVar 13))) eNil)))) eNil))))) (gTp (gsC (gN 14) (gsC (gN 15) (gsC (gN 16) gsN)))) (sThen (sSet 17 (eCallB gTuple (eCons (eLc (sSeq (eVar 14)) [32] (gN 32) etYes (eBin wIdx (eVar 32) (eVar 13))) eNil))) (sIf (eTest (eBin wNe (eVar 17) (eCallB gTuple (eCons (eLc (sRng gRng1 (eCons (eBin wAdd (eVar 2) (eC (.int (1)))) eNil)) [30] (gN 30) etYes (eIf (eTest (eBin wEq (eVar 30) (eVar 15))) (eTup (eCons (eVar 16) (eCons (eC (.int (1))) eNil))) (eTup (eCons (eC (.int (0))) (eCons (eC (.int (1))) eNil))))) eNil)))) (sRet (eC (.bool false))) sNext)))) (items := (List.range (n + 1)).map fun i : Nat => (.int (i : Int) : W))
    (fun i ρ => ∃ p13 p14 p15 p16 p17 : Option W, ρ = [w0, w1, some (.int (n : Int)), w3, w4, w5, w6, w7, w8, w9, some (encT (mk (n + 1) (n + 1) (upF n))), some (encT (mk (n + 1) (n + 1) dnF)), some (encT (mk (n + 1) (n + 1) (wtF n))), p13, p14, p15, p16, p17, w18, w19, w20, w21, w22, w23, w24, w25, w26, w27, w28, w29, w30, w31, w32])
    [w0, w1, some (.int (n : Int)), w3, w4, w5, w6, w7, w8, w9, some (encT (mk (n + 1) (n + 1) (upF n))), some (encT (mk (n + 1) (n + 1) dnF)), some (encT (mk (n + 1) (n + 1) (wtF n))), o13, o14, o15, o16, o17, w18, w19, w20, w21, w22, w23, w24, w25, w26, w27, w28, w29, w30, w31, w32]
    (g_rng1 (n := n + 1) (a_cons (e_bin (e_var rfl) e_c rfl) a_nil) (by omega)) ⟨_, _, _, _, _, rfl⟩
    fun i w ρ hw ⟨p13, p14, p15, p16, p17, e⟩ => by
      subst e
      obtain ⟨hi, rfl⟩ := rng_item hw
      obtain ⟨q14, q15, q16, q17, e⟩ := line_item (t := t) (k := i) hn hi w0 w1 w3 w4 w5 w6 w7 w8 w9 w18 w19 w20 w21 w22 w23 w24 w25 w26 w27 w28 w29 w30 w31 w32 p14 p15 p16 p17
      exact ⟨_, _, rfl, e, _, _, _, _, _, rfl⟩
  exact ⟨_, _, _, _, _, e⟩
theorem do_step {n k : Nat} {a b c d : Rat} {t : Tp} (hn : n ≤ 5) (hk : k < n + 1) (ha : B 1 2 a) (hb : B 1 2 b) (hc : B 1 2 c) (hd : B 1 2 d) (w0 w1 w3 w4 w5 w6 w7 w8 w9 w10 w11 w12 w14 w15 w16 w23 w24 w25 w26 w27 w28 w29 w30 w31 w32 o17 : Option W) :
    ((sThen (sSet 17 (eBin wMulL (eLst (eCons (eTup (eCons (eC (.int (0))) (eCons (eC (.int (1))) eNil))) eNil)) (eBin wAdd (eVar 2) (eC (.int (1)))))) (sThen (sPut 17 (eVar 13) (eCall law_add (eCons (eCall law_mul (eCons (eTup (eCons (eBin wSub (eVar 2) (eVar 13)) (eCons (eC (.int (1))) eNil))) (eCons (eVar 18) eNil))) (eCons (eCall law_mul (eCons (eTup (eCons (eVar 13) (eCons (eC (.int (1))) eNil))) (eCons (eVar 21) eNil))) eNil)))) (sThen (sIf (eTest (eBin wLt (eVar 13) (eVar 2))) (sPut 17 (eBin wAdd (eVar 13) (eC (.int (1)))) (eCall law_mul (eCons (eTup (eCons (eBin wSub (eVar 2) (eVar 13)) (eCons (eC (.int (1))) eNil))) (eCons (eVar 19) eNil)))) sNext) (sThen (sIf (eTest (eBin wGt (eVar 13) (eC (.int (0))))) (sPut 17 (eBin wSub (eVar 13) (eC (.int (1)))) (eCall law_mul (eCons (eTup (eCons (eVar 13) (eCons (eC (.int (1))) eNil))) (eCons (eVar 20) eNil)))) sNext) (sIf (eTest (eBin wNe (eCallB gTuple (eCons (eLc (sSeq (eVar 22)) [32] (gN 32) etYes (eBin wIdx (eVar 32) (eVar 13))) eNil)) (eCallB gTuple (eCons (eVar 17) eNil)))) (sRet (eC (.bool false))) sNext)))))) [w0, w1, some (.int (n : Int)), w3, w4, w5, w6, w7, w8, w9, w10, w11, w12, some (.int (k : Int)), w14, w15, w16, o17, some (enc a), some (enc b), some (enc c), some (enc d), some (encT (mk (n + 1) (n + 1) (doF n a b c d))), w23, w24, w25, w26, w27, w28, w29, w30, w31, w32] t = .next [w0, w1, some (.int (n : Int)), w3, w4, w5, w6, w7, w8, w9, w10, w11, w12, some (.int (k : Int)), w14, w15, w16, some (.list ((lineL n k a b c d).map enc)), some (enc a), some (enc b), some (enc c), some (enc d), some (encT (mk (n + 1) (n + 1) (doF n a b c d))), w23, w24, w25, w26, w27, w28, w29, w30, w31, w32] t := by
  have nk : (n : Int) - (k : Int) = ((n - k : Nat) : Int) := by omega
  have B1 : B 0 3 (((n - k : Nat) : Int) : Rat) := nat_B (by omega)
  have B2 : B 0 3 (((k : Nat) : Int) : Rat) := nat_B (by omega)
  have o1 : ∀ {x : Rat}, B 0 3 x → Ok x := fun h => h.ok (by decide) (by decide)
  have o2 : ∀ {x : Rat}, B 1 2 x → Ok x := fun h => h.ok (by decide) (by decide)
  have o3 : ∀ {x y : Rat}, B 0 3 x → B 1 2 y → Ok (x * y) := fun h g => (h.mul g).ok (by decide) (by decide)
  have cN : ∀ {ρ : Sl}, ρ[2]? = some (some (.int (n : Int))) → ρ[13]? = some (some (.int (k : Int))) → eTup (eCons (eBin wSub (eVar 2) (eVar 13)) (eCons (eC (.int (1))) eNil)) ρ t = .ok (enc (((n - k : Nat) : Int) : Rat)) t := fun h2 h13 => by
    rw [enc_int, ← nk]
    exact e_tup (a_cons (e_bin (e_var h2) (e_var h13) rfl) (a_cons e_c a_nil)) (by simp)
  have cK : ∀ {ρ : Sl}, ρ[13]? = some (some (.int (k : Int))) → eTup (eCons (eVar 13) (eCons (eC (.int (1))) eNil)) ρ t = .ok (enc (((k : Nat) : Int) : Rat)) t := fun h13 => by
    rw [enc_int]
    exact e_tup (a_cons (e_var h13) (a_cons e_c a_nil)) (by simp)
  have rp : wMulL (.list [.tuple [.int 0, .int 1]]) (.int ((n : Int) + 1)) = some (.list ((List.replicate (n + 1) (0 : Rat)).map enc)) := by
    have : n = 0 ∨ n = 1 ∨ n = 2 ∨ n = 3 ∨ n = 4 ∨ n = 5 := by omega
    rcases this with rfl | rfl | rfl | rfl | rfl | rfl <;> kernel_rfl
  rw [then_next (ρ' := [w0, w1, some (.int (n : Int)), w3, w4, w5, w6, w7, w8, w9, w10, w11, w12, some (.int (k : Int)), w14, w15, w16, some (.list ((List.replicate (n + 1) (0 : Rat)).map enc)), some (enc a), some (enc b), some (enc c), some (enc d), some (encT (mk (n + 1) (n + 1) (doF n a b c d))), w23, w24, w25, w26, w27, w28, w29, w30, w31, w32]) (t' := t) (by exact x_set (e_bin (e_lst (a_cons p2c a_nil) (by simp)) (e_bin (e_var rfl) e_c rfl) rp))]
  rw [then_next (ρ' := [w0, w1, some (.int (n : Int)), w3, w4, w5, w6, w7, w8, w9, w10, w11, w12, some (.int (k : Int)), w14, w15, w16, some (.list (((List.replicate (n + 1) (0 : Rat)).set k ((((n - k : Nat) : Int) : Rat) * a + (((k : Nat) : Int) : Rat) * d)).map enc)), some (enc a), some (enc b), some (enc c), some (enc d), some (encT (mk (n + 1) (n + 1) (doF n a b c d))), w23, w24, w25, w26, w27, w28, w29, w30, w31, w32]) (t' := t) (by exact x_put rfl (e_call (a_cons (e_call (a_cons (cN rfl rfl) (a_cons (e_var rfl) a_nil)) (law_mul_spec (o1 B1) (o2 ha))) (a_cons (e_call (a_cons (cK rfl) (a_cons (e_var rfl) a_nil)) (law_mul_spec (o1 B2) (o2 hd))) a_nil)) (law_add_spec (o3 B1 ha) (o3 B2 hd))) (e_var rfl) (putL (by simp; omega)))]
  rw [then_next (ρ' := [w0, w1, some (.int (n : Int)), w3, w4, w5, w6, w7, w8, w9, w10, w11, w12, some (.int (k : Int)), w14, w15, w16, some (.list (((if k < n then ((List.replicate (n + 1) (0 : Rat)).set k ((((n - k : Nat) : Int) : Rat) * a + (((k : Nat) : Int) : Rat) * d)).set (k + 1) ((((n - k : Nat) : Int) : Rat) * b) else (List.replicate (n + 1) (0 : Rat)).set k ((((n - k : Nat) : Int) : Rat) * a + (((k : Nat) : Int) : Rat) * d))).map enc)), some (enc a), some (enc b), some (enc c), some (enc d), some (encT (mk (n + 1) (n + 1) (doF n a b c d))), w23, w24, w25, w26, w27, w28, w29, w30, w31, w32]) (t' := t) (by 
    by_cases h : k < n
    · rw [if_pos h]
      exact i_true' (t_test (e_bin (e_var rfl) (e_var rfl) (ltT (by omega)))) (x_put rfl (e_call (a_cons (cN rfl rfl) (a_cons (e_var rfl) a_nil)) (law_mul_spec (o1 B1) (o2 hb))) (e_bin (e_var rfl) e_c rfl) (putL (k := k + 1) (by simp; omega)))
    · rw [if_neg h]
      exact i_false (t_test (e_bin (e_var rfl) (e_var rfl) (ltF (by omega)))))]
  rw [then_next (ρ' := [w0, w1, some (.int (n : Int)), w3, w4, w5, w6, w7, w8, w9, w10, w11, w12, some (.int (k : Int)), w14, w15, w16, some (.list ((lineL n k a b c d).map enc)), some (enc a), some (enc b), some (enc c), some (enc d), some (encT (mk (n + 1) (n + 1) (doF n a b c d))), w23, w24, w25, w26, w27, w28, w29, w30, w31, w32]) (t' := t) (by 
    unfold lineL
    by_cases h : 0 < k
    · simp only [if_pos h]
      have k1 : (k : Int) - 1 = ((k - 1 : Nat) : Int) := by omega
      exact i_true' (t_test (e_bin (e_var rfl) e_c (gtT (by omega)))) (x_put rfl (e_call (a_cons (cK rfl) (a_cons (e_var rfl) a_nil)) (law_mul_spec (o1 B2) (o2 hc))) (e_bin (e_var rfl) e_c (by rw [s_wSub_int, k1])) (putL (k := k - 1) (by by_cases h1 : k < n <;> simp [h1] <;> omega)))
    · simp only [if_neg h]
      exact i_false (t_test (e_bin (e_var rfl) e_c (gtF (by omega)))))]
  have e := lineL_eq hk a b c d
  refine i_false (t_neF (f := lineL n k a b c d) ?_ (e_callB (a_cons (e_var rfl) a_nil) rfl))
  rw [← e]
  exact e_row (R := fun i => doF n a b c d i k) (g_seq (e_var rfl) seq_T) (by omega) fun i hi => ⟨_, rfl, e_bin (e_var rfl) (e_var rfl) (idx_R hk)⟩
theorem do_loop {n : Nat} {a b c d : Rat} {t : Tp} (hn : n ≤ 5) (ha : B 1 2 a) (hb : B 1 2 b) (hc : B 1 2 c) (hd : B 1 2 d) (w0 w1 w3 w4 w5 w6 w7 w8 w9 w10 w11 w12 w14 w15 w16 w23 w24 w25 w26 w27 w28 w29 w30 w31 w32 o13 o17 : Option W) :
    ∃ p13 p17 : Option W, ((sFor (sRng gRng1 (eCons (eBin wAdd (eVar 2) (eC (.int (1)))) eNil)) (gN 13) (sThen (sSet 17 (eBin wMulL (eLst (eCons (eTup (eCons (eC (.int (0))) (eCons (eC (.int (1))) eNil))) eNil)) (eBin wAdd (eVar 2) (eC (.int (1)))))) (sThen (sPut 17 (eVar 13) (eCall law_add (eCons (eCall law_mul (eCons (eTup (eCons (eBin wSub (eVar 2) (eVar 13)) (eCons (eC (.int (1))) eNil))) (eCons (eVar 18) eNil))) (eCons (eCall law_mul (eCons (eTup (eCons (eVar 13) (eCons (eC (.int (1))) eNil))) (eCons (eVar 21) eNil))) eNil)))) (sThen (sIf (eTest (eBin wLt (eVar 13) (eVar 2))) (sPut 17 (eBin wAdd (eVar 13) (eC (.int (1)))) (eCall law_mul (eCons (eTup (eCons (eBin wSub (eVar 2) (eVar 13)) (eCons (eC (.int (1))) eNil))) (eCons (eVar 19) eNil)))) sNext) (sThen (sIf (eTest (eBin wGt (eVar 13) (eC (.int (0))))) (sPut 17 (eBin wSub (eVar 13) (eC (.int (1)))) (eCall law_mul (eCons (eTup (eCons (eVar 13) (eCons (eC (.int (1))) eNil))) (eCons (eVar 20) eNil)))) sNext) (sIf (eTest (eBin wNe (eCallB gTuple (eCons (eLc (sSeq (eVar 22)) [32] (gN 32) etYes (eBin wIdx (eVar 32) (eVar 13))) eNil)) (eCallB gTuple (eCons (eVar 17) eNil)))) (sRet (eC (.bool false))) sNext))))))) [w0, w1, some (.int (n : Int)), w3, w4, w5, w6, w7, w8, w9, w10, w11, w12, o13, w14, w15, w16, o17, some (enc a), some (enc b), some (enc c), some (enc d), some (encT (mk (n + 1) (n + 1) (doF n a b c d))), w23, w24, w25, w26, w27, w28, w29, w30, w31, w32] t = .next [w0, w1, some (.int (n : Int)), w3, w4, w5, w6, w7, w8, w9, w10, w11, w12, p13, w14, w15, w16, p17, some (enc a), some (enc b), some (enc c), some (enc d), some (encT (mk (n + 1) (n + 1) (doF n a b c d))), w23, w24, w25, w26, w27, w28, w29, w30, w31, w32] t := by
  obtain ⟨ρ', e, p13, p17, rfl⟩ := sfor_pred (t := t) (src := (sRng gRng1 (eCons (eBin wAdd (eVar 2) (eC (.int (1)))) eNil))) (g := gN 13) (body := (sThen (sSet 17 (eBin wMulL (eLst (eCons (eTup (eCons (eC (.int (0))) (eCons (eC (.int (1))) eNil))) eNil)) (eBin wAdd (eVar 2) (eC (.int (1)))))) (sThen (sPut 17 (eVar 13) (eCall law_add (eCons (eCall law_mul (eCons (eTup (eCons (eBin wSub (eVar 2) (eVar 13)) (eCons (eC (.int (1))) eNil))) (eCons (eVar 18) eNil))) (eCons (eCall law_mul (eCons (eTup (eCons (eVar 13) (eCons (eC (.int (1))) eNil))) (eCons (eVar 21) eNil))) eNil)))) (sThen (sIf (eTest (eBin wLt (eVar 13) (eVar 2))) (sPut 17 (eBin wAdd (eVar 13) (eC (.int (1)))) (eCall law_mul (eCons (eTup (eCons (eBin wSub (eVar 2) (eVar 13)) (eCons (eC (.int (1))) eNil))) (eCons (eVar 19) eNil)))) sNext) (sThen (sIf (eTest (eBin wGt (eVar 13) (eC (.int (0))))) (sPut 17 (eBin wSub (eVar 13) (eC (.int (1)))) (eCall law_mul (eCons (eTup (eCons (eVar 13) (eCons (eC (.int (1))) eNil))) (eCons (eVar 20) eNil)))) sNext) (sIf (eTest (eBin wNe (eCallB gTuple (eCons (eLc (sSeq (eVar 22)) [32] (gN 32) etYes (eBin wIdx (eVar 32) (eVar 13))) eNil)) (eCallB gTuple (eCons (eVar 17) eNil)))) (sRet (eC (.bool false))) sNext)))))) (items := (List.range (n + 1)).map fun i : Nat => (.int (i : Int) : W))
    (fun i ρ => ∃ p13 p17 : Option W, ρ = [w0, w1, some (.int (n : Int)), w3, w4, w5, w6, w7, w8, w9, w10, w11, w12, p13, w14, w15, w16, p17, some (enc a), some (enc b), some (enc c), some (enc d), some (encT (mk (n + 1) (n + 1) (doF n a b c d))), w23, w24, w25, w26, w27, w28, w29, w30, w31, w32])
    [w0, w1, some (.int (n : Int)), w3, w4, w5, w6, w7, w8, w9, w10, w11, w12, o13, w14, w15, w16, o17, some (enc a), some (enc b), some (enc c), some (enc d), some (encT (mk (n + 1) (n + 1) (doF n a b c d))), w23, w24, w25, w26, w27, w28, w29, w30, w31, w32]
    (g_rng1 (n := n + 1) (a_cons (e_bin (e_var rfl) e_c rfl) a_nil) (by omega)) ⟨_, _, rfl⟩
    fun i w ρ hw ⟨p13, p17, e⟩ => by
      subst e
      obtain ⟨hi, rfl⟩ := rng_item hw
      exact ⟨_, _, rfl, do_step (t := t) (k := i) hn hi ha hb hc hd w0 w1 w3 w4 w5 w6 w7 w8 w9 w10 w11 w12 w14 w15 w16 w23 w24 w25 w26 w27 w28 w29 w30 w31 w32 p17, _, _, rfl⟩
  exact ⟨_, _, e⟩
theorem law_holds (ns : List Int) (hl : ns.length ≤ 63) : law [.list (ns.map PyData.int)] = .ok (.bool true) := by
  obtain ⟨cells, seed, ht, hs⟩ := tape_ok ns hl
  have g0 : Good (some (cells, seed)) := ⟨_, _, rfl, hs⟩
  obtain ⟨n, t1, e1, hn', g1⟩ := draw_spec g0 (m := 6) (by decide) (by decide)
  have hn : n ≤ 5 := by omega
  have e1' : law_draw [.int 6] (some (cells, seed)) = .ok (.int (n : Int)) t1 := e1
  obtain ⟨a, b, c, d, t2, e2, hC, g2⟩ := change_spec g1
  obtain ⟨p, q, r, s, t3, e3, hO, g3⟩ := change_spec g2
  unfold law
  rw [runL_eq ht]
  generalize hS : (PyData.list (ns.map PyData.int) : W) = S
  rw [then_next (ρ' := [some S, none, some (.int (n : Int)), some (encF [a, b, c, d]), some (encF [p, q, r, s]), none, none, none, none, none, none, none, none, none, none, none, none, none, none, none, none, none, none, none, none, none, none, none, none, none, none, none, none]) (t' := t3) (by exact T_asg (T_tup (T_cons (T_callT (a_cons e_c a_nil) e1') (T_cons (T_callT a_nil e2) (T_cons (T_callT a_nil e3) a_nil))) (by simp)) rfl)]
  obtain ⟨f, t4, e4, lf', bf, g4⟩ := fracs_spec (ρ := wipeW [some S, none, some (.int (n : Int)), some (encF [a, b, c, d]), some (encF [p, q, r, s]), none, none, none, none, none, none, none, none, none, none, none, none, none, none, none, none, none, none, none, none, none, none, none, none, none, none, none, none] [30]) (i := 30) ((List.range (n + 1)).map fun i : Nat => (.int (i : Int) : W)) t3 g3
  have lf : f.length = n + 1 := by rw [lf']; simp
  rw [then_next (ρ' := [some S, none, some (.int (n : Int)), some (encF [a, b, c, d]), some (encF [p, q, r, s]), some (encF f), none, none, none, none, none, none, none, none, none, none, none, none, none, none, none, none, none, none, none, none, none, none, none, none, none, none, none]) (t' := t4) (by exact T_set (T_callB (T_cons (t1 := t4) (T_lc (g_rng1 (n := n + 1) (a_cons (e_bin (e_var rfl) e_c rfl) a_nil) (by omega)) (by simp; omega) e4) a_nil) rfl))]
  have bT := Tt_B (n := n) hC.bp hC.bq rfl rfl hn (by decide) (by decide) (n + 1) (n + 1)
  have bO := Tt_B (n := n) hO.bp hO.bq rfl rfl hn (by decide) (by decide) (n + 1) (n + 1)
  have eT := table_of_spec hC.bp hC.bq hn (by decide) (by decide)
  have eO := table_of_spec hO.bp hO.bq hn (by decide) (by decide)
  rw [then_next (ρ' := [some S, none, some (.int (n : Int)), some (encF [a, b, c, d]), some (encF [p, q, r, s]), some (encF f), some (encT (mk (n + 1) (n + 1) (Tt n [a, b] [c, d]))), none, none, none, none, none, none, none, none, none, none, none, none, none, none, none, none, none, none, none, none, none, none, none, none, none, none]) (t' := t4) (by exact x_set (e_call (a_cons (e_var rfl) (a_cons (e_var rfl) a_nil)) eT))]
  rw [then_next (ρ' := [some S, none, some (.int (n : Int)), some (encF [a, b, c, d]), some (encF [p, q, r, s]), some (encF f), some (encT (mk (n + 1) (n + 1) (Tt n [a, b] [c, d]))), some (encT (mk (n + 1) 1 fun i _ => f.getD i 0)), none, none, none, none, none, none, none, none, none, none, none, none, none, none, none, none, none, none, none, none, none, none, none, none, none]) (t' := t4) (by exact x_set (e_rows (F := fun i _ => f.getD i 0) (g_seq (e_var rfl) (seq_F lf)) (by omega) fun i hi => ⟨_, rfl, e_tup (a_cons (e_var rfl) a_nil) (show 1 ≤ 1000 by decide)⟩))]
  have eD := law_changed_spec bf hC.bp hC.bq (by omega) (by omega) (by decide) (by decide)
  rw [then_next (ρ' := [some S, none, some (.int (n : Int)), some (encF [a, b, c, d]), some (encF [p, q, r, s]), some (encF f), some (encT (mk (n + 1) (n + 1) (Tt n [a, b] [c, d]))), some (encT (mk (n + 1) 1 fun i _ => f.getD i 0)), some (encF (chg f [a, b] [c, d])), none, none, none, none, none, none, none, none, none, none, none, none, none, none, none, none, none, none, none, none, none, none, none, none]) (t' := t4) (by exact x_set (e_call (a_cons (e_var rfl) (a_cons (e_var rfl) a_nil)) eD))]
  have bcol : TB 1 2 (n + 1) 1 (fun i _ => f.getD i 0) := fun i _ _ _ => bf.get i
  have eM := law_times_spec bT bcol (by omega) (by omega) (by omega) (by decide) (by decide) (by decide)
  have fx : rowL (n + 1) (fun i => mulT (n + 1) (Tt n [a, b] [c, d]) (fun i _ => f.getD i 0) i 0) = chg f [a, b] [c, d] := T_form rfl rfl lf
  have X5 : (eCallB gTuple (eCons (eLc (sSeq (eCall law_times (eCons (eVar 6) (eCons (eVar 7) eNil)))) [32] (gN 32) etYes (eBin wIdx (eVar 32) (eC (.int (0))))) eNil)) [some S, none, some (.int (n : Int)), some (encF [a, b, c, d]), some (encF [p, q, r, s]), some (encF f), some (encT (mk (n + 1) (n + 1) (Tt n [a, b] [c, d]))), some (encT (mk (n + 1) 1 fun i _ => f.getD i 0)), some (encF (chg f [a, b] [c, d])), none, none, none, none, none, none, none, none, none, none, none, none, none, none, none, none, none, none, none, none, none, none, none, none] t4 = .ok (encF (chg f [a, b] [c, d])) t4 := by
    rw [← fx]
    exact e_row (R := fun i => mulT (n + 1) (Tt n [a, b] [c, d]) (fun i _ => f.getD i 0) i 0) (g_seq (e_call (a_cons (e_var rfl) (a_cons (e_var rfl) a_nil)) eM) seq_T) (by omega) fun i hi => ⟨_, rfl, e_bin (e_var rfl) e_c (idx_R (k := 0) (by decide))⟩
  have lD : (chg f [a, b] [c, d]).length = n + 1 := by rw [chg_len rfl rfl, lf]
  have eP := changed_P bf hC.bp hC.bq lf hn (by decide) (by decide)
  have sm := same (Pl.encF 37 (f := chg f [a, b] [c, d]) (by omega))
  rw [then_next (ρ' := [some S, none, some (.int (n : Int)), some (encF [a, b, c, d]), some (encF [p, q, r, s]), some (encF f), some (encT (mk (n + 1) (n + 1) (Tt n [a, b] [c, d]))), some (encT (mk (n + 1) 1 fun i _ => f.getD i 0)), some (encF (chg f [a, b] [c, d])), none, none, none, none, none, none, none, none, none, none, none, none, none, none, none, none, none, none, none, none, none, none, none, none]) (t' := t4) (by exact i_false (t_orF (v := false) (t_not (v := true) (t_test (e_call (a_cons X5 (a_cons (e_var rfl) a_nil)) sm))) (t_not (v := true) (t_test (e_call (a_cons (e_call (a_cons (e_var rfl) (a_cons (e_var rfl) a_nil)) eP) (a_cons (e_var rfl) a_nil)) sm)))))]
  rw [then_next (ρ' := [some S, none, some (.int (n : Int)), some (encF [a, b, c, d]), some (encF [p, q, r, s]), some (encF f), some (encT (mk (n + 1) (n + 1) (Tt n [a, b] [c, d]))), some (encT (mk (n + 1) 1 fun i _ => f.getD i 0)), some (encF (chg f [a, b] [c, d])), some (encF [a * p + b * r, a * q + b * s, c * p + d * r, c * q + d * s]), none, none, none, none, none, none, none, none, none, none, none, none, none, none, none, none, none, none, none, none, none, none, none]) (t' := t4) (by exact x_set (e_call (a_cons (e_var rfl) (a_cons (e_var rfl) a_nil)) (after_spec hC.c4 hO.c4)))]
  obtain ⟨bb1, bb2⟩ := hC.both hO
  have bD := chg_BF bf hC.bp hC.bq rfl rfl (by omega) (by decide) (by decide)
  have k1 := changed_P bD hO.bp hO.bq lD hn (by decide) (by decide)
  rw [chg_chg] at k1
  have k2 := changed_P bf bb1 bb2 lf hn (by decide) (by decide)
  have k3 := table_of_spec bb1 bb2 hn (by decide) (by decide)
  have k4 := law_times_spec bO bT (by omega) (by omega) (by omega) (by omega) (by decide) (by decide)
  rw [mk_congr T_mul] at k4
  have k5 := times_spec bT bT (by omega) (by omega) (by omega) (by omega) (by decide) (by decide)
  have k6 := law_times_spec bT bT (by omega) (by omega) (by omega) (by omega) (by decide) (by decide)
  rw [then_next (ρ' := [some S, none, some (.int (n : Int)), some (encF [a, b, c, d]), some (encF [p, q, r, s]), some (encF f), some (encT (mk (n + 1) (n + 1) (Tt n [a, b] [c, d]))), some (encT (mk (n + 1) 1 fun i _ => f.getD i 0)), some (encF (chg f [a, b] [c, d])), some (encF [a * p + b * r, a * q + b * s, c * p + d * r, c * q + d * s]), none, none, none, none, none, none, none, none, none, none, none, none, none, none, none, none, none, none, none, none, none, none, none]) (t' := t4) (by exact i_false (t_orF (v := false) (t_neF (e_call (a_cons (e_var rfl) (a_cons (e_var rfl) a_nil)) k1) (e_call (a_cons (e_var rfl) (a_cons (e_var rfl) a_nil)) k2)) (t_orF (v := false) (t_neT (e_call (a_cons (e_var rfl) (a_cons (e_var rfl) a_nil)) k3) (e_call (a_cons (e_call (a_cons (e_var rfl) (a_cons (e_var rfl) a_nil)) eO) (a_cons (e_var rfl) a_nil)) k4)) (t_neT (e_call (a_cons (e_var rfl) (a_cons (e_var rfl) a_nil)) k5) (e_call (a_cons (e_var rfl) (a_cons (e_var rfl) a_nil)) k6)))))]
  rw [then_next (ρ' := [some S, none, some (.int (n : Int)), some (encF [a, b, c, d]), some (encF [p, q, r, s]), some (encF f), some (encT (mk (n + 1) (n + 1) (Tt n [a, b] [c, d]))), some (encT (mk (n + 1) 1 fun i _ => f.getD i 0)), some (encF (chg f [a, b] [c, d])), some (encF [a * p + b * r, a * q + b * s, c * p + d * r, c * q + d * s]), some (encT (mk (n + 1) (n + 1) (upF n))), some (encT (mk (n + 1) (n + 1) dnF)), some (encT (mk (n + 1) (n + 1) (wtF n))), none, none, none, none, none, none, none, none, none, none, none, none, none, none, none, none, none, none, none, none]) (t' := t4) (by exact x_asg (e_tup (a_cons (e_call (a_cons (e_var rfl) a_nil) (step_up_spec hn)) (a_cons (e_call (a_cons (e_var rfl) a_nil) (step_down_spec hn)) (a_cons (e_call (a_cons (e_var rfl) a_nil) (weight_spec hn)) a_nil))) (by simp)) rfl)]
  obtain ⟨x13, x14, x15, x16, x17, e9⟩ := line_loop (t := t4) hn (some S) none (some (encF [a, b, c, d])) (some (encF [p, q, r, s])) (some (encF f)) (some (encT (mk (n + 1) (n + 1) (Tt n [a, b] [c, d])))) (some (encT (mk (n + 1) 1 fun i _ => f.getD i 0))) (some (encF (chg f [a, b] [c, d]))) (some (encF [a * p + b * r, a * q + b * s, c * p + d * r, c * q + d * s])) none none none none none none none none none none none none none none none none none none none none
  rw [then_next e9]
  have bu := up_B hn (n + 1) (n + 1)
  have bd := dn_B (r := n + 1) (c := n + 1) (by omega)
  have bw := wt_B (r := n + 1) (c := n + 1) hn (by omega)
  have r1 := bracket_spec bw bu (by omega) (by omega) (by decide) (by decide)
  rw [mk_congr (br_up n hn)] at r1
  have r2 := bracket_spec bw bd (by omega) (by omega) (by decide) (by decide)
  rw [mk_congr (br_dn n hn)] at r2
  have r3 := bracket_spec bd bu (by omega) (by omega) (by decide) (by decide)
  rw [mk_congr (br_wt n hn)] at r3
  have s1 := scaled_spec bu (B.int (d := 0) (a := 2) (-2) (by decide)) (by omega) (by omega) (by decide) (by decide) (by decide) (by decide)
  have s2 := scaled_spec bd (B.int (d := 0) (a := 2) 2 (by decide)) (by omega) (by omega) (by decide) (by decide) (by decide) (by decide)
  rw [then_next (ρ' := [some S, none, some (.int (n : Int)), some (encF [a, b, c, d]), some (encF [p, q, r, s]), some (encF f), some (encT (mk (n + 1) (n + 1) (Tt n [a, b] [c, d]))), some (encT (mk (n + 1) 1 fun i _ => f.getD i 0)), some (encF (chg f [a, b] [c, d])), some (encF [a * p + b * r, a * q + b * s, c * p + d * r, c * q + d * s]), some (encT (mk (n + 1) (n + 1) (upF n))), some (encT (mk (n + 1) (n + 1) dnF)), some (encT (mk (n + 1) (n + 1) (wtF n))), x13, x14, x15, x16, x17, none, none, none, none, none, none, none, none, none, none, none, none, none, none, none]) (t' := t4) (by exact i_false (t_orF (v := false) (t_neT (e_call (a_cons (e_var rfl) (a_cons (e_var rfl) a_nil)) r1) (e_call (a_cons (w := enc ((-2 : Int) : Rat)) (e_tup (ws := [.int (-2), .int 1]) (a_cons (e_un e_c rfl) (a_cons e_c a_nil)) (by simp)) (a_cons (e_var rfl) a_nil)) s1)) (t_orF (v := false) (t_neT (e_call (a_cons (e_var rfl) (a_cons (e_var rfl) a_nil)) r2) (e_call (a_cons (w := enc ((2 : Int) : Rat)) (e_tup (ws := [.int 2, .int 1]) (a_cons e_c (a_cons e_c a_nil)) (by simp)) (a_cons (e_var rfl) a_nil)) s2)) (t_neT (e_call (a_cons (e_var rfl) (a_cons (e_var rfl) a_nil)) r3) (e_var rfl)))))]
  have u1 := bracket_spec bu bT (by omega) (by omega) (by decide) (by decide)
  have u2 := times_spec bu bT (by omega) (by omega) (by omega) (by omega) (by decide) (by decide)
  have u3 := times_spec bT bu (by omega) (by omega) (by omega) (by omega) (by decide) (by decide)
  have b2 := bu.times (c := n + 1) bT (by omega)
  have b3 := bT.times (c := n + 1) bu (by omega)
  have u4 := scaled_spec b3 m1_B (by omega) (by omega) (by decide) (by decide) (by decide) (by decide)
  have u5 := plus_spec b2 (b3.mul m1_B) (by omega) (by omega) (by decide) (by decide) (by decide) (by decide)
  have uI := table_of_spec (n := n) (g := 0) (y := 0) (a := 1) (b := 0) (c := 0) (d := 1) (BF.two B.one B.zero) (BF.two B.zero B.one) hn (by decide) (by decide)
  rw [mk_congr (T_id n)] at uI
  rw [then_next (ρ' := [some S, none, some (.int (n : Int)), some (encF [a, b, c, d]), some (encF [p, q, r, s]), some (encF f), some (encT (mk (n + 1) (n + 1) (Tt n [a, b] [c, d]))), some (encT (mk (n + 1) 1 fun i _ => f.getD i 0)), some (encF (chg f [a, b] [c, d])), some (encF [a * p + b * r, a * q + b * s, c * p + d * r, c * q + d * s]), some (encT (mk (n + 1) (n + 1) (upF n))), some (encT (mk (n + 1) (n + 1) dnF)), some (encT (mk (n + 1) (n + 1) (wtF n))), x13, x14, x15, x16, x17, none, none, none, none, none, none, none, none, none, none, none, none, none, none, none]) (t' := t4) (by exact i_false (t_orF (v := false) (t_neT (f := mk (n + 1) (n + 1) (brF (n + 1) (upF n) (Tt n [a, b] [c, d]))) (e_call (a_cons (e_var rfl) (a_cons (e_var rfl) a_nil)) u1) (e_call (a_cons (e_call (a_cons (e_var rfl) (a_cons (e_var rfl) a_nil)) u2) (a_cons (e_call (a_cons (w := enc (-1)) (e_tup (ws := [.int (-1), .int 1]) (a_cons (e_un e_c rfl) (a_cons e_c a_nil)) (by simp)) (a_cons (e_call (a_cons (e_var rfl) (a_cons (e_var rfl) a_nil)) u3) a_nil)) u4) a_nil)) u5)) (t_neT (f := mk (n + 1) (n + 1) unF) (e_call (a_cons (e_var rfl) a_nil) (unit_spec hn)) (e_call (a_cons (w := encF [1, 0, 0, 1]) (e_tup (a_cons p2c (a_cons p2c (a_cons p2c (a_cons p2c a_nil)))) (by simp)) (a_cons (e_var rfl) a_nil)) uI))))]
  refine forget_fin ?_
  have mB := mid_B hn
  obtain ⟨ml1, ml2⟩ := mid_law hn
  have ms := scaled_spec (un_B (n + 1) (n + 1)) mB (by omega) (by omega) (by decide) (by decide) (by decide) (by decide)
  show endF false (sThen _ _ [some S, none, some (.int (n : Int)), some (encF [a, b, c, d]), some (encF [p, q, r, s]), some (encF f), some (encT (mk (n + 1) (n + 1) (Tt n [a, b] [c, d]))), some (encT (mk (n + 1) 1 fun i _ => f.getD i 0)), some (encF (chg f [a, b] [c, d])), some (encF [a * p + b * r, a * q + b * s, c * p + d * r, c * q + d * s]), some (encT (mk (n + 1) (n + 1) (upF n))), some (encT (mk (n + 1) (n + 1) dnF)), some (encT (mk (n + 1) (n + 1) (wtF n))), x13, x14, x15, x16, none, none, none, none, none, none, none, none, none, none, none, none, none, none, none, none] t4) = _
  rw [then_next (ρ' := [some S, none, some (.int (n : Int)), some (encF [a, b, c, d]), some (encF [p, q, r, s]), some (encF f), some (encT (mk (n + 1) (n + 1) (Tt n [a, b] [c, d]))), some (encT (mk (n + 1) 1 fun i _ => f.getD i 0)), some (encF (chg f [a, b] [c, d])), some (encF [a * p + b * r, a * q + b * s, c * p + d * r, c * q + d * s]), some (encT (mk (n + 1) (n + 1) (upF n))), some (encT (mk (n + 1) (n + 1) dnF)), some (encT (mk (n + 1) (n + 1) (wtF n))), x13, x14, x15, x16, none, none, none, none, none, none, none, none, none, none, none, none, none, none, none, none]) (t' := t4) (by exact i_false (t_orF (v := false) (t_neT (e_call (a_cons (e_var rfl) a_nil) (middle_spec hn)) (e_call (a_cons (e_call (a_cons (e_var rfl) a_nil) (mid_num hn)) (a_cons (e_call (a_cons (e_var rfl) a_nil) (unit_spec hn)) a_nil)) ms)) (t_neQ (e_call (a_cons (e_var rfl) a_nil) (mid_num hn)) (e_call (a_cons (e_bin (e_var rfl) (e_bin (e_var rfl) e_c rfl) ml1) (a_cons e_c a_nil)) ml2))))]
  obtain ⟨f4, t5, e5, l4, b4, g5⟩ := fracs_spec (ρ := wipeW [some S, none, some (.int (n : Int)), some (encF [a, b, c, d]), some (encF [p, q, r, s]), some (encF f), some (encT (mk (n + 1) (n + 1) (Tt n [a, b] [c, d]))), some (encT (mk (n + 1) 1 fun i _ => f.getD i 0)), some (encF (chg f [a, b] [c, d])), some (encF [a * p + b * r, a * q + b * s, c * p + d * r, c * q + d * s]), some (encT (mk (n + 1) (n + 1) (upF n))), some (encT (mk (n + 1) (n + 1) dnF)), some (encT (mk (n + 1) (n + 1) (wtF n))), x13, x14, x15, x16, none, none, none, none, none, none, none, none, none, none, none, none, none, none, none, none] [30]) (i := 30) ((List.range 4).map fun i : Nat => (.int (i : Int) : W)) t4 g4
  have l4' : f4.length = 4 := by rw [l4]; simp
  rcases f4 with _ | ⟨fa, _ | ⟨fb, _ | ⟨fc, _ | ⟨fd, _ | ⟨_, _⟩⟩⟩⟩⟩ <;> try (simp at l4'; done)
  have ha : B 1 2 fa := b4 _ (by simp)
  have hb : B 1 2 fb := b4 _ (by simp)
  have hc : B 1 2 fc := b4 _ (by simp)
  have hd : B 1 2 fd := b4 _ (by simp)
  rw [then_next (ρ' := [some S, none, some (.int (n : Int)), some (encF [a, b, c, d]), some (encF [p, q, r, s]), some (encF f), some (encT (mk (n + 1) (n + 1) (Tt n [a, b] [c, d]))), some (encT (mk (n + 1) 1 fun i _ => f.getD i 0)), some (encF (chg f [a, b] [c, d])), some (encF [a * p + b * r, a * q + b * s, c * p + d * r, c * q + d * s]), some (encT (mk (n + 1) (n + 1) (upF n))), some (encT (mk (n + 1) (n + 1) dnF)), some (encT (mk (n + 1) (n + 1) (wtF n))), x13, x14, x15, x16, none, some (enc fa), some (enc fb), some (enc fc), some (enc fd), none, none, none, none, none, none, none, none, none, none, none]) (t' := t5) (by exact T_asg (T_lc (g_rng1 (n := 4) (a_cons e_c a_nil) (by decide)) (by simp) e5) rfl)]
  rw [then_next (ρ' := [some S, none, some (.int (n : Int)), some (encF [a, b, c, d]), some (encF [p, q, r, s]), some (encF f), some (encT (mk (n + 1) (n + 1) (Tt n [a, b] [c, d]))), some (encT (mk (n + 1) 1 fun i _ => f.getD i 0)), some (encF (chg f [a, b] [c, d])), some (encF [a * p + b * r, a * q + b * s, c * p + d * r, c * q + d * s]), some (encT (mk (n + 1) (n + 1) (upF n))), some (encT (mk (n + 1) (n + 1) dnF)), some (encT (mk (n + 1) (n + 1) (wtF n))), x13, x14, x15, x16, none, some (enc fa), some (enc fb), some (enc fc), some (enc fd), some (encT (mk (n + 1) (n + 1) (doF n fa fb fc fd))), none, none, none, none, none, none, none, none, none, none]) (t' := t5) (by exact x_set (e_call (a_cons (w := encF [fa, fb, fc, fd]) (e_tup (a_cons (e_var rfl) (a_cons (e_var rfl) (a_cons (e_var rfl) (a_cons (e_var rfl) a_nil)))) (by simp)) (a_cons (e_var rfl) a_nil)) (doing_spec hn ha hb hc hd)))]
  obtain ⟨y13, y17, e10⟩ := do_loop (t := t5) hn ha hb hc hd (some S) none (some (encF [a, b, c, d])) (some (encF [p, q, r, s])) (some (encF f)) (some (encT (mk (n + 1) (n + 1) (Tt n [a, b] [c, d])))) (some (encT (mk (n + 1) 1 fun i _ => f.getD i 0))) (some (encF (chg f [a, b] [c, d]))) (some (encF [a * p + b * r, a * q + b * s, c * p + d * r, c * q + d * s])) (some (encT (mk (n + 1) (n + 1) (upF n)))) (some (encT (mk (n + 1) (n + 1) dnF))) (some (encT (mk (n + 1) (n + 1) (wtF n)))) x14 x15 x16 none none none none none none none none none none x13 none
  rw [then_next e10]
  have x1 := scaled_spec bu hb (by omega) (by omega) (by decide) (by decide) (by decide) (by decide)
  have x2 := exp_up_spec hn hb
  have x3 := table_of_spec (n := n) (g := 1) (y := 2) (a := 1) (b := fb) (c := 0) (d := 1) (BF.two B.one hb) (BF.two B.zero B.one) hn (by decide) (by decide)
  have x4 := scaled_spec bd hb (by omega) (by omega) (by decide) (by decide) (by decide) (by decide)
  have x5 := exp_dn_spec hn hb
  have x6 := table_of_spec (n := n) (g := 1) (y := 2) (a := 1) (b := 0) (c := fb) (d := 1) (BF.two B.one B.zero) (BF.two hb B.one) hn (by decide) (by decide)
  rw [then_next (ρ' := [some S, none, some (.int (n : Int)), some (encF [a, b, c, d]), some (encF [p, q, r, s]), some (encF f), some (encT (mk (n + 1) (n + 1) (Tt n [a, b] [c, d]))), some (encT (mk (n + 1) 1 fun i _ => f.getD i 0)), some (encF (chg f [a, b] [c, d])), some (encF [a * p + b * r, a * q + b * s, c * p + d * r, c * q + d * s]), some (encT (mk (n + 1) (n + 1) (upF n))), some (encT (mk (n + 1) (n + 1) dnF)), some (encT (mk (n + 1) (n + 1) (wtF n))), y13, x14, x15, x16, y17, some (enc fa), some (enc fb), some (enc fc), some (enc fd), some (encT (mk (n + 1) (n + 1) (doF n fa fb fc fd))), none, none, none, none, none, none, none, none, none, none]) (t' := t5) (by exact i_false (t_orF (v := false) (t_neT (e_call (a_cons (e_call (a_cons (e_var rfl) (a_cons (e_var rfl) a_nil)) x1) a_nil) x2) (e_call (a_cons (w := encF [1, fb, 0, 1]) (e_tup (a_cons p2c (a_cons (e_var rfl) (a_cons p2c (a_cons p2c a_nil)))) (by simp)) (a_cons (e_var rfl) a_nil)) x3)) (t_neT (e_call (a_cons (e_call (a_cons (e_var rfl) (a_cons (e_var rfl) a_nil)) x4) a_nil) x5) (e_call (a_cons (w := encF [1, 0, fb, 1]) (e_tup (a_cons p2c (a_cons p2c (a_cons (e_var rfl) (a_cons p2c a_nil)))) (by simp)) (a_cons (e_var rfl) a_nil)) x6))))]
  have q5 : (eAndT (eTest (eBin wGt (eVar 2) (eC (.int (0))))) (eTest (eBin wNe (eToldB 3 [(X_BadChange, (.str "change")), (X_BadNumber, (.str "number"))] (eCall moves_exponential (eCons (eVar 12) eNil))) (eC (.str "number"))))) [some S, none, some (.int (n : Int)), some (encF [a, b, c, d]), some (encF [p, q, r, s]), some (encF f), some (encT (mk (n + 1) (n + 1) (Tt n [a, b] [c, d]))), some (encT (mk (n + 1) 1 fun i _ => f.getD i 0)), some (encF (chg f [a, b] [c, d])), some (encF [a * p + b * r, a * q + b * s, c * p + d * r, c * q + d * s]), some (encT (mk (n + 1) (n + 1) (upF n))), some (encT (mk (n + 1) (n + 1) dnF)), some (encT (mk (n + 1) (n + 1) (wtF n))), y13, x14, x15, x16, y17, some (enc fa), some (enc fb), some (enc fc), some (enc fd), some (encT (mk (n + 1) (n + 1) (doF n fa fb fc fd))), none, none, none, none, none, none, none, none, none, none] t5 = .ok false t5 := by
    by_cases z : n = 0
    · exact t_andF (t_test (e_bin (e_var rfl) e_c (gtF (by omega))))
    · exact t_andT (t_test (e_bin (e_var rfl) e_c (gtT (by omega)))) (t_test (e_bin (told_T (a_cons (e_var rfl) a_nil) (exp_bad (bw.mono (by decide) (by decide)) hn (heavy_ne n hn z)) (w := .str "number") (by kernel_rfl)) e_c (by kernel_rfl)))
  rw [then_next (ρ' := [some S, none, some (.int (n : Int)), some (encF [a, b, c, d]), some (encF [p, q, r, s]), some (encF f), some (encT (mk (n + 1) (n + 1) (Tt n [a, b] [c, d]))), some (encT (mk (n + 1) 1 fun i _ => f.getD i 0)), some (encF (chg f [a, b] [c, d])), some (encF [a * p + b * r, a * q + b * s, c * p + d * r, c * q + d * s]), some (encT (mk (n + 1) (n + 1) (upF n))), some (encT (mk (n + 1) (n + 1) dnF)), some (encT (mk (n + 1) (n + 1) (wtF n))), y13, x14, x15, x16, y17, some (enc fa), some (enc fb), some (enc fc), some (enc fd), some (encT (mk (n + 1) (n + 1) (doF n fa fb fc fd))), none, none, none, none, none, none, none, none, none, none]) (t' := t5) (by exact i_false q5)]
  rw [then_next (ρ' := [some S, none, some (.int (n : Int)), some (encF [a, b, c, d]), some (encF [p, q, r, s]), some (encF f), some (encT (mk (n + 1) (n + 1) (Tt n [a, b] [c, d]))), some (encT (mk (n + 1) 1 fun i _ => f.getD i 0)), some (encF (chg f [a, b] [c, d])), some (encF [a * p + b * r, a * q + b * s, c * p + d * r, c * q + d * s]), some (encT (mk (n + 1) (n + 1) (upF n))), some (encT (mk (n + 1) (n + 1) dnF)), some (encT (mk (n + 1) (n + 1) (wtF n))), y13, x14, x15, x16, y17, some (enc fa), some (enc fb), some (enc fc), some (enc fd), some (encT (mk (n + 1) (n + 1) (doF n fa fb fc fd))), some (encT (mk (n + 1) (n + 1) fun i j => Tt n [a, b] [c, d] j i)), none, none, none, none, none, none, none, none, none]) (t' := t5) (by exact x_set (e_rows (F := fun i j => Tt n [a, b] [c, d] j i) (g_rng1 (n := n + 1) (a_cons (e_bin (e_var rfl) e_c rfl) a_nil) (by omega)) (by omega) fun i hi => ⟨_, rfl, e_row (R := fun j => Tt n [a, b] [c, d] j i) (g_seq (e_var rfl) seq_T) (by omega) fun j hj => ⟨_, rfl, e_bin (e_var rfl) (e_var rfl) (idx_R hi)⟩⟩))]
  have d1 := law_mul_spec (B39 hC.xa) (B39 hC.xd)
  have d2 := law_mul_spec (B39 hC.xb) (B39 hC.xc)
  have d3 := law_add_spec (B618 hC.ad) (B618 hC.bc.neg)
  rw [show a * d + -(b * c) = a * d - b * c by grind] at d3
  rw [then_next (ρ' := [some S, none, some (.int (n : Int)), some (encF [a, b, c, d]), some (encF [p, q, r, s]), some (encF f), some (encT (mk (n + 1) (n + 1) (Tt n [a, b] [c, d]))), some (encT (mk (n + 1) 1 fun i _ => f.getD i 0)), some (encF (chg f [a, b] [c, d])), some (encF [a * p + b * r, a * q + b * s, c * p + d * r, c * q + d * s]), some (encT (mk (n + 1) (n + 1) (upF n))), some (encT (mk (n + 1) (n + 1) dnF)), some (encT (mk (n + 1) (n + 1) (wtF n))), y13, x14, x15, x16, y17, some (enc fa), some (enc fb), some (enc fc), some (enc fd), some (encT (mk (n + 1) (n + 1) (doF n fa fb fc fd))), some (encT (mk (n + 1) (n + 1) fun i j => Tt n [a, b] [c, d] j i)), some (encT (mk (n + 1) (n + 1) (paF n))), some (enc (a * d - b * c)), none, none, none, none, none, none, none]) (t' := t5) (by exact x_par2 (e_call (a_cons (e_var rfl) a_nil) (pairing_spec hn)) (e_call (a_cons (e_call (a_cons (e_bin (e_var rfl) e_c (w := enc a) rfl) (a_cons (e_bin (e_var rfl) e_c (w := enc d) rfl) a_nil)) d1) (a_cons (w := enc (-(b * c))) (e_tup (ws := [.int (-((b * c).num)), .int ((b * c).den : Int)]) (a_cons (e_un (e_bin (e_call (a_cons (e_bin (e_var rfl) e_c (w := enc b) rfl) (a_cons (e_bin (e_var rfl) e_c (w := enc c) rfl) a_nil)) d2) e_c rfl) rfl) (a_cons (e_bin (e_call (a_cons (e_bin (e_var rfl) e_c (w := enc b) rfl) (a_cons (e_bin (e_var rfl) e_c (w := enc c) rfl) a_nil)) d2) e_c rfl) a_nil)) (by simp)) a_nil)) d3))]
  have bP := pa_B (c := n + 1) hn
  have bPT := bP.times (c := n + 1) bT (by omega)
  have bTt : TB 18 121 (n + 1) (n + 1) (fun i j => Tt n [a, b] [c, d] j i) := fun i hi j hj => bT j hj i hi
  have v1 := law_times_spec bP bT (by omega) (by omega) (by omega) (by omega) (by decide) (by decide)
  have v2 := law_times_spec bTt bPT (by omega) (by omega) (by omega) (by omega) (by decide) (by decide)
  rw [mk_congr (pairing_eq hn a b c d)] at v2
  have v3 := law_power_spec hC.det n (by omega) (by omega) (by omega) (by decide) (by decide)
  have v4 := scaled_spec bP v3.2 (by omega) (by omega) (by decide) (by omega) (by decide) (by omega)
  rw [then_next (ρ' := [some S, none, some (.int (n : Int)), some (encF [a, b, c, d]), some (encF [p, q, r, s]), some (encF f), some (encT (mk (n + 1) (n + 1) (Tt n [a, b] [c, d]))), some (encT (mk (n + 1) 1 fun i _ => f.getD i 0)), some (encF (chg f [a, b] [c, d])), some (encF [a * p + b * r, a * q + b * s, c * p + d * r, c * q + d * s]), some (encT (mk (n + 1) (n + 1) (upF n))), some (encT (mk (n + 1) (n + 1) dnF)), some (encT (mk (n + 1) (n + 1) (wtF n))), y13, x14, x15, x16, y17, some (enc fa), some (enc fb), some (enc fc), some (enc fd), some (encT (mk (n + 1) (n + 1) (doF n fa fb fc fd))), some (encT (mk (n + 1) (n + 1) fun i j => Tt n [a, b] [c, d] j i)), some (encT (mk (n + 1) (n + 1) (paF n))), some (enc (a * d - b * c)), none, none, none, none, none, none, none]) (t' := t5) (by exact i_false (t_orF (v := false) (t_neT (e_call (a_cons (e_var rfl) (a_cons (e_call (a_cons (e_var rfl) (a_cons (e_var rfl) a_nil)) v1) a_nil)) v2) (e_call (a_cons (e_call (a_cons (e_var rfl) (a_cons (e_var rfl) a_nil)) v3.1) (a_cons (e_var rfl) a_nil)) v4)) (t_neQ (e_call (a_cons (e_var rfl) a_nil) hC.deter) (e_var rfl))))]
  have w1 := trace_spec bT (by omega) (by decide) (by decide)
  have w2 := law_sum_spec (l := rowL (n + 1) fun k => Tt n [a, b] [c, d] k k) (fun z hz => by
    obtain ⟨k, hk, rfl⟩ := List.mem_map.mp hz
    have hk := List.mem_range.mp hk
    exact bT k hk k hk) (by decide) (by decide) (by rw [rowL_len]; omega)
  rw [show Su (rowL (n + 1) fun k => Tt n [a, b] [c, d] k k) = Sg (n + 1) fun k => Tt n [a, b] [c, d] k k from Su_map _ _, show (rowL (n + 1) fun k => Tt n [a, b] [c, d] k k).map enc = (List.range (n + 1)).map fun k => enc (Tt n [a, b] [c, d] k k) by unfold rowL; rw [List.map_map]; rfl] at w2
  have w3 := trace_of_spec hC hn
  rw [← trace_eq hn] at w3
  have w4 : wMul (.int (n : Int)) (.int ((n : Int) + 1)) = some (.int ((n * (n + 1) : Nat) : Int)) ∧ wFdiv (.int ((n * (n + 1) : Nat) : Int)) (.int 2) = some (.int ((n * (n + 1) / 2 : Nat) : Int)) := by
    rcases five hn with rfl | rfl | rfl | rfl | rfl | rfl <;> exact ⟨by kernel_rfl, by kernel_rfl⟩
  obtain ⟨w6, w7⟩ := w4
  rw [then_next (ρ' := [some S, none, some (.int (n : Int)), some (encF [a, b, c, d]), some (encF [p, q, r, s]), some (encF f), some (encT (mk (n + 1) (n + 1) (Tt n [a, b] [c, d]))), some (encT (mk (n + 1) 1 fun i _ => f.getD i 0)), some (encF (chg f [a, b] [c, d])), some (encF [a * p + b * r, a * q + b * s, c * p + d * r, c * q + d * s]), some (encT (mk (n + 1) (n + 1) (upF n))), some (encT (mk (n + 1) (n + 1) dnF)), some (encT (mk (n + 1) (n + 1) (wtF n))), y13, x14, x15, x16, y17, some (enc fa), some (enc fb), some (enc fc), some (enc fd), some (encT (mk (n + 1) (n + 1) (doF n fa fb fc fd))), some (encT (mk (n + 1) (n + 1) fun i j => Tt n [a, b] [c, d] j i)), some (encT (mk (n + 1) (n + 1) (paF n))), some (enc (a * d - b * c)), none, none, none, none, none, none, none]) (t' := t5) (by exact i_false (t_orF (v := false) (t_neQ (e_call (a_cons (e_var rfl) a_nil) w1) (e_call (a_cons (e_lc (g_rng1 (n := n + 1) (a_cons (e_bin (e_var rfl) e_c rfl) a_nil) (by omega)) (by simp; omega) (lc_range (F := fun k => enc (Tt n [a, b] [c, d] k k)) fun k hk => ⟨_, rfl, e_bin (e_bin (e_var rfl) (e_var rfl) (idx_T hk)) (e_var rfl) (idx_R hk)⟩)) a_nil) w2)) (t_orF (v := false) (t_neQ (e_call (a_cons (e_var rfl) (a_cons (e_var rfl) a_nil)) w3) (e_call (a_cons (e_var rfl) a_nil) w1)) (t_test (e_bin (e_call (a_cons (e_var rfl) a_nil) (det_power_spec hn)) (e_bin (e_bin (e_var rfl) (e_bin (e_var rfl) e_c rfl) w6) e_c w7) (neqN rfl))))))]
  obtain ⟨ws, sp1, sp2⟩ := split_spec hC
  rw [then_next (ρ' := [some S, none, some (.int (n : Int)), some (encF [a, b, c, d]), some (encF [p, q, r, s]), some (encF f), some (encT (mk (n + 1) (n + 1) (Tt n [a, b] [c, d]))), some (encT (mk (n + 1) 1 fun i _ => f.getD i 0)), some (encF (chg f [a, b] [c, d])), some (encF [a * p + b * r, a * q + b * s, c * p + d * r, c * q + d * s]), some (encT (mk (n + 1) (n + 1) (upF n))), some (encT (mk (n + 1) (n + 1) dnF)), some (encT (mk (n + 1) (n + 1) (wtF n))), y13, x14, x15, x16, y17, some (enc fa), some (enc fb), some (enc fc), some (enc fd), some (encT (mk (n + 1) (n + 1) (doF n fa fb fc fd))), some (encT (mk (n + 1) (n + 1) fun i j => Tt n [a, b] [c, d] j i)), some (encT (mk (n + 1) (n + 1) (paF n))), some (enc (a * d - b * c)), some (.tuple ws), none, none, none, none, none, none]) (t' := t5) (by exact x_set (e_call (a_cons (e_var rfl) a_nil) sp1))]
  rw [then_next (ρ' := [some S, none, some (.int (n : Int)), some (encF [a, b, c, d]), some (encF [p, q, r, s]), some (encF f), some (encT (mk (n + 1) (n + 1) (Tt n [a, b] [c, d]))), some (encT (mk (n + 1) 1 fun i _ => f.getD i 0)), some (encF (chg f [a, b] [c, d])), some (encF [a * p + b * r, a * q + b * s, c * p + d * r, c * q + d * s]), some (encT (mk (n + 1) (n + 1) (upF n))), some (encT (mk (n + 1) (n + 1) dnF)), some (encT (mk (n + 1) (n + 1) (wtF n))), y13, x14, x15, x16, y17, some (enc fa), some (enc fb), some (enc fc), some (enc fd), some (encT (mk (n + 1) (n + 1) (doF n fa fb fc fd))), some (encT (mk (n + 1) (n + 1) fun i j => Tt n [a, b] [c, d] j i)), some (encT (mk (n + 1) (n + 1) (paF n))), some (enc (a * d - b * c)), some (.tuple ws), some (encF [1, 0, 0, 1]), none, none, none, none, none]) (t' := t5) (by exact x_set (w := encF [1, 0, 0, 1]) (e_tup (a_cons p2c (a_cons p2c (a_cons p2c (a_cons p2c a_nil)))) (by simp)))]
  obtain ⟨q28, q29, e12⟩ := sp2.loop t5 (some S) none (some (.int (n : Int))) (some (encF [a, b, c, d])) (some (encF [p, q, r, s])) (some (encF f)) (some (encT (mk (n + 1) (n + 1) (Tt n [a, b] [c, d])))) (some (encT (mk (n + 1) 1 fun i _ => f.getD i 0))) (some (encF (chg f [a, b] [c, d]))) (some (encF [a * p + b * r, a * q + b * s, c * p + d * r, c * q + d * s])) (some (encT (mk (n + 1) (n + 1) (upF n)))) (some (encT (mk (n + 1) (n + 1) dnF))) (some (encT (mk (n + 1) (n + 1) (wtF n)))) y13 x14 x15 x16 y17 (some (enc fa)) (some (enc fb)) (some (enc fc)) (some (enc fd)) (some (encT (mk (n + 1) (n + 1) (doF n fa fb fc fd)))) (some (encT (mk (n + 1) (n + 1) fun i j => Tt n [a, b] [c, d] j i))) (some (encT (mk (n + 1) (n + 1) (paF n)))) (some (enc (a * d - b * c))) (some (.tuple ws)) none none none none none
  rw [then_next (ρ' := [some S, none, some (.int (n : Int)), some (encF [a, b, c, d]), some (encF [p, q, r, s]), some (encF f), some (encT (mk (n + 1) (n + 1) (Tt n [a, b] [c, d]))), some (encT (mk (n + 1) 1 fun i _ => f.getD i 0)), some (encF (chg f [a, b] [c, d])), some (encF [a * p + b * r, a * q + b * s, c * p + d * r, c * q + d * s]), some (encT (mk (n + 1) (n + 1) (upF n))), some (encT (mk (n + 1) (n + 1) dnF)), some (encT (mk (n + 1) (n + 1) (wtF n))), y13, x14, x15, x16, y17, some (enc fa), some (enc fb), some (enc fc), some (enc fd), some (encT (mk (n + 1) (n + 1) (doF n fa fb fc fd))), some (encT (mk (n + 1) (n + 1) fun i j => Tt n [a, b] [c, d] j i)), some (encT (mk (n + 1) (n + 1) (paF n))), some (enc (a * d - b * c)), some (.tuple ws), some (encF [a, b, c, d]), q28, q29, none, none, none]) (t' := t5) (by exact (for_src (g_seq (e_var rfl) rfl)).trans e12)]
  have y1 := product_two hC hO
  have y2 := law_two_spec hC.all hO.all (by decide) (by decide)
  rw [then_next (ρ' := [some S, none, some (.int (n : Int)), some (encF [a, b, c, d]), some (encF [p, q, r, s]), some (encF f), some (encT (mk (n + 1) (n + 1) (Tt n [a, b] [c, d]))), some (encT (mk (n + 1) 1 fun i _ => f.getD i 0)), some (encF (chg f [a, b] [c, d])), some (encF [a * p + b * r, a * q + b * s, c * p + d * r, c * q + d * s]), some (encT (mk (n + 1) (n + 1) (upF n))), some (encT (mk (n + 1) (n + 1) dnF)), some (encT (mk (n + 1) (n + 1) (wtF n))), y13, x14, x15, x16, y17, some (enc fa), some (enc fb), some (enc fc), some (enc fd), some (encT (mk (n + 1) (n + 1) (doF n fa fb fc fd))), some (encT (mk (n + 1) (n + 1) fun i j => Tt n [a, b] [c, d] j i)), some (encT (mk (n + 1) (n + 1) (paF n))), some (enc (a * d - b * c)), some (.tuple ws), some (encF [a, b, c, d]), q28, q29, none, none, none]) (t' := t5) (by exact i_false (t_orF (v := false) (t_neF (e_var rfl) (e_var rfl)) (t_orF (v := false) (t_neF (e_call (a_cons (e_var rfl) a_nil) sp2.prod) (e_var rfl)) (t_neF (e_call (a_cons (e_tup (a_cons (e_var rfl) (a_cons (e_var rfl) a_nil)) (by simp)) a_nil) y1) (e_call (a_cons (e_var rfl) (a_cons (e_var rfl) a_nil)) y2)))))]
  obtain ⟨w14, t6, e14, m14, g6⟩ := pick_spec g5 (ws := [.tuple [.tuple [.int 1, .int 1], .tuple [.int 1, .int 1], .tuple [.int 1, .int 1], .tuple [.int 1, .int 1]], .none, .tuple [.tuple [.int 1, .int 1]], .tuple [.int 1, .int 0, .int 0, .int 1]]) (by decide) (by decide)
  have zz14 : moves_split_change 40 [w14] = .exc X_BadChange := by
    simp only [List.mem_cons, List.not_mem_nil, or_false] at m14
    rcases m14 with rfl | rfl | rfl | rfl <;> kernel_rfl
  rw [then_next (ρ' := [some S, none, some (.int (n : Int)), some (encF [a, b, c, d]), some (encF [p, q, r, s]), some (encF f), some (encT (mk (n + 1) (n + 1) (Tt n [a, b] [c, d]))), some (encT (mk (n + 1) 1 fun i _ => f.getD i 0)), some (encF (chg f [a, b] [c, d])), some (encF [a * p + b * r, a * q + b * s, c * p + d * r, c * q + d * s]), some (encT (mk (n + 1) (n + 1) (upF n))), some (encT (mk (n + 1) (n + 1) dnF)), some (encT (mk (n + 1) (n + 1) (wtF n))), y13, x14, x15, x16, y17, some (enc fa), some (enc fb), some (enc fc), some (enc fd), some (encT (mk (n + 1) (n + 1) (doF n fa fb fc fd))), some (encT (mk (n + 1) (n + 1) fun i j => Tt n [a, b] [c, d] j i)), some (encT (mk (n + 1) (n + 1) (paF n))), some (enc (a * d - b * c)), some (.tuple ws), some (encF [a, b, c, d]), q28, q29, none, none, none]) (t' := t6) (by exact T_if (T_test (T_bin (t1 := t6) (told_T (T_cons (T_callT (t1 := t5) (a_cons (e_lst (a_cons (e_tup (a_cons p2c (a_cons p2c (a_cons p2c (a_cons p2c a_nil)))) (by simp)) (a_cons e_c (a_cons (e_tup (a_cons p2c a_nil) (by simp)) (a_cons (e_tup (a_cons e_c (a_cons e_c (a_cons e_c (a_cons e_c a_nil)))) (by simp)) a_nil)))) (by simp)) a_nil) e14) a_nil) zz14 (w := .str "change") (by kernel_rfl)) e_c (by kernel_rfl))))]
  obtain ⟨w15, t7, e15, m15, g7⟩ := pick_spec g6 (ws := [.none, .tuple [enc fa, enc fb, enc fc], .tuple [.int 1, .int 0, .int 0, .int 1], .list [enc fa, enc fb, enc fc, enc fd]]) (show 0 < 4 by decide) (show 4 ≤ 1000 by decide)
  have zz15 : moves_doing [w15, .int (n : Int)] = .exc X_BadChange := by
    simp only [List.mem_cons, List.not_mem_nil, or_false] at m15
    rcases m15 with rfl | rfl | rfl | rfl <;> kernel_rfl
  exact T_ret (T_bin (t1 := t7) (told_T (T_cons (T_callT (t1 := t6) (a_cons (e_lst (a_cons e_c (a_cons (e_tup (a_cons (e_var rfl) (a_cons (e_var rfl) (a_cons (e_var rfl) a_nil))) (by simp)) (a_cons (e_tup (a_cons e_c (a_cons e_c (a_cons e_c (a_cons e_c a_nil)))) (by simp)) (a_cons (e_lst (a_cons (e_var rfl) (a_cons (e_var rfl) (a_cons (e_var rfl) (a_cons (e_var rfl) a_nil)))) (by simp)) a_nil)))) (by simp)) a_nil) e15) (a_cons (e_var rfl) a_nil)) zz15 (w := .str "change") (by kernel_rfl)) e_c (by kernel_rfl))
end G

end

section
namespace G
open PySem PySem.Spec PyProof.Rows L2 Ev
variable [Tb]
def top (i : Nat) : Stmt := PySem.Challenge.pw_slideforms_k31_whole_tables_of_changes.main.body.getD i (.Pass ⟨0, 0, 0, 0⟩)
def xs : List Str := ["BadNumber", "BadForm", "BadChange"]
/-- what the top has written -/
structure Tx (K : PySem.W.Frag) (mg : Str → Option Value) : Prop where
  bn : Bn mg
  ap : Apart K (clA K xs) 3
  str : mg "str" = none
  c_MOST_ORDER : Cst K mg "MOST_ORDER" (.int (24))
  c_ZERO : Cst K mg "ZERO" (.tuple [(.int (0)), (.int (1))])
  c_ONE : Cst K mg "ONE" (.tuple [(.int (1)), (.int (1))])
  e_BadNumber : ExC K mg "BadNumber" (clA K xs 0)
  e_BadForm : ExC K mg "BadForm" (clA K xs 1)
  e_BadChange : ExC K mg "BadChange" (clA K xs 2)
section
variable {P : Program} {w : World} {K : PySem.W.Frag} {mg : Str → Option Value} {base : Heap}
abbrev N65 : List Str := ["script", "seed", "cell"]
theorem sc65 : FnScope N65 (["script"] : List Str) (defScope (top 65)) := ⟨rfl, rfl, rfl, by decide +kernel, rfl, by decide +kernel, by decide +kernel⟩
abbrev c65 : Cf := { M := [], scr := some 0 }
set_option maxHeartbeats 8000000 in
theorem ok65 (T : Tx K mg) {f : Addr} {fd : FuncData} (F : Fun K "_law_tape" "_law_tape" (top 65) f fd) : FnOk P w K mg base (L2.CX P w) (0 + 1) f fd (["script"] : List Str) (FnM K law_tape) := by
  refine fn_okM (c := c65) (clA K xs) F sc65 (by decide) rfl rfl rfl rfl fun cdv A outer s H E hr => ?_
  have tk : Takes (cxOf (L2.CX P w) P w K mg base N65 "_law_tape" (defScope (top 65)) f cdv A outer s H E) (fun cls d _ H => E cls d H) := takes_of rfl rfl rfl rfl
  have hx : Passes (L2.CX P w) (cxOf (L2.CX P w) P w K mg base N65 "_law_tape" (defScope (top 65)) f cdv A outer s H E) E := passes_call tk fun _ _ _ _ h => h
  have hp := passes_of (X := cxOf (L2.CX P w) P w K mg base N65 "_law_tape" (defScope (top 65)) f cdv A outer s H E) rfl
  have nd : N65.Nodup := sc65.nd
  exact ⟨(zSet 1 nd ev_int), (zFor hp (wScr 0) (gV 2 nd)
      (ss_one (zSet 1 nd (bMod (ex_bor (fInt T.bn (aB (ex_srd (bAdd (ex_bor (bMul (ex_bor (vS 1)) (ex_bor ev_int))) (ex_bor (vS 2)))) nB))) (ex_bor ev_int))))), ps_ret (pe_lst (pa_cons (lC [("cell", 2)] nd (wS (vC 0)) (fun _ _ _ _ _ => (gV 2 nd)) (fun _ _ _ _ _ => tsx_nil) (fun _ _ _ _ _ => (fAbs T.bn (aB (ex_srd (fInt T.bn (aB (ex_srd (vS 2)) nB))) nB)))) (pa_cons (bAdd (ex_bor (vS 1)) (ex_bor ev_int)) pa_nil)))⟩
abbrev N8 : List Str := ["value"]
theorem sc8 : FnScope N8 (["value"] : List Str) (defScope (top 8)) := ⟨rfl, rfl, rfl, by decide +kernel, rfl, by decide +kernel, by decide +kernel⟩
abbrev c8 : Cf := { M := [] }
set_option maxHeartbeats 8000000 in
theorem ok8 (T : Tx K mg) {f : Addr} {fd : FuncData} (F : Fun K "is_integer" "is_integer" (top 8) f fd) : FnOk P w K mg base (L2.CX P w) (0 + 1) f fd (["value"] : List Str) (FnS K (clA K xs) false ratios_is_integer) := by
  refine fn_ok (c := c8) F sc8 (by decide) rfl rfl fun cdv A outer s H E hr => ?_
  have tk : Takes (cxOf (L2.CX P w) P w K mg base N8 "is_integer" (defScope (top 8)) f cdv A outer s H E) (fun cls d _ H => E cls d H) := takes_of rfl rfl rfl rfl
  have hx : Passes (L2.CX P w) (cxOf (L2.CX P w) P w K mg base N8 "is_integer" (defScope (top 8)) f cdv A outer s H E) E := passes_call tk fun _ _ _ _ h => h
  have hp := passes_of (X := cxOf (L2.CX P w) P w K mg base N8 "is_integer" (defScope (top 8)) f cdv A outer s H E) rfl
  have nd : N8.Nodup := sc8.nd
  exact (ss_one (zRet (ev_and (isI T.bn (ex_bor (vS 0))) (ev_one (ev_not (isB T.bn (ex_bor (vS 0))))))))
abbrev N23 : List Str := ["size"]
theorem sc23 : FnScope N23 (["size"] : List Str) (defScope (top 23)) := ⟨rfl, rfl, rfl, by decide +kernel, rfl, by decide +kernel, by decide +kernel⟩
abbrev c23 : Cf := { M := [] }
set_option maxHeartbeats 8000000 in
theorem ok23 (T : Tx K mg) {f : Addr} {fd : FuncData} (F : Fun K "check_order" "check_order" (top 23) f fd) (d_is_integer : FnA P w K mg base "is_integer" 1 (FnS K (clA K xs) false ratios_is_integer)) : FnOk P w K mg base (L2.CX P w) (1 + 1) f fd (["size"] : List Str) (FnS K (clA K xs) false forms_check_order) := by
  refine fn_ok (c := c23) F sc23 (by decide) rfl rfl fun cdv A outer s H E hr => ?_
  have tk : Takes (cxOf (L2.CX P w) P w K mg base N23 "check_order" (defScope (top 23)) f cdv A outer s H E) (fun cls d _ H => E cls d H) := takes_of rfl rfl rfl rfl
  have hx : Passes (L2.CX P w) (cxOf (L2.CX P w) P w K mg base N23 "check_order" (defScope (top 23)) f cdv A outer s H E) E := passes_call tk fun _ _ _ _ h => h
  have hp := passes_of (X := cxOf (L2.CX P w) P w K mg base N23 "check_order" (defScope (top 23)) f cdv A outer s H E) rfl
  have nd : N23.Nodup := sc23.nd
  exact (ss_one (sx_if (tT1 (tw_or (tx_not (tV (ex_bor (kS d_is_integer (hr.mono (by first | decide | omega)) hx (aS (vS 0) nS))))) (tw_or (tLt (ex_bor (vS 0)) (ex_bor ev_int)) (tw_or1 (tGt (ex_bor (vS 0)) (ex_bor (gC T.c_MOST_ORDER))))))) (ss_one (zRaise 0 T.e_BadNumber tk)) ss_nil))
abbrev N41 : List Str := ["rows", "k", "row"]
theorem sc41 : FnScope N41 (["rows"] : List Str) (defScope (top 41)) := ⟨rfl, rfl, rfl, by decide +kernel, rfl, by decide +kernel, by decide +kernel⟩
abbrev c41 : Cf := { M := [] }
set_option maxHeartbeats 8000000 in
theorem ok41 (T : Tx K mg) {f : Addr} {fd : FuncData} (F : Fun K "turned" "turned" (top 41) f fd) : FnOk P w K mg base (L2.CX P w) (0 + 1) f fd (["rows"] : List Str) (FnS K (clA K xs) false moves_turned) := by
  refine fn_ok (c := c41) F sc41 (by decide) rfl rfl fun cdv A outer s H E hr => ?_
  have tk : Takes (cxOf (L2.CX P w) P w K mg base N41 "turned" (defScope (top 41)) f cdv A outer s H E) (fun cls d _ H => E cls d H) := takes_of rfl rfl rfl rfl
  have hx : Passes (L2.CX P w) (cxOf (L2.CX P w) P w K mg base N41 "turned" (defScope (top 41)) f cdv A outer s H E) E := passes_call tk fun _ _ _ _ h => h
  have hp := passes_of (X := cxOf (L2.CX P w) P w K mg base N41 "turned" (defScope (top 41)) f cdv A outer s H E) rfl
  have nd : N41.Nodup := sc41.nd
  exact (ss_one (zRet (fTuple T.bn (aB (ex_frd (lC [("k", 1)] nd (wR1 T.bn (aB (ex_srd (fLen T.bn (aB (ex_srd (iX (ex_srd (vS 0)) (ex_bor ev_int))) nB))) nB)) (fun _ _ _ _ _ => (gV 1 nd)) (fun _ _ _ _ _ => tsx_nil) (fun _ _ _ _ _ => (fTuple T.bn (aB (ex_frd (lC [("row", 2)] nd (wS (ex_srd (vS 0))) (fun _ _ _ _ _ => (gV 2 nd)) (fun _ _ _ _ _ => tsx_nil) (fun _ _ _ _ _ => (iX (ex_srd (vS 2)) (ex_bor (vS 1)))))) nB))))) nB))))
abbrev N10 : List Str := ["one", "other"]
theorem sc10 : FnScope N10 (["one", "other"] : List Str) (defScope (top 10)) := ⟨rfl, rfl, rfl, by decide +kernel, rfl, by decide +kernel, by decide +kernel⟩
abbrev c10 : Cf := { M := [] }
set_option maxHeartbeats 8000000 in
theorem ok10 (T : Tx K mg) {f : Addr} {fd : FuncData} (F : Fun K "divisor" "divisor" (top 10) f fd) : FnOk P w K mg base (L2.CX P w) (0 + 1) f fd (["one", "other"] : List Str) (FnS K (clA K xs) false ratios_divisor) := by
  refine fn_ok (c := c10) F sc10 (by decide) rfl rfl fun cdv A outer s H E hr => ?_
  have tk : Takes (cxOf (L2.CX P w) P w K mg base N10 "divisor" (defScope (top 10)) f cdv A outer s H E) (fun cls d _ H => E cls d H) := takes_of rfl rfl rfl rfl
  have hx : Passes (L2.CX P w) (cxOf (L2.CX P w) P w K mg base N10 "divisor" (defScope (top 10)) f cdv A outer s H E) E := passes_call tk fun _ _ _ _ h => h
  have hp := passes_of (X := cxOf (L2.CX P w) P w K mg base N10 "divisor" (defScope (top 10)) f cdv A outer s H E) rfl
  have nd : N10.Nodup := sc10.nd
  exact (ss_cons (zPar2 0 1 false false nd (fAbs T.bn (aB (ex_srd (vS 0)) nB)) (fAbs T.bn (aB (ex_srd (vS 1)) nB)))
    (ss_cons (zWhile 1000000 hp (tGt (ex_bor (vS 1)) (ex_bor ev_int))
      (ss_one (zPar2 0 1 false false nd (vS 1) (bMod (ex_bor (vS 0)) (ex_bor (vS 1))))))
    (ss_one (zRet (vS 0)))))
abbrev N9 : List Str := ["value", "item"]
theorem sc9 : FnScope N9 (["value"] : List Str) (defScope (top 9)) := ⟨rfl, rfl, rfl, by decide +kernel, rfl, by decide +kernel, by decide +kernel⟩
abbrev c9 : Cf := { M := [] }
set_option maxHeartbeats 8000000 in
theorem ok9 (T : Tx K mg) {f : Addr} {fd : FuncData} (F : Fun K "is_ratio" "is_ratio" (top 9) f fd) (d_divisor : FnA P w K mg base "divisor" 1 (FnS K (clA K xs) false ratios_divisor)) (d_is_integer : FnA P w K mg base "is_integer" 1 (FnS K (clA K xs) false ratios_is_integer)) : FnOk P w K mg base (L2.CX P w) (1 + 1) f fd (["value"] : List Str) (FnS K (clA K xs) false ratios_is_ratio) := by
  refine fn_ok (c := c9) F sc9 (by decide) rfl rfl fun cdv A outer s H E hr => ?_
  have tk : Takes (cxOf (L2.CX P w) P w K mg base N9 "is_ratio" (defScope (top 9)) f cdv A outer s H E) (fun cls d _ H => E cls d H) := takes_of rfl rfl rfl rfl
  have hx : Passes (L2.CX P w) (cxOf (L2.CX P w) P w K mg base N9 "is_ratio" (defScope (top 9)) f cdv A outer s H E) E := passes_call tk fun _ _ _ _ h => h
  have hp := passes_of (X := cxOf (L2.CX P w) P w K mg base N9 "is_ratio" (defScope (top 9)) f cdv A outer s H E) rfl
  have nd : N9.Nodup := sc9.nd
  exact (ss_cons (sx_if (tT1 (tw_or (tx_not (tV (isT T.bn (ex_bor (vS 0))))) (tw_or (tNe hr (ex_bor (fLen T.bn (aB (ex_srd (vS 0)) nB))) (ex_bor ev_int)) (tw_or1 (tx_not (tV (ex_bor (fAll T.bn (aB (ex_frd (lC [("item", 1)] nd (wS (ex_srd (vS 0))) (fun _ _ _ _ _ => (gV 1 nd)) (fun _ _ _ _ _ => tsx_nil) (fun _ _ _ _ _ => (kS d_is_integer (hr.mono (by first | decide | omega)) passL (aS (vS 1) nS))))) nB))))))))) (ss_one (zRet ev_bl)) ss_nil)
    (ss_one (zRet (ev_and (cGt (ex_bor (iX (ex_srd (vS 0)) (ex_bor ev_int))) (ex_bor ev_int)) (ev_one (ex_bool (cEq hr (ex_bor (kS d_divisor (hr.mono (by first | decide | omega)) hx (aS (iX (ex_srd (vS 0)) (ex_bor ev_int)) (aS (iX (ex_srd (vS 0)) (ex_bor ev_int)) nS)))) (ex_bor ev_int)) bool_eq))))))
abbrev N21 : List Str := ["value", "item"]
theorem sc21 : FnScope N21 (["value"] : List Str) (defScope (top 21)) := ⟨rfl, rfl, rfl, by decide +kernel, rfl, by decide +kernel, by decide +kernel⟩
abbrev c21 : Cf := { M := [] }
set_option maxHeartbeats 8000000 in
theorem ok21 (T : Tx K mg) {f : Addr} {fd : FuncData} (F : Fun K "is_form" "is_form" (top 21) f fd) (d_is_ratio : FnA P w K mg base "is_ratio" 2 (FnS K (clA K xs) false ratios_is_ratio)) : FnOk P w K mg base (L2.CX P w) (2 + 1) f fd (["value"] : List Str) (FnS K (clA K xs) false forms_is_form) := by
  refine fn_ok (c := c21) F sc21 (by decide) rfl rfl fun cdv A outer s H E hr => ?_
  have tk : Takes (cxOf (L2.CX P w) P w K mg base N21 "is_form" (defScope (top 21)) f cdv A outer s H E) (fun cls d _ H => E cls d H) := takes_of rfl rfl rfl rfl
  have hx : Passes (L2.CX P w) (cxOf (L2.CX P w) P w K mg base N21 "is_form" (defScope (top 21)) f cdv A outer s H E) E := passes_call tk fun _ _ _ _ h => h
  have hp := passes_of (X := cxOf (L2.CX P w) P w K mg base N21 "is_form" (defScope (top 21)) f cdv A outer s H E) rfl
  have nd : N21.Nodup := sc21.nd
  exact (ss_one (zRet (ev_and (isT T.bn (ex_bor (vS 0))) (ev_and (cLtLe (ex_bor ev_int) (ex_bor (fLen T.bn (aB (ex_srd (vS 0)) nB))) (ex_bor (bAdd (ex_bor (gC T.c_MOST_ORDER)) (ex_bor ev_int)))) (ev_one (fAll T.bn (aB (ex_frd (lC [("item", 1)] nd (wS (ex_srd (vS 0))) (fun _ _ _ _ _ => (gV 1 nd)) (fun _ _ _ _ _ => tsx_nil) (fun _ _ _ _ _ => (kS d_is_ratio (hr.mono (by first | decide | omega)) passL (aS (vS 1) nS))))) nB)))))))
abbrev N22 : List Str := ["value"]
theorem sc22 : FnScope N22 (["value"] : List Str) (defScope (top 22)) := ⟨rfl, rfl, rfl, by decide +kernel, rfl, by decide +kernel, by decide +kernel⟩
abbrev c22 : Cf := { M := [] }
set_option maxHeartbeats 8000000 in
theorem ok22 (T : Tx K mg) {f : Addr} {fd : FuncData} (F : Fun K "check_form" "check_form" (top 22) f fd) (d_is_form : FnA P w K mg base "is_form" 3 (FnS K (clA K xs) false forms_is_form)) : FnOk P w K mg base (L2.CX P w) (3 + 1) f fd (["value"] : List Str) (FnS K (clA K xs) false forms_check_form) := by
  refine fn_ok (c := c22) F sc22 (by decide) rfl rfl fun cdv A outer s H E hr => ?_
  have tk : Takes (cxOf (L2.CX P w) P w K mg base N22 "check_form" (defScope (top 22)) f cdv A outer s H E) (fun cls d _ H => E cls d H) := takes_of rfl rfl rfl rfl
  have hx : Passes (L2.CX P w) (cxOf (L2.CX P w) P w K mg base N22 "check_form" (defScope (top 22)) f cdv A outer s H E) E := passes_call tk fun _ _ _ _ h => h
  have hp := passes_of (X := cxOf (L2.CX P w) P w K mg base N22 "check_form" (defScope (top 22)) f cdv A outer s H E) rfl
  have nd : N22.Nodup := sc22.nd
  exact (ss_one (sx_if (tx_not (tV (ex_bor (kS d_is_form (hr.mono (by first | decide | omega)) hx (aS (vS 0) nS))))) (ss_one (zRaise 1 T.e_BadForm tk)) ss_nil))
abbrev N30 : List Str := ["value_of", "item"]
theorem sc30 : FnScope N30 (["value_of"] : List Str) (defScope (top 30)) := ⟨rfl, rfl, rfl, by decide +kernel, rfl, by decide +kernel, by decide +kernel⟩
abbrev c30 : Cf := { M := [] }
set_option maxHeartbeats 8000000 in
theorem ok30 (T : Tx K mg) {f : Addr} {fd : FuncData} (F : Fun K "is_change" "is_change" (top 30) f fd) (d_is_ratio : FnA P w K mg base "is_ratio" 2 (FnS K (clA K xs) false ratios_is_ratio)) : FnOk P w K mg base (L2.CX P w) (2 + 1) f fd (["value_of"] : List Str) (FnS K (clA K xs) false forms_is_change) := by
  refine fn_ok (c := c30) F sc30 (by decide) rfl rfl fun cdv A outer s H E hr => ?_
  have tk : Takes (cxOf (L2.CX P w) P w K mg base N30 "is_change" (defScope (top 30)) f cdv A outer s H E) (fun cls d _ H => E cls d H) := takes_of rfl rfl rfl rfl
  have hx : Passes (L2.CX P w) (cxOf (L2.CX P w) P w K mg base N30 "is_change" (defScope (top 30)) f cdv A outer s H E) E := passes_call tk fun _ _ _ _ h => h
  have hp := passes_of (X := cxOf (L2.CX P w) P w K mg base N30 "is_change" (defScope (top 30)) f cdv A outer s H E) rfl
  have nd : N30.Nodup := sc30.nd
  exact (ss_one (zRet (ev_and (isT T.bn (ex_bor (vS 0))) (ev_and (cEq hr (ex_bor (fLen T.bn (aB (ex_srd (vS 0)) nB))) (ex_bor ev_int)) (ev_one (fAll T.bn (aB (ex_frd (lC [("item", 1)] nd (wS (ex_srd (vS 0))) (fun _ _ _ _ _ => (gV 1 nd)) (fun _ _ _ _ _ => tsx_nil) (fun _ _ _ _ _ => (kS d_is_ratio (hr.mono (by first | decide | omega)) passL (aS (vS 1) nS))))) nB)))))))
abbrev N11 : List Str := ["above", "below", "common"]
theorem sc11 : FnScope N11 (["above", "below"] : List Str) (defScope (top 11)) := ⟨rfl, rfl, rfl, by decide +kernel, rfl, by decide +kernel, by decide +kernel⟩
abbrev c11 : Cf := { M := [] }
set_option maxHeartbeats 8000000 in
theorem ok11 (T : Tx K mg) {f : Addr} {fd : FuncData} (F : Fun K "make" "make" (top 11) f fd) (d_divisor : FnA P w K mg base "divisor" 1 (FnS K (clA K xs) false ratios_divisor)) : FnOk P w K mg base (L2.CX P w) (1 + 1) f fd (["above", "below"] : List Str) (FnS K (clA K xs) false ratios_make) := by
  refine fn_ok (c := c11) F sc11 (by decide) rfl rfl fun cdv A outer s H E hr => ?_
  have tk : Takes (cxOf (L2.CX P w) P w K mg base N11 "make" (defScope (top 11)) f cdv A outer s H E) (fun cls d _ H => E cls d H) := takes_of rfl rfl rfl rfl
  have hx : Passes (L2.CX P w) (cxOf (L2.CX P w) P w K mg base N11 "make" (defScope (top 11)) f cdv A outer s H E) E := passes_call tk fun _ _ _ _ h => h
  have hp := passes_of (X := cxOf (L2.CX P w) P w K mg base N11 "make" (defScope (top 11)) f cdv A outer s H E) rfl
  have nd : N11.Nodup := sc11.nd
  exact (ss_cons (sx_if (tEq hr (ex_bor (vS 1)) (ex_bor ev_int)) (ss_one (zRaise 0 T.e_BadNumber tk)) ss_nil)
    (ss_cons (zSet 2 nd (kS d_divisor (hr.mono (by first | decide | omega)) hx (aS (vS 0) (aS (vS 1) nS))))
    (ss_cons (sx_if (tLt (ex_bor (vS 1)) (ex_bor ev_int)) (ss_one (zSet 2 nd (uNeg (ex_srd (vS 2))))) ss_nil)
    (ss_one (zRet (ev_tup (aS (bDiv (ex_bor (vS 0)) (ex_bor (vS 2))) (aS (bDiv (ex_bor (vS 1)) (ex_bor (vS 2))) nS))))))))
abbrev N12 : List Str := ["one", "other"]
theorem sc12 : FnScope N12 (["one", "other"] : List Str) (defScope (top 12)) := ⟨rfl, rfl, rfl, by decide +kernel, rfl, by decide +kernel, by decide +kernel⟩
abbrev c12 : Cf := { M := [] }
set_option maxHeartbeats 8000000 in
theorem ok12 (T : Tx K mg) {f : Addr} {fd : FuncData} (F : Fun K "add" "add" (top 12) f fd) (d_make : FnA P w K mg base "make" 2 (FnS K (clA K xs) false ratios_make)) : FnOk P w K mg base (L2.CX P w) (2 + 1) f fd (["one", "other"] : List Str) (FnS K (clA K xs) false ratios_add) := by
  refine fn_ok (c := c12) F sc12 (by decide) rfl rfl fun cdv A outer s H E hr => ?_
  have tk : Takes (cxOf (L2.CX P w) P w K mg base N12 "add" (defScope (top 12)) f cdv A outer s H E) (fun cls d _ H => E cls d H) := takes_of rfl rfl rfl rfl
  have hx : Passes (L2.CX P w) (cxOf (L2.CX P w) P w K mg base N12 "add" (defScope (top 12)) f cdv A outer s H E) E := passes_call tk fun _ _ _ _ h => h
  have hp := passes_of (X := cxOf (L2.CX P w) P w K mg base N12 "add" (defScope (top 12)) f cdv A outer s H E) rfl
  have nd : N12.Nodup := sc12.nd
  exact (ss_one (zRet (kS d_make (hr.mono (by first | decide | omega)) hx (aS (bAdd (ex_bor (bMul (ex_bor (iX (ex_srd (vS 0)) (ex_bor ev_int))) (ex_bor (iX (ex_srd (vS 1)) (ex_bor ev_int))))) (ex_bor (bMul (ex_bor (iX (ex_srd (vS 1)) (ex_bor ev_int))) (ex_bor (iX (ex_srd (vS 0)) (ex_bor ev_int)))))) (aS (bMul (ex_bor (iX (ex_srd (vS 0)) (ex_bor ev_int))) (ex_bor (iX (ex_srd (vS 1)) (ex_bor ev_int)))) nS)))))
abbrev N15 : List Str := ["one", "other"]
theorem sc15 : FnScope N15 (["one", "other"] : List Str) (defScope (top 15)) := ⟨rfl, rfl, rfl, by decide +kernel, rfl, by decide +kernel, by decide +kernel⟩
abbrev c15 : Cf := { M := [] }
set_option maxHeartbeats 8000000 in
theorem ok15 (T : Tx K mg) {f : Addr} {fd : FuncData} (F : Fun K "multiply" "multiply" (top 15) f fd) (d_make : FnA P w K mg base "make" 2 (FnS K (clA K xs) false ratios_make)) : FnOk P w K mg base (L2.CX P w) (2 + 1) f fd (["one", "other"] : List Str) (FnS K (clA K xs) false ratios_multiply) := by
  refine fn_ok (c := c15) F sc15 (by decide) rfl rfl fun cdv A outer s H E hr => ?_
  have tk : Takes (cxOf (L2.CX P w) P w K mg base N15 "multiply" (defScope (top 15)) f cdv A outer s H E) (fun cls d _ H => E cls d H) := takes_of rfl rfl rfl rfl
  have hx : Passes (L2.CX P w) (cxOf (L2.CX P w) P w K mg base N15 "multiply" (defScope (top 15)) f cdv A outer s H E) E := passes_call tk fun _ _ _ _ h => h
  have hp := passes_of (X := cxOf (L2.CX P w) P w K mg base N15 "multiply" (defScope (top 15)) f cdv A outer s H E) rfl
  have nd : N15.Nodup := sc15.nd
  exact (ss_one (zRet (kS d_make (hr.mono (by first | decide | omega)) hx (aS (bMul (ex_bor (iX (ex_srd (vS 0)) (ex_bor ev_int))) (ex_bor (iX (ex_srd (vS 1)) (ex_bor ev_int)))) (aS (bMul (ex_bor (iX (ex_srd (vS 0)) (ex_bor ev_int))) (ex_bor (iX (ex_srd (vS 1)) (ex_bor ev_int)))) nS)))))
abbrev N28 : List Str := ["one", "other", "found", "k", "left", "j", "right"]
theorem sc28 : FnScope N28 (["one", "other"] : List Str) (defScope (top 28)) := ⟨rfl, rfl, rfl, by decide +kernel, rfl, by decide +kernel, by decide +kernel⟩
abbrev c28 : Cf := { M := [2] }
set_option maxHeartbeats 8000000 in
theorem ok28 (T : Tx K mg) {f : Addr} {fd : FuncData} (F : Fun K "multiply" "multiply" (top 28) f fd) (d_add_ratios : FnA P w K mg base "add_ratios" 3 (FnS K (clA K xs) false ratios_add)) (d_multiply_ratios : FnA P w K mg base "multiply_ratios" 3 (FnS K (clA K xs) false ratios_multiply)) : FnOk P w K mg base (L2.CX P w) (3 + 1) f fd (["one", "other"] : List Str) (FnS K (clA K xs) false forms_multiply) := by
  refine fn_ok (c := c28) F sc28 (by decide) rfl rfl fun cdv A outer s H E hr => ?_
  have tk : Takes (cxOf (L2.CX P w) P w K mg base N28 "multiply" (defScope (top 28)) f cdv A outer s H E) (fun cls d _ H => E cls d H) := takes_of rfl rfl rfl rfl
  have hx : Passes (L2.CX P w) (cxOf (L2.CX P w) P w K mg base N28 "multiply" (defScope (top 28)) f cdv A outer s H E) E := passes_call tk fun _ _ _ _ h => h
  have hp := passes_of (X := cxOf (L2.CX P w) P w K mg base N28 "multiply" (defScope (top 28)) f cdv A outer s H E) rfl
  have nd : N28.Nodup := sc28.nd
  exact (ss_cons (sx_if (tGt (ex_bor (bSub (ex_bor (bAdd (ex_bor (fLen T.bn (aB (ex_srd (vS 0)) nB))) (ex_bor (fLen T.bn (aB (ex_srd (vS 1)) nB))))) (ex_bor ev_int))) (ex_bor (bAdd (ex_bor (gC T.c_MOST_ORDER)) (ex_bor ev_int)))) (ss_one (zRaise 1 T.e_BadForm tk)) ss_nil)
    (ss_cons (zOwn 2 nd (bMulL (ex_fb (ev_lst (aS (gC T.c_ZERO) nS))) (ex_bor (bSub (ex_bor (bAdd (ex_bor (fLen T.bn (aB (ex_srd (vS 0)) nB))) (ex_bor (fLen T.bn (aB (ex_srd (vS 1)) nB))))) (ex_bor ev_int)))))
    (ss_cons (zFor hp (wEn T.bn (vS 0)) (gT (gSs (gV 3 nd) (gSs (gV 4 nd) gxs_nil)))
      (ss_one (sx_if (tNe hr (ex_bor (vS 4)) (ex_bor (gC T.c_ZERO))) (ss_one (zFor hp (wEn T.bn (vS 1)) (gT (gSs (gV 5 nd) (gSs (gV 6 nd) gxs_nil)))
      (ss_one (zPut 2 (ex_bor (bAdd (ex_bor (vS 3)) (ex_bor (vS 5)))) (kS d_add_ratios (hr.mono (by first | decide | omega)) hx (aS (iX (ex_rd (vB 2)) (ex_bor (bAdd (ex_bor (vS 3)) (ex_bor (vS 5))))) (aS (kS d_multiply_ratios (hr.mono (by first | decide | omega)) hx (aS (vS 4) (aS (vS 6) nS))) nS))))))) ss_nil)))
    (ss_one (zRet (fTuple T.bn (aB (ex_srd (vS 2)) nB)))))))
abbrev N24 : List Str := ["one", "other", "left", "right"]
theorem sc24 : FnScope N24 (["one", "other"] : List Str) (defScope (top 24)) := ⟨rfl, rfl, rfl, by decide +kernel, rfl, by decide +kernel, by decide +kernel⟩
abbrev c24 : Cf := { M := [] }
set_option maxHeartbeats 8000000 in
theorem ok24 (T : Tx K mg) {f : Addr} {fd : FuncData} (F : Fun K "add" "add" (top 24) f fd) (d_add_ratios : FnA P w K mg base "add_ratios" 3 (FnS K (clA K xs) false ratios_add)) : FnOk P w K mg base (L2.CX P w) (3 + 1) f fd (["one", "other"] : List Str) (FnS K (clA K xs) false forms_add) := by
  refine fn_ok (c := c24) F sc24 (by decide) rfl rfl fun cdv A outer s H E hr => ?_
  have tk : Takes (cxOf (L2.CX P w) P w K mg base N24 "add" (defScope (top 24)) f cdv A outer s H E) (fun cls d _ H => E cls d H) := takes_of rfl rfl rfl rfl
  have hx : Passes (L2.CX P w) (cxOf (L2.CX P w) P w K mg base N24 "add" (defScope (top 24)) f cdv A outer s H E) E := passes_call tk fun _ _ _ _ h => h
  have hp := passes_of (X := cxOf (L2.CX P w) P w K mg base N24 "add" (defScope (top 24)) f cdv A outer s H E) rfl
  have nd : N24.Nodup := sc24.nd
  exact (ss_cons (sx_if (tNe hr (ex_bor (fLen T.bn (aB (ex_srd (vS 0)) nB))) (ex_bor (fLen T.bn (aB (ex_srd (vS 1)) nB)))) (ss_one (zRaise 1 T.e_BadForm tk)) ss_nil)
    (ss_one (zRet (fTuple T.bn (aB (ex_frd (lC [("left", 2), ("right", 3)] nd (wZ T.bn (ex_srd (vS 0)) (ex_srd (vS 1))) (fun _ _ _ _ _ => (gT (gSs (gV 2 nd) (gSs (gV 3 nd) gxs_nil)))) (fun _ _ _ _ _ => tsx_nil) (fun _ _ _ _ _ => (kS d_add_ratios (hr.mono (by first | decide | omega)) passL (aS (vS 2) (aS (vS 3) nS)))))) nB)))))
abbrev N26 : List Str := ["number", "one", "item"]
theorem sc26 : FnScope N26 (["number", "one"] : List Str) (defScope (top 26)) := ⟨rfl, rfl, rfl, by decide +kernel, rfl, by decide +kernel, by decide +kernel⟩
abbrev c26 : Cf := { M := [] }
set_option maxHeartbeats 8000000 in
theorem ok26 (T : Tx K mg) {f : Addr} {fd : FuncData} (F : Fun K "scaled" "scaled" (top 26) f fd) (d_multiply_ratios : FnA P w K mg base "multiply_ratios" 3 (FnS K (clA K xs) false ratios_multiply)) : FnOk P w K mg base (L2.CX P w) (3 + 1) f fd (["number", "one"] : List Str) (FnS K (clA K xs) false forms_scaled) := by
  refine fn_ok (c := c26) F sc26 (by decide) rfl rfl fun cdv A outer s H E hr => ?_
  have tk : Takes (cxOf (L2.CX P w) P w K mg base N26 "scaled" (defScope (top 26)) f cdv A outer s H E) (fun cls d _ H => E cls d H) := takes_of rfl rfl rfl rfl
  have hx : Passes (L2.CX P w) (cxOf (L2.CX P w) P w K mg base N26 "scaled" (defScope (top 26)) f cdv A outer s H E) E := passes_call tk fun _ _ _ _ h => h
  have hp := passes_of (X := cxOf (L2.CX P w) P w K mg base N26 "scaled" (defScope (top 26)) f cdv A outer s H E) rfl
  have nd : N26.Nodup := sc26.nd
  exact (ss_one (zRet (fTuple T.bn (aB (ex_frd (lC [("item", 2)] nd (wS (ex_srd (vS 1))) (fun _ _ _ _ _ => (gV 2 nd)) (fun _ _ _ _ _ => tsx_nil) (fun _ _ _ _ _ => (kS d_multiply_ratios (hr.mono (by first | decide | omega)) passL (aS (vS 0) (aS (vS 2) nS)))))) nB))))
abbrev N36 : List Str := ["form", "change", "a", "b", "c", "d", "size", "first", "last", "_", "found", "k", "item"]
theorem sc36 : FnScope N36 (["form", "change"] : List Str) (defScope (top 36)) := ⟨rfl, rfl, rfl, by decide +kernel, rfl, by decide +kernel, by decide +kernel⟩
abbrev c36 : Cf := { M := [7, 8] }
set_option maxHeartbeats 8000000 in
theorem ok36 (T : Tx K mg) {f : Addr} {fd : FuncData} (F : Fun K "changed" "changed" (top 36) f fd) (d_check_form : FnA P w K mg base "check_form" 4 (FnS K (clA K xs) false forms_check_form)) (d_is_change : FnA P w K mg base "is_change" 3 (FnS K (clA K xs) false forms_is_change)) (d_multiply_forms : FnA P w K mg base "multiply_forms" 4 (FnS K (clA K xs) false forms_multiply)) (d_add_forms : FnA P w K mg base "add_forms" 4 (FnS K (clA K xs) false forms_add)) (d_scaled_forms : FnA P w K mg base "scaled_forms" 4 (FnS K (clA K xs) false forms_scaled)) : FnOk P w K mg base (L2.CX P w) (4 + 1) f fd (["form", "change"] : List Str) (FnS K (clA K xs) false forms_changed) := by
  refine fn_ok (c := c36) F sc36 (by decide) rfl rfl fun cdv A outer s H E hr => ?_
  have tk : Takes (cxOf (L2.CX P w) P w K mg base N36 "changed" (defScope (top 36)) f cdv A outer s H E) (fun cls d _ H => E cls d H) := takes_of rfl rfl rfl rfl
  have hx : Passes (L2.CX P w) (cxOf (L2.CX P w) P w K mg base N36 "changed" (defScope (top 36)) f cdv A outer s H E) E := passes_call tk fun _ _ _ _ h => h
  have hp := passes_of (X := cxOf (L2.CX P w) P w K mg base N36 "changed" (defScope (top 36)) f cdv A outer s H E) rfl
  have nd : N36.Nodup := sc36.nd
  exact (ss_cons (zDrop (ex_bor (kS d_check_form (hr.mono (by first | decide | omega)) hx (aS (vS 0) nS))))
    (ss_cons (sx_if (tx_not (tV (ex_bor (kS d_is_change (hr.mono (by first | decide | omega)) hx (aS (vS 1) nS))))) (ss_one (zRaise 2 T.e_BadChange tk)) ss_nil)
    (ss_cons (zAsg (gT (gSs (gV 2 nd) (gSs (gV 3 nd) (gSs (gV 4 nd) (gSs (gV 5 nd) gxs_nil))))) (vS 1))
    (ss_cons (zSet 6 nd (bSub (ex_bor (fLen T.bn (aB (ex_srd (vS 0)) nB))) (ex_bor ev_int)))
    (ss_cons (zPar2 7 8 true true nd (ev_lst (aS (ev_tup (aS (gC T.c_ONE) nS)) nS)) (ev_lst (aS (ev_tup (aS (gC T.c_ONE) nS)) nS)))
    (ss_cons (zFor hp (wR1 T.bn (aB (ex_srd (vS 6)) nB)) (gV 9 nd)
      (ss_cons (zApp 7 (kS d_multiply_forms (hr.mono (by first | decide | omega)) hx (aS (iX (ex_rd (vB 7)) (ex_bor (uNeg (ex_srd ev_int)))) (aS (ev_tup (aS (vS 2) (aS (vS 3) nS))) nS))))
    (ss_one (zApp 8 (kS d_multiply_forms (hr.mono (by first | decide | omega)) hx (aS (iX (ex_rd (vB 8)) (ex_bor (uNeg (ex_srd ev_int)))) (aS (ev_tup (aS (vS 4) (aS (vS 5) nS))) nS)))))))
    (ss_cons (zSet 10 nd (bMul (ex_bor (ev_tup (aS (gC T.c_ZERO) nS))) (ex_bor (bAdd (ex_bor (vS 6)) (ex_bor ev_int)))))
    (ss_cons (zFor hp (wEn T.bn (vS 0)) (gT (gSs (gV 11 nd) (gSs (gV 12 nd) gxs_nil)))
      (ss_one (sx_if (tNe hr (ex_bor (vS 12)) (ex_bor (gC T.c_ZERO))) (ss_one (zSet 10 nd (kS d_add_forms (hr.mono (by first | decide | omega)) hx (aS (vS 10) (aS (kS d_scaled_forms (hr.mono (by first | decide | omega)) hx (aS (vS 12) (aS (kS d_multiply_forms (hr.mono (by first | decide | omega)) hx (aS (iX (ex_rd (vB 7)) (ex_bor (bSub (ex_bor (vS 6)) (ex_bor (vS 11))))) (aS (iX (ex_rd (vB 8)) (ex_bor (vS 11))) nS))) nS))) nS))))) ss_nil)))
    (ss_one (zRet (vS 10)))))))))))
abbrev N39 : List Str := ["place", "size", "k"]
theorem sc39 : FnScope N39 (["place", "size"] : List Str) (defScope (top 39)) := ⟨rfl, rfl, rfl, by decide +kernel, rfl, by decide +kernel, by decide +kernel⟩
abbrev c39 : Cf := { M := [] }
set_option maxHeartbeats 8000000 in
theorem ok39 (T : Tx K mg) {f : Addr} {fd : FuncData} (F : Fun K "unit_form" "unit_form" (top 39) f fd) : FnOk P w K mg base (L2.CX P w) (0 + 1) f fd (["place", "size"] : List Str) (FnS K (clA K xs) false moves_unit_form) := by
  refine fn_ok (c := c39) F sc39 (by decide) rfl rfl fun cdv A outer s H E hr => ?_
  have tk : Takes (cxOf (L2.CX P w) P w K mg base N39 "unit_form" (defScope (top 39)) f cdv A outer s H E) (fun cls d _ H => E cls d H) := takes_of rfl rfl rfl rfl
  have hx : Passes (L2.CX P w) (cxOf (L2.CX P w) P w K mg base N39 "unit_form" (defScope (top 39)) f cdv A outer s H E) E := passes_call tk fun _ _ _ _ h => h
  have hp := passes_of (X := cxOf (L2.CX P w) P w K mg base N39 "unit_form" (defScope (top 39)) f cdv A outer s H E) rfl
  have nd : N39.Nodup := sc39.nd
  exact (ss_one (zRet (fTuple T.bn (aB (ex_frd (lC [("k", 2)] nd (wR1 T.bn (aB (ex_srd (bAdd (ex_bor (vS 1)) (ex_bor ev_int))) nB)) (fun _ _ _ _ _ => (gV 2 nd)) (fun _ _ _ _ _ => tsx_nil) (fun _ _ _ _ _ => (ev_if (tEq hr (ex_bor (vS 2)) (ex_bor (vS 0))) (gC T.c_ONE) (gC T.c_ZERO))))) nB))))
abbrev N40 : List Str := ["change", "size", "columns", "k"]
theorem sc40 : FnScope N40 (["change", "size"] : List Str) (defScope (top 40)) := ⟨rfl, rfl, rfl, by decide +kernel, rfl, by decide +kernel, by decide +kernel⟩
abbrev c40 : Cf := { M := [] }
set_option maxHeartbeats 8000000 in
theorem ok40 (T : Tx K mg) {f : Addr} {fd : FuncData} (F : Fun K "table_of" "table_of" (top 40) f fd) (d_check_order : FnA P w K mg base "check_order" 2 (FnS K (clA K xs) false forms_check_order)) (d_turned : FnA P w K mg base "turned" 1 (FnS K (clA K xs) false moves_turned)) (d_changed : FnA P w K mg base "changed" 5 (FnS K (clA K xs) false forms_changed)) (d_unit_form : FnA P w K mg base "unit_form" 1 (FnS K (clA K xs) false moves_unit_form)) : FnOk P w K mg base (L2.CX P w) (5 + 1) f fd (["change", "size"] : List Str) (FnS K (clA K xs) false moves_table_of) := by
  refine fn_ok (c := c40) F sc40 (by decide) rfl rfl fun cdv A outer s H E hr => ?_
  have tk : Takes (cxOf (L2.CX P w) P w K mg base N40 "table_of" (defScope (top 40)) f cdv A outer s H E) (fun cls d _ H => E cls d H) := takes_of rfl rfl rfl rfl
  have hx : Passes (L2.CX P w) (cxOf (L2.CX P w) P w K mg base N40 "table_of" (defScope (top 40)) f cdv A outer s H E) E := passes_call tk fun _ _ _ _ h => h
  have hp := passes_of (X := cxOf (L2.CX P w) P w K mg base N40 "table_of" (defScope (top 40)) f cdv A outer s H E) rfl
  have nd : N40.Nodup := sc40.nd
  exact (ss_cons (zDrop (ex_bor (kS d_check_order (hr.mono (by first | decide | omega)) hx (aS (vS 1) nS))))
    (ss_cons (zSetLc 2 false [("k", 3)] nd (wR1 T.bn (aB (ex_srd (bAdd (ex_bor (vS 1)) (ex_bor ev_int))) nB)) (fun _ _ _ _ _ => (gV 3 nd)) (fun _ _ _ _ _ => tsx_nil) (fun _ _ _ _ _ => (kS d_changed (hr.mono (by first | decide | omega)) passL (aS (kS d_unit_form (hr.mono (by first | decide | omega)) passL (aS (vS 3) (aS (vS 1) nS))) (aS (vS 0) nS)))))
    (ss_one (zRet (kS d_turned (hr.mono (by first | decide | omega)) hx (aS (vS 2) nS))))))
abbrev N69 : List Str := ["above", "below", "left", "right"]
theorem sc69 : FnScope N69 (["above", "below"] : List Str) (defScope (top 69)) := ⟨rfl, rfl, rfl, by decide +kernel, rfl, by decide +kernel, by decide +kernel⟩
abbrev c69 : Cf := { M := [] }
set_option maxHeartbeats 8000000 in
theorem ok69 (T : Tx K mg) {f : Addr} {fd : FuncData} (F : Fun K "_law_make" "_law_make" (top 69) f fd) : FnOk P w K mg base (L2.CX P w) (0 + 1) f fd (["above", "below"] : List Str) (FnS K (clA K xs) false law_make) := by
  refine fn_ok (c := c69) F sc69 (by decide) rfl rfl fun cdv A outer s H E hr => ?_
  have tk : Takes (cxOf (L2.CX P w) P w K mg base N69 "_law_make" (defScope (top 69)) f cdv A outer s H E) (fun cls d _ H => E cls d H) := takes_of rfl rfl rfl rfl
  have hx : Passes (L2.CX P w) (cxOf (L2.CX P w) P w K mg base N69 "_law_make" (defScope (top 69)) f cdv A outer s H E) E := passes_call tk fun _ _ _ _ h => h
  have hp := passes_of (X := cxOf (L2.CX P w) P w K mg base N69 "_law_make" (defScope (top 69)) f cdv A outer s H E) rfl
  have nd : N69.Nodup := sc69.nd
  exact (ss_cons (zPar2 2 3 false false nd (fAbs T.bn (aB (ex_srd (vS 0)) nB)) (fAbs T.bn (aB (ex_srd (vS 1)) nB)))
    (ss_cons (zWhile 1000000 hp (tGt (ex_bor (vS 3)) (ex_bor ev_int))
      (ss_one (zPar2 2 3 false false nd (vS 3) (bMod (ex_bor (vS 2)) (ex_bor (vS 3))))))
    (ss_cons (zSet 2 nd (ev_if (tLt (ex_bor (vS 1)) (ex_bor ev_int)) (uNeg (ex_srd (vS 2))) (vS 2)))
    (ss_one (zRet (ev_tup (aS (bDiv (ex_bor (vS 0)) (ex_bor (vS 2))) (aS (bDiv (ex_bor (vS 1)) (ex_bor (vS 2))) nS))))))))
abbrev N70 : List Str := ["one", "other"]
theorem sc70 : FnScope N70 (["one", "other"] : List Str) (defScope (top 70)) := ⟨rfl, rfl, rfl, by decide +kernel, rfl, by decide +kernel, by decide +kernel⟩
abbrev c70 : Cf := { M := [] }
set_option maxHeartbeats 8000000 in
theorem ok70 (T : Tx K mg) {f : Addr} {fd : FuncData} (F : Fun K "_law_add" "_law_add" (top 70) f fd) (d__law_make : FnA P w K mg base "_law_make" 1 (FnS K (clA K xs) false law_make)) : FnOk P w K mg base (L2.CX P w) (1 + 1) f fd (["one", "other"] : List Str) (FnS K (clA K xs) false law_add) := by
  refine fn_ok (c := c70) F sc70 (by decide) rfl rfl fun cdv A outer s H E hr => ?_
  have tk : Takes (cxOf (L2.CX P w) P w K mg base N70 "_law_add" (defScope (top 70)) f cdv A outer s H E) (fun cls d _ H => E cls d H) := takes_of rfl rfl rfl rfl
  have hx : Passes (L2.CX P w) (cxOf (L2.CX P w) P w K mg base N70 "_law_add" (defScope (top 70)) f cdv A outer s H E) E := passes_call tk fun _ _ _ _ h => h
  have hp := passes_of (X := cxOf (L2.CX P w) P w K mg base N70 "_law_add" (defScope (top 70)) f cdv A outer s H E) rfl
  have nd : N70.Nodup := sc70.nd
  exact (ss_one (zRet (kS d__law_make (hr.mono (by first | decide | omega)) hx (aS (bAdd (ex_bor (bMul (ex_bor (iX (ex_srd (vS 0)) (ex_bor ev_int))) (ex_bor (iX (ex_srd (vS 1)) (ex_bor ev_int))))) (ex_bor (bMul (ex_bor (iX (ex_srd (vS 1)) (ex_bor ev_int))) (ex_bor (iX (ex_srd (vS 0)) (ex_bor ev_int)))))) (aS (bMul (ex_bor (iX (ex_srd (vS 0)) (ex_bor ev_int))) (ex_bor (iX (ex_srd (vS 1)) (ex_bor ev_int)))) nS)))))
abbrev N71 : List Str := ["one", "other"]
theorem sc71 : FnScope N71 (["one", "other"] : List Str) (defScope (top 71)) := ⟨rfl, rfl, rfl, by decide +kernel, rfl, by decide +kernel, by decide +kernel⟩
abbrev c71 : Cf := { M := [] }
set_option maxHeartbeats 8000000 in
theorem ok71 (T : Tx K mg) {f : Addr} {fd : FuncData} (F : Fun K "_law_mul" "_law_mul" (top 71) f fd) (d__law_make : FnA P w K mg base "_law_make" 1 (FnS K (clA K xs) false law_make)) : FnOk P w K mg base (L2.CX P w) (1 + 1) f fd (["one", "other"] : List Str) (FnS K (clA K xs) false law_mul) := by
  refine fn_ok (c := c71) F sc71 (by decide) rfl rfl fun cdv A outer s H E hr => ?_
  have tk : Takes (cxOf (L2.CX P w) P w K mg base N71 "_law_mul" (defScope (top 71)) f cdv A outer s H E) (fun cls d _ H => E cls d H) := takes_of rfl rfl rfl rfl
  have hx : Passes (L2.CX P w) (cxOf (L2.CX P w) P w K mg base N71 "_law_mul" (defScope (top 71)) f cdv A outer s H E) E := passes_call tk fun _ _ _ _ h => h
  have hp := passes_of (X := cxOf (L2.CX P w) P w K mg base N71 "_law_mul" (defScope (top 71)) f cdv A outer s H E) rfl
  have nd : N71.Nodup := sc71.nd
  exact (ss_one (zRet (kS d__law_make (hr.mono (by first | decide | omega)) hx (aS (bMul (ex_bor (iX (ex_srd (vS 0)) (ex_bor ev_int))) (ex_bor (iX (ex_srd (vS 1)) (ex_bor ev_int)))) (aS (bMul (ex_bor (iX (ex_srd (vS 0)) (ex_bor ev_int))) (ex_bor (iX (ex_srd (vS 1)) (ex_bor ev_int)))) nS)))))
abbrev N76 : List Str := ["one", "other", "found", "i", "a", "j", "b"]
theorem sc76 : FnScope N76 (["one", "other"] : List Str) (defScope (top 76)) := ⟨rfl, rfl, rfl, by decide +kernel, rfl, by decide +kernel, by decide +kernel⟩
abbrev c76 : Cf := { M := [2] }
set_option maxHeartbeats 8000000 in
theorem ok76 (T : Tx K mg) {f : Addr} {fd : FuncData} (F : Fun K "_law_poly" "_law_poly" (top 76) f fd) (d__law_add : FnA P w K mg base "_law_add" 2 (FnS K (clA K xs) false law_add)) (d__law_mul : FnA P w K mg base "_law_mul" 2 (FnS K (clA K xs) false law_mul)) : FnOk P w K mg base (L2.CX P w) (2 + 1) f fd (["one", "other"] : List Str) (FnS K (clA K xs) false law_poly) := by
  refine fn_ok (c := c76) F sc76 (by decide) rfl rfl fun cdv A outer s H E hr => ?_
  have tk : Takes (cxOf (L2.CX P w) P w K mg base N76 "_law_poly" (defScope (top 76)) f cdv A outer s H E) (fun cls d _ H => E cls d H) := takes_of rfl rfl rfl rfl
  have hx : Passes (L2.CX P w) (cxOf (L2.CX P w) P w K mg base N76 "_law_poly" (defScope (top 76)) f cdv A outer s H E) E := passes_call tk fun _ _ _ _ h => h
  have hp := passes_of (X := cxOf (L2.CX P w) P w K mg base N76 "_law_poly" (defScope (top 76)) f cdv A outer s H E) rfl
  have nd : N76.Nodup := sc76.nd
  exact (ss_cons (zOwn 2 nd (bMulL (ex_fb (ev_lst (aS (ev_tup (aS ev_int (aS ev_int nS))) nS))) (ex_bor (bSub (ex_bor (bAdd (ex_bor (fLen T.bn (aB (ex_srd (vS 0)) nB))) (ex_bor (fLen T.bn (aB (ex_srd (vS 1)) nB))))) (ex_bor ev_int)))))
    (ss_cons (zFor hp (wEn T.bn (vS 0)) (gT (gSs (gV 3 nd) (gSs (gV 4 nd) gxs_nil)))
      (ss_one (zFor hp (wEn T.bn (vS 1)) (gT (gSs (gV 5 nd) (gSs (gV 6 nd) gxs_nil)))
      (ss_one (zPut 2 (ex_bor (bAdd (ex_bor (vS 3)) (ex_bor (vS 5)))) (kS d__law_add (hr.mono (by first | decide | omega)) hx (aS (iX (ex_rd (vB 2)) (ex_bor (bAdd (ex_bor (vS 3)) (ex_bor (vS 5))))) (aS (kS d__law_mul (hr.mono (by first | decide | omega)) hx (aS (vS 4) (aS (vS 6) nS))) nS))))))))
    (ss_one (zRet (vS 2)))))
abbrev N77 : List Str := ["form", "change", "size", "total", "k", "item", "part", "j", "a", "b"]
theorem sc77 : FnScope N77 (["form", "change"] : List Str) (defScope (top 77)) := ⟨rfl, rfl, rfl, by decide +kernel, rfl, by decide +kernel, by decide +kernel⟩
abbrev c77 : Cf := { M := [] }
set_option maxHeartbeats 8000000 in
theorem ok77 (T : Tx K mg) {f : Addr} {fd : FuncData} (F : Fun K "_law_changed" "_law_changed" (top 77) f fd) (d__law_poly : FnA P w K mg base "_law_poly" 3 (FnS K (clA K xs) false law_poly)) (d__law_add : FnA P w K mg base "_law_add" 2 (FnS K (clA K xs) false law_add)) : FnOk P w K mg base (L2.CX P w) (3 + 1) f fd (["form", "change"] : List Str) (FnS K (clA K xs) false law_changed) := by
  refine fn_ok (c := c77) F sc77 (by decide) rfl rfl fun cdv A outer s H E hr => ?_
  have tk : Takes (cxOf (L2.CX P w) P w K mg base N77 "_law_changed" (defScope (top 77)) f cdv A outer s H E) (fun cls d _ H => E cls d H) := takes_of rfl rfl rfl rfl
  have hx : Passes (L2.CX P w) (cxOf (L2.CX P w) P w K mg base N77 "_law_changed" (defScope (top 77)) f cdv A outer s H E) E := passes_call tk fun _ _ _ _ h => h
  have hp := passes_of (X := cxOf (L2.CX P w) P w K mg base N77 "_law_changed" (defScope (top 77)) f cdv A outer s H E) rfl
  have nd : N77.Nodup := sc77.nd
  exact (ss_cons (zSet 2 nd (bSub (ex_bor (fLen T.bn (aB (ex_srd (vS 0)) nB))) (ex_bor ev_int)))
    (ss_cons (zSet 3 nd (bMul (ex_fb (ev_lst (aS (ev_tup (aS ev_int (aS ev_int nS))) nS))) (ex_bor (bAdd (ex_bor (vS 2)) (ex_bor ev_int)))))
    (ss_cons (zFor hp (wEn T.bn (vS 0)) (gT (gSs (gV 4 nd) (gSs (gV 5 nd) gxs_nil)))
      (ss_cons (zSet 6 nd (ex_safe (ev_lst (aS (vS 5) nS))))
    (ss_cons (zFor hp (wR1 T.bn (aB (ex_srd (bSub (ex_bor (vS 2)) (ex_bor (vS 4)))) nB)) (gV 7 nd)
      (ss_one (zSet 6 nd (kS d__law_poly (hr.mono (by first | decide | omega)) hx (aS (vS 6) (aS (ev_slice (ex_srd (vS 1)) ox_none (ox_some (ex_bor ev_int))) nS))))))
    (ss_cons (zFor hp (wR1 T.bn (aB (ex_srd (vS 4)) nB)) (gV 7 nd)
      (ss_one (zSet 6 nd (kS d__law_poly (hr.mono (by first | decide | omega)) hx (aS (vS 6) (aS (ev_slice (ex_srd (vS 1)) (ox_some (ex_bor ev_int)) ox_none) nS))))))
    (ss_one (zSetLc 3 false [("a", 8), ("b", 9)] nd (wZ T.bn (ex_srd (vS 3)) (ex_srd (vS 6))) (fun _ _ _ _ _ => (gT (gSs (gV 8 nd) (gSs (gV 9 nd) gxs_nil)))) (fun _ _ _ _ _ => tsx_nil) (fun _ _ _ _ _ => (kS d__law_add (hr.mono (by first | decide | omega)) passL (aS (vS 8) (aS (vS 9) nS))))))))))
    (ss_one (zRet (fTuple T.bn (aB (ex_srd (vS 3)) nB)))))))
abbrev N34 : List Str := ["a", "b", "c", "d"]
theorem sc34 : FnScope N34 (["a", "b", "c", "d"] : List Str) (defScope (top 34)) := ⟨rfl, rfl, rfl, by decide +kernel, rfl, by decide +kernel, by decide +kernel⟩
abbrev c34 : Cf := { M := [] }
set_option maxHeartbeats 8000000 in
theorem ok34 (T : Tx K mg) {f : Addr} {fd : FuncData} (F : Fun K "cross" "cross" (top 34) f fd) (d_add_ratios : FnA P w K mg base "add_ratios" 3 (FnS K (clA K xs) false ratios_add)) (d_multiply_ratios : FnA P w K mg base "multiply_ratios" 3 (FnS K (clA K xs) false ratios_multiply)) : FnOk P w K mg base (L2.CX P w) (3 + 1) f fd (["a", "b", "c", "d"] : List Str) (FnS K (clA K xs) false forms_cross) := by
  refine fn_ok (c := c34) F sc34 (by decide) rfl rfl fun cdv A outer s H E hr => ?_
  have tk : Takes (cxOf (L2.CX P w) P w K mg base N34 "cross" (defScope (top 34)) f cdv A outer s H E) (fun cls d _ H => E cls d H) := takes_of rfl rfl rfl rfl
  have hx : Passes (L2.CX P w) (cxOf (L2.CX P w) P w K mg base N34 "cross" (defScope (top 34)) f cdv A outer s H E) E := passes_call tk fun _ _ _ _ h => h
  have hp := passes_of (X := cxOf (L2.CX P w) P w K mg base N34 "cross" (defScope (top 34)) f cdv A outer s H E) rfl
  have nd : N34.Nodup := sc34.nd
  exact (ss_one (zRet (kS d_add_ratios (hr.mono (by first | decide | omega)) hx (aS (kS d_multiply_ratios (hr.mono (by first | decide | omega)) hx (aS (vS 0) (aS (vS 1) nS))) (aS (kS d_multiply_ratios (hr.mono (by first | decide | omega)) hx (aS (vS 2) (aS (vS 3) nS))) nS)))))
abbrev N33 : List Str := ["one", "other", "a", "b", "c", "d", "p", "q", "r", "s", "first"]
theorem sc33 : FnScope N33 (["one", "other"] : List Str) (defScope (top 33)) := ⟨rfl, rfl, rfl, by decide +kernel, rfl, by decide +kernel, by decide +kernel⟩
abbrev c33 : Cf := { M := [] }
set_option maxHeartbeats 8000000 in
theorem ok33 (T : Tx K mg) {f : Addr} {fd : FuncData} (F : Fun K "after" "after" (top 33) f fd) (d_cross_forms : FnA P w K mg base "cross_forms" 4 (FnS K (clA K xs) false forms_cross)) : FnOk P w K mg base (L2.CX P w) (4 + 1) f fd (["one", "other"] : List Str) (FnS K (clA K xs) false forms_after) := by
  refine fn_ok (c := c33) F sc33 (by decide) rfl rfl fun cdv A outer s H E hr => ?_
  have tk : Takes (cxOf (L2.CX P w) P w K mg base N33 "after" (defScope (top 33)) f cdv A outer s H E) (fun cls d _ H => E cls d H) := takes_of rfl rfl rfl rfl
  have hx : Passes (L2.CX P w) (cxOf (L2.CX P w) P w K mg base N33 "after" (defScope (top 33)) f cdv A outer s H E) E := passes_call tk fun _ _ _ _ h => h
  have hp := passes_of (X := cxOf (L2.CX P w) P w K mg base N33 "after" (defScope (top 33)) f cdv A outer s H E) rfl
  have nd : N33.Nodup := sc33.nd
  exact (ss_cons (zAsg (gT (gSs (gV 2 nd) (gSs (gV 3 nd) (gSs (gV 4 nd) (gSs (gV 5 nd) gxs_nil))))) (vS 0))
    (ss_cons (zAsg (gT (gSs (gV 6 nd) (gSs (gV 7 nd) (gSs (gV 8 nd) (gSs (gV 9 nd) gxs_nil))))) (vS 1))
    (ss_cons (zSet 10 nd (ev_tup (aS (kS d_cross_forms (hr.mono (by first | decide | omega)) hx (aS (vS 2) (aS (vS 6) (aS (vS 3) (aS (vS 8) nS))))) (aS (kS d_cross_forms (hr.mono (by first | decide | omega)) hx (aS (vS 2) (aS (vS 7) (aS (vS 3) (aS (vS 9) nS))))) nS))))
    (ss_one (zRet (bAdd (ex_bor (vS 10)) (ex_bor (ev_tup (aS (kS d_cross_forms (hr.mono (by first | decide | omega)) hx (aS (vS 4) (aS (vS 6) (aS (vS 5) (aS (vS 8) nS))))) (aS (kS d_cross_forms (hr.mono (by first | decide | omega)) hx (aS (vS 4) (aS (vS 7) (aS (vS 5) (aS (vS 9) nS))))) nS))))))))))
abbrev N46 : List Str := ["one", "other", "row", "mate", "a", "b"]
theorem sc46 : FnScope N46 (["one", "other"] : List Str) (defScope (top 46)) := ⟨rfl, rfl, rfl, by decide +kernel, rfl, by decide +kernel, by decide +kernel⟩
abbrev c46 : Cf := { M := [] }
set_option maxHeartbeats 8000000 in
theorem ok46 (T : Tx K mg) {f : Addr} {fd : FuncData} (F : Fun K "plus" "plus" (top 46) f fd) (d_add_ratios : FnA P w K mg base "add_ratios" 3 (FnS K (clA K xs) false ratios_add)) : FnOk P w K mg base (L2.CX P w) (3 + 1) f fd (["one", "other"] : List Str) (FnS K (clA K xs) false moves_plus) := by
  refine fn_ok (c := c46) F sc46 (by decide) rfl rfl fun cdv A outer s H E hr => ?_
  have tk : Takes (cxOf (L2.CX P w) P w K mg base N46 "plus" (defScope (top 46)) f cdv A outer s H E) (fun cls d _ H => E cls d H) := takes_of rfl rfl rfl rfl
  have hx : Passes (L2.CX P w) (cxOf (L2.CX P w) P w K mg base N46 "plus" (defScope (top 46)) f cdv A outer s H E) E := passes_call tk fun _ _ _ _ h => h
  have hp := passes_of (X := cxOf (L2.CX P w) P w K mg base N46 "plus" (defScope (top 46)) f cdv A outer s H E) rfl
  have nd : N46.Nodup := sc46.nd
  exact (ss_one (zRet (fTuple T.bn (aB (ex_frd (lC [("row", 2), ("mate", 3)] nd (wZ T.bn (ex_srd (vS 0)) (ex_srd (vS 1))) (fun _ _ _ _ _ => (gT (gSs (gV 2 nd) (gSs (gV 3 nd) gxs_nil)))) (fun _ _ _ _ _ => tsx_nil) (fun _ _ _ _ _ => (fTuple T.bn (aB (ex_frd (lC [("a", 4), ("b", 5)] nd (wZ T.bn (ex_srd (vS 2)) (ex_srd (vS 3))) (fun _ _ _ _ _ => (gT (gSs (gV 4 nd) (gSs (gV 5 nd) gxs_nil)))) (fun _ _ _ _ _ => tsx_nil) (fun _ _ _ _ _ => (kS d_add_ratios (hr.mono (by first | decide | omega)) passL (aS (vS 4) (aS (vS 5) nS)))))) nB))))) nB))))
abbrev N47 : List Str := ["number", "one", "row", "item"]
theorem sc47 : FnScope N47 (["number", "one"] : List Str) (defScope (top 47)) := ⟨rfl, rfl, rfl, by decide +kernel, rfl, by decide +kernel, by decide +kernel⟩
abbrev c47 : Cf := { M := [] }
set_option maxHeartbeats 8000000 in
theorem ok47 (T : Tx K mg) {f : Addr} {fd : FuncData} (F : Fun K "scaled" "scaled" (top 47) f fd) (d_multiply_ratios : FnA P w K mg base "multiply_ratios" 3 (FnS K (clA K xs) false ratios_multiply)) : FnOk P w K mg base (L2.CX P w) (3 + 1) f fd (["number", "one"] : List Str) (FnS K (clA K xs) false moves_scaled) := by
  refine fn_ok (c := c47) F sc47 (by decide) rfl rfl fun cdv A outer s H E hr => ?_
  have tk : Takes (cxOf (L2.CX P w) P w K mg base N47 "scaled" (defScope (top 47)) f cdv A outer s H E) (fun cls d _ H => E cls d H) := takes_of rfl rfl rfl rfl
  have hx : Passes (L2.CX P w) (cxOf (L2.CX P w) P w K mg base N47 "scaled" (defScope (top 47)) f cdv A outer s H E) E := passes_call tk fun _ _ _ _ h => h
  have hp := passes_of (X := cxOf (L2.CX P w) P w K mg base N47 "scaled" (defScope (top 47)) f cdv A outer s H E) rfl
  have nd : N47.Nodup := sc47.nd
  exact (ss_one (zRet (fTuple T.bn (aB (ex_frd (lC [("row", 2)] nd (wS (ex_srd (vS 1))) (fun _ _ _ _ _ => (gV 2 nd)) (fun _ _ _ _ _ => tsx_nil) (fun _ _ _ _ _ => (fTuple T.bn (aB (ex_frd (lC [("item", 3)] nd (wS (ex_srd (vS 2))) (fun _ _ _ _ _ => (gV 3 nd)) (fun _ _ _ _ _ => tsx_nil) (fun _ _ _ _ _ => (kS d_multiply_ratios (hr.mono (by first | decide | omega)) passL (aS (vS 0) (aS (vS 3) nS)))))) nB))))) nB))))
abbrev N42 : List Str := ["size", "rows", "k", "j"]
theorem sc42 : FnScope N42 (["size"] : List Str) (defScope (top 42)) := ⟨rfl, rfl, rfl, by decide +kernel, rfl, by decide +kernel, by decide +kernel⟩
abbrev c42 : Cf := { M := [1] }
set_option maxHeartbeats 8000000 in
theorem ok42 (T : Tx K mg) {f : Addr} {fd : FuncData} (F : Fun K "step_up" "step_up" (top 42) f fd) (d_check_order : FnA P w K mg base "check_order" 2 (FnS K (clA K xs) false forms_check_order)) : FnOk P w K mg base (L2.CX P w) (2 + 1) f fd (["size"] : List Str) (FnS K (clA K xs) false moves_step_up) := by
  refine fn_ok (c := c42) F sc42 (by decide) rfl rfl fun cdv A outer s H E hr => ?_
  have tk : Takes (cxOf (L2.CX P w) P w K mg base N42 "step_up" (defScope (top 42)) f cdv A outer s H E) (fun cls d _ H => E cls d H) := takes_of rfl rfl rfl rfl
  have hx : Passes (L2.CX P w) (cxOf (L2.CX P w) P w K mg base N42 "step_up" (defScope (top 42)) f cdv A outer s H E) E := passes_call tk fun _ _ _ _ h => h
  have hp := passes_of (X := cxOf (L2.CX P w) P w K mg base N42 "step_up" (defScope (top 42)) f cdv A outer s H E) rfl
  have nd : N42.Nodup := sc42.nd
  exact (ss_cons (zDrop (ex_bor (kS d_check_order (hr.mono (by first | decide | omega)) hx (aS (vS 0) nS))))
    (ss_cons (zOwn 1 nd (ev_lst nS))
    (ss_cons (zFor hp (wR1 T.bn (aB (ex_srd (bAdd (ex_bor (vS 0)) (ex_bor ev_int))) nB)) (gV 2 nd)
      (ss_one (zApp 1 (fTuple T.bn (aB (ex_frd (lC [("j", 3)] nd (wR1 T.bn (aB (ex_srd (bAdd (ex_bor (vS 0)) (ex_bor ev_int))) nB)) (fun _ _ _ _ _ => (gV 3 nd)) (fun _ _ _ _ _ => tsx_nil) (fun _ _ _ _ _ => (ev_if (tEq hr (ex_bor (vS 2)) (ex_bor (bAdd (ex_bor (vS 3)) (ex_bor ev_int)))) (ev_tup (aS (bSub (ex_bor (vS 0)) (ex_bor (vS 3))) (aS ev_int nS))) (gC T.c_ZERO))))) nB)))))
    (ss_one (zRet (fTuple T.bn (aB (ex_srd (vS 1)) nB)))))))
abbrev N43 : List Str := ["size", "rows", "k", "j"]
theorem sc43 : FnScope N43 (["size"] : List Str) (defScope (top 43)) := ⟨rfl, rfl, rfl, by decide +kernel, rfl, by decide +kernel, by decide +kernel⟩
abbrev c43 : Cf := { M := [1] }
set_option maxHeartbeats 8000000 in
theorem ok43 (T : Tx K mg) {f : Addr} {fd : FuncData} (F : Fun K "step_down" "step_down" (top 43) f fd) (d_check_order : FnA P w K mg base "check_order" 2 (FnS K (clA K xs) false forms_check_order)) : FnOk P w K mg base (L2.CX P w) (2 + 1) f fd (["size"] : List Str) (FnS K (clA K xs) false moves_step_down) := by
  refine fn_ok (c := c43) F sc43 (by decide) rfl rfl fun cdv A outer s H E hr => ?_
  have tk : Takes (cxOf (L2.CX P w) P w K mg base N43 "step_down" (defScope (top 43)) f cdv A outer s H E) (fun cls d _ H => E cls d H) := takes_of rfl rfl rfl rfl
  have hx : Passes (L2.CX P w) (cxOf (L2.CX P w) P w K mg base N43 "step_down" (defScope (top 43)) f cdv A outer s H E) E := passes_call tk fun _ _ _ _ h => h
  have hp := passes_of (X := cxOf (L2.CX P w) P w K mg base N43 "step_down" (defScope (top 43)) f cdv A outer s H E) rfl
  have nd : N43.Nodup := sc43.nd
  exact (ss_cons (zDrop (ex_bor (kS d_check_order (hr.mono (by first | decide | omega)) hx (aS (vS 0) nS))))
    (ss_cons (zOwn 1 nd (ev_lst nS))
    (ss_cons (zFor hp (wR1 T.bn (aB (ex_srd (bAdd (ex_bor (vS 0)) (ex_bor ev_int))) nB)) (gV 2 nd)
      (ss_one (zApp 1 (fTuple T.bn (aB (ex_frd (lC [("j", 3)] nd (wR1 T.bn (aB (ex_srd (bAdd (ex_bor (vS 0)) (ex_bor ev_int))) nB)) (fun _ _ _ _ _ => (gV 3 nd)) (fun _ _ _ _ _ => tsx_nil) (fun _ _ _ _ _ => (ev_if (tEq hr (ex_bor (vS 3)) (ex_bor (bAdd (ex_bor (vS 2)) (ex_bor ev_int)))) (ev_tup (aS (vS 3) (aS ev_int nS))) (gC T.c_ZERO))))) nB)))))
    (ss_one (zRet (fTuple T.bn (aB (ex_srd (vS 1)) nB)))))))
abbrev N53 : List Str := ["numbers", "size", "a", "b", "c", "d", "found", "rows", "k", "number", "item", "j"]
theorem sc53 : FnScope N53 (["numbers", "size"] : List Str) (defScope (top 53)) := ⟨rfl, rfl, rfl, by decide +kernel, rfl, by decide +kernel, by decide +kernel⟩
abbrev c53 : Cf := { M := [7] }
set_option maxHeartbeats 8000000 in
theorem ok53 (T : Tx K mg) {f : Addr} {fd : FuncData} (F : Fun K "doing" "doing" (top 53) f fd) (d_plus : FnA P w K mg base "plus" 4 (FnS K (clA K xs) false moves_plus)) (d_scaled_moves : FnA P w K mg base "scaled_moves" 4 (FnS K (clA K xs) false moves_scaled)) (d_add_ratios : FnA P w K mg base "add_ratios" 3 (FnS K (clA K xs) false ratios_add)) (d_step_up : FnA P w K mg base "step_up" 3 (FnS K (clA K xs) false moves_step_up)) (d_step_down : FnA P w K mg base "step_down" 3 (FnS K (clA K xs) false moves_step_down)) (d_multiply_ratios : FnA P w K mg base "multiply_ratios" 3 (FnS K (clA K xs) false ratios_multiply)) (d_is_ratio : FnA P w K mg base "is_ratio" 2 (FnS K (clA K xs) false ratios_is_ratio)) : FnOk P w K mg base (L2.CX P w) (4 + 1) f fd (["numbers", "size"] : List Str) (FnS K (clA K xs) false moves_doing) := by
  refine fn_ok (c := c53) F sc53 (by decide) rfl rfl fun cdv A outer s H E hr => ?_
  have tk : Takes (cxOf (L2.CX P w) P w K mg base N53 "doing" (defScope (top 53)) f cdv A outer s H E) (fun cls d _ H => E cls d H) := takes_of rfl rfl rfl rfl
  have hx : Passes (L2.CX P w) (cxOf (L2.CX P w) P w K mg base N53 "doing" (defScope (top 53)) f cdv A outer s H E) E := passes_call tk fun _ _ _ _ h => h
  have hp := passes_of (X := cxOf (L2.CX P w) P w K mg base N53 "doing" (defScope (top 53)) f cdv A outer s H E) rfl
  have nd : N53.Nodup := sc53.nd
  exact (ss_cons (sx_if (tT1 (tw_or (tx_not (tV (isT T.bn (ex_bor (vS 0))))) (tw_or (tNe hr (ex_bor (fLen T.bn (aB (ex_srd (vS 0)) nB))) (ex_bor ev_int)) (tw_or1 (tx_not (tV (ex_bor (fAll T.bn (aB (ex_frd (lC [("item", 10)] nd (wS (ex_srd (vS 0))) (fun _ _ _ _ _ => (gV 10 nd)) (fun _ _ _ _ _ => tsx_nil) (fun _ _ _ _ _ => (kS d_is_ratio (hr.mono (by first | decide | omega)) passL (aS (vS 10) nS))))) nB))))))))) (ss_one (zRaise 2 T.e_BadChange tk)) ss_nil)
    (ss_cons (zAsg (gT (gSs (gV 2 nd) (gSs (gV 3 nd) (gSs (gV 4 nd) (gSs (gV 5 nd) gxs_nil))))) (vS 0))
    (ss_cons (zSet 6 nd (kS d_plus (hr.mono (by first | decide | omega)) hx (aS (kS d_scaled_moves (hr.mono (by first | decide | omega)) hx (aS (vS 3) (aS (kS d_step_up (hr.mono (by first | decide | omega)) hx (aS (vS 1) nS)) nS))) (aS (kS d_scaled_moves (hr.mono (by first | decide | omega)) hx (aS (vS 4) (aS (kS d_step_down (hr.mono (by first | decide | omega)) hx (aS (vS 1) nS)) nS))) nS))))
    (ss_cons (zOwn 7 nd (ev_lst nS))
    (ss_cons (zFor hp (wR1 T.bn (aB (ex_srd (bAdd (ex_bor (vS 1)) (ex_bor ev_int))) nB)) (gV 8 nd)
      (ss_cons (zSet 9 nd (kS d_add_ratios (hr.mono (by first | decide | omega)) hx (aS (kS d_multiply_ratios (hr.mono (by first | decide | omega)) hx (aS (ev_tup (aS (bSub (ex_bor (vS 1)) (ex_bor (vS 8))) (aS ev_int nS))) (aS (vS 2) nS))) (aS (kS d_multiply_ratios (hr.mono (by first | decide | omega)) hx (aS (ev_tup (aS (vS 8) (aS ev_int nS))) (aS (vS 5) nS))) nS))))
    (ss_one (zApp 7 (fTuple T.bn (aB (ex_frd (lC [("j", 11)] nd (wR1 T.bn (aB (ex_srd (bAdd (ex_bor (vS 1)) (ex_bor ev_int))) nB)) (fun _ _ _ _ _ => (gV 11 nd)) (fun _ _ _ _ _ => tsx_nil) (fun _ _ _ _ _ => (ev_if (tEq hr (ex_bor (vS 8)) (ex_bor (vS 11))) (vS 9) (gC T.c_ZERO))))) nB))))))
    (ss_one (zRet (kS d_plus (hr.mono (by first | decide | omega)) hx (aS (vS 6) (aS (fTuple T.bn (aB (ex_srd (vS 7)) nB)) nS))))))))))
abbrev N14 : List Str := ["one", "other"]
theorem sc14 : FnScope N14 (["one", "other"] : List Str) (defScope (top 14)) := ⟨rfl, rfl, rfl, by decide +kernel, rfl, by decide +kernel, by decide +kernel⟩
abbrev c14 : Cf := { M := [] }
set_option maxHeartbeats 8000000 in
theorem ok14 (T : Tx K mg) {f : Addr} {fd : FuncData} (F : Fun K "subtract" "subtract" (top 14) f fd) (d_make : FnA P w K mg base "make" 2 (FnS K (clA K xs) false ratios_make)) : FnOk P w K mg base (L2.CX P w) (2 + 1) f fd (["one", "other"] : List Str) (FnS K (clA K xs) false ratios_subtract) := by
  refine fn_ok (c := c14) F sc14 (by decide) rfl rfl fun cdv A outer s H E hr => ?_
  have tk : Takes (cxOf (L2.CX P w) P w K mg base N14 "subtract" (defScope (top 14)) f cdv A outer s H E) (fun cls d _ H => E cls d H) := takes_of rfl rfl rfl rfl
  have hx : Passes (L2.CX P w) (cxOf (L2.CX P w) P w K mg base N14 "subtract" (defScope (top 14)) f cdv A outer s H E) E := passes_call tk fun _ _ _ _ h => h
  have hp := passes_of (X := cxOf (L2.CX P w) P w K mg base N14 "subtract" (defScope (top 14)) f cdv A outer s H E) rfl
  have nd : N14.Nodup := sc14.nd
  exact (ss_one (zRet (kS d_make (hr.mono (by first | decide | omega)) hx (aS (bSub (ex_bor (bMul (ex_bor (iX (ex_srd (vS 0)) (ex_bor ev_int))) (ex_bor (iX (ex_srd (vS 1)) (ex_bor ev_int))))) (ex_bor (bMul (ex_bor (iX (ex_srd (vS 1)) (ex_bor ev_int))) (ex_bor (iX (ex_srd (vS 0)) (ex_bor ev_int)))))) (aS (bMul (ex_bor (iX (ex_srd (vS 0)) (ex_bor ev_int))) (ex_bor (iX (ex_srd (vS 1)) (ex_bor ev_int)))) nS)))))
abbrev N32 : List Str := ["change", "a", "b", "c", "d"]
theorem sc32 : FnScope N32 (["change"] : List Str) (defScope (top 32)) := ⟨rfl, rfl, rfl, by decide +kernel, rfl, by decide +kernel, by decide +kernel⟩
abbrev c32 : Cf := { M := [] }
set_option maxHeartbeats 8000000 in
theorem ok32 (T : Tx K mg) {f : Addr} {fd : FuncData} (F : Fun K "determinant" "determinant" (top 32) f fd) (d_subtract : FnA P w K mg base "subtract" 3 (FnS K (clA K xs) false ratios_subtract)) (d_multiply_ratios : FnA P w K mg base "multiply_ratios" 3 (FnS K (clA K xs) false ratios_multiply)) : FnOk P w K mg base (L2.CX P w) (3 + 1) f fd (["change"] : List Str) (FnS K (clA K xs) false forms_determinant) := by
  refine fn_ok (c := c32) F sc32 (by decide) rfl rfl fun cdv A outer s H E hr => ?_
  have tk : Takes (cxOf (L2.CX P w) P w K mg base N32 "determinant" (defScope (top 32)) f cdv A outer s H E) (fun cls d _ H => E cls d H) := takes_of rfl rfl rfl rfl
  have hx : Passes (L2.CX P w) (cxOf (L2.CX P w) P w K mg base N32 "determinant" (defScope (top 32)) f cdv A outer s H E) E := passes_call tk fun _ _ _ _ h => h
  have hp := passes_of (X := cxOf (L2.CX P w) P w K mg base N32 "determinant" (defScope (top 32)) f cdv A outer s H E) rfl
  have nd : N32.Nodup := sc32.nd
  exact (ss_cons (zAsg (gT (gSs (gV 1 nd) (gSs (gV 2 nd) (gSs (gV 3 nd) (gSs (gV 4 nd) gxs_nil))))) (vS 0))
    (ss_one (zRet (kS d_subtract (hr.mono (by first | decide | omega)) hx (aS (kS d_multiply_ratios (hr.mono (by first | decide | omega)) hx (aS (vS 1) (aS (vS 4) nS))) (aS (kS d_multiply_ratios (hr.mono (by first | decide | omega)) hx (aS (vS 2) (aS (vS 3) nS))) nS))))))
abbrev N31 : List Str := ["value_of"]
theorem sc31 : FnScope N31 (["value_of"] : List Str) (defScope (top 31)) := ⟨rfl, rfl, rfl, by decide +kernel, rfl, by decide +kernel, by decide +kernel⟩
abbrev c31 : Cf := { M := [] }
set_option maxHeartbeats 8000000 in
theorem ok31 (T : Tx K mg) {f : Addr} {fd : FuncData} (F : Fun K "check_change" "check_change" (top 31) f fd) (d_is_change : FnA P w K mg base "is_change" 3 (FnS K (clA K xs) false forms_is_change)) (d_determinant : FnA P w K mg base "determinant" 4 (FnS K (clA K xs) false forms_determinant)) : FnOk P w K mg base (L2.CX P w) (4 + 1) f fd (["value_of"] : List Str) (FnS K (clA K xs) false forms_check_change) := by
  refine fn_ok (c := c31) F sc31 (by decide) rfl rfl fun cdv A outer s H E hr => ?_
  have tk : Takes (cxOf (L2.CX P w) P w K mg base N31 "check_change" (defScope (top 31)) f cdv A outer s H E) (fun cls d _ H => E cls d H) := takes_of rfl rfl rfl rfl
  have hx : Passes (L2.CX P w) (cxOf (L2.CX P w) P w K mg base N31 "check_change" (defScope (top 31)) f cdv A outer s H E) E := passes_call tk fun _ _ _ _ h => h
  have hp := passes_of (X := cxOf (L2.CX P w) P w K mg base N31 "check_change" (defScope (top 31)) f cdv A outer s H E) rfl
  have nd : N31.Nodup := sc31.nd
  exact (ss_one (sx_if (tT1 (tw_or (tx_not (tV (ex_bor (kS d_is_change (hr.mono (by first | decide | omega)) hx (aS (vS 0) nS))))) (tw_or1 (tEq hr (ex_bor (kS d_determinant (hr.mono (by first | decide | omega)) hx (aS (vS 0) nS))) (ex_bor (gC T.c_ZERO)))))) (ss_one (zRaise 2 T.e_BadChange tk)) ss_nil))
abbrev N17 : List Str := ["one", "other"]
theorem sc17 : FnScope N17 (["one", "other"] : List Str) (defScope (top 17)) := ⟨rfl, rfl, rfl, by decide +kernel, rfl, by decide +kernel, by decide +kernel⟩
abbrev c17 : Cf := { M := [] }
set_option maxHeartbeats 8000000 in
theorem ok17 (T : Tx K mg) {f : Addr} {fd : FuncData} (F : Fun K "divide" "divide" (top 17) f fd) (d_make : FnA P w K mg base "make" 2 (FnS K (clA K xs) false ratios_make)) : FnOk P w K mg base (L2.CX P w) (2 + 1) f fd (["one", "other"] : List Str) (FnS K (clA K xs) false ratios_divide) := by
  refine fn_ok (c := c17) F sc17 (by decide) rfl rfl fun cdv A outer s H E hr => ?_
  have tk : Takes (cxOf (L2.CX P w) P w K mg base N17 "divide" (defScope (top 17)) f cdv A outer s H E) (fun cls d _ H => E cls d H) := takes_of rfl rfl rfl rfl
  have hx : Passes (L2.CX P w) (cxOf (L2.CX P w) P w K mg base N17 "divide" (defScope (top 17)) f cdv A outer s H E) E := passes_call tk fun _ _ _ _ h => h
  have hp := passes_of (X := cxOf (L2.CX P w) P w K mg base N17 "divide" (defScope (top 17)) f cdv A outer s H E) rfl
  have nd : N17.Nodup := sc17.nd
  exact (ss_cons (sx_if (tEq hr (ex_bor (iX (ex_srd (vS 1)) (ex_bor ev_int))) (ex_bor ev_int)) (ss_one (zRaise 0 T.e_BadNumber tk)) ss_nil)
    (ss_one (zRet (kS d_make (hr.mono (by first | decide | omega)) hx (aS (bMul (ex_bor (iX (ex_srd (vS 0)) (ex_bor ev_int))) (ex_bor (iX (ex_srd (vS 1)) (ex_bor ev_int)))) (aS (bMul (ex_bor (iX (ex_srd (vS 0)) (ex_bor ev_int))) (ex_bor (iX (ex_srd (vS 1)) (ex_bor ev_int)))) nS))))))
abbrev N18 : List Str := ["number"]
theorem sc18 : FnScope N18 (["number"] : List Str) (defScope (top 18)) := ⟨rfl, rfl, rfl, by decide +kernel, rfl, by decide +kernel, by decide +kernel⟩
abbrev c18 : Cf := { M := [] }
set_option maxHeartbeats 8000000 in
theorem ok18 (T : Tx K mg) {f : Addr} {fd : FuncData} (F : Fun K "negative" "negative" (top 18) f fd) : FnOk P w K mg base (L2.CX P w) (0 + 1) f fd (["number"] : List Str) (FnS K (clA K xs) false ratios_negative) := by
  refine fn_ok (c := c18) F sc18 (by decide) rfl rfl fun cdv A outer s H E hr => ?_
  have tk : Takes (cxOf (L2.CX P w) P w K mg base N18 "negative" (defScope (top 18)) f cdv A outer s H E) (fun cls d _ H => E cls d H) := takes_of rfl rfl rfl rfl
  have hx : Passes (L2.CX P w) (cxOf (L2.CX P w) P w K mg base N18 "negative" (defScope (top 18)) f cdv A outer s H E) E := passes_call tk fun _ _ _ _ h => h
  have hp := passes_of (X := cxOf (L2.CX P w) P w K mg base N18 "negative" (defScope (top 18)) f cdv A outer s H E) rfl
  have nd : N18.Nodup := sc18.nd
  exact (ss_one (zRet (ev_tup (aS (uNeg (ex_srd (iX (ex_srd (vS 0)) (ex_bor ev_int)))) (aS (iX (ex_srd (vS 0)) (ex_bor ev_int)) nS)))))
abbrev N60 : List Str := ["change", "a", "b", "c", "d"]
theorem sc60 : FnScope N60 (["change"] : List Str) (defScope (top 60)) := ⟨rfl, rfl, rfl, by decide +kernel, rfl, by decide +kernel, by decide +kernel⟩
abbrev c60 : Cf := { M := [] }
set_option maxHeartbeats 8000000 in
theorem ok60 (T : Tx K mg) {f : Addr} {fd : FuncData} (F : Fun K "after_swap" "after_swap" (top 60) f fd) (d_negative : FnA P w K mg base "negative" 1 (FnS K (clA K xs) false ratios_negative)) : FnOk P w K mg base (L2.CX P w) (1 + 1) f fd (["change"] : List Str) (FnS K (clA K xs) false moves_after_swap) := by
  refine fn_ok (c := c60) F sc60 (by decide) rfl rfl fun cdv A outer s H E hr => ?_
  have tk : Takes (cxOf (L2.CX P w) P w K mg base N60 "after_swap" (defScope (top 60)) f cdv A outer s H E) (fun cls d _ H => E cls d H) := takes_of rfl rfl rfl rfl
  have hx : Passes (L2.CX P w) (cxOf (L2.CX P w) P w K mg base N60 "after_swap" (defScope (top 60)) f cdv A outer s H E) E := passes_call tk fun _ _ _ _ h => h
  have hp := passes_of (X := cxOf (L2.CX P w) P w K mg base N60 "after_swap" (defScope (top 60)) f cdv A outer s H E) rfl
  have nd : N60.Nodup := sc60.nd
  exact (ss_cons (zAsg (gT (gSs (gV 1 nd) (gSs (gV 2 nd) (gSs (gV 3 nd) (gSs (gV 4 nd) gxs_nil))))) (vS 0))
    (ss_one (zRet (ev_tup (aS (kS d_negative (hr.mono (by first | decide | omega)) hx (aS (vS 3) nS)) (aS (kS d_negative (hr.mono (by first | decide | omega)) hx (aS (vS 4) nS)) (aS (vS 1) (aS (vS 2) nS))))))))
abbrev N59 : List Str := ["change", "a", "b", "c", "d", "swap", "low", "high", "rest"]
theorem sc59 : FnScope N59 (["change"] : List Str) (defScope (top 59)) := ⟨rfl, rfl, rfl, by decide +kernel, rfl, by decide +kernel, by decide +kernel⟩
abbrev c59 : Cf := { M := [] }
set_option maxHeartbeats 8000000 in
theorem ok59 (T : Tx K mg) {f : Addr} {fd : FuncData} (F : Fun K "split_change" "split_change" (top 59) f fd) (n : Nat) (d_check_change : FnA P w K mg base "check_change" 5 (FnS K (clA K xs) false forms_check_change)) (d_divide : FnA P w K mg base "divide" 3 (FnS K (clA K xs) false ratios_divide)) (d_subtract : FnA P w K mg base "subtract" 3 (FnS K (clA K xs) false ratios_subtract)) (d_multiply_ratios : FnA P w K mg base "multiply_ratios" 3 (FnS K (clA K xs) false ratios_multiply)) (d_split_change : FnA P w K mg base "split_change" (5 + n) (FnS K (clA K xs) false (moves_split_change n))) (d_after_swap : FnA P w K mg base "after_swap" 2 (FnS K (clA K xs) false moves_after_swap)) : FnOk P w K mg base (L2.CX P w) ((5 + n) + 1) f fd (["change"] : List Str) (FnS K (clA K xs) false (moves_split_change (n + 1))) := by
  refine fn_ok (c := c59) F sc59 (by decide) rfl rfl fun cdv A outer s H E hr => ?_
  have tk : Takes (cxOf (L2.CX P w) P w K mg base N59 "split_change" (defScope (top 59)) f cdv A outer s H E) (fun cls d _ H => E cls d H) := takes_of rfl rfl rfl rfl
  have hx : Passes (L2.CX P w) (cxOf (L2.CX P w) P w K mg base N59 "split_change" (defScope (top 59)) f cdv A outer s H E) E := passes_call tk fun _ _ _ _ h => h
  have hp := passes_of (X := cxOf (L2.CX P w) P w K mg base N59 "split_change" (defScope (top 59)) f cdv A outer s H E) rfl
  have nd : N59.Nodup := sc59.nd
  exact (ss_cons (zDrop (ex_bor (kS d_check_change (hr.mono (by first | decide | omega)) hx (aS (vS 0) nS))))
    (ss_cons (zAsg (gT (gSs (gV 1 nd) (gSs (gV 2 nd) (gSs (gV 3 nd) (gSs (gV 4 nd) gxs_nil))))) (vS 0))
    (ss_cons (sx_if (tEq hr (ex_bor (vS 1)) (ex_bor (gC T.c_ZERO))) (ss_cons (zSet 5 nd (ev_tup (aS (gC T.c_ZERO) (aS (gC T.c_ONE) (aS (ev_tup (aS (uNeg (ex_srd ev_int)) (aS ev_int nS))) (aS (gC T.c_ZERO) nS))))))
    (ss_one (zRet (bAdd (ex_bor (ev_tup (aS (vS 5) nS))) (ex_bor (kS d_split_change (hr.mono (by first | decide | omega)) hx (aS (kS d_after_swap (hr.mono (by first | decide | omega)) hx (aS (vS 0) nS)) nS))))))) ss_nil)
    (ss_cons (zSet 6 nd (kS d_divide (hr.mono (by first | decide | omega)) hx (aS (vS 3) (aS (vS 1) nS))))
    (ss_cons (zSet 7 nd (kS d_divide (hr.mono (by first | decide | omega)) hx (aS (vS 2) (aS (vS 1) nS))))
    (ss_cons (zSet 8 nd (kS d_subtract (hr.mono (by first | decide | omega)) hx (aS (vS 4) (aS (kS d_multiply_ratios (hr.mono (by first | decide | omega)) hx (aS (vS 6) (aS (vS 2) nS))) nS))))
    (ss_one (zRet (ev_tup (aS (ev_tup (aS (gC T.c_ONE) (aS (gC T.c_ZERO) (aS (vS 6) (aS (gC T.c_ONE) nS))))) (aS (ev_tup (aS (vS 1) (aS (gC T.c_ZERO) (aS (gC T.c_ZERO) (aS (vS 8) nS))))) (aS (ev_tup (aS (gC T.c_ONE) (aS (vS 7) (aS (gC T.c_ZERO) (aS (gC T.c_ONE) nS))))) nS))))))))))))
abbrev N66 : List Str := ["tape", "many", "cells", "number"]
theorem sc66 : FnScope N66 (["tape", "many"] : List Str) (defScope (top 66)) := ⟨rfl, rfl, rfl, by decide +kernel, rfl, by decide +kernel, by decide +kernel⟩
abbrev c66 : Cf := { M := [0, 2], tape := some 0 }
set_option maxHeartbeats 8000000 in
theorem ok66 (T : Tx K mg) {f : Addr} {fd : FuncData} (F : Fun K "_law_draw" "_law_draw" (top 66) f fd) : FnOk P w K mg base (L2.CX P w) (0 + 1) f fd (["tape", "many"] : List Str) (FnT K (clA K xs) law_draw) := by
  refine fn_okD F sc66 rfl rfl fun cdv A outer s H E hr => ?_
  have hp := passes_of (X := cxOf (L2.CX P w) P w K mg base N66 "_law_draw" (defScope (top 66)) f cdv A outer s H E) rfl
  have nd : N66.Nodup := sc66.nd
  have v0 : ∀ {p : Pos}, PE (cxOf (L2.CX P w) P w K mg base N66 "_law_draw" (defScope (top 66)) f cdv A outer s H E) (.Name "tape" p) (tVar 0) := fun {p} => pe_var rfl (.inl rfl) (by decide) (by decide)
  have v1 : ∀ {p : Pos}, PE (cxOf (L2.CX P w) P w K mg base N66 "_law_draw" (defScope (top 66)) f cdv A outer s H E) (.Name "many" p) (tVar 1) := fun {p} => pe_var rfl (.inl rfl) (by decide) (by decide)
  have v2 : ∀ {p : Pos}, PE (cxOf (L2.CX P w) P w K mg base N66 "_law_draw" (defScope (top 66)) f cdv A outer s H E) (.Name "cells" p) (tVar 2) := fun {p} => pe_var rfl (.inl rfl) (by decide) (by decide)
  have v3 : ∀ {p : Pos}, PE (cxOf (L2.CX P w) P w K mg base N66 "_law_draw" (defScope (top 66)) f cdv A outer s H E) (.Name "number" p) (tVar 3) := fun {p} => pe_var rfl (.inl rfl) (by decide) (by decide)
  exact pss_cons (ps_set (i := 2) nd rfl (.inl rfl) (pe_ix ix_seq v0 pe_int (by intro _ _; rfl)) rfl (.inr rfl)) (pss_cons (ps_while hp (L2.PW.pt (pw_and (pt_cmp (pc_gt (pe_callB call_len_seq rfl T.bn.len boot_len' (pa_cons v2 pa_nil)) pe_int)) (pw_and1 (pt_cmp (pc_eqI (pe_ix ix_seq v2 pe_int (by intro _ _; rfl)) pe_int))))) (pss_one (ps_expr (pe_bm PySem.F.plainAttrs_list PySem.F.slot_list_pop PySem.F.type_list_pop mt_popAt v2 (pa_cons pe_int pa_nil)) rfl))) (pss_cons (ps_if (pt_cmp (pc_gt (pe_callB call_len_seq rfl T.bn.len boot_len' (pa_cons v2 pa_nil)) pe_int)) (pss_cons (ps_set (i := 3) nd rfl (.inl rfl) (pe_ix ix_seq v2 pe_int (by intro _ _; rfl)) rfl (.inr rfl)) (pss_cons (ps_asg (pe_op op_fdivX v3 v1) (pg_sub v2 pe_int set_list (fun _ => rfl)) rfl rfl rfl) (pss_one (ps_ret (pe_op op_modN (pe_callTy call_int1 rfl T.bn.int boot_int' (pa_cons v3 pa_nil)) v1))))) pss_nil) (pss_cons (ps_asg (pe_op op_modN (pe_callTy call_int1 rfl T.bn.int boot_int' (pa_cons (pe_op op_addW (pe_op op_mulW' (pe_ix ix_seq v0 pe_int (by intro _ _; rfl)) pe_int) pe_int) pa_nil)) pe_int) (pg_sub v0 pe_int set_list (fun _ => rfl)) rfl rfl rfl) (pss_one (ps_ret (pe_op op_modN (pe_callTy call_int1 rfl T.bn.int boot_int' (pa_cons (pe_op op_fdivX (pe_ix ix_seq v0 pe_int (by intro _ _; rfl)) pe_int) pa_nil)) v1))))))
abbrev N72 : List Str := ["items", "total", "item"]
theorem sc72 : FnScope N72 (["items"] : List Str) (defScope (top 72)) := ⟨rfl, rfl, rfl, by decide +kernel, rfl, by decide +kernel, by decide +kernel⟩
abbrev c72 : Cf := { M := [] }
set_option maxHeartbeats 8000000 in
theorem ok72 (T : Tx K mg) {f : Addr} {fd : FuncData} (F : Fun K "_law_sum" "_law_sum" (top 72) f fd) (d__law_add : FnA P w K mg base "_law_add" 2 (FnS K (clA K xs) false law_add)) : FnOk P w K mg base (L2.CX P w) (2 + 1) f fd (["items"] : List Str) (FnS K (clA K xs) false law_sum) := by
  refine fn_ok (c := c72) F sc72 (by decide) rfl rfl fun cdv A outer s H E hr => ?_
  have tk : Takes (cxOf (L2.CX P w) P w K mg base N72 "_law_sum" (defScope (top 72)) f cdv A outer s H E) (fun cls d _ H => E cls d H) := takes_of rfl rfl rfl rfl
  have hx : Passes (L2.CX P w) (cxOf (L2.CX P w) P w K mg base N72 "_law_sum" (defScope (top 72)) f cdv A outer s H E) E := passes_call tk fun _ _ _ _ h => h
  have hp := passes_of (X := cxOf (L2.CX P w) P w K mg base N72 "_law_sum" (defScope (top 72)) f cdv A outer s H E) rfl
  have nd : N72.Nodup := sc72.nd
  exact (ss_cons (zSet 1 nd (ev_tup (aS ev_int (aS ev_int nS))))
    (ss_cons (zFor hp (wS (vS 0)) (gV 2 nd)
      (ss_one (zSet 1 nd (kS d__law_add (hr.mono (by first | decide | omega)) hx (aS (vS 1) (aS (vS 2) nS))))))
    (ss_one (zRet (vS 1)))))
abbrev N75 : List Str := ["one", "other", "size", "row", "j", "k", "a"]
theorem sc75 : FnScope N75 (["one", "other"] : List Str) (defScope (top 75)) := ⟨rfl, rfl, rfl, by decide +kernel, rfl, by decide +kernel, by decide +kernel⟩
abbrev c75 : Cf := { M := [] }
set_option maxHeartbeats 8000000 in
theorem ok75 (T : Tx K mg) {f : Addr} {fd : FuncData} (F : Fun K "_law_times" "_law_times" (top 75) f fd) (d__law_sum : FnA P w K mg base "_law_sum" 3 (FnS K (clA K xs) false law_sum)) (d__law_mul : FnA P w K mg base "_law_mul" 2 (FnS K (clA K xs) false law_mul)) : FnOk P w K mg base (L2.CX P w) (3 + 1) f fd (["one", "other"] : List Str) (FnS K (clA K xs) false law_times) := by
  refine fn_ok (c := c75) F sc75 (by decide) rfl rfl fun cdv A outer s H E hr => ?_
  have tk : Takes (cxOf (L2.CX P w) P w K mg base N75 "_law_times" (defScope (top 75)) f cdv A outer s H E) (fun cls d _ H => E cls d H) := takes_of rfl rfl rfl rfl
  have hx : Passes (L2.CX P w) (cxOf (L2.CX P w) P w K mg base N75 "_law_times" (defScope (top 75)) f cdv A outer s H E) E := passes_call tk fun _ _ _ _ h => h
  have hp := passes_of (X := cxOf (L2.CX P w) P w K mg base N75 "_law_times" (defScope (top 75)) f cdv A outer s H E) rfl
  have nd : N75.Nodup := sc75.nd
  exact (ss_cons (zSet 2 nd (fLen T.bn (aB (ex_srd (iX (ex_srd (vS 1)) (ex_bor ev_int))) nB)))
    (ss_one (zRet (fTuple T.bn (aB (ex_frd (lC [("row", 3)] nd (wS (ex_srd (vS 0))) (fun _ _ _ _ _ => (gV 3 nd)) (fun _ _ _ _ _ => tsx_nil) (fun _ _ _ _ _ => (fTuple T.bn (aB (ex_frd (lC [("j", 4)] nd (wR1 T.bn (aB (ex_srd (vS 2)) nB)) (fun _ _ _ _ _ => (gV 4 nd)) (fun _ _ _ _ _ => tsx_nil) (fun _ _ _ _ _ => (kS d__law_sum (hr.mono (by first | decide | omega)) passL (aS (ex_safe (lC [("k", 5), ("a", 6)] nd (wEn T.bn (ex_srd (vS 3))) (fun _ _ _ _ _ => (gT (gSs (gV 5 nd) (gSs (gV 6 nd) gxs_nil)))) (fun _ _ _ _ _ => tsx_nil) (fun _ _ _ _ _ => (kS d__law_mul (hr.mono (by first | decide | omega)) passL (aS (vS 6) (aS (iX (ex_srd (iX (ex_srd (vS 1)) (ex_bor (vS 5)))) (ex_bor (vS 4))) nS)))))) nS))))) nB))))) nB)))))
abbrev N78 : List Str := ["change", "other", "a", "b", "c", "d", "p", "q", "r", "s", "rows"]
theorem sc78 : FnScope N78 (["change", "other"] : List Str) (defScope (top 78)) := ⟨rfl, rfl, rfl, by decide +kernel, rfl, by decide +kernel, by decide +kernel⟩
abbrev c78 : Cf := { M := [] }
set_option maxHeartbeats 8000000 in
theorem ok78 (T : Tx K mg) {f : Addr} {fd : FuncData} (F : Fun K "_law_two" "_law_two" (top 78) f fd) (d__law_times : FnA P w K mg base "_law_times" 4 (FnS K (clA K xs) false law_times)) : FnOk P w K mg base (L2.CX P w) (4 + 1) f fd (["change", "other"] : List Str) (FnS K (clA K xs) false law_two) := by
  refine fn_ok (c := c78) F sc78 (by decide) rfl rfl fun cdv A outer s H E hr => ?_
  have tk : Takes (cxOf (L2.CX P w) P w K mg base N78 "_law_two" (defScope (top 78)) f cdv A outer s H E) (fun cls d _ H => E cls d H) := takes_of rfl rfl rfl rfl
  have hx : Passes (L2.CX P w) (cxOf (L2.CX P w) P w K mg base N78 "_law_two" (defScope (top 78)) f cdv A outer s H E) E := passes_call tk fun _ _ _ _ h => h
  have hp := passes_of (X := cxOf (L2.CX P w) P w K mg base N78 "_law_two" (defScope (top 78)) f cdv A outer s H E) rfl
  have nd : N78.Nodup := sc78.nd
  exact (ss_cons (zAsg (gT (gSs (gV 2 nd) (gSs (gV 3 nd) (gSs (gV 4 nd) (gSs (gV 5 nd) gxs_nil))))) (vS 0))
    (ss_cons (zAsg (gT (gSs (gV 6 nd) (gSs (gV 7 nd) (gSs (gV 8 nd) (gSs (gV 9 nd) gxs_nil))))) (vS 1))
    (ss_cons (zSet 10 nd (kS d__law_times (hr.mono (by first | decide | omega)) hx (aS (ev_tup (aS (ev_tup (aS (vS 2) (aS (vS 3) nS))) (aS (ev_tup (aS (vS 4) (aS (vS 5) nS))) nS))) (aS (ev_tup (aS (ev_tup (aS (vS 6) (aS (vS 7) nS))) (aS (ev_tup (aS (vS 8) (aS (vS 9) nS))) nS))) nS))))
    (ss_one (zRet (bAdd (ex_bor (iX (ex_srd (vS 10)) (ex_bor ev_int))) (ex_bor (iX (ex_srd (vS 10)) (ex_bor ev_int)))))))))
abbrev N67 : List Str := ["tape", "row"]
theorem sc67 : FnScope N67 (["tape", "row"] : List Str) (defScope (top 67)) := ⟨rfl, rfl, rfl, by decide +kernel, rfl, by decide +kernel, by decide +kernel⟩
abbrev c67 : Cf := { M := [], tape := some 0 }
set_option maxHeartbeats 8000000 in
theorem ok67 (T : Tx K mg) {f : Addr} {fd : FuncData} (F : Fun K "_law_pick" "_law_pick" (top 67) f fd) (d__law_draw : FnA P w K mg base "_law_draw" 1 (FnT K (clA K xs) law_draw)) : FnOk P w K mg base (L2.CX P w) (1 + 1) f fd (["tape", "row"] : List Str) (FnT K (clA K xs) law_pick) := by
  refine fn_okT (c := c67) F sc67 (by decide) (by decide) rfl rfl fun cdv A outer s H E hr => ?_
  have tk : Takes (cxOf (L2.CX P w) P w K mg base N67 "_law_pick" (defScope (top 67)) f cdv A outer s H E) (fun cls d _ H => E cls d H) := takes_of rfl rfl rfl rfl
  have hx : Passes (L2.CX P w) (cxOf (L2.CX P w) P w K mg base N67 "_law_pick" (defScope (top 67)) f cdv A outer s H E) E := passes_call tk fun _ _ _ _ h => h
  have hp := passes_of (X := cxOf (L2.CX P w) P w K mg base N67 "_law_pick" (defScope (top 67)) f cdv A outer s H E) rfl
  have nd : N67.Nodup := sc67.nd
  exact (ss_one (zRet (iX (ex_srd (vS 1)) (ex_bor (kT 0 d__law_draw (hr.mono (by first | decide | omega)) hx (aS (fLen T.bn (aB (ex_srd (vS 1)) nB)) nS))))))
abbrev N74 : List Str := ["tape"]
theorem sc74 : FnScope N74 (["tape"] : List Str) (defScope (top 74)) := ⟨rfl, rfl, rfl, by decide +kernel, rfl, by decide +kernel, by decide +kernel⟩
abbrev c74 : Cf := { M := [], tape := some 0 }
set_option maxHeartbeats 8000000 in
theorem ok74 (T : Tx K mg) {f : Addr} {fd : FuncData} (F : Fun K "_law_fraction" "_law_fraction" (top 74) f fd) (d__law_make : FnA P w K mg base "_law_make" 1 (FnS K (clA K xs) false law_make)) (d__law_draw : FnA P w K mg base "_law_draw" 1 (FnT K (clA K xs) law_draw)) : FnOk P w K mg base (L2.CX P w) (1 + 1) f fd (["tape"] : List Str) (FnT K (clA K xs) law_fraction) := by
  refine fn_okT (c := c74) F sc74 (by decide) (by decide) rfl rfl fun cdv A outer s H E hr => ?_
  have tk : Takes (cxOf (L2.CX P w) P w K mg base N74 "_law_fraction" (defScope (top 74)) f cdv A outer s H E) (fun cls d _ H => E cls d H) := takes_of rfl rfl rfl rfl
  have hx : Passes (L2.CX P w) (cxOf (L2.CX P w) P w K mg base N74 "_law_fraction" (defScope (top 74)) f cdv A outer s H E) E := passes_call tk fun _ _ _ _ h => h
  have hp := passes_of (X := cxOf (L2.CX P w) P w K mg base N74 "_law_fraction" (defScope (top 74)) f cdv A outer s H E) rfl
  have nd : N74.Nodup := sc74.nd
  exact (ss_one (zRet (kS d__law_make (hr.mono (by first | decide | omega)) hx (aS (bSub (ex_bor (kT 0 d__law_draw (hr.mono (by first | decide | omega)) hx (aS ev_int nS))) (ex_bor ev_int)) (aS (bAdd (ex_bor ev_int) (ex_bor (kT 0 d__law_draw (hr.mono (by first | decide | omega)) hx (aS ev_int nS)))) nS)))))
abbrev N79 : List Str := ["tape", "found", "k", "known"]
theorem sc79 : FnScope N79 (["tape"] : List Str) (defScope (top 79)) := ⟨rfl, rfl, rfl, by decide +kernel, rfl, by decide +kernel, by decide +kernel⟩
abbrev c79 : Cf := { M := [], tape := some 0 }
set_option maxHeartbeats 8000000 in
theorem ok79 (T : Tx K mg) {f : Addr} {fd : FuncData} (F : Fun K "_law_change" "_law_change" (top 79) f fd) (d__law_two : FnA P w K mg base "_law_two" 5 (FnS K (clA K xs) false law_two)) (d__law_draw : FnA P w K mg base "_law_draw" 1 (FnT K (clA K xs) law_draw)) (d__law_pick : FnA P w K mg base "_law_pick" 2 (FnT K (clA K xs) law_pick)) (d__law_fraction : FnA P w K mg base "_law_fraction" 2 (FnT K (clA K xs) law_fraction)) : FnOk P w K mg base (L2.CX P w) (5 + 1) f fd (["tape"] : List Str) (FnT K (clA K xs) law_change) := by
  refine fn_okT (c := c79) F sc79 (by decide) (by decide) rfl rfl fun cdv A outer s H E hr => ?_
  have tk : Takes (cxOf (L2.CX P w) P w K mg base N79 "_law_change" (defScope (top 79)) f cdv A outer s H E) (fun cls d _ H => E cls d H) := takes_of rfl rfl rfl rfl
  have hx : Passes (L2.CX P w) (cxOf (L2.CX P w) P w K mg base N79 "_law_change" (defScope (top 79)) f cdv A outer s H E) E := passes_call tk fun _ _ _ _ h => h
  have hp := passes_of (X := cxOf (L2.CX P w) P w K mg base N79 "_law_change" (defScope (top 79)) f cdv A outer s H E) rfl
  have nd : N79.Nodup := sc79.nd
  exact (ss_cons (zSet 1 nd (ev_tup (aS (ev_tup (aS ev_int (aS ev_int nS))) (aS (ev_tup (aS ev_int (aS ev_int nS))) (aS (ev_tup (aS ev_int (aS ev_int nS))) (aS (ev_tup (aS ev_int (aS ev_int nS))) nS))))))
    (ss_cons (zFor hp (wR1 T.bn (aB (ex_srd (bAdd (ex_bor ev_int) (ex_bor (kT 0 d__law_draw (hr.mono (by first | decide | omega)) hx (aS ev_int nS))))) nB)) (gV 2 nd)
      (ss_cons (zSet 3 nd (ex_safe (ev_lst (aS (ev_tup (aS (ev_tup (aS ev_int (aS ev_int nS))) (aS (kT 0 d__law_fraction (hr.mono (by first | decide | omega)) hx nS) (aS (ev_tup (aS ev_int (aS ev_int nS))) (aS (ev_tup (aS ev_int (aS ev_int nS))) nS))))) (aS (ev_tup (aS (ev_tup (aS ev_int (aS ev_int nS))) (aS (ev_tup (aS ev_int (aS ev_int nS))) (aS (ev_tup (aS (uNeg (ex_srd ev_int)) (aS ev_int nS))) (aS (ev_tup (aS ev_int (aS ev_int nS))) nS))))) (aS (ev_tup (aS (ev_tup (aS ev_int (aS ev_int nS))) (aS (ev_tup (aS ev_int (aS ev_int nS))) (aS (ev_tup (aS ev_int (aS ev_int nS))) (aS (ev_tup (aS (uNeg (ex_srd ev_int)) (aS ev_int nS))) nS))))) (aS (ev_tup (aS (ev_tup (aS ev_int (aS ev_int nS))) (aS (ev_tup (aS ev_int (aS ev_int nS))) (aS (ev_tup (aS ev_int (aS ev_int nS))) (aS (ev_tup (aS ev_int (aS ev_int nS))) nS))))) nS)))))))
    (ss_one (zSet 1 nd (kS d__law_two (hr.mono (by first | decide | omega)) hx (aS (vS 1) (aS (kT 0 d__law_pick (hr.mono (by first | decide | omega)) hx (aS (vS 3) nS)) nS)))))))
    (ss_one (zRet (vS 1)))))
abbrev N44 : List Str := ["size", "k", "j"]
theorem sc44 : FnScope N44 (["size"] : List Str) (defScope (top 44)) := ⟨rfl, rfl, rfl, by decide +kernel, rfl, by decide +kernel, by decide +kernel⟩
abbrev c44 : Cf := { M := [] }
set_option maxHeartbeats 8000000 in
theorem ok44 (T : Tx K mg) {f : Addr} {fd : FuncData} (F : Fun K "weight_table" "weight_table" (top 44) f fd) (d_check_order : FnA P w K mg base "check_order" 2 (FnS K (clA K xs) false forms_check_order)) : FnOk P w K mg base (L2.CX P w) (2 + 1) f fd (["size"] : List Str) (FnS K (clA K xs) false moves_weight_table) := by
  refine fn_ok (c := c44) F sc44 (by decide) rfl rfl fun cdv A outer s H E hr => ?_
  have tk : Takes (cxOf (L2.CX P w) P w K mg base N44 "weight_table" (defScope (top 44)) f cdv A outer s H E) (fun cls d _ H => E cls d H) := takes_of rfl rfl rfl rfl
  have hx : Passes (L2.CX P w) (cxOf (L2.CX P w) P w K mg base N44 "weight_table" (defScope (top 44)) f cdv A outer s H E) E := passes_call tk fun _ _ _ _ h => h
  have hp := passes_of (X := cxOf (L2.CX P w) P w K mg base N44 "weight_table" (defScope (top 44)) f cdv A outer s H E) rfl
  have nd : N44.Nodup := sc44.nd
  exact (ss_cons (zDrop (ex_bor (kS d_check_order (hr.mono (by first | decide | omega)) hx (aS (vS 0) nS))))
    (ss_one (zRet (fTuple T.bn (aB (ex_frd (lC [("k", 1)] nd (wR1 T.bn (aB (ex_srd (bAdd (ex_bor (vS 0)) (ex_bor ev_int))) nB)) (fun _ _ _ _ _ => (gV 1 nd)) (fun _ _ _ _ _ => tsx_nil) (fun _ _ _ _ _ => (fTuple T.bn (aB (ex_frd (lC [("j", 2)] nd (wR1 T.bn (aB (ex_srd (bAdd (ex_bor (vS 0)) (ex_bor ev_int))) nB)) (fun _ _ _ _ _ => (gV 2 nd)) (fun _ _ _ _ _ => tsx_nil) (fun _ _ _ _ _ => (ev_if (tEq hr (ex_bor (vS 1)) (ex_bor (vS 2))) (ev_tup (aS (bSub (ex_bor (vS 0)) (ex_bor (bMul (ex_bor ev_int) (ex_bor (vS 1))))) (aS ev_int nS))) (gC T.c_ZERO))))) nB))))) nB)))))
abbrev N37 : List Str := ["many", "few", "found", "k"]
theorem sc37 : FnScope N37 (["many", "few"] : List Str) (defScope (top 37)) := ⟨rfl, rfl, rfl, by decide +kernel, rfl, by decide +kernel, by decide +kernel⟩
abbrev c37 : Cf := { M := [] }
set_option maxHeartbeats 8000000 in
theorem ok37 (T : Tx K mg) {f : Addr} {fd : FuncData} (F : Fun K "choose" "choose" (top 37) f fd) : FnOk P w K mg base (L2.CX P w) (0 + 1) f fd (["many", "few"] : List Str) (FnS K (clA K xs) false forms_choose) := by
  refine fn_ok (c := c37) F sc37 (by decide) rfl rfl fun cdv A outer s H E hr => ?_
  have tk : Takes (cxOf (L2.CX P w) P w K mg base N37 "choose" (defScope (top 37)) f cdv A outer s H E) (fun cls d _ H => E cls d H) := takes_of rfl rfl rfl rfl
  have hx : Passes (L2.CX P w) (cxOf (L2.CX P w) P w K mg base N37 "choose" (defScope (top 37)) f cdv A outer s H E) E := passes_call tk fun _ _ _ _ h => h
  have hp := passes_of (X := cxOf (L2.CX P w) P w K mg base N37 "choose" (defScope (top 37)) f cdv A outer s H E) rfl
  have nd : N37.Nodup := sc37.nd
  exact (ss_cons (zSet 2 nd ev_int)
    (ss_cons (zFor hp (wR1 T.bn (aB (ex_srd (vS 1)) nB)) (gV 3 nd)
      (ss_one (zSet 2 nd (bDiv (ex_bor (bMul (ex_bor (vS 2)) (ex_bor (bSub (ex_bor (vS 0)) (ex_bor (vS 3)))))) (ex_bor (bAdd (ex_bor (vS 3)) (ex_bor ev_int)))))))
    (ss_one (zRet (ev_if (tGe (ex_bor (vS 1)) (ex_bor ev_int)) (vS 2) ev_int)))))
abbrev N55 : List Str := ["size", "rows", "k", "number", "j"]
theorem sc55 : FnScope N55 (["size"] : List Str) (defScope (top 55)) := ⟨rfl, rfl, rfl, by decide +kernel, rfl, by decide +kernel, by decide +kernel⟩
abbrev c55 : Cf := { M := [1] }
set_option maxHeartbeats 8000000 in
theorem ok55 (T : Tx K mg) {f : Addr} {fd : FuncData} (F : Fun K "pairing_table" "pairing_table" (top 55) f fd) (d_check_order : FnA P w K mg base "check_order" 2 (FnS K (clA K xs) false forms_check_order)) (d_divide : FnA P w K mg base "divide" 3 (FnS K (clA K xs) false ratios_divide)) (d_choose : FnA P w K mg base "choose" 1 (FnS K (clA K xs) false forms_choose)) : FnOk P w K mg base (L2.CX P w) (3 + 1) f fd (["size"] : List Str) (FnS K (clA K xs) false moves_pairing_table) := by
  refine fn_ok (c := c55) F sc55 (by decide) rfl rfl fun cdv A outer s H E hr => ?_
  have tk : Takes (cxOf (L2.CX P w) P w K mg base N55 "pairing_table" (defScope (top 55)) f cdv A outer s H E) (fun cls d _ H => E cls d H) := takes_of rfl rfl rfl rfl
  have hx : Passes (L2.CX P w) (cxOf (L2.CX P w) P w K mg base N55 "pairing_table" (defScope (top 55)) f cdv A outer s H E) E := passes_call tk fun _ _ _ _ h => h
  have hp := passes_of (X := cxOf (L2.CX P w) P w K mg base N55 "pairing_table" (defScope (top 55)) f cdv A outer s H E) rfl
  have nd : N55.Nodup := sc55.nd
  exact (ss_cons (zDrop (ex_bor (kS d_check_order (hr.mono (by first | decide | omega)) hx (aS (vS 0) nS))))
    (ss_cons (zOwn 1 nd (ev_lst nS))
    (ss_cons (zFor hp (wR1 T.bn (aB (ex_srd (bAdd (ex_bor (vS 0)) (ex_bor ev_int))) nB)) (gV 2 nd)
      (ss_cons (zSet 3 nd (kS d_divide (hr.mono (by first | decide | omega)) hx (aS (ev_tup (aS (ev_if (tEq hr (ex_bor (bMod (ex_bor (vS 2)) (ex_bor ev_int))) (ex_bor ev_int)) ev_int (uNeg (ex_srd ev_int))) (aS ev_int nS))) (aS (ev_tup (aS (kS d_choose (hr.mono (by first | decide | omega)) hx (aS (vS 0) (aS (vS 2) nS))) (aS ev_int nS))) nS))))
    (ss_one (zApp 1 (fTuple T.bn (aB (ex_frd (lC [("j", 4)] nd (wR1 T.bn (aB (ex_srd (bAdd (ex_bor (vS 0)) (ex_bor ev_int))) nB)) (fun _ _ _ _ _ => (gV 4 nd)) (fun _ _ _ _ _ => tsx_nil) (fun _ _ _ _ _ => (ev_if (tEq hr (ex_bor (vS 4)) (ex_bor (bSub (ex_bor (vS 0)) (ex_bor (vS 2))))) (vS 3) (gC T.c_ZERO))))) nB))))))
    (ss_one (zRet (fTuple T.bn (aB (ex_srd (vS 1)) nB)))))))
abbrev N68 : List Str := ["one", "other", "k"]
theorem sc68 : FnScope N68 (["one", "other"] : List Str) (defScope (top 68)) := ⟨rfl, rfl, rfl, by decide +kernel, rfl, by decide +kernel, by decide +kernel⟩
abbrev c68 : Cf := { M := [] }
set_option maxHeartbeats 8000000 in
theorem ok68 (T : Tx K mg) {f : Addr} {fd : FuncData} (F : Fun K "_law_same" "_law_same" (top 68) f fd) (n : Nat) (d__law_same : FnA P w K mg base "_law_same" (0 + n) (FnS K (clA K xs) false (law_same n))) : FnOk P w K mg base (L2.CX P w) ((0 + n) + 1) f fd (["one", "other"] : List Str) (FnS K (clA K xs) false (law_same (n + 1))) := by
  refine fn_ok (c := c68) F sc68 (by decide) rfl rfl fun cdv A outer s H E hr => ?_
  have tk : Takes (cxOf (L2.CX P w) P w K mg base N68 "_law_same" (defScope (top 68)) f cdv A outer s H E) (fun cls d _ H => E cls d H) := takes_of rfl rfl rfl rfl
  have hx : Passes (L2.CX P w) (cxOf (L2.CX P w) P w K mg base N68 "_law_same" (defScope (top 68)) f cdv A outer s H E) E := passes_call tk fun _ _ _ _ h => h
  have hp := passes_of (X := cxOf (L2.CX P w) P w K mg base N68 "_law_same" (defScope (top 68)) f cdv A outer s H E) rfl
  have nd : N68.Nodup := sc68.nd
  exact (ss_cons (sx_if (tT1 (tw_or (tV (isT T.bn (ex_bor (vS 0)))) (tw_or1 (tV (isT T.bn (ex_bor (vS 1))))))) (ss_cons (sx_if (tT1 (tw_or (tx_not (tV (isT T.bn (ex_bor (vS 0))))) (tw_or (tx_not (tV (isT T.bn (ex_bor (vS 1))))) (tw_or1 (tNe hr (ex_bor (fLen T.bn (aB (ex_srd (vS 0)) nB))) (ex_bor (fLen T.bn (aB (ex_srd (vS 1)) nB)))))))) (ss_one (zRet ev_bl)) ss_nil)
    (ss_one (zRet (fAll T.bn (aB (ex_frd (lC [("k", 2)] nd (wR1 T.bn (aB (ex_srd (fLen T.bn (aB (ex_srd (vS 0)) nB))) nB)) (fun _ _ _ _ _ => (gV 2 nd)) (fun _ _ _ _ _ => tsx_nil) (fun _ _ _ _ _ => (kS d__law_same (hr.mono (by first | decide | omega)) passL (aS (iX (ex_srd (vS 0)) (ex_bor (vS 2))) (aS (iX (ex_srd (vS 1)) (ex_bor (vS 2))) nS)))))) nB))))) ss_nil)
    (ss_cons (sx_if (tT1 (tw_or (tNe hr (isS T.bn T.str (ex_bor (vS 0))) (isS T.bn T.str (ex_bor (vS 1)))) (tw_or1 (tNe hr (isI T.bn (ex_bor (vS 0))) (isI T.bn (ex_bor (vS 1))))))) (ss_one (zRet ev_bl)) ss_nil)
    (ss_one (zRet (ex_bool (cEq hr (ex_bor (vS 0)) (ex_bor (vS 1))) bool_eq)))))
abbrev N45 : List Str := ["one", "other", "columns", "found", "row", "line", "column", "total", "left", "right"]
theorem sc45 : FnScope N45 (["one", "other"] : List Str) (defScope (top 45)) := ⟨rfl, rfl, rfl, by decide +kernel, rfl, by decide +kernel, by decide +kernel⟩
abbrev c45 : Cf := { M := [3, 5] }
set_option maxHeartbeats 8000000 in
theorem ok45 (T : Tx K mg) {f : Addr} {fd : FuncData} (F : Fun K "times" "times" (top 45) f fd) (d_turned : FnA P w K mg base "turned" 1 (FnS K (clA K xs) false moves_turned)) (d_add_ratios : FnA P w K mg base "add_ratios" 3 (FnS K (clA K xs) false ratios_add)) (d_multiply_ratios : FnA P w K mg base "multiply_ratios" 3 (FnS K (clA K xs) false ratios_multiply)) : FnOk P w K mg base (L2.CX P w) (3 + 1) f fd (["one", "other"] : List Str) (FnS K (clA K xs) false moves_times) := by
  refine fn_ok (c := c45) F sc45 (by decide) rfl rfl fun cdv A outer s H E hr => ?_
  have tk : Takes (cxOf (L2.CX P w) P w K mg base N45 "times" (defScope (top 45)) f cdv A outer s H E) (fun cls d _ H => E cls d H) := takes_of rfl rfl rfl rfl
  have hx : Passes (L2.CX P w) (cxOf (L2.CX P w) P w K mg base N45 "times" (defScope (top 45)) f cdv A outer s H E) E := passes_call tk fun _ _ _ _ h => h
  have hp := passes_of (X := cxOf (L2.CX P w) P w K mg base N45 "times" (defScope (top 45)) f cdv A outer s H E) rfl
  have nd : N45.Nodup := sc45.nd
  exact (ss_cons (zSet 2 nd (kS d_turned (hr.mono (by first | decide | omega)) hx (aS (vS 1) nS)))
    (ss_cons (zOwn 3 nd (ev_lst nS))
    (ss_cons (zFor hp (wS (vS 0)) (gV 4 nd)
      (ss_cons (zOwn 5 nd (ev_lst nS))
    (ss_cons (zFor hp (wS (vS 2)) (gV 6 nd)
      (ss_cons (zSet 7 nd (gC T.c_ZERO))
    (ss_cons (zFor hp (wZ T.bn (vS 4) (vS 6)) (gT (gSs (gV 8 nd) (gSs (gV 9 nd) gxs_nil)))
      (ss_one (sx_if (tT1 (tw_and (tNe hr (ex_bor (vS 8)) (ex_bor (gC T.c_ZERO))) (tw_and1 (tNe hr (ex_bor (vS 9)) (ex_bor (gC T.c_ZERO)))))) (ss_one (zSet 7 nd (kS d_add_ratios (hr.mono (by first | decide | omega)) hx (aS (vS 7) (aS (kS d_multiply_ratios (hr.mono (by first | decide | omega)) hx (aS (vS 8) (aS (vS 9) nS))) nS))))) ss_nil)))
    (ss_one (zApp 5 (vS 7))))))
    (ss_one (zApp 3 (fTuple T.bn (aB (ex_rd (vB 5)) nB)))))))
    (ss_one (zRet (fTuple T.bn (aB (ex_srd (vS 3)) nB)))))))
abbrev N49 : List Str := ["one", "other"]
theorem sc49 : FnScope N49 (["one", "other"] : List Str) (defScope (top 49)) := ⟨rfl, rfl, rfl, by decide +kernel, rfl, by decide +kernel, by decide +kernel⟩
abbrev c49 : Cf := { M := [] }
set_option maxHeartbeats 8000000 in
theorem ok49 (T : Tx K mg) {f : Addr} {fd : FuncData} (F : Fun K "bracket" "bracket" (top 49) f fd) (d_plus : FnA P w K mg base "plus" 4 (FnS K (clA K xs) false moves_plus)) (d_times : FnA P w K mg base "times" 4 (FnS K (clA K xs) false moves_times)) (d_scaled_moves : FnA P w K mg base "scaled_moves" 4 (FnS K (clA K xs) false moves_scaled)) : FnOk P w K mg base (L2.CX P w) (4 + 1) f fd (["one", "other"] : List Str) (FnS K (clA K xs) false moves_bracket) := by
  refine fn_ok (c := c49) F sc49 (by decide) rfl rfl fun cdv A outer s H E hr => ?_
  have tk : Takes (cxOf (L2.CX P w) P w K mg base N49 "bracket" (defScope (top 49)) f cdv A outer s H E) (fun cls d _ H => E cls d H) := takes_of rfl rfl rfl rfl
  have hx : Passes (L2.CX P w) (cxOf (L2.CX P w) P w K mg base N49 "bracket" (defScope (top 49)) f cdv A outer s H E) E := passes_call tk fun _ _ _ _ h => h
  have hp := passes_of (X := cxOf (L2.CX P w) P w K mg base N49 "bracket" (defScope (top 49)) f cdv A outer s H E) rfl
  have nd : N49.Nodup := sc49.nd
  exact (ss_one (zRet (kS d_plus (hr.mono (by first | decide | omega)) hx (aS (kS d_times (hr.mono (by first | decide | omega)) hx (aS (vS 0) (aS (vS 1) nS))) (aS (kS d_scaled_moves (hr.mono (by first | decide | omega)) hx (aS (ev_tup (aS (uNeg (ex_srd ev_int)) (aS ev_int nS))) (aS (kS d_times (hr.mono (by first | decide | omega)) hx (aS (vS 1) (aS (vS 0) nS))) nS))) nS)))))
abbrev N50 : List Str := ["size", "k", "j"]
theorem sc50 : FnScope N50 (["size"] : List Str) (defScope (top 50)) := ⟨rfl, rfl, rfl, by decide +kernel, rfl, by decide +kernel, by decide +kernel⟩
abbrev c50 : Cf := { M := [] }
set_option maxHeartbeats 8000000 in
theorem ok50 (T : Tx K mg) {f : Addr} {fd : FuncData} (F : Fun K "unit" "unit" (top 50) f fd) : FnOk P w K mg base (L2.CX P w) (0 + 1) f fd (["size"] : List Str) (FnS K (clA K xs) false moves_unit) := by
  refine fn_ok (c := c50) F sc50 (by decide) rfl rfl fun cdv A outer s H E hr => ?_
  have tk : Takes (cxOf (L2.CX P w) P w K mg base N50 "unit" (defScope (top 50)) f cdv A outer s H E) (fun cls d _ H => E cls d H) := takes_of rfl rfl rfl rfl
  have hx : Passes (L2.CX P w) (cxOf (L2.CX P w) P w K mg base N50 "unit" (defScope (top 50)) f cdv A outer s H E) E := passes_call tk fun _ _ _ _ h => h
  have hp := passes_of (X := cxOf (L2.CX P w) P w K mg base N50 "unit" (defScope (top 50)) f cdv A outer s H E) rfl
  have nd : N50.Nodup := sc50.nd
  exact (ss_one (zRet (fTuple T.bn (aB (ex_frd (lC [("k", 1)] nd (wR1 T.bn (aB (ex_srd (bAdd (ex_bor (vS 0)) (ex_bor ev_int))) nB)) (fun _ _ _ _ _ => (gV 1 nd)) (fun _ _ _ _ _ => tsx_nil) (fun _ _ _ _ _ => (fTuple T.bn (aB (ex_frd (lC [("j", 2)] nd (wR1 T.bn (aB (ex_srd (bAdd (ex_bor (vS 0)) (ex_bor ev_int))) nB)) (fun _ _ _ _ _ => (gV 2 nd)) (fun _ _ _ _ _ => tsx_nil) (fun _ _ _ _ _ => (ev_if (tEq hr (ex_bor (vS 1)) (ex_bor (vS 2))) (gC T.c_ONE) (gC T.c_ZERO))))) nB))))) nB))))
abbrev N51 : List Str := ["size", "up", "down", "weight"]
theorem sc51 : FnScope N51 (["size"] : List Str) (defScope (top 51)) := ⟨rfl, rfl, rfl, by decide +kernel, rfl, by decide +kernel, by decide +kernel⟩
abbrev c51 : Cf := { M := [] }
set_option maxHeartbeats 8000000 in
theorem ok51 (T : Tx K mg) {f : Addr} {fd : FuncData} (F : Fun K "middle" "middle" (top 51) f fd) (d_plus : FnA P w K mg base "plus" 4 (FnS K (clA K xs) false moves_plus)) (d_step_up : FnA P w K mg base "step_up" 3 (FnS K (clA K xs) false moves_step_up)) (d_step_down : FnA P w K mg base "step_down" 3 (FnS K (clA K xs) false moves_step_down)) (d_weight_table : FnA P w K mg base "weight_table" 3 (FnS K (clA K xs) false moves_weight_table)) (d_scaled_moves : FnA P w K mg base "scaled_moves" 4 (FnS K (clA K xs) false moves_scaled)) (d_times : FnA P w K mg base "times" 4 (FnS K (clA K xs) false moves_times)) : FnOk P w K mg base (L2.CX P w) (4 + 1) f fd (["size"] : List Str) (FnS K (clA K xs) false moves_middle) := by
  refine fn_ok (c := c51) F sc51 (by decide) rfl rfl fun cdv A outer s H E hr => ?_
  have tk : Takes (cxOf (L2.CX P w) P w K mg base N51 "middle" (defScope (top 51)) f cdv A outer s H E) (fun cls d _ H => E cls d H) := takes_of rfl rfl rfl rfl
  have hx : Passes (L2.CX P w) (cxOf (L2.CX P w) P w K mg base N51 "middle" (defScope (top 51)) f cdv A outer s H E) E := passes_call tk fun _ _ _ _ h => h
  have hp := passes_of (X := cxOf (L2.CX P w) P w K mg base N51 "middle" (defScope (top 51)) f cdv A outer s H E) rfl
  have nd : N51.Nodup := sc51.nd
  exact (ss_cons (zPar3 1 2 3 false false false nd (kS d_step_up (hr.mono (by first | decide | omega)) hx (aS (vS 0) nS)) (kS d_step_down (hr.mono (by first | decide | omega)) hx (aS (vS 0) nS)) (kS d_weight_table (hr.mono (by first | decide | omega)) hx (aS (vS 0) nS)))
    (ss_one (zRet (kS d_plus (hr.mono (by first | decide | omega)) hx (aS (kS d_plus (hr.mono (by first | decide | omega)) hx (aS (kS d_times (hr.mono (by first | decide | omega)) hx (aS (vS 1) (aS (vS 2) nS))) (aS (kS d_times (hr.mono (by first | decide | omega)) hx (aS (vS 2) (aS (vS 1) nS))) nS))) (aS (kS d_scaled_moves (hr.mono (by first | decide | omega)) hx (aS (ev_tup (aS ev_int (aS ev_int nS))) (aS (kS d_times (hr.mono (by first | decide | omega)) hx (aS (vS 3) (aS (vS 3) nS))) nS))) nS))))))
abbrev N52 : List Str := ["size"]
theorem sc52 : FnScope N52 (["size"] : List Str) (defScope (top 52)) := ⟨rfl, rfl, rfl, by decide +kernel, rfl, by decide +kernel, by decide +kernel⟩
abbrev c52 : Cf := { M := [] }
set_option maxHeartbeats 8000000 in
theorem ok52 (T : Tx K mg) {f : Addr} {fd : FuncData} (F : Fun K "middle_number" "middle_number" (top 52) f fd) (d_check_order : FnA P w K mg base "check_order" 2 (FnS K (clA K xs) false forms_check_order)) (d_divide : FnA P w K mg base "divide" 3 (FnS K (clA K xs) false ratios_divide)) : FnOk P w K mg base (L2.CX P w) (3 + 1) f fd (["size"] : List Str) (FnS K (clA K xs) false moves_middle_number) := by
  refine fn_ok (c := c52) F sc52 (by decide) rfl rfl fun cdv A outer s H E hr => ?_
  have tk : Takes (cxOf (L2.CX P w) P w K mg base N52 "middle_number" (defScope (top 52)) f cdv A outer s H E) (fun cls d _ H => E cls d H) := takes_of rfl rfl rfl rfl
  have hx : Passes (L2.CX P w) (cxOf (L2.CX P w) P w K mg base N52 "middle_number" (defScope (top 52)) f cdv A outer s H E) E := passes_call tk fun _ _ _ _ h => h
  have hp := passes_of (X := cxOf (L2.CX P w) P w K mg base N52 "middle_number" (defScope (top 52)) f cdv A outer s H E) rfl
  have nd : N52.Nodup := sc52.nd
  exact (ss_cons (zDrop (ex_bor (kS d_check_order (hr.mono (by first | decide | omega)) hx (aS (vS 0) nS))))
    (ss_one (zRet (kS d_divide (hr.mono (by first | decide | omega)) hx (aS (ev_tup (aS (bMul (ex_bor (vS 0)) (ex_bor (bAdd (ex_bor (vS 0)) (ex_bor ev_int)))) (aS ev_int nS))) (aS (ev_tup (aS ev_int (aS ev_int nS))) nS))))))
abbrev N54 : List Str := ["table", "size", "found", "now", "k", "row", "item"]
theorem sc54 : FnScope N54 (["table"] : List Str) (defScope (top 54)) := ⟨rfl, rfl, rfl, by decide +kernel, rfl, by decide +kernel, by decide +kernel⟩
abbrev c54 : Cf := { M := [] }
set_option maxHeartbeats 8000000 in
theorem ok54 (T : Tx K mg) {f : Addr} {fd : FuncData} (F : Fun K "exponential" "exponential" (top 54) f fd) (d_unit : FnA P w K mg base "unit" 1 (FnS K (clA K xs) false moves_unit)) (d_scaled_moves : FnA P w K mg base "scaled_moves" 4 (FnS K (clA K xs) false moves_scaled)) (d_plus : FnA P w K mg base "plus" 4 (FnS K (clA K xs) false moves_plus)) (d_times : FnA P w K mg base "times" 4 (FnS K (clA K xs) false moves_times)) : FnOk P w K mg base (L2.CX P w) (4 + 1) f fd (["table"] : List Str) (FnS K (clA K xs) false moves_exponential) := by
  refine fn_ok (c := c54) F sc54 (by decide) rfl rfl fun cdv A outer s H E hr => ?_
  have tk : Takes (cxOf (L2.CX P w) P w K mg base N54 "exponential" (defScope (top 54)) f cdv A outer s H E) (fun cls d _ H => E cls d H) := takes_of rfl rfl rfl rfl
  have hx : Passes (L2.CX P w) (cxOf (L2.CX P w) P w K mg base N54 "exponential" (defScope (top 54)) f cdv A outer s H E) E := passes_call tk fun _ _ _ _ h => h
  have hp := passes_of (X := cxOf (L2.CX P w) P w K mg base N54 "exponential" (defScope (top 54)) f cdv A outer s H E) rfl
  have nd : N54.Nodup := sc54.nd
  exact (ss_cons (zSet 1 nd (bSub (ex_bor (fLen T.bn (aB (ex_srd (vS 0)) nB))) (ex_bor ev_int)))
    (ss_cons (zPar2 2 3 false false nd (kS d_unit (hr.mono (by first | decide | omega)) hx (aS (vS 1) nS)) (kS d_unit (hr.mono (by first | decide | omega)) hx (aS (vS 1) nS)))
    (ss_cons (zFor hp (wR2 T.bn (aB (ex_srd ev_int) (aB (ex_srd (bAdd (ex_bor (vS 1)) (ex_bor ev_int))) nB))) (gV 4 nd)
      (ss_cons (zSet 3 nd (kS d_scaled_moves (hr.mono (by first | decide | omega)) hx (aS (ev_tup (aS ev_int (aS (vS 4) nS))) (aS (kS d_times (hr.mono (by first | decide | omega)) hx (aS (vS 3) (aS (vS 0) nS))) nS))))
    (ss_one (zSet 2 nd (kS d_plus (hr.mono (by first | decide | omega)) hx (aS (vS 2) (aS (vS 3) nS)))))))
    (ss_cons (sx_if (tV (ex_bor (fAny T.bn (aB (ex_frd (lC [("row", 5)] nd (wS (ex_srd (vS 3))) (fun _ _ _ _ _ => (gV 5 nd)) (fun _ _ _ _ _ => tsx_nil) (fun _ _ _ _ _ => (fAny T.bn (aB (ex_frd (lC [("item", 6)] nd (wS (ex_srd (vS 5))) (fun _ _ _ _ _ => (gV 6 nd)) (fun _ _ _ _ _ => tsx_nil) (fun _ _ _ _ _ => (ex_bool (cNe hr (ex_bor (vS 6)) (ex_bor (gC T.c_ZERO))) bool_ne)))) nB))))) nB)))) (ss_one (zRaise 0 T.e_BadNumber tk)) ss_nil)
    (ss_one (zRet (vS 2)))))))
abbrev N56 : List Str := ["table", "found", "k", "row"]
theorem sc56 : FnScope N56 (["table"] : List Str) (defScope (top 56)) := ⟨rfl, rfl, rfl, by decide +kernel, rfl, by decide +kernel, by decide +kernel⟩
abbrev c56 : Cf := { M := [] }
set_option maxHeartbeats 8000000 in
theorem ok56 (T : Tx K mg) {f : Addr} {fd : FuncData} (F : Fun K "trace" "trace" (top 56) f fd) (d_add_ratios : FnA P w K mg base "add_ratios" 3 (FnS K (clA K xs) false ratios_add)) : FnOk P w K mg base (L2.CX P w) (3 + 1) f fd (["table"] : List Str) (FnS K (clA K xs) false moves_trace) := by
  refine fn_ok (c := c56) F sc56 (by decide) rfl rfl fun cdv A outer s H E hr => ?_
  have tk : Takes (cxOf (L2.CX P w) P w K mg base N56 "trace" (defScope (top 56)) f cdv A outer s H E) (fun cls d _ H => E cls d H) := takes_of rfl rfl rfl rfl
  have hx : Passes (L2.CX P w) (cxOf (L2.CX P w) P w K mg base N56 "trace" (defScope (top 56)) f cdv A outer s H E) E := passes_call tk fun _ _ _ _ h => h
  have hp := passes_of (X := cxOf (L2.CX P w) P w K mg base N56 "trace" (defScope (top 56)) f cdv A outer s H E) rfl
  have nd : N56.Nodup := sc56.nd
  exact (ss_cons (zSet 1 nd (gC T.c_ZERO))
    (ss_cons (zFor hp (wEn T.bn (vS 0)) (gT (gSs (gV 2 nd) (gSs (gV 3 nd) gxs_nil)))
      (ss_one (zSet 1 nd (kS d_add_ratios (hr.mono (by first | decide | omega)) hx (aS (vS 1) (aS (iX (ex_srd (vS 3)) (ex_bor (vS 2))) nS))))))
    (ss_one (zRet (vS 1)))))
abbrev N57 : List Str := ["change", "size", "whole", "det", "last", "now", "_"]
theorem sc57 : FnScope N57 (["change", "size"] : List Str) (defScope (top 57)) := ⟨rfl, rfl, rfl, by decide +kernel, rfl, by decide +kernel, by decide +kernel⟩
abbrev c57 : Cf := { M := [] }
set_option maxHeartbeats 8000000 in
theorem ok57 (T : Tx K mg) {f : Addr} {fd : FuncData} (F : Fun K "trace_of" "trace_of" (top 57) f fd) (d_check_change : FnA P w K mg base "check_change" 5 (FnS K (clA K xs) false forms_check_change)) (d_add_ratios : FnA P w K mg base "add_ratios" 3 (FnS K (clA K xs) false ratios_add)) (d_subtract : FnA P w K mg base "subtract" 3 (FnS K (clA K xs) false ratios_subtract)) (d_multiply_ratios : FnA P w K mg base "multiply_ratios" 3 (FnS K (clA K xs) false ratios_multiply)) : FnOk P w K mg base (L2.CX P w) (5 + 1) f fd (["change", "size"] : List Str) (FnS K (clA K xs) false moves_trace_of) := by
  refine fn_ok (c := c57) F sc57 (by decide) rfl rfl fun cdv A outer s H E hr => ?_
  have tk : Takes (cxOf (L2.CX P w) P w K mg base N57 "trace_of" (defScope (top 57)) f cdv A outer s H E) (fun cls d _ H => E cls d H) := takes_of rfl rfl rfl rfl
  have hx : Passes (L2.CX P w) (cxOf (L2.CX P w) P w K mg base N57 "trace_of" (defScope (top 57)) f cdv A outer s H E) E := passes_call tk fun _ _ _ _ h => h
  have hp := passes_of (X := cxOf (L2.CX P w) P w K mg base N57 "trace_of" (defScope (top 57)) f cdv A outer s H E) rfl
  have nd : N57.Nodup := sc57.nd
  exact (ss_cons (zDrop (ex_bor (kS d_check_change (hr.mono (by first | decide | omega)) hx (aS (vS 0) nS))))
    (ss_cons (zSet 2 nd (kS d_add_ratios (hr.mono (by first | decide | omega)) hx (aS (iX (ex_srd (vS 0)) (ex_bor ev_int)) (aS (iX (ex_srd (vS 0)) (ex_bor ev_int)) nS))))
    (ss_cons (zSet 3 nd (kS d_subtract (hr.mono (by first | decide | omega)) hx (aS (kS d_multiply_ratios (hr.mono (by first | decide | omega)) hx (aS (iX (ex_srd (vS 0)) (ex_bor ev_int)) (aS (iX (ex_srd (vS 0)) (ex_bor ev_int)) nS))) (aS (kS d_multiply_ratios (hr.mono (by first | decide | omega)) hx (aS (iX (ex_srd (vS 0)) (ex_bor ev_int)) (aS (iX (ex_srd (vS 0)) (ex_bor ev_int)) nS))) nS))))
    (ss_cons (zPar2 4 5 false false nd (gC T.c_ZERO) (gC T.c_ONE))
    (ss_cons (zFor hp (wR1 T.bn (aB (ex_srd (vS 1)) nB)) (gV 6 nd)
      (ss_one (zPar2 4 5 false false nd (vS 5) (kS d_subtract (hr.mono (by first | decide | omega)) hx (aS (kS d_multiply_ratios (hr.mono (by first | decide | omega)) hx (aS (vS 2) (aS (vS 5) nS))) (aS (kS d_multiply_ratios (hr.mono (by first | decide | omega)) hx (aS (vS 3) (aS (vS 4) nS))) nS))))))
    (ss_one (zRet (vS 5))))))))
abbrev N58 : List Str := ["size"]
theorem sc58 : FnScope N58 (["size"] : List Str) (defScope (top 58)) := ⟨rfl, rfl, rfl, by decide +kernel, rfl, by decide +kernel, by decide +kernel⟩
abbrev c58 : Cf := { M := [] }
set_option maxHeartbeats 8000000 in
theorem ok58 (T : Tx K mg) {f : Addr} {fd : FuncData} (F : Fun K "determinant_power" "determinant_power" (top 58) f fd) (d_check_order : FnA P w K mg base "check_order" 2 (FnS K (clA K xs) false forms_check_order)) : FnOk P w K mg base (L2.CX P w) (2 + 1) f fd (["size"] : List Str) (FnS K (clA K xs) false moves_determinant_power) := by
  refine fn_ok (c := c58) F sc58 (by decide) rfl rfl fun cdv A outer s H E hr => ?_
  have tk : Takes (cxOf (L2.CX P w) P w K mg base N58 "determinant_power" (defScope (top 58)) f cdv A outer s H E) (fun cls d _ H => E cls d H) := takes_of rfl rfl rfl rfl
  have hx : Passes (L2.CX P w) (cxOf (L2.CX P w) P w K mg base N58 "determinant_power" (defScope (top 58)) f cdv A outer s H E) E := passes_call tk fun _ _ _ _ h => h
  have hp := passes_of (X := cxOf (L2.CX P w) P w K mg base N58 "determinant_power" (defScope (top 58)) f cdv A outer s H E) rfl
  have nd : N58.Nodup := sc58.nd
  exact (ss_cons (zDrop (ex_bor (kS d_check_order (hr.mono (by first | decide | omega)) hx (aS (vS 0) nS))))
    (ss_one (zRet (bDiv (ex_bor (bMul (ex_bor (vS 0)) (ex_bor (bAdd (ex_bor (vS 0)) (ex_bor ev_int))))) (ex_bor ev_int)))))
abbrev N61 : List Str := ["a", "b", "c", "d"]
theorem sc61 : FnScope N61 (["a", "b", "c", "d"] : List Str) (defScope (top 61)) := ⟨rfl, rfl, rfl, by decide +kernel, rfl, by decide +kernel, by decide +kernel⟩
abbrev c61 : Cf := { M := [] }
set_option maxHeartbeats 8000000 in
theorem ok61 (T : Tx K mg) {f : Addr} {fd : FuncData} (F : Fun K "cross" "cross" (top 61) f fd) (d_add_ratios : FnA P w K mg base "add_ratios" 3 (FnS K (clA K xs) false ratios_add)) (d_multiply_ratios : FnA P w K mg base "multiply_ratios" 3 (FnS K (clA K xs) false ratios_multiply)) : FnOk P w K mg base (L2.CX P w) (3 + 1) f fd (["a", "b", "c", "d"] : List Str) (FnS K (clA K xs) false moves_cross) := by
  refine fn_ok (c := c61) F sc61 (by decide) rfl rfl fun cdv A outer s H E hr => ?_
  have tk : Takes (cxOf (L2.CX P w) P w K mg base N61 "cross" (defScope (top 61)) f cdv A outer s H E) (fun cls d _ H => E cls d H) := takes_of rfl rfl rfl rfl
  have hx : Passes (L2.CX P w) (cxOf (L2.CX P w) P w K mg base N61 "cross" (defScope (top 61)) f cdv A outer s H E) E := passes_call tk fun _ _ _ _ h => h
  have hp := passes_of (X := cxOf (L2.CX P w) P w K mg base N61 "cross" (defScope (top 61)) f cdv A outer s H E) rfl
  have nd : N61.Nodup := sc61.nd
  exact (ss_one (zRet (kS d_add_ratios (hr.mono (by first | decide | omega)) hx (aS (kS d_multiply_ratios (hr.mono (by first | decide | omega)) hx (aS (vS 0) (aS (vS 1) nS))) (aS (kS d_multiply_ratios (hr.mono (by first | decide | omega)) hx (aS (vS 2) (aS (vS 3) nS))) nS)))))
abbrev N63 : List Str := ["changes", "found", "one", "a", "b", "c", "d", "p", "q", "r", "s", "top"]
theorem sc63 : FnScope N63 (["changes"] : List Str) (defScope (top 63)) := ⟨rfl, rfl, rfl, by decide +kernel, rfl, by decide +kernel, by decide +kernel⟩
abbrev c63 : Cf := { M := [] }
set_option maxHeartbeats 8000000 in
theorem ok63 (T : Tx K mg) {f : Addr} {fd : FuncData} (F : Fun K "product_of" "product_of" (top 63) f fd) (d_cross_moves : FnA P w K mg base "cross_moves" 4 (FnS K (clA K xs) false moves_cross)) : FnOk P w K mg base (L2.CX P w) (4 + 1) f fd (["changes"] : List Str) (FnS K (clA K xs) false moves_product_of) := by
  refine fn_ok (c := c63) F sc63 (by decide) rfl rfl fun cdv A outer s H E hr => ?_
  have tk : Takes (cxOf (L2.CX P w) P w K mg base N63 "product_of" (defScope (top 63)) f cdv A outer s H E) (fun cls d _ H => E cls d H) := takes_of rfl rfl rfl rfl
  have hx : Passes (L2.CX P w) (cxOf (L2.CX P w) P w K mg base N63 "product_of" (defScope (top 63)) f cdv A outer s H E) E := passes_call tk fun _ _ _ _ h => h
  have hp := passes_of (X := cxOf (L2.CX P w) P w K mg base N63 "product_of" (defScope (top 63)) f cdv A outer s H E) rfl
  have nd : N63.Nodup := sc63.nd
  exact (ss_cons (zSet 1 nd (ev_tup (aS (gC T.c_ONE) (aS (gC T.c_ZERO) (aS (gC T.c_ZERO) (aS (gC T.c_ONE) nS))))))
    (ss_cons (zFor hp (wS (vS 0)) (gV 2 nd)
      (ss_cons (zAsg (gT (gSs (gV 3 nd) (gSs (gV 4 nd) (gSs (gV 5 nd) (gSs (gV 6 nd) gxs_nil))))) (vS 1))
    (ss_cons (zAsg (gT (gSs (gV 7 nd) (gSs (gV 8 nd) (gSs (gV 9 nd) (gSs (gV 10 nd) gxs_nil))))) (vS 2))
    (ss_cons (zSet 11 nd (ev_tup (aS (kS d_cross_moves (hr.mono (by first | decide | omega)) hx (aS (vS 3) (aS (vS 7) (aS (vS 4) (aS (vS 9) nS))))) (aS (kS d_cross_moves (hr.mono (by first | decide | omega)) hx (aS (vS 3) (aS (vS 8) (aS (vS 4) (aS (vS 10) nS))))) nS))))
    (ss_one (zSet 1 nd (bAdd (ex_bor (vS 11)) (ex_bor (ev_tup (aS (kS d_cross_moves (hr.mono (by first | decide | omega)) hx (aS (vS 5) (aS (vS 7) (aS (vS 6) (aS (vS 9) nS))))) (aS (kS d_cross_moves (hr.mono (by first | decide | omega)) hx (aS (vS 5) (aS (vS 8) (aS (vS 6) (aS (vS 10) nS))))) nS)))))))))))
    (ss_one (zRet (vS 1)))))
abbrev N73 : List Str := ["one", "count", "found", "k"]
theorem sc73 : FnScope N73 (["one", "count"] : List Str) (defScope (top 73)) := ⟨rfl, rfl, rfl, by decide +kernel, rfl, by decide +kernel, by decide +kernel⟩
abbrev c73 : Cf := { M := [] }
set_option maxHeartbeats 8000000 in
theorem ok73 (T : Tx K mg) {f : Addr} {fd : FuncData} (F : Fun K "_law_power" "_law_power" (top 73) f fd) (d__law_mul : FnA P w K mg base "_law_mul" 2 (FnS K (clA K xs) false law_mul)) : FnOk P w K mg base (L2.CX P w) (2 + 1) f fd (["one", "count"] : List Str) (FnS K (clA K xs) false law_power) := by
  refine fn_ok (c := c73) F sc73 (by decide) rfl rfl fun cdv A outer s H E hr => ?_
  have tk : Takes (cxOf (L2.CX P w) P w K mg base N73 "_law_power" (defScope (top 73)) f cdv A outer s H E) (fun cls d _ H => E cls d H) := takes_of rfl rfl rfl rfl
  have hx : Passes (L2.CX P w) (cxOf (L2.CX P w) P w K mg base N73 "_law_power" (defScope (top 73)) f cdv A outer s H E) E := passes_call tk fun _ _ _ _ h => h
  have hp := passes_of (X := cxOf (L2.CX P w) P w K mg base N73 "_law_power" (defScope (top 73)) f cdv A outer s H E) rfl
  have nd : N73.Nodup := sc73.nd
  exact (ss_cons (zSet 2 nd (ev_tup (aS ev_int (aS ev_int nS))))
    (ss_cons (zFor hp (wR1 T.bn (aB (ex_srd (vS 1)) nB)) (gV 3 nd)
      (ss_one (zSet 2 nd (kS d__law_mul (hr.mono (by first | decide | omega)) hx (aS (vS 2) (aS (vS 0) nS))))))
    (ss_one (zRet (vS 2)))))
abbrev N81 : List Str := "script" :: "tape" :: "size" :: "change" :: "other" :: "form" :: "table" :: "column" :: "due" :: "both" :: "up" :: "down" :: "heavy" :: "place" :: "table_part" :: "goal" :: "number" :: "line" :: "a" :: "b" :: "c" :: "d" :: "made" :: "turned_v" :: "pairing" :: "det" :: "parts" :: "now" :: "part" :: "plain" :: "k" :: "item" :: "row" :: []
theorem sc81 : FnScope N81 (["script"] : List Str) (defScope (top 81)) := ⟨rfl, rfl, rfl, by decide +kernel, rfl, by decide +kernel, by decide +kernel⟩
abbrev c81 : Cf := { M := [], scr := some 0, tape := some 1 }
abbrev c81F : Cf := { M := [17], scr := some 0, tape := some 1 }
set_option maxHeartbeats 8000000 in
theorem ok81 (T : Tx K mg) {f : Addr} {fd : FuncData} (F : Fun K "law" "law" (top 81) f fd) (d__law_tape : FnA P w K mg base "_law_tape" 1 (FnM K law_tape)) (d_table_of : FnA P w K mg base "table_of" 6 (FnS K (clA K xs) false moves_table_of)) (d__law_changed : FnA P w K mg base "_law_changed" 4 (FnS K (clA K xs) false law_changed)) (d_after : FnA P w K mg base "after" 5 (FnS K (clA K xs) false forms_after)) (d_doing : FnA P w K mg base "doing" 5 (FnS K (clA K xs) false moves_doing)) (d_split_change : FnA P w K mg base "split_change" 45 (FnS K (clA K xs) false (moves_split_change 40))) (d__law_draw : FnA P w K mg base "_law_draw" 1 (FnT K (clA K xs) law_draw)) (d__law_change : FnA P w K mg base "_law_change" 6 (FnT K (clA K xs) law_change)) (d_step_up : FnA P w K mg base "step_up" 3 (FnS K (clA K xs) false moves_step_up)) (d_step_down : FnA P w K mg base "step_down" 3 (FnS K (clA K xs) false moves_step_down)) (d_weight_table : FnA P w K mg base "weight_table" 3 (FnS K (clA K xs) false moves_weight_table)) (d__law_fraction : FnA P w K mg base "_law_fraction" 2 (FnT K (clA K xs) law_fraction)) (d__law_add : FnA P w K mg base "_law_add" 2 (FnS K (clA K xs) false law_add)) (d_pairing_table : FnA P w K mg base "pairing_table" 4 (FnS K (clA K xs) false moves_pairing_table)) (d__law_two : FnA P w K mg base "_law_two" 5 (FnS K (clA K xs) false law_two)) (d__law_same : FnA P w K mg base "_law_same" 40 (FnS K (clA K xs) false (law_same 40))) (d_changed : FnA P w K mg base "changed" 5 (FnS K (clA K xs) false forms_changed)) (d__law_times : FnA P w K mg base "_law_times" 4 (FnS K (clA K xs) false law_times)) (d_times : FnA P w K mg base "times" 4 (FnS K (clA K xs) false moves_times)) (d_bracket : FnA P w K mg base "bracket" 5 (FnS K (clA K xs) false moves_bracket)) (d_scaled_moves : FnA P w K mg base "scaled_moves" 4 (FnS K (clA K xs) false moves_scaled)) (d_plus : FnA P w K mg base "plus" 4 (FnS K (clA K xs) false moves_plus)) (d_unit : FnA P w K mg base "unit" 1 (FnS K (clA K xs) false moves_unit)) (d_middle : FnA P w K mg base "middle" 5 (FnS K (clA K xs) false moves_middle)) (d_middle_number : FnA P w K mg base "middle_number" 4 (FnS K (clA K xs) false moves_middle_number)) (d__law_make : FnA P w K mg base "_law_make" 1 (FnS K (clA K xs) false law_make)) (d__law_mul : FnA P w K mg base "_law_mul" 2 (FnS K (clA K xs) false law_mul)) (d_exponential : FnA P w K mg base "exponential" 5 (FnS K (clA K xs) false moves_exponential)) (d_determinant : FnA P w K mg base "determinant" 4 (FnS K (clA K xs) false forms_determinant)) (d_trace : FnA P w K mg base "trace" 4 (FnS K (clA K xs) false moves_trace)) (d__law_sum : FnA P w K mg base "_law_sum" 3 (FnS K (clA K xs) false law_sum)) (d_trace_of : FnA P w K mg base "trace_of" 6 (FnS K (clA K xs) false moves_trace_of)) (d_determinant_power : FnA P w K mg base "determinant_power" 3 (FnS K (clA K xs) false moves_determinant_power)) (d_product_of : FnA P w K mg base "product_of" 5 (FnS K (clA K xs) false moves_product_of)) (d__law_power : FnA P w K mg base "_law_power" 3 (FnS K (clA K xs) false law_power)) (d__law_pick : FnA P w K mg base "_law_pick" 2 (FnT K (clA K xs) law_pick)) {g Pt : Addr} (hfa : f = He.fAd K ("law", none)) (tld0 : ∀ X : Cx, X.K = K → X.mg = mg → ToldOk X "_law_told" "make_it" g (TB' K (clA K xs) [(X_BadChange, (.str "change")), (X_BadNumber, (.str "number"))])) (TB0 : LamX.TabB base mg (He.codeOf K ("law", none)) Pt) (hT0 : Tb.T = [(Pt, ("law.<locals>." : Str) ++ ("<lambda>" : Str))]) : FnOk P w K mg base (L2.CX P w) (48 + 1) f fd (["script"] : List Str) (FnC K (clA K xs) law) := by
  refine fn_okLT (i := 1) (c := c81) F sc81 (by decide) rfl rfl rfl (by decide) (by decide) rfl fun cdv A outer s H E hcd hr => ?_
  subst hfa
  have hco := co_of hcd
  subst hco
  have tk : Takes (cxOf (L2.CX P w) P w K mg base N81 "law" (defScope (top 81)) (He.fAd K ("law", none)) (.ref (He.codeOf K ("law", none))) A outer s H E) (fun cls d _ H => E cls d H) := takes_of rfl rfl rfl rfl
  have hx : Passes (L2.CX P w) (cxOf (L2.CX P w) P w K mg base N81 "law" (defScope (top 81)) (He.fAd K ("law", none)) (.ref (He.codeOf K ("law", none))) A outer s H E) E := passes_call tk fun _ _ _ _ h => h
  have hp := passes_of (X := cxOf (L2.CX P w) P w K mg base N81 "law" (defScope (top 81)) (He.fAd K ("law", none)) (.ref (He.codeOf K ("law", none))) A outer s H E) rfl
  have nd : N81.Nodup := sc81.nd
  have tld := tld0 (cxOf (L2.CX P w) P w K mg base N81 "law" (defScope (top 81)) (He.fAd K ("law", none)) (.ref (He.codeOf K ("law", none))) A outer s H E) rfl rfl
  have hxL : ∀ (A2 : Around) (outer2 : List Env) (s2 : Shared) (H2 : Hp) (E2 : XK) (sc2 : Scope) (f2 c2 : Addr), Passes (L2.CX P w) (LamX.lamCx (cxOf (L2.CX P w) P w K mg base N81 "law" (defScope (top 81)) (He.fAd K ("law", none)) (.ref (He.codeOf K ("law", none))) A outer s H E) A2 outer2 s2 H2 E2 sc2 f2 c2) E2 := fun _ _ _ _ _ _ _ _ => passes_call (takes_of rfl rfl rfl rfl) fun _ _ _ _ h => h
  have TBx : LamX.TabB base mg (He.codeOf K ("law", none)) Pt ∧ (cxOf (L2.CX P w) P w K mg base N81 "law" (defScope (top 81)) (He.fAd K ("law", none)) (.ref (He.codeOf K ("law", none))) A outer s H E).env.code = .ref (He.codeOf K ("law", none)) ∧ (Pt, (cxOf (L2.CX P w) P w K mg base N81 "law" (defScope (top 81)) (He.fAd K ("law", none)) (.ref (He.codeOf K ("law", none))) A outer s H E).env.qual ++ ("<lambda>" : Str)) ∈ Tb.T ∧ ∀ p ∈ Tb.T, p.1 = Pt → p.2 = (cxOf (L2.CX P w) P w K mg base N81 "law" (defScope (top 81)) (He.fAd K ("law", none)) (.ref (He.codeOf K ("law", none))) A outer s H E).env.qual ++ ("<lambda>" : Str) := ⟨TB0, rfl, by rw [hT0]; exact List.mem_singleton.mpr rfl, fun p hp _ => by rw [hT0] at hp; rw [List.mem_singleton.mp hp]; rfl⟩
  refine ⟨zTape 1 nd d__law_tape (hr.mono (by first | decide | omega)) hx, ?_⟩
  exact (ss_cons (zAsg (gT (gSs (gV 2 nd) (gSs (gV 3 nd) (gSs (gV 4 nd) gxs_nil)))) (ev_tup (aS (kT 1 d__law_draw (hr.mono (by first | decide | omega)) hx (aS ev_int nS)) (aS (kT 1 d__law_change (hr.mono (by first | decide | omega)) hx nS) (aS (kT 1 d__law_change (hr.mono (by first | decide | omega)) hx nS) nS)))))
    (ss_cons (zSet 5 nd (fTuple T.bn (aB (ex_frd (lC [("k", 30)] nd (wR1 T.bn (aB (ex_srd (bAdd (ex_bor (vS 2)) (ex_bor ev_int))) nB)) (fun _ _ _ _ _ => (gV 30 nd)) (fun _ _ _ _ _ => tsx_nil) (fun _ _ _ _ _ => (kT 1 d__law_fraction (hr.mono (by first | decide | omega)) passL nS)))) nB)))
    (ss_cons (zSet 6 nd (kS d_table_of (hr.mono (by first | decide | omega)) hx (aS (vS 3) (aS (vS 2) nS))))
    (ss_cons (zSet 7 nd (fTuple T.bn (aB (ex_frd (lC [("item", 31)] nd (wS (ex_srd (vS 5))) (fun _ _ _ _ _ => (gV 31 nd)) (fun _ _ _ _ _ => tsx_nil) (fun _ _ _ _ _ => (ev_tup (aS (vS 31) nS))))) nB)))
    (ss_cons (zSet 8 nd (kS d__law_changed (hr.mono (by first | decide | omega)) hx (aS (vS 5) (aS (vS 3) nS))))
    (ss_cons (sx_if (tT1 (tw_or (tx_not (tV (ex_bor (kS d__law_same (hr.mono (by first | decide | omega)) hx (aS (fTuple T.bn (aB (ex_frd (lC [("row", 32)] nd (wS (ex_srd (kS d__law_times (hr.mono (by first | decide | omega)) hx (aS (vS 6) (aS (vS 7) nS))))) (fun _ _ _ _ _ => (gV 32 nd)) (fun _ _ _ _ _ => tsx_nil) (fun _ _ _ _ _ => (iX (ex_srd (vS 32)) (ex_bor ev_int))))) nB)) (aS (vS 8) nS)))))) (tw_or1 (tx_not (tV (ex_bor (kS d__law_same (hr.mono (by first | decide | omega)) hx (aS (kS d_changed (hr.mono (by first | decide | omega)) hx (aS (vS 5) (aS (vS 3) nS))) (aS (vS 8) nS))))))))) (ss_one (zRet ev_bl)) ss_nil)
    (ss_cons (zSet 9 nd (kS d_after (hr.mono (by first | decide | omega)) hx (aS (vS 3) (aS (vS 4) nS))))
    (ss_cons (sx_if (tT1 (tw_or (tNe hr (ex_bor (kS d_changed (hr.mono (by first | decide | omega)) hx (aS (vS 8) (aS (vS 4) nS)))) (ex_bor (kS d_changed (hr.mono (by first | decide | omega)) hx (aS (vS 5) (aS (vS 9) nS))))) (tw_or (tNe hr (ex_bor (kS d_table_of (hr.mono (by first | decide | omega)) hx (aS (vS 9) (aS (vS 2) nS)))) (ex_bor (kS d__law_times (hr.mono (by first | decide | omega)) hx (aS (kS d_table_of (hr.mono (by first | decide | omega)) hx (aS (vS 4) (aS (vS 2) nS))) (aS (vS 6) nS))))) (tw_or1 (tNe hr (ex_bor (kS d_times (hr.mono (by first | decide | omega)) hx (aS (vS 6) (aS (vS 6) nS)))) (ex_bor (kS d__law_times (hr.mono (by first | decide | omega)) hx (aS (vS 6) (aS (vS 6) nS))))))))) (ss_one (zRet ev_bl)) ss_nil)
    (ss_cons (zAsg (gT (gSs (gV 10 nd) (gSs (gV 11 nd) (gSs (gV 12 nd) gxs_nil)))) (ev_tup (aS (kS d_step_up (hr.mono (by first | decide | omega)) hx (aS (vS 2) nS)) (aS (kS d_step_down (hr.mono (by first | decide | omega)) hx (aS (vS 2) nS)) (aS (kS d_weight_table (hr.mono (by first | decide | omega)) hx (aS (vS 2) nS)) nS)))))
    (ss_cons (zFor hp (wR1 T.bn (aB (ex_srd (bAdd (ex_bor (vS 2)) (ex_bor ev_int))) nB)) (gV 13 nd)
      (ss_one (zFor hp (wS (ex_safe (ev_lst (aS (ev_tup (aS (vS 10) (aS (bAdd (ex_bor (vS 13)) (ex_bor ev_int)) (aS (bSub (ex_bor (vS 2)) (ex_bor (vS 13))) nS)))) (aS (ev_tup (aS (vS 11) (aS (bSub (ex_bor (vS 13)) (ex_bor ev_int)) (aS (vS 13) nS)))) (aS (ev_tup (aS (vS 12) (aS (vS 13) (aS (bSub (ex_bor (vS 2)) (ex_bor (bMul (ex_bor ev_int) (ex_bor (vS 13))))) nS)))) nS)))))) (gT (gSs (gV 14 nd) (gSs (gV 15 nd) (gSs (gV 16 nd) gxs_nil))))
      (ss_cons (zSet 17 nd (fTuple T.bn (aB (ex_frd (lC [("row", 32)] nd (wS (ex_srd (vS 14))) (fun _ _ _ _ _ => (gV 32 nd)) (fun _ _ _ _ _ => tsx_nil) (fun _ _ _ _ _ => (iX (ex_srd (vS 32)) (ex_bor (vS 13)))))) nB)))
    (ss_one (sx_if (tNe hr (ex_bor (vS 17)) (ex_bor (fTuple T.bn (aB (ex_frd (lC [("k", 30)] nd (wR1 T.bn (aB (ex_srd (bAdd (ex_bor (vS 2)) (ex_bor ev_int))) nB)) (fun _ _ _ _ _ => (gV 30 nd)) (fun _ _ _ _ _ => tsx_nil) (fun _ _ _ _ _ => (ev_if (tEq hr (ex_bor (vS 30)) (ex_bor (vS 15))) (ev_tup (aS (vS 16) (aS ev_int nS))) (ev_tup (aS ev_int (aS ev_int nS))))))) nB)))) (ss_one (zRet ev_bl)) ss_nil))))))
    (ss_cons (sx_if (tT1 (tw_or (tNe hr (ex_bor (kS d_bracket (hr.mono (by first | decide | omega)) hx (aS (vS 12) (aS (vS 10) nS)))) (ex_bor (kS d_scaled_moves (hr.mono (by first | decide | omega)) hx (aS (ev_tup (aS (uNeg (ex_srd ev_int)) (aS ev_int nS))) (aS (vS 10) nS))))) (tw_or (tNe hr (ex_bor (kS d_bracket (hr.mono (by first | decide | omega)) hx (aS (vS 12) (aS (vS 11) nS)))) (ex_bor (kS d_scaled_moves (hr.mono (by first | decide | omega)) hx (aS (ev_tup (aS ev_int (aS ev_int nS))) (aS (vS 11) nS))))) (tw_or1 (tNe hr (ex_bor (kS d_bracket (hr.mono (by first | decide | omega)) hx (aS (vS 11) (aS (vS 10) nS)))) (ex_bor (vS 12))))))) (ss_one (zRet ev_bl)) ss_nil)
    (ss_cons (sx_if (tT1 (tw_or (tNe hr (ex_bor (kS d_bracket (hr.mono (by first | decide | omega)) hx (aS (vS 10) (aS (vS 6) nS)))) (ex_bor (kS d_plus (hr.mono (by first | decide | omega)) hx (aS (kS d_times (hr.mono (by first | decide | omega)) hx (aS (vS 10) (aS (vS 6) nS))) (aS (kS d_scaled_moves (hr.mono (by first | decide | omega)) hx (aS (ev_tup (aS (uNeg (ex_srd ev_int)) (aS ev_int nS))) (aS (kS d_times (hr.mono (by first | decide | omega)) hx (aS (vS 6) (aS (vS 10) nS))) nS))) nS))))) (tw_or1 (tNe hr (ex_bor (kS d_unit (hr.mono (by first | decide | omega)) hx (aS (vS 2) nS))) (ex_bor (kS d_table_of (hr.mono (by first | decide | omega)) hx (aS (ev_tup (aS (ev_tup (aS ev_int (aS ev_int nS))) (aS (ev_tup (aS ev_int (aS ev_int nS))) (aS (ev_tup (aS ev_int (aS ev_int nS))) (aS (ev_tup (aS ev_int (aS ev_int nS))) nS))))) (aS (vS 2) nS)))))))) (ss_one (zRet ev_bl)) ss_nil)
    (ss_forget (c' := c81F) 17 (ss_cons (sx_if (tT1 (tw_or (tNe hr (ex_bor (kS d_middle (hr.mono (by first | decide | omega)) hx (aS (vS 2) nS))) (ex_bor (kS d_scaled_moves (hr.mono (by first | decide | omega)) hx (aS (kS d_middle_number (hr.mono (by first | decide | omega)) hx (aS (vS 2) nS)) (aS (kS d_unit (hr.mono (by first | decide | omega)) hx (aS (vS 2) nS)) nS))))) (tw_or1 (tNe hr (ex_bor (kS d_middle_number (hr.mono (by first | decide | omega)) hx (aS (vS 2) nS))) (ex_bor (kS d__law_make (hr.mono (by first | decide | omega)) hx (aS (bMul (ex_bor (vS 2)) (ex_bor (bAdd (ex_bor (vS 2)) (ex_bor ev_int)))) (aS ev_int nS)))))))) (ss_one (zRet ev_bl)) ss_nil)
    (ss_cons (zAsg (gL (gSs (gV 18 nd) (gSs (gV 19 nd) (gSs (gV 20 nd) (gSs (gV 21 nd) gxs_nil))))) (ex_safe (lC [("k", 30)] nd (wR1 T.bn (aB (ex_srd ev_int) nB)) (fun _ _ _ _ _ => (gV 30 nd)) (fun _ _ _ _ _ => tsx_nil) (fun _ _ _ _ _ => (kT 1 d__law_fraction (hr.mono (by first | decide | omega)) passL nS)))))
    (ss_cons (zSet 22 nd (kS d_doing (hr.mono (by first | decide | omega)) hx (aS (ev_tup (aS (vS 18) (aS (vS 19) (aS (vS 20) (aS (vS 21) nS))))) (aS (vS 2) nS))))
    (ss_cons (zFor hp (wR1 T.bn (aB (ex_srd (bAdd (ex_bor (vS 2)) (ex_bor ev_int))) nB)) (gV 13 nd)
      (ss_cons (zOwn 17 nd (bMulL (ex_fb (ev_lst (aS (ev_tup (aS ev_int (aS ev_int nS))) nS))) (ex_bor (bAdd (ex_bor (vS 2)) (ex_bor ev_int)))))
    (ss_cons (zPut 17 (ex_bor (vS 13)) (kS d__law_add (hr.mono (by first | decide | omega)) hx (aS (kS d__law_mul (hr.mono (by first | decide | omega)) hx (aS (ev_tup (aS (bSub (ex_bor (vS 2)) (ex_bor (vS 13))) (aS ev_int nS))) (aS (vS 18) nS))) (aS (kS d__law_mul (hr.mono (by first | decide | omega)) hx (aS (ev_tup (aS (vS 13) (aS ev_int nS))) (aS (vS 21) nS))) nS))))
    (ss_cons (sx_if (tLt (ex_bor (vS 13)) (ex_bor (vS 2))) (ss_one (zPut 17 (ex_bor (bAdd (ex_bor (vS 13)) (ex_bor ev_int))) (kS d__law_mul (hr.mono (by first | decide | omega)) hx (aS (ev_tup (aS (bSub (ex_bor (vS 2)) (ex_bor (vS 13))) (aS ev_int nS))) (aS (vS 19) nS))))) ss_nil)
    (ss_cons (sx_if (tGt (ex_bor (vS 13)) (ex_bor ev_int)) (ss_one (zPut 17 (ex_bor (bSub (ex_bor (vS 13)) (ex_bor ev_int))) (kS d__law_mul (hr.mono (by first | decide | omega)) hx (aS (ev_tup (aS (vS 13) (aS ev_int nS))) (aS (vS 20) nS))))) ss_nil)
    (ss_one (sx_if (tNe hr (ex_bor (fTuple T.bn (aB (ex_frd (lC [("row", 32)] nd (wS (ex_srd (vS 22))) (fun _ _ _ _ _ => (gV 32 nd)) (fun _ _ _ _ _ => tsx_nil) (fun _ _ _ _ _ => (iX (ex_srd (vS 32)) (ex_bor (vS 13)))))) nB))) (ex_bor (fTuple T.bn (aB (ex_rd (vB 17)) nB)))) (ss_one (zRet ev_bl)) ss_nil)))))))
    (ss_cons (sx_if (tT1 (tw_or (tNe hr (ex_bor (kS d_exponential (hr.mono (by first | decide | omega)) hx (aS (kS d_scaled_moves (hr.mono (by first | decide | omega)) hx (aS (vS 19) (aS (vS 10) nS))) nS))) (ex_bor (kS d_table_of (hr.mono (by first | decide | omega)) hx (aS (ev_tup (aS (ev_tup (aS ev_int (aS ev_int nS))) (aS (vS 19) (aS (ev_tup (aS ev_int (aS ev_int nS))) (aS (ev_tup (aS ev_int (aS ev_int nS))) nS))))) (aS (vS 2) nS))))) (tw_or1 (tNe hr (ex_bor (kS d_exponential (hr.mono (by first | decide | omega)) hx (aS (kS d_scaled_moves (hr.mono (by first | decide | omega)) hx (aS (vS 19) (aS (vS 11) nS))) nS))) (ex_bor (kS d_table_of (hr.mono (by first | decide | omega)) hx (aS (ev_tup (aS (ev_tup (aS ev_int (aS ev_int nS))) (aS (ev_tup (aS ev_int (aS ev_int nS))) (aS (vS 19) (aS (ev_tup (aS ev_int (aS ev_int nS))) nS))))) (aS (vS 2) nS)))))))) (ss_one (zRet ev_bl)) ss_nil)
    (ss_cons (sx_if (tT1 (tw_and (tGt (ex_bor (vS 2)) (ex_bor ev_int)) (tw_and1 (tNe hr (ex_bor (ev_toldB (k := 46) tld T.ap (by decide) rfl TBx.1 TBx.2.1 TBx.2.2.1 TBx.2.2.2 (hr.mono (by decide)) (LamX.lamS_by (by rfl)) rfl (fun _ _ _ _ _ => rfl) (fun A2 outer2 s2 H2 E2 f2 c2 hr2 => have hxl := hxL A2 outer2 s2 H2 E2 _ f2 c2; (kS d_exponential (hr2.mono (by first | decide | omega)) hxl (aS (vS 12) nS))) (by decide) (by decide) (by decide))) (ex_bor ev_str))))) (ss_one (zRet ev_bl)) ss_nil)
    (ss_cons (zSet 23 nd (fTuple T.bn (aB (ex_frd (lC [("k", 30)] nd (wR1 T.bn (aB (ex_srd (bAdd (ex_bor (vS 2)) (ex_bor ev_int))) nB)) (fun _ _ _ _ _ => (gV 30 nd)) (fun _ _ _ _ _ => tsx_nil) (fun _ _ _ _ _ => (fTuple T.bn (aB (ex_frd (lC [("row", 32)] nd (wS (ex_srd (vS 6))) (fun _ _ _ _ _ => (gV 32 nd)) (fun _ _ _ _ _ => tsx_nil) (fun _ _ _ _ _ => (iX (ex_srd (vS 32)) (ex_bor (vS 30)))))) nB))))) nB)))
    (ss_cons (zPar2 24 25 false false nd (kS d_pairing_table (hr.mono (by first | decide | omega)) hx (aS (vS 2) nS)) (kS d__law_add (hr.mono (by first | decide | omega)) hx (aS (kS d__law_mul (hr.mono (by first | decide | omega)) hx (aS (iX (ex_srd (vS 3)) (ex_bor ev_int)) (aS (iX (ex_srd (vS 3)) (ex_bor ev_int)) nS))) (aS (ev_tup (aS (uNeg (ex_srd (iX (ex_srd (kS d__law_mul (hr.mono (by first | decide | omega)) hx (aS (iX (ex_srd (vS 3)) (ex_bor ev_int)) (aS (iX (ex_srd (vS 3)) (ex_bor ev_int)) nS)))) (ex_bor ev_int)))) (aS (iX (ex_srd (kS d__law_mul (hr.mono (by first | decide | omega)) hx (aS (iX (ex_srd (vS 3)) (ex_bor ev_int)) (aS (iX (ex_srd (vS 3)) (ex_bor ev_int)) nS)))) (ex_bor ev_int)) nS))) nS))))
    (ss_cons (sx_if (tT1 (tw_or (tNe hr (ex_bor (kS d__law_times (hr.mono (by first | decide | omega)) hx (aS (vS 23) (aS (kS d__law_times (hr.mono (by first | decide | omega)) hx (aS (vS 24) (aS (vS 6) nS))) nS)))) (ex_bor (kS d_scaled_moves (hr.mono (by first | decide | omega)) hx (aS (kS d__law_power (hr.mono (by first | decide | omega)) hx (aS (vS 25) (aS (vS 2) nS))) (aS (vS 24) nS))))) (tw_or1 (tNe hr (ex_bor (kS d_determinant (hr.mono (by first | decide | omega)) hx (aS (vS 3) nS))) (ex_bor (vS 25)))))) (ss_one (zRet ev_bl)) ss_nil)
    (ss_cons (sx_if (tT1 (tw_or (tNe hr (ex_bor (kS d_trace (hr.mono (by first | decide | omega)) hx (aS (vS 6) nS))) (ex_bor (kS d__law_sum (hr.mono (by first | decide | omega)) hx (aS (ex_safe (lC [("k", 30)] nd (wR1 T.bn (aB (ex_srd (bAdd (ex_bor (vS 2)) (ex_bor ev_int))) nB)) (fun _ _ _ _ _ => (gV 30 nd)) (fun _ _ _ _ _ => tsx_nil) (fun _ _ _ _ _ => (iX (ex_srd (iX (ex_srd (vS 6)) (ex_bor (vS 30)))) (ex_bor (vS 30)))))) nS)))) (tw_or (tNe hr (ex_bor (kS d_trace_of (hr.mono (by first | decide | omega)) hx (aS (vS 3) (aS (vS 2) nS)))) (ex_bor (kS d_trace (hr.mono (by first | decide | omega)) hx (aS (vS 6) nS)))) (tw_or1 (tNe hr (ex_bor (kS d_determinant_power (hr.mono (by first | decide | omega)) hx (aS (vS 2) nS))) (ex_bor (bDiv (ex_bor (bMul (ex_bor (vS 2)) (ex_bor (bAdd (ex_bor (vS 2)) (ex_bor ev_int))))) (ex_bor ev_int)))))))) (ss_one (zRet ev_bl)) ss_nil)
    (ss_cons (zSet 26 nd (kS d_split_change (hr.mono (by first | decide | omega)) hx (aS (vS 3) nS)))
    (ss_cons (zSet 27 nd (ev_tup (aS (ev_tup (aS ev_int (aS ev_int nS))) (aS (ev_tup (aS ev_int (aS ev_int nS))) (aS (ev_tup (aS ev_int (aS ev_int nS))) (aS (ev_tup (aS ev_int (aS ev_int nS))) nS))))))
    (ss_cons (zFor hp (wS (vS 26)) (gV 28 nd)
      (ss_cons (zSet 27 nd (kS d__law_two (hr.mono (by first | decide | omega)) hx (aS (vS 27) (aS (vS 28) nS))))
    (ss_cons (zSet 29 nd (ev_or (cEq hr (ex_bor (ev_slice (ex_srd (vS 28)) (ox_some (ex_bor ev_int)) (ox_some (ex_bor ev_int)))) (ex_bor (ev_tup (aS (ev_tup (aS ev_int (aS ev_int nS))) (aS (ev_tup (aS ev_int (aS ev_int nS))) nS))))) (ev_or (ex_bor (ev_and (cEq hr (ex_bor (iX (ex_srd (vS 28)) (ex_bor ev_int))) (ex_bor (ev_tup (aS ev_int (aS ev_int nS))))) (ev_and (cEq hr (ex_bor (iX (ex_srd (vS 28)) (ex_bor ev_int))) (ex_bor (ev_tup (aS ev_int (aS ev_int nS))))) (ev_one (ex_bool (cIn hr (ex_bor (ev_tup (aS ev_int (aS ev_int nS)))) (ex_bor (ev_slice (ex_srd (vS 28)) (ox_some (ex_bor ev_int)) (ox_some (ex_bor ev_int))))) bool_in))))) (ev_one (ex_bool (cEq hr (ex_bor (vS 28)) (ex_bor (ev_tup (aS (ev_tup (aS ev_int (aS ev_int nS))) (aS (ev_tup (aS ev_int (aS ev_int nS))) (aS (ev_tup (aS (uNeg (ex_srd ev_int)) (aS ev_int nS))) (aS (ev_tup (aS ev_int (aS ev_int nS))) nS))))))) bool_eq)))))
    (ss_one (sx_if (tx_not (tV (ex_bor (vS 29)))) (ss_one (zRet ev_bl)) ss_nil)))))
    (ss_cons (sx_if (tT1 (tw_or (tNe hr (ex_bor (vS 27)) (ex_bor (vS 3))) (tw_or (tNe hr (ex_bor (kS d_product_of (hr.mono (by first | decide | omega)) hx (aS (vS 26) nS))) (ex_bor (vS 3))) (tw_or1 (tNe hr (ex_bor (kS d_product_of (hr.mono (by first | decide | omega)) hx (aS (ev_tup (aS (vS 3) (aS (vS 4) nS))) nS))) (ex_bor (kS d__law_two (hr.mono (by first | decide | omega)) hx (aS (vS 3) (aS (vS 4) nS))))))))) (ss_one (zRet ev_bl)) ss_nil)
    (ss_cons (sx_if (tNe hr (ex_bor (ev_toldB (k := 46) tld T.ap (by decide) rfl TBx.1 TBx.2.1 TBx.2.2.1 TBx.2.2.2 (hr.mono (by decide)) (LamX.lamS_by (by rfl)) rfl (fun _ _ _ _ _ => rfl) (fun A2 outer2 s2 H2 E2 f2 c2 hr2 => have hxl := hxL A2 outer2 s2 H2 E2 _ f2 c2; (kS d_split_change (hr2.mono (by first | decide | omega)) hxl (aS (kT 1 d__law_pick (hr2.mono (by first | decide | omega)) hxl (aS (ex_safe (ev_lst (aS (ev_tup (aS (ev_tup (aS ev_int (aS ev_int nS))) (aS (ev_tup (aS ev_int (aS ev_int nS))) (aS (ev_tup (aS ev_int (aS ev_int nS))) (aS (ev_tup (aS ev_int (aS ev_int nS))) nS))))) (aS ev_non (aS (ev_tup (aS (ev_tup (aS ev_int (aS ev_int nS))) nS)) (aS (ev_tup (aS ev_int (aS ev_int (aS ev_int (aS ev_int nS))))) nS)))))) nS)) nS))) (by decide) (by decide) (by decide))) (ex_bor ev_str)) (ss_one (zRet ev_bl)) ss_nil)
    (ss_one (zRet (ex_bool (cEq hr (ex_bor (ev_toldB (k := 46) tld T.ap (by decide) rfl TBx.1 TBx.2.1 TBx.2.2.1 TBx.2.2.2 (hr.mono (by decide)) (LamX.lamS_by (by rfl)) rfl (fun _ _ _ _ _ => rfl) (fun A2 outer2 s2 H2 E2 f2 c2 hr2 => have hxl := hxL A2 outer2 s2 H2 E2 _ f2 c2; (kS d_doing (hr2.mono (by first | decide | omega)) hxl (aS (kT 1 d__law_pick (hr2.mono (by first | decide | omega)) hxl (aS (ex_safe (ev_lst (aS ev_non (aS (ev_tup (aS (vS 18) (aS (vS 19) (aS (vS 20) nS)))) (aS (ev_tup (aS ev_int (aS ev_int (aS ev_int (aS ev_int nS))))) (aS (ex_safe (ev_lst (aS (vS 18) (aS (vS 19) (aS (vS 20) (aS (vS 21) nS)))))) nS)))))) nS)) (aS (vS 2) nS)))) (by decide) (by decide) (by decide))) (ex_bor ev_str)) bool_eq)))))))))))))))))) rfl rfl (fun j hj => forget_M (by decide) (by decide) hj))))))))))))))
end
end G

end

section
namespace G
open PySem PySem.Spec PyProof.Rows L2 Ev
def d_is_integer : He.DefD := ⟨("is_integer", none), "is_integer", "is_integer", defArgs (top 8), defBody (top 8), defScope (top 8), [], []⟩
def d_divisor : He.DefD := ⟨("divisor", none), "divisor", "divisor", defArgs (top 10), defBody (top 10), defScope (top 10), [], []⟩
def d_is_ratio : He.DefD := ⟨("is_ratio", none), "is_ratio", "is_ratio", defArgs (top 9), defBody (top 9), defScope (top 9), [], []⟩
def d_is_form : He.DefD := ⟨("is_form", none), "is_form", "is_form", defArgs (top 21), defBody (top 21), defScope (top 21), [], []⟩
def d_make : He.DefD := ⟨("make", none), "make", "make", defArgs (top 11), defBody (top 11), defScope (top 11), [], []⟩
def d_add_ratios : He.DefD := ⟨("add_ratios", none), "add", "add", defArgs (top 12), defBody (top 12), defScope (top 12), [], []⟩
def d_multiply_ratios : He.DefD := ⟨("multiply_ratios", none), "multiply", "multiply", defArgs (top 15), defBody (top 15), defScope (top 15), [], []⟩
def d_check_form : He.DefD := ⟨("check_form", none), "check_form", "check_form", defArgs (top 22), defBody (top 22), defScope (top 22), [], []⟩
def d_is_change : He.DefD := ⟨("is_change", none), "is_change", "is_change", defArgs (top 30), defBody (top 30), defScope (top 30), [], []⟩
def d_multiply_forms : He.DefD := ⟨("multiply_forms", none), "multiply", "multiply", defArgs (top 28), defBody (top 28), defScope (top 28), [], []⟩
def d_add_forms : He.DefD := ⟨("add_forms", none), "add", "add", defArgs (top 24), defBody (top 24), defScope (top 24), [], []⟩
def d_scaled_forms : He.DefD := ⟨("scaled_forms", none), "scaled", "scaled", defArgs (top 26), defBody (top 26), defScope (top 26), [], []⟩
def d_check_order : He.DefD := ⟨("check_order", none), "check_order", "check_order", defArgs (top 23), defBody (top 23), defScope (top 23), [], []⟩
def d_turned : He.DefD := ⟨("turned", none), "turned", "turned", defArgs (top 41), defBody (top 41), defScope (top 41), [], []⟩
def d_changed : He.DefD := ⟨("changed", none), "changed", "changed", defArgs (top 36), defBody (top 36), defScope (top 36), [], []⟩
def d_unit_form : He.DefD := ⟨("unit_form", none), "unit_form", "unit_form", defArgs (top 39), defBody (top 39), defScope (top 39), [], []⟩
def d__law_make : He.DefD := ⟨("_law_make", none), "_law_make", "_law_make", defArgs (top 69), defBody (top 69), defScope (top 69), [], []⟩
def d__law_add : He.DefD := ⟨("_law_add", none), "_law_add", "_law_add", defArgs (top 70), defBody (top 70), defScope (top 70), [], []⟩
def d__law_mul : He.DefD := ⟨("_law_mul", none), "_law_mul", "_law_mul", defArgs (top 71), defBody (top 71), defScope (top 71), [], []⟩
def d__law_poly : He.DefD := ⟨("_law_poly", none), "_law_poly", "_law_poly", defArgs (top 76), defBody (top 76), defScope (top 76), [], []⟩
def d_cross_forms : He.DefD := ⟨("cross_forms", none), "cross", "cross", defArgs (top 34), defBody (top 34), defScope (top 34), [], []⟩
def d_plus : He.DefD := ⟨("plus", none), "plus", "plus", defArgs (top 46), defBody (top 46), defScope (top 46), [], []⟩
def d_scaled_moves : He.DefD := ⟨("scaled_moves", none), "scaled", "scaled", defArgs (top 47), defBody (top 47), defScope (top 47), [], []⟩
def d_step_up : He.DefD := ⟨("step_up", none), "step_up", "step_up", defArgs (top 42), defBody (top 42), defScope (top 42), [], []⟩
def d_step_down : He.DefD := ⟨("step_down", none), "step_down", "step_down", defArgs (top 43), defBody (top 43), defScope (top 43), [], []⟩
def d_subtract : He.DefD := ⟨("subtract", none), "subtract", "subtract", defArgs (top 14), defBody (top 14), defScope (top 14), [], []⟩
def d_determinant : He.DefD := ⟨("determinant", none), "determinant", "determinant", defArgs (top 32), defBody (top 32), defScope (top 32), [], []⟩
def d_negative : He.DefD := ⟨("negative", none), "negative", "negative", defArgs (top 18), defBody (top 18), defScope (top 18), [], []⟩
def d_check_change : He.DefD := ⟨("check_change", none), "check_change", "check_change", defArgs (top 31), defBody (top 31), defScope (top 31), [], []⟩
def d_divide : He.DefD := ⟨("divide", none), "divide", "divide", defArgs (top 17), defBody (top 17), defScope (top 17), [], []⟩
def d_split_change : He.DefD := ⟨("split_change", none), "split_change", "split_change", defArgs (top 59), defBody (top 59), defScope (top 59), [], []⟩
def d_after_swap : He.DefD := ⟨("after_swap", none), "after_swap", "after_swap", defArgs (top 60), defBody (top 60), defScope (top 60), [], []⟩
def d__law_sum : He.DefD := ⟨("_law_sum", none), "_law_sum", "_law_sum", defArgs (top 72), defBody (top 72), defScope (top 72), [], []⟩
def d__law_times : He.DefD := ⟨("_law_times", none), "_law_times", "_law_times", defArgs (top 75), defBody (top 75), defScope (top 75), [], []⟩
def d__law_draw : He.DefD := ⟨("_law_draw", none), "_law_draw", "_law_draw", defArgs (top 66), defBody (top 66), defScope (top 66), [], []⟩
def d__law_two : He.DefD := ⟨("_law_two", none), "_law_two", "_law_two", defArgs (top 78), defBody (top 78), defScope (top 78), [], []⟩
def d__law_pick : He.DefD := ⟨("_law_pick", none), "_law_pick", "_law_pick", defArgs (top 67), defBody (top 67), defScope (top 67), [], []⟩
def d__law_fraction : He.DefD := ⟨("_law_fraction", none), "_law_fraction", "_law_fraction", defArgs (top 74), defBody (top 74), defScope (top 74), [], []⟩
def d_choose : He.DefD := ⟨("choose", none), "choose", "choose", defArgs (top 37), defBody (top 37), defScope (top 37), [], []⟩
def d__law_same : He.DefD := ⟨("_law_same", none), "_law_same", "_law_same", defArgs (top 68), defBody (top 68), defScope (top 68), [], []⟩
def d_times : He.DefD := ⟨("times", none), "times", "times", defArgs (top 45), defBody (top 45), defScope (top 45), [], []⟩
def d_weight_table : He.DefD := ⟨("weight_table", none), "weight_table", "weight_table", defArgs (top 44), defBody (top 44), defScope (top 44), [], []⟩
def d_unit : He.DefD := ⟨("unit", none), "unit", "unit", defArgs (top 50), defBody (top 50), defScope (top 50), [], []⟩
def d_cross_moves : He.DefD := ⟨("cross_moves", none), "cross", "cross", defArgs (top 61), defBody (top 61), defScope (top 61), [], []⟩
def d__law_tape : He.DefD := ⟨("_law_tape", none), "_law_tape", "_law_tape", defArgs (top 65), defBody (top 65), defScope (top 65), [], []⟩
def d_table_of : He.DefD := ⟨("table_of", none), "table_of", "table_of", defArgs (top 40), defBody (top 40), defScope (top 40), [], []⟩
def d__law_changed : He.DefD := ⟨("_law_changed", none), "_law_changed", "_law_changed", defArgs (top 77), defBody (top 77), defScope (top 77), [], []⟩
def d_after : He.DefD := ⟨("after", none), "after", "after", defArgs (top 33), defBody (top 33), defScope (top 33), [], []⟩
def d_doing : He.DefD := ⟨("doing", none), "doing", "doing", defArgs (top 53), defBody (top 53), defScope (top 53), [], []⟩
def d__law_change : He.DefD := ⟨("_law_change", none), "_law_change", "_law_change", defArgs (top 79), defBody (top 79), defScope (top 79), [], []⟩
def d_pairing_table : He.DefD := ⟨("pairing_table", none), "pairing_table", "pairing_table", defArgs (top 55), defBody (top 55), defScope (top 55), [], []⟩
def d_bracket : He.DefD := ⟨("bracket", none), "bracket", "bracket", defArgs (top 49), defBody (top 49), defScope (top 49), [], []⟩
def d_middle : He.DefD := ⟨("middle", none), "middle", "middle", defArgs (top 51), defBody (top 51), defScope (top 51), [], []⟩
def d_middle_number : He.DefD := ⟨("middle_number", none), "middle_number", "middle_number", defArgs (top 52), defBody (top 52), defScope (top 52), [], []⟩
def d_exponential : He.DefD := ⟨("exponential", none), "exponential", "exponential", defArgs (top 54), defBody (top 54), defScope (top 54), [], []⟩
def d_trace : He.DefD := ⟨("trace", none), "trace", "trace", defArgs (top 56), defBody (top 56), defScope (top 56), [], []⟩
def d_trace_of : He.DefD := ⟨("trace_of", none), "trace_of", "trace_of", defArgs (top 57), defBody (top 57), defScope (top 57), [], []⟩
def d_determinant_power : He.DefD := ⟨("determinant_power", none), "determinant_power", "determinant_power", defArgs (top 58), defBody (top 58), defScope (top 58), [], []⟩
def d_product_of : He.DefD := ⟨("product_of", none), "product_of", "product_of", defArgs (top 63), defBody (top 63), defScope (top 63), [], []⟩
def d__law_power : He.DefD := ⟨("_law_power", none), "_law_power", "_law_power", defArgs (top 73), defBody (top 73), defScope (top 73), [], []⟩
def d__law_told : He.DefD := ⟨("_law_told", none), "_law_told", "_law_told", defArgs (top 80), defBody (top 80), defScope (top 80), [], []⟩
def d_law : He.DefD := ⟨("law", none), "law", "law", defArgs (top 81), defBody (top 81), defScope (top 81), [], []⟩
def fn : List He.DefD := ([d_is_integer, d_divisor, d_is_ratio, d_is_form, d_make, d_add_ratios, d_multiply_ratios, d_check_form, d_is_change, d_multiply_forms, d_add_forms, d_scaled_forms, d_check_order, d_turned, d_changed, d_unit_form, d__law_make, d__law_add, d__law_mul, d__law_poly, d_cross_forms, d_plus, d_scaled_moves, d_step_up, d_step_down, d_subtract, d_determinant, d_negative, d_check_change, d_divide] : List He.DefD) ++ ([d_split_change, d_after_swap, d__law_sum, d__law_times, d__law_draw, d__law_two, d__law_pick, d__law_fraction, d_choose, d__law_same, d_times, d_weight_table, d_unit, d_cross_moves, d__law_tape, d_table_of, d__law_changed, d_after, d_doing, d__law_change, d_pairing_table, d_bracket, d_middle, d_middle_number, d_exponential, d_trace, d_trace_of, d_determinant_power, d_product_of, d__law_power] : List He.DefD) ++ ([d__law_told, d_law] : List He.DefD)
def fa : List He.Fa := ([.glo "is_integer", .glo "divisor", .glo "is_ratio", .glo "is_form", .glo "make", .glo "add_ratios", .glo "multiply_ratios", .glo "check_form", .glo "is_change", .glo "multiply_forms", .glo "add_forms", .glo "scaled_forms", .glo "check_order", .glo "turned", .glo "changed", .glo "unit_form", .glo "_law_make", .glo "_law_add", .glo "_law_mul", .glo "_law_poly", .glo "cross_forms", .glo "plus", .glo "scaled_moves", .glo "step_up", .glo "step_down", .glo "subtract", .glo "determinant", .glo "negative", .glo "check_change", .glo "divide"] : List He.Fa) ++ ([.glo "split_change", .glo "after_swap", .glo "_law_sum", .glo "_law_times", .glo "_law_draw", .glo "_law_two", .glo "_law_pick", .glo "_law_fraction", .glo "choose", .glo "_law_same", .glo "times", .glo "weight_table", .glo "unit", .glo "cross_moves", .glo "_law_tape", .glo "table_of", .glo "_law_changed", .glo "after", .glo "doing", .glo "_law_change", .glo "pairing_table", .glo "bracket", .glo "middle", .glo "middle_number", .glo "exponential", .glo "trace", .glo "trace_of", .glo "determinant_power", .glo "product_of", .glo "_law_power"] : List He.Fa) ++ ([.glo "_law_told", .glo "law"] : List He.Fa)
def exB (K : PySem.W.Frag) : Bool := bnB K && (apB K xs && (He.eqO (PySem.W.nsIn K mainGlobals "str") (some none) && (excB K "BadNumber" && (excB K "BadForm" && (excB K "BadChange" && (cstB K "MOST_ORDER" (.int (24)) && (cstB K "ZERO" (.tuple [(.int (0)), (.int (1))]) && (cstB K "ONE" (.tuple [(.int (1)), (.int (1))])))))))))
abbrev R : PySem.W.OpenRow := PySem.W.OpenLaw.row PySem.Challenge.rw_slideforms_k31_whole_tables_of_changes
abbrev tf : List He.Defn := [("law", none)]
abbrev hk : PySem.W.Hook := He.hookX 5 fa fn [] tf exB
def ob (s : PySem.W.SharedT) : He.AlX := He.obsX 5 fa fn [] tf exB (HandSHeadRun.getT s)
theorem ob_eq (s : PySem.W.SharedT) : ob s = hk.obs s.abs := He.obsX_eq (HandSHeadRun.getT_eq s)
def loose : List Str := (["FormError", "BadNumber", "BadForm", "BadChange", "ZERO", "ONE", "is_integer", "is_ratio", "divisor", "make", "add", "add_ratios", "subtract", "multiply", "multiply_ratios", "divide", "negative", "MOST_ORDER", "is_form", "check_form", "check_order", "add_forms", "scaled", "scaled_forms", "multiply_forms", "is_change", "check_change", "determinant", "after", "cross"] : List Str) ++ (["cross_forms", "changed", "choose", "unit_form", "table_of", "turned", "step_up", "step_down", "weight_table", "times", "plus", "scaled_moves", "bracket", "unit", "middle", "middle_number", "doing", "exponential", "pairing_table", "trace", "trace_of", "determinant_power", "split_change", "after_swap", "cross_moves", "product_of", "_law_tape", "_law_draw", "_law_pick", "_law_same"] : List Str) ++ (["_law_make", "_law_add", "_law_mul", "_law_sum", "_law_power", "_law_fraction", "_law_times", "_law_poly", "_law_changed", "_law_two", "_law_change", "_law_told"] : List Str)
theorem run (w : World) : HandSHeadRun.RunEq R (PySem.W.view R.prog [81]) hk ob 9000 loose w := by
  intro os
  kernel_rfl
theorem tx [Tb] {K : PySem.W.Frag} {h : Heap} {mg : Str → Option Value} (X : K.In h) (G : h.Ns mainGlobals mg) (c : exB K = true) : Tx K mg := by
  unfold exB at c
  simp only [Bool.and_eq_true] at c
  obtain ⟨q0, q1, q2, q3, q4, q5, q6, q7, q8⟩ := c
  exact ⟨bn_ok X G q0, ap_ok q1, PySem.W.mg_none_of X G (He.eqO_ok q2), cst_ok X G q6, cst_ok X G q7, cst_ok X G q8, exc_ok X G q3, exc_ok X G q4, exc_ok X G q5⟩
theorem gl3 {Y : Cx} {sg : Scope} (h : Y.env.scope = sg) (x : Str) (e : sg.names.lookup x = some .globalImplicit) : Gl Y x := by
  subst h
  exact e
theorem tld [Tb] {K : PySem.W.Frag} {mg : Str → Option Value} {g : Addr} {fd : FuncData} (T : Tx K mg) (F : Fun K "_law_told" "_law_told" (top 80) g fd) (hg : mg "_law_told" = some (.ref g)) (hb : Binds K fd ["make_it"] []) (X : Cx) (hK : X.K = K) (hm : X.mg = mg) : ToldOk X "_law_told" "make_it" g (TB' K (clA K xs) [(X_BadChange, (.str "change")), (X_BadNumber, (.str "number"))]) := by
  refine told_of F hg ⟨rfl, rfl, rfl, by decide +kernel, rfl, by decide +kernel, by decide +kernel⟩ (.inl rfl) hb X hK hm fun cdv => ?_
  subst hK hm
  exact gives_ret (fun _ => rfl) (fun Y y1 y2 y3 => (.cons ⟨gl3 y3 "BadChange" rfl, by decide, .inl (by rw [y2]; exact T.e_BadChange.g)⟩ (fun _ _ _ _ _ _ _ => pss_one (ps_ret pe_str)) (.cons ⟨gl3 y3 "BadNumber" rfl, by decide, .inl (by rw [y2]; exact T.e_BadNumber.g)⟩ (fun _ _ _ _ _ _ _ => pss_one (ps_ret pe_str)) .nil)))
/-- what the mathematics has to show -/
def LawTrue : Prop := ∀ ns : List Int, ns.length ≤ 63 → (∀ z ∈ ns, Builtin.Int.intBits z ≤ 1048576) → law [.list (ns.map PyData.int)] = .ok (.bool true)
theorem lawAt (M : LawTrue) {P : Program} {w : World} {K : PySem.W.Frag} {h : Heap} {mg : Str → Option Value} {f : Addr} (X : K.In h) (G : h.Ns mainGlobals mg) (hfa : mg ("law" : Str) = some (.ref f)) (c : He.SaysX fa fn [] tf exB w h K) (hP : P = (PySem.Challenge.rw_slideforms_k31_whole_tables_of_changes).prog) : LamX.LawAtS PySem.Challenge.rw_slideforms_k31_whole_tables_of_changes w K (L2.CX P w) 49 63 "script" mg f h := by
  subst hP
  obtain ⟨fd_is_integer, F_is_integer⟩ := c.t.d.def_ 0 (d := d_is_integer) rfl
  have g_is_integer := He.glo_ok X G (c.t.d.fact 0 (f := .glo "is_integer") rfl)
  obtain ⟨fd_divisor, F_divisor⟩ := c.t.d.def_ 1 (d := d_divisor) rfl
  have g_divisor := He.glo_ok X G (c.t.d.fact 1 (f := .glo "divisor") rfl)
  obtain ⟨fd_is_ratio, F_is_ratio⟩ := c.t.d.def_ 2 (d := d_is_ratio) rfl
  have g_is_ratio := He.glo_ok X G (c.t.d.fact 2 (f := .glo "is_ratio") rfl)
  obtain ⟨fd_is_form, F_is_form⟩ := c.t.d.def_ 3 (d := d_is_form) rfl
  have g_is_form := He.glo_ok X G (c.t.d.fact 3 (f := .glo "is_form") rfl)
  obtain ⟨fd_make, F_make⟩ := c.t.d.def_ 4 (d := d_make) rfl
  have g_make := He.glo_ok X G (c.t.d.fact 4 (f := .glo "make") rfl)
  obtain ⟨fd_add_ratios, F_add_ratios⟩ := c.t.d.def_ 5 (d := d_add_ratios) rfl
  have g_add_ratios := He.glo_ok X G (c.t.d.fact 5 (f := .glo "add_ratios") rfl)
  obtain ⟨fd_multiply_ratios, F_multiply_ratios⟩ := c.t.d.def_ 6 (d := d_multiply_ratios) rfl
  have g_multiply_ratios := He.glo_ok X G (c.t.d.fact 6 (f := .glo "multiply_ratios") rfl)
  obtain ⟨fd_check_form, F_check_form⟩ := c.t.d.def_ 7 (d := d_check_form) rfl
  have g_check_form := He.glo_ok X G (c.t.d.fact 7 (f := .glo "check_form") rfl)
  obtain ⟨fd_is_change, F_is_change⟩ := c.t.d.def_ 8 (d := d_is_change) rfl
  have g_is_change := He.glo_ok X G (c.t.d.fact 8 (f := .glo "is_change") rfl)
  obtain ⟨fd_multiply_forms, F_multiply_forms⟩ := c.t.d.def_ 9 (d := d_multiply_forms) rfl
  have g_multiply_forms := He.glo_ok X G (c.t.d.fact 9 (f := .glo "multiply_forms") rfl)
  obtain ⟨fd_add_forms, F_add_forms⟩ := c.t.d.def_ 10 (d := d_add_forms) rfl
  have g_add_forms := He.glo_ok X G (c.t.d.fact 10 (f := .glo "add_forms") rfl)
  obtain ⟨fd_scaled_forms, F_scaled_forms⟩ := c.t.d.def_ 11 (d := d_scaled_forms) rfl
  have g_scaled_forms := He.glo_ok X G (c.t.d.fact 11 (f := .glo "scaled_forms") rfl)
  obtain ⟨fd_check_order, F_check_order⟩ := c.t.d.def_ 12 (d := d_check_order) rfl
  have g_check_order := He.glo_ok X G (c.t.d.fact 12 (f := .glo "check_order") rfl)
  obtain ⟨fd_turned, F_turned⟩ := c.t.d.def_ 13 (d := d_turned) rfl
  have g_turned := He.glo_ok X G (c.t.d.fact 13 (f := .glo "turned") rfl)
  obtain ⟨fd_changed, F_changed⟩ := c.t.d.def_ 14 (d := d_changed) rfl
  have g_changed := He.glo_ok X G (c.t.d.fact 14 (f := .glo "changed") rfl)
  obtain ⟨fd_unit_form, F_unit_form⟩ := c.t.d.def_ 15 (d := d_unit_form) rfl
  have g_unit_form := He.glo_ok X G (c.t.d.fact 15 (f := .glo "unit_form") rfl)
  obtain ⟨fd__law_make, F__law_make⟩ := c.t.d.def_ 16 (d := d__law_make) rfl
  have g__law_make := He.glo_ok X G (c.t.d.fact 16 (f := .glo "_law_make") rfl)
  obtain ⟨fd__law_add, F__law_add⟩ := c.t.d.def_ 17 (d := d__law_add) rfl
  have g__law_add := He.glo_ok X G (c.t.d.fact 17 (f := .glo "_law_add") rfl)
  obtain ⟨fd__law_mul, F__law_mul⟩ := c.t.d.def_ 18 (d := d__law_mul) rfl
  have g__law_mul := He.glo_ok X G (c.t.d.fact 18 (f := .glo "_law_mul") rfl)
  obtain ⟨fd__law_poly, F__law_poly⟩ := c.t.d.def_ 19 (d := d__law_poly) rfl
  have g__law_poly := He.glo_ok X G (c.t.d.fact 19 (f := .glo "_law_poly") rfl)
  obtain ⟨fd_cross_forms, F_cross_forms⟩ := c.t.d.def_ 20 (d := d_cross_forms) rfl
  have g_cross_forms := He.glo_ok X G (c.t.d.fact 20 (f := .glo "cross_forms") rfl)
  obtain ⟨fd_plus, F_plus⟩ := c.t.d.def_ 21 (d := d_plus) rfl
  have g_plus := He.glo_ok X G (c.t.d.fact 21 (f := .glo "plus") rfl)
  obtain ⟨fd_scaled_moves, F_scaled_moves⟩ := c.t.d.def_ 22 (d := d_scaled_moves) rfl
  have g_scaled_moves := He.glo_ok X G (c.t.d.fact 22 (f := .glo "scaled_moves") rfl)
  obtain ⟨fd_step_up, F_step_up⟩ := c.t.d.def_ 23 (d := d_step_up) rfl
  have g_step_up := He.glo_ok X G (c.t.d.fact 23 (f := .glo "step_up") rfl)
  obtain ⟨fd_step_down, F_step_down⟩ := c.t.d.def_ 24 (d := d_step_down) rfl
  have g_step_down := He.glo_ok X G (c.t.d.fact 24 (f := .glo "step_down") rfl)
  obtain ⟨fd_subtract, F_subtract⟩ := c.t.d.def_ 25 (d := d_subtract) rfl
  have g_subtract := He.glo_ok X G (c.t.d.fact 25 (f := .glo "subtract") rfl)
  obtain ⟨fd_determinant, F_determinant⟩ := c.t.d.def_ 26 (d := d_determinant) rfl
  have g_determinant := He.glo_ok X G (c.t.d.fact 26 (f := .glo "determinant") rfl)
  obtain ⟨fd_negative, F_negative⟩ := c.t.d.def_ 27 (d := d_negative) rfl
  have g_negative := He.glo_ok X G (c.t.d.fact 27 (f := .glo "negative") rfl)
  obtain ⟨fd_check_change, F_check_change⟩ := c.t.d.def_ 28 (d := d_check_change) rfl
  have g_check_change := He.glo_ok X G (c.t.d.fact 28 (f := .glo "check_change") rfl)
  obtain ⟨fd_divide, F_divide⟩ := c.t.d.def_ 29 (d := d_divide) rfl
  have g_divide := He.glo_ok X G (c.t.d.fact 29 (f := .glo "divide") rfl)
  obtain ⟨fd_split_change, F_split_change⟩ := c.t.d.def_ 30 (d := d_split_change) rfl
  have g_split_change := He.glo_ok X G (c.t.d.fact 30 (f := .glo "split_change") rfl)
  obtain ⟨fd_after_swap, F_after_swap⟩ := c.t.d.def_ 31 (d := d_after_swap) rfl
  have g_after_swap := He.glo_ok X G (c.t.d.fact 31 (f := .glo "after_swap") rfl)
  obtain ⟨fd__law_sum, F__law_sum⟩ := c.t.d.def_ 32 (d := d__law_sum) rfl
  have g__law_sum := He.glo_ok X G (c.t.d.fact 32 (f := .glo "_law_sum") rfl)
  obtain ⟨fd__law_times, F__law_times⟩ := c.t.d.def_ 33 (d := d__law_times) rfl
  have g__law_times := He.glo_ok X G (c.t.d.fact 33 (f := .glo "_law_times") rfl)
  obtain ⟨fd__law_draw, F__law_draw⟩ := c.t.d.def_ 34 (d := d__law_draw) rfl
  have g__law_draw := He.glo_ok X G (c.t.d.fact 34 (f := .glo "_law_draw") rfl)
  obtain ⟨fd__law_two, F__law_two⟩ := c.t.d.def_ 35 (d := d__law_two) rfl
  have g__law_two := He.glo_ok X G (c.t.d.fact 35 (f := .glo "_law_two") rfl)
  obtain ⟨fd__law_pick, F__law_pick⟩ := c.t.d.def_ 36 (d := d__law_pick) rfl
  have g__law_pick := He.glo_ok X G (c.t.d.fact 36 (f := .glo "_law_pick") rfl)
  obtain ⟨fd__law_fraction, F__law_fraction⟩ := c.t.d.def_ 37 (d := d__law_fraction) rfl
  have g__law_fraction := He.glo_ok X G (c.t.d.fact 37 (f := .glo "_law_fraction") rfl)
  obtain ⟨fd_choose, F_choose⟩ := c.t.d.def_ 38 (d := d_choose) rfl
  have g_choose := He.glo_ok X G (c.t.d.fact 38 (f := .glo "choose") rfl)
  obtain ⟨fd__law_same, F__law_same⟩ := c.t.d.def_ 39 (d := d__law_same) rfl
  have g__law_same := He.glo_ok X G (c.t.d.fact 39 (f := .glo "_law_same") rfl)
  obtain ⟨fd_times, F_times⟩ := c.t.d.def_ 40 (d := d_times) rfl
  have g_times := He.glo_ok X G (c.t.d.fact 40 (f := .glo "times") rfl)
  obtain ⟨fd_weight_table, F_weight_table⟩ := c.t.d.def_ 41 (d := d_weight_table) rfl
  have g_weight_table := He.glo_ok X G (c.t.d.fact 41 (f := .glo "weight_table") rfl)
  obtain ⟨fd_unit, F_unit⟩ := c.t.d.def_ 42 (d := d_unit) rfl
  have g_unit := He.glo_ok X G (c.t.d.fact 42 (f := .glo "unit") rfl)
  obtain ⟨fd_cross_moves, F_cross_moves⟩ := c.t.d.def_ 43 (d := d_cross_moves) rfl
  have g_cross_moves := He.glo_ok X G (c.t.d.fact 43 (f := .glo "cross_moves") rfl)
  obtain ⟨fd__law_tape, F__law_tape⟩ := c.t.d.def_ 44 (d := d__law_tape) rfl
  have g__law_tape := He.glo_ok X G (c.t.d.fact 44 (f := .glo "_law_tape") rfl)
  obtain ⟨fd_table_of, F_table_of⟩ := c.t.d.def_ 45 (d := d_table_of) rfl
  have g_table_of := He.glo_ok X G (c.t.d.fact 45 (f := .glo "table_of") rfl)
  obtain ⟨fd__law_changed, F__law_changed⟩ := c.t.d.def_ 46 (d := d__law_changed) rfl
  have g__law_changed := He.glo_ok X G (c.t.d.fact 46 (f := .glo "_law_changed") rfl)
  obtain ⟨fd_after, F_after⟩ := c.t.d.def_ 47 (d := d_after) rfl
  have g_after := He.glo_ok X G (c.t.d.fact 47 (f := .glo "after") rfl)
  obtain ⟨fd_doing, F_doing⟩ := c.t.d.def_ 48 (d := d_doing) rfl
  have g_doing := He.glo_ok X G (c.t.d.fact 48 (f := .glo "doing") rfl)
  obtain ⟨fd__law_change, F__law_change⟩ := c.t.d.def_ 49 (d := d__law_change) rfl
  have g__law_change := He.glo_ok X G (c.t.d.fact 49 (f := .glo "_law_change") rfl)
  obtain ⟨fd_pairing_table, F_pairing_table⟩ := c.t.d.def_ 50 (d := d_pairing_table) rfl
  have g_pairing_table := He.glo_ok X G (c.t.d.fact 50 (f := .glo "pairing_table") rfl)
  obtain ⟨fd_bracket, F_bracket⟩ := c.t.d.def_ 51 (d := d_bracket) rfl
  have g_bracket := He.glo_ok X G (c.t.d.fact 51 (f := .glo "bracket") rfl)
  obtain ⟨fd_middle, F_middle⟩ := c.t.d.def_ 52 (d := d_middle) rfl
  have g_middle := He.glo_ok X G (c.t.d.fact 52 (f := .glo "middle") rfl)
  obtain ⟨fd_middle_number, F_middle_number⟩ := c.t.d.def_ 53 (d := d_middle_number) rfl
  have g_middle_number := He.glo_ok X G (c.t.d.fact 53 (f := .glo "middle_number") rfl)
  obtain ⟨fd_exponential, F_exponential⟩ := c.t.d.def_ 54 (d := d_exponential) rfl
  have g_exponential := He.glo_ok X G (c.t.d.fact 54 (f := .glo "exponential") rfl)
  obtain ⟨fd_trace, F_trace⟩ := c.t.d.def_ 55 (d := d_trace) rfl
  have g_trace := He.glo_ok X G (c.t.d.fact 55 (f := .glo "trace") rfl)
  obtain ⟨fd_trace_of, F_trace_of⟩ := c.t.d.def_ 56 (d := d_trace_of) rfl
  have g_trace_of := He.glo_ok X G (c.t.d.fact 56 (f := .glo "trace_of") rfl)
  obtain ⟨fd_determinant_power, F_determinant_power⟩ := c.t.d.def_ 57 (d := d_determinant_power) rfl
  have g_determinant_power := He.glo_ok X G (c.t.d.fact 57 (f := .glo "determinant_power") rfl)
  obtain ⟨fd_product_of, F_product_of⟩ := c.t.d.def_ 58 (d := d_product_of) rfl
  have g_product_of := He.glo_ok X G (c.t.d.fact 58 (f := .glo "product_of") rfl)
  obtain ⟨fd__law_power, F__law_power⟩ := c.t.d.def_ 59 (d := d__law_power) rfl
  have g__law_power := He.glo_ok X G (c.t.d.fact 59 (f := .glo "_law_power") rfl)
  obtain ⟨fd__law_told, F__law_told⟩ := c.t.d.def_ 60 (d := d__law_told) rfl
  have g__law_told := He.glo_ok X G (c.t.d.fact 60 (f := .glo "_law_told") rfl)
  obtain ⟨fd_law, F_law⟩ := c.t.d.def_ 61 (d := d_law) rfl
  have g_law := He.glo_ok X G (c.t.d.fact 61 (f := .glo "law") rfl)
  have e := hfa.symm.trans g_law
  cases e
  let tp : Addr × Addr := He.cT K ("law", none)
  letI : Tb := ⟨[(tp.2, ("law.<locals>." : Str) ++ ("<lambda>" : Str))]⟩
  have T := tx X G c.more
  have bL := FunD.bindsA (ps := ["script"]) F_law fun _ _ _ _ _ _ us hl => match us, hl with | [_], _ => rfl
  refine ⟨fd_law, [tp], FnC K (clA K xs) law, fun p hp => ?_, fun p hp => ?_, fun p hp => ?_, fun s v => bL s [v] rfl, fun H a ns hl hb hH hS => ?_, fun base hB hN hTB => ?_⟩
  · rw [List.mem_singleton.mp hp]; exact c.empty ("law", none) (by simp [tf])
  · rw [List.mem_singleton.mp hp]; exact c.out ("law", none) (by simp [tf])
  · rw [List.mem_singleton.mp hp]; exact PySem.W.codeHd_of_K X (c.hd ("law", none) (by simp [tf]))
  · refine law_sp (fun p hp => ?_) hS (M ns hl hb)
    have e : p = (tp.2, ("law.<locals>." : Str) ++ ("<lambda>" : Str)) := List.mem_singleton.mp hp
    rw [e]
    exact LamX.TabS.nil (hH tp List.mem_cons_self)
  · have pp : ∀ (ps : List Str), True := fun _ => trivial
    have A__law_tape : FnA (PySem.Challenge.rw_slideforms_k31_whole_tables_of_changes).prog w K mg base "_law_tape" 1 (FnM K law_tape) := fnA_of (ok65 T (He5.fun_of F__law_tape) ) g__law_tape F__law_tape.kp (F__law_tape.bindsN (ps := ["script"]) fun _ _ _ _ _ _ us hl => match us, hl with | [_], _ => rfl)
    have A_is_integer : FnA (PySem.Challenge.rw_slideforms_k31_whole_tables_of_changes).prog w K mg base "is_integer" 1 (FnS K (clA K xs) false ratios_is_integer) := fnA_of (ok8 T (He5.fun_of F_is_integer) ) g_is_integer F_is_integer.kp (F_is_integer.bindsN (ps := ["value"]) fun _ _ _ _ _ _ us hl => match us, hl with | [_], _ => rfl)
    have A_check_order : FnA (PySem.Challenge.rw_slideforms_k31_whole_tables_of_changes).prog w K mg base "check_order" 2 (FnS K (clA K xs) false forms_check_order) := fnA_of (ok23 T (He5.fun_of F_check_order) A_is_integer) g_check_order F_check_order.kp (F_check_order.bindsN (ps := ["size"]) fun _ _ _ _ _ _ us hl => match us, hl with | [_], _ => rfl)
    have A_turned : FnA (PySem.Challenge.rw_slideforms_k31_whole_tables_of_changes).prog w K mg base "turned" 1 (FnS K (clA K xs) false moves_turned) := fnA_of (ok41 T (He5.fun_of F_turned) ) g_turned F_turned.kp (F_turned.bindsN (ps := ["rows"]) fun _ _ _ _ _ _ us hl => match us, hl with | [_], _ => rfl)
    have A_divisor : FnA (PySem.Challenge.rw_slideforms_k31_whole_tables_of_changes).prog w K mg base "divisor" 1 (FnS K (clA K xs) false ratios_divisor) := fnA_of (ok10 T (He5.fun_of F_divisor) ) g_divisor F_divisor.kp (F_divisor.bindsN (ps := ["one", "other"]) fun _ _ _ _ _ _ us hl => match us, hl with | [_, _], _ => rfl)
    have A_is_ratio : FnA (PySem.Challenge.rw_slideforms_k31_whole_tables_of_changes).prog w K mg base "is_ratio" 2 (FnS K (clA K xs) false ratios_is_ratio) := fnA_of (ok9 T (He5.fun_of F_is_ratio) A_divisor A_is_integer) g_is_ratio F_is_ratio.kp (F_is_ratio.bindsN (ps := ["value"]) fun _ _ _ _ _ _ us hl => match us, hl with | [_], _ => rfl)
    have A_is_form : FnA (PySem.Challenge.rw_slideforms_k31_whole_tables_of_changes).prog w K mg base "is_form" 3 (FnS K (clA K xs) false forms_is_form) := fnA_of (ok21 T (He5.fun_of F_is_form) A_is_ratio) g_is_form F_is_form.kp (F_is_form.bindsN (ps := ["value"]) fun _ _ _ _ _ _ us hl => match us, hl with | [_], _ => rfl)
    have A_check_form : FnA (PySem.Challenge.rw_slideforms_k31_whole_tables_of_changes).prog w K mg base "check_form" 4 (FnS K (clA K xs) false forms_check_form) := fnA_of (ok22 T (He5.fun_of F_check_form) A_is_form) g_check_form F_check_form.kp (F_check_form.bindsN (ps := ["value"]) fun _ _ _ _ _ _ us hl => match us, hl with | [_], _ => rfl)
    have A_is_change : FnA (PySem.Challenge.rw_slideforms_k31_whole_tables_of_changes).prog w K mg base "is_change" 3 (FnS K (clA K xs) false forms_is_change) := fnA_of (ok30 T (He5.fun_of F_is_change) A_is_ratio) g_is_change F_is_change.kp (F_is_change.bindsN (ps := ["value_of"]) fun _ _ _ _ _ _ us hl => match us, hl with | [_], _ => rfl)
    have A_make : FnA (PySem.Challenge.rw_slideforms_k31_whole_tables_of_changes).prog w K mg base "make" 2 (FnS K (clA K xs) false ratios_make) := fnA_of (ok11 T (He5.fun_of F_make) A_divisor) g_make F_make.kp (F_make.bindsN (ps := ["above", "below"]) fun _ _ _ _ _ _ us hl => match us, hl with | [_, _], _ => rfl)
    have A_add_ratios : FnA (PySem.Challenge.rw_slideforms_k31_whole_tables_of_changes).prog w K mg base "add_ratios" 3 (FnS K (clA K xs) false ratios_add) := fnA_of (ok12 T (He5.fun_of F_add_ratios) A_make) g_add_ratios F_add_ratios.kp (F_add_ratios.bindsN (ps := ["one", "other"]) fun _ _ _ _ _ _ us hl => match us, hl with | [_, _], _ => rfl)
    have A_multiply_ratios : FnA (PySem.Challenge.rw_slideforms_k31_whole_tables_of_changes).prog w K mg base "multiply_ratios" 3 (FnS K (clA K xs) false ratios_multiply) := fnA_of (ok15 T (He5.fun_of F_multiply_ratios) A_make) g_multiply_ratios F_multiply_ratios.kp (F_multiply_ratios.bindsN (ps := ["one", "other"]) fun _ _ _ _ _ _ us hl => match us, hl with | [_, _], _ => rfl)
    have A_multiply_forms : FnA (PySem.Challenge.rw_slideforms_k31_whole_tables_of_changes).prog w K mg base "multiply_forms" 4 (FnS K (clA K xs) false forms_multiply) := fnA_of (ok28 T (He5.fun_of F_multiply_forms) A_add_ratios A_multiply_ratios) g_multiply_forms F_multiply_forms.kp (F_multiply_forms.bindsN (ps := ["one", "other"]) fun _ _ _ _ _ _ us hl => match us, hl with | [_, _], _ => rfl)
    have A_add_forms : FnA (PySem.Challenge.rw_slideforms_k31_whole_tables_of_changes).prog w K mg base "add_forms" 4 (FnS K (clA K xs) false forms_add) := fnA_of (ok24 T (He5.fun_of F_add_forms) A_add_ratios) g_add_forms F_add_forms.kp (F_add_forms.bindsN (ps := ["one", "other"]) fun _ _ _ _ _ _ us hl => match us, hl with | [_, _], _ => rfl)
    have A_scaled_forms : FnA (PySem.Challenge.rw_slideforms_k31_whole_tables_of_changes).prog w K mg base "scaled_forms" 4 (FnS K (clA K xs) false forms_scaled) := fnA_of (ok26 T (He5.fun_of F_scaled_forms) A_multiply_ratios) g_scaled_forms F_scaled_forms.kp (F_scaled_forms.bindsN (ps := ["number", "one"]) fun _ _ _ _ _ _ us hl => match us, hl with | [_, _], _ => rfl)
    have A_changed : FnA (PySem.Challenge.rw_slideforms_k31_whole_tables_of_changes).prog w K mg base "changed" 5 (FnS K (clA K xs) false forms_changed) := fnA_of (ok36 T (He5.fun_of F_changed) A_check_form A_is_change A_multiply_forms A_add_forms A_scaled_forms) g_changed F_changed.kp (F_changed.bindsN (ps := ["form", "change"]) fun _ _ _ _ _ _ us hl => match us, hl with | [_, _], _ => rfl)
    have A_unit_form : FnA (PySem.Challenge.rw_slideforms_k31_whole_tables_of_changes).prog w K mg base "unit_form" 1 (FnS K (clA K xs) false moves_unit_form) := fnA_of (ok39 T (He5.fun_of F_unit_form) ) g_unit_form F_unit_form.kp (F_unit_form.bindsN (ps := ["place", "size"]) fun _ _ _ _ _ _ us hl => match us, hl with | [_, _], _ => rfl)
    have A_table_of : FnA (PySem.Challenge.rw_slideforms_k31_whole_tables_of_changes).prog w K mg base "table_of" 6 (FnS K (clA K xs) false moves_table_of) := fnA_of (ok40 T (He5.fun_of F_table_of) A_check_order A_turned A_changed A_unit_form) g_table_of F_table_of.kp (F_table_of.bindsN (ps := ["change", "size"]) fun _ _ _ _ _ _ us hl => match us, hl with | [_, _], _ => rfl)
    have A__law_make : FnA (PySem.Challenge.rw_slideforms_k31_whole_tables_of_changes).prog w K mg base "_law_make" 1 (FnS K (clA K xs) false law_make) := fnA_of (ok69 T (He5.fun_of F__law_make) ) g__law_make F__law_make.kp (F__law_make.bindsN (ps := ["above", "below"]) fun _ _ _ _ _ _ us hl => match us, hl with | [_, _], _ => rfl)
    have A__law_add : FnA (PySem.Challenge.rw_slideforms_k31_whole_tables_of_changes).prog w K mg base "_law_add" 2 (FnS K (clA K xs) false law_add) := fnA_of (ok70 T (He5.fun_of F__law_add) A__law_make) g__law_add F__law_add.kp (F__law_add.bindsN (ps := ["one", "other"]) fun _ _ _ _ _ _ us hl => match us, hl with | [_, _], _ => rfl)
    have A__law_mul : FnA (PySem.Challenge.rw_slideforms_k31_whole_tables_of_changes).prog w K mg base "_law_mul" 2 (FnS K (clA K xs) false law_mul) := fnA_of (ok71 T (He5.fun_of F__law_mul) A__law_make) g__law_mul F__law_mul.kp (F__law_mul.bindsN (ps := ["one", "other"]) fun _ _ _ _ _ _ us hl => match us, hl with | [_, _], _ => rfl)
    have A__law_poly : FnA (PySem.Challenge.rw_slideforms_k31_whole_tables_of_changes).prog w K mg base "_law_poly" 3 (FnS K (clA K xs) false law_poly) := fnA_of (ok76 T (He5.fun_of F__law_poly) A__law_add A__law_mul) g__law_poly F__law_poly.kp (F__law_poly.bindsN (ps := ["one", "other"]) fun _ _ _ _ _ _ us hl => match us, hl with | [_, _], _ => rfl)
    have A__law_changed : FnA (PySem.Challenge.rw_slideforms_k31_whole_tables_of_changes).prog w K mg base "_law_changed" 4 (FnS K (clA K xs) false law_changed) := fnA_of (ok77 T (He5.fun_of F__law_changed) A__law_poly A__law_add) g__law_changed F__law_changed.kp (F__law_changed.bindsN (ps := ["form", "change"]) fun _ _ _ _ _ _ us hl => match us, hl with | [_, _], _ => rfl)
    have A_cross_forms : FnA (PySem.Challenge.rw_slideforms_k31_whole_tables_of_changes).prog w K mg base "cross_forms" 4 (FnS K (clA K xs) false forms_cross) := fnA_of (ok34 T (He5.fun_of F_cross_forms) A_add_ratios A_multiply_ratios) g_cross_forms F_cross_forms.kp (F_cross_forms.bindsN (ps := ["a", "b", "c", "d"]) fun _ _ _ _ _ _ us hl => match us, hl with | [_, _, _, _], _ => rfl)
    have A_after : FnA (PySem.Challenge.rw_slideforms_k31_whole_tables_of_changes).prog w K mg base "after" 5 (FnS K (clA K xs) false forms_after) := fnA_of (ok33 T (He5.fun_of F_after) A_cross_forms) g_after F_after.kp (F_after.bindsN (ps := ["one", "other"]) fun _ _ _ _ _ _ us hl => match us, hl with | [_, _], _ => rfl)
    have A_plus : FnA (PySem.Challenge.rw_slideforms_k31_whole_tables_of_changes).prog w K mg base "plus" 4 (FnS K (clA K xs) false moves_plus) := fnA_of (ok46 T (He5.fun_of F_plus) A_add_ratios) g_plus F_plus.kp (F_plus.bindsN (ps := ["one", "other"]) fun _ _ _ _ _ _ us hl => match us, hl with | [_, _], _ => rfl)
    have A_scaled_moves : FnA (PySem.Challenge.rw_slideforms_k31_whole_tables_of_changes).prog w K mg base "scaled_moves" 4 (FnS K (clA K xs) false moves_scaled) := fnA_of (ok47 T (He5.fun_of F_scaled_moves) A_multiply_ratios) g_scaled_moves F_scaled_moves.kp (F_scaled_moves.bindsN (ps := ["number", "one"]) fun _ _ _ _ _ _ us hl => match us, hl with | [_, _], _ => rfl)
    have A_step_up : FnA (PySem.Challenge.rw_slideforms_k31_whole_tables_of_changes).prog w K mg base "step_up" 3 (FnS K (clA K xs) false moves_step_up) := fnA_of (ok42 T (He5.fun_of F_step_up) A_check_order) g_step_up F_step_up.kp (F_step_up.bindsN (ps := ["size"]) fun _ _ _ _ _ _ us hl => match us, hl with | [_], _ => rfl)
    have A_step_down : FnA (PySem.Challenge.rw_slideforms_k31_whole_tables_of_changes).prog w K mg base "step_down" 3 (FnS K (clA K xs) false moves_step_down) := fnA_of (ok43 T (He5.fun_of F_step_down) A_check_order) g_step_down F_step_down.kp (F_step_down.bindsN (ps := ["size"]) fun _ _ _ _ _ _ us hl => match us, hl with | [_], _ => rfl)
    have A_doing : FnA (PySem.Challenge.rw_slideforms_k31_whole_tables_of_changes).prog w K mg base "doing" 5 (FnS K (clA K xs) false moves_doing) := fnA_of (ok53 T (He5.fun_of F_doing) A_plus A_scaled_moves A_add_ratios A_step_up A_step_down A_multiply_ratios A_is_ratio) g_doing F_doing.kp (F_doing.bindsN (ps := ["numbers", "size"]) fun _ _ _ _ _ _ us hl => match us, hl with | [_, _], _ => rfl)
    have A_subtract : FnA (PySem.Challenge.rw_slideforms_k31_whole_tables_of_changes).prog w K mg base "subtract" 3 (FnS K (clA K xs) false ratios_subtract) := fnA_of (ok14 T (He5.fun_of F_subtract) A_make) g_subtract F_subtract.kp (F_subtract.bindsN (ps := ["one", "other"]) fun _ _ _ _ _ _ us hl => match us, hl with | [_, _], _ => rfl)
    have A_determinant : FnA (PySem.Challenge.rw_slideforms_k31_whole_tables_of_changes).prog w K mg base "determinant" 4 (FnS K (clA K xs) false forms_determinant) := fnA_of (ok32 T (He5.fun_of F_determinant) A_subtract A_multiply_ratios) g_determinant F_determinant.kp (F_determinant.bindsN (ps := ["change"]) fun _ _ _ _ _ _ us hl => match us, hl with | [_], _ => rfl)
    have A_check_change : FnA (PySem.Challenge.rw_slideforms_k31_whole_tables_of_changes).prog w K mg base "check_change" 5 (FnS K (clA K xs) false forms_check_change) := fnA_of (ok31 T (He5.fun_of F_check_change) A_is_change A_determinant) g_check_change F_check_change.kp (F_check_change.bindsN (ps := ["value_of"]) fun _ _ _ _ _ _ us hl => match us, hl with | [_], _ => rfl)
    have A_divide : FnA (PySem.Challenge.rw_slideforms_k31_whole_tables_of_changes).prog w K mg base "divide" 3 (FnS K (clA K xs) false ratios_divide) := fnA_of (ok17 T (He5.fun_of F_divide) A_make) g_divide F_divide.kp (F_divide.bindsN (ps := ["one", "other"]) fun _ _ _ _ _ _ us hl => match us, hl with | [_, _], _ => rfl)
    have A_negative : FnA (PySem.Challenge.rw_slideforms_k31_whole_tables_of_changes).prog w K mg base "negative" 1 (FnS K (clA K xs) false ratios_negative) := fnA_of (ok18 T (He5.fun_of F_negative) ) g_negative F_negative.kp (F_negative.bindsN (ps := ["number"]) fun _ _ _ _ _ _ us hl => match us, hl with | [_], _ => rfl)
    have A_after_swap : FnA (PySem.Challenge.rw_slideforms_k31_whole_tables_of_changes).prog w K mg base "after_swap" 2 (FnS K (clA K xs) false moves_after_swap) := fnA_of (ok60 T (He5.fun_of F_after_swap) A_negative) g_after_swap F_after_swap.kp (F_after_swap.bindsN (ps := ["change"]) fun _ _ _ _ _ _ us hl => match us, hl with | [_], _ => rfl)
    have R_split_change : ∀ n : Nat, FnA (PySem.Challenge.rw_slideforms_k31_whole_tables_of_changes).prog w K mg base "split_change" (5 + n) (FnS K (clA K xs) false (moves_split_change n)) := by
      intro n
      induction n with
      | zero => exact fnA_of ⟨fun vs H Q E h => (bad0 (fun _ => rfl) h).elim, fun A outer s H args us vs Q E _ _ _ _ h => (bad0 (fun _ => rfl) h).elim⟩ g_split_change F_split_change.kp (F_split_change.bindsN (ps := ["change"]) fun _ _ _ _ _ _ us hl => match us, hl with | [_], _ => rfl)
      | succ n ih => exact fnA_of (ok59 T (He5.fun_of F_split_change) n A_check_change A_divide A_subtract A_multiply_ratios ih A_after_swap) g_split_change F_split_change.kp (F_split_change.bindsN (ps := ["change"]) fun _ _ _ _ _ _ us hl => match us, hl with | [_], _ => rfl)
    have A_split_change : FnA (PySem.Challenge.rw_slideforms_k31_whole_tables_of_changes).prog w K mg base "split_change" 45 (FnS K (clA K xs) false (moves_split_change 40)) := R_split_change 40
    have A__law_draw : FnA (PySem.Challenge.rw_slideforms_k31_whole_tables_of_changes).prog w K mg base "_law_draw" 1 (FnT K (clA K xs) law_draw) := fnA_of (ok66 T (He5.fun_of F__law_draw) ) g__law_draw F__law_draw.kp (F__law_draw.bindsN (ps := ["tape", "many"]) fun _ _ _ _ _ _ us hl => match us, hl with | [_, _], _ => rfl)
    have A__law_sum : FnA (PySem.Challenge.rw_slideforms_k31_whole_tables_of_changes).prog w K mg base "_law_sum" 3 (FnS K (clA K xs) false law_sum) := fnA_of (ok72 T (He5.fun_of F__law_sum) A__law_add) g__law_sum F__law_sum.kp (F__law_sum.bindsN (ps := ["items"]) fun _ _ _ _ _ _ us hl => match us, hl with | [_], _ => rfl)
    have A__law_times : FnA (PySem.Challenge.rw_slideforms_k31_whole_tables_of_changes).prog w K mg base "_law_times" 4 (FnS K (clA K xs) false law_times) := fnA_of (ok75 T (He5.fun_of F__law_times) A__law_sum A__law_mul) g__law_times F__law_times.kp (F__law_times.bindsN (ps := ["one", "other"]) fun _ _ _ _ _ _ us hl => match us, hl with | [_, _], _ => rfl)
    have A__law_two : FnA (PySem.Challenge.rw_slideforms_k31_whole_tables_of_changes).prog w K mg base "_law_two" 5 (FnS K (clA K xs) false law_two) := fnA_of (ok78 T (He5.fun_of F__law_two) A__law_times) g__law_two F__law_two.kp (F__law_two.bindsN (ps := ["change", "other"]) fun _ _ _ _ _ _ us hl => match us, hl with | [_, _], _ => rfl)
    have A__law_pick : FnA (PySem.Challenge.rw_slideforms_k31_whole_tables_of_changes).prog w K mg base "_law_pick" 2 (FnT K (clA K xs) law_pick) := fnA_of (ok67 T (He5.fun_of F__law_pick) A__law_draw) g__law_pick F__law_pick.kp (F__law_pick.bindsN (ps := ["tape", "row"]) fun _ _ _ _ _ _ us hl => match us, hl with | [_, _], _ => rfl)
    have A__law_fraction : FnA (PySem.Challenge.rw_slideforms_k31_whole_tables_of_changes).prog w K mg base "_law_fraction" 2 (FnT K (clA K xs) law_fraction) := fnA_of (ok74 T (He5.fun_of F__law_fraction) A__law_make A__law_draw) g__law_fraction F__law_fraction.kp (F__law_fraction.bindsN (ps := ["tape"]) fun _ _ _ _ _ _ us hl => match us, hl with | [_], _ => rfl)
    have A__law_change : FnA (PySem.Challenge.rw_slideforms_k31_whole_tables_of_changes).prog w K mg base "_law_change" 6 (FnT K (clA K xs) law_change) := fnA_of (ok79 T (He5.fun_of F__law_change) A__law_two A__law_draw A__law_pick A__law_fraction) g__law_change F__law_change.kp (F__law_change.bindsN (ps := ["tape"]) fun _ _ _ _ _ _ us hl => match us, hl with | [_], _ => rfl)
    have A_weight_table : FnA (PySem.Challenge.rw_slideforms_k31_whole_tables_of_changes).prog w K mg base "weight_table" 3 (FnS K (clA K xs) false moves_weight_table) := fnA_of (ok44 T (He5.fun_of F_weight_table) A_check_order) g_weight_table F_weight_table.kp (F_weight_table.bindsN (ps := ["size"]) fun _ _ _ _ _ _ us hl => match us, hl with | [_], _ => rfl)
    have A_choose : FnA (PySem.Challenge.rw_slideforms_k31_whole_tables_of_changes).prog w K mg base "choose" 1 (FnS K (clA K xs) false forms_choose) := fnA_of (ok37 T (He5.fun_of F_choose) ) g_choose F_choose.kp (F_choose.bindsN (ps := ["many", "few"]) fun _ _ _ _ _ _ us hl => match us, hl with | [_, _], _ => rfl)
    have A_pairing_table : FnA (PySem.Challenge.rw_slideforms_k31_whole_tables_of_changes).prog w K mg base "pairing_table" 4 (FnS K (clA K xs) false moves_pairing_table) := fnA_of (ok55 T (He5.fun_of F_pairing_table) A_check_order A_divide A_choose) g_pairing_table F_pairing_table.kp (F_pairing_table.bindsN (ps := ["size"]) fun _ _ _ _ _ _ us hl => match us, hl with | [_], _ => rfl)
    have R__law_same : ∀ n : Nat, FnA (PySem.Challenge.rw_slideforms_k31_whole_tables_of_changes).prog w K mg base "_law_same" (0 + n) (FnS K (clA K xs) false (law_same n)) := by
      intro n
      induction n with
      | zero => exact fnA_of ⟨fun vs H Q E h => (bad0 (fun _ => rfl) h).elim, fun A outer s H args us vs Q E _ _ _ _ h => (bad0 (fun _ => rfl) h).elim⟩ g__law_same F__law_same.kp (F__law_same.bindsN (ps := ["one", "other"]) fun _ _ _ _ _ _ us hl => match us, hl with | [_, _], _ => rfl)
      | succ n ih => exact fnA_of (ok68 T (He5.fun_of F__law_same) n ih) g__law_same F__law_same.kp (F__law_same.bindsN (ps := ["one", "other"]) fun _ _ _ _ _ _ us hl => match us, hl with | [_, _], _ => rfl)
    have A__law_same : FnA (PySem.Challenge.rw_slideforms_k31_whole_tables_of_changes).prog w K mg base "_law_same" 40 (FnS K (clA K xs) false (law_same 40)) := R__law_same 40
    have A_times : FnA (PySem.Challenge.rw_slideforms_k31_whole_tables_of_changes).prog w K mg base "times" 4 (FnS K (clA K xs) false moves_times) := fnA_of (ok45 T (He5.fun_of F_times) A_turned A_add_ratios A_multiply_ratios) g_times F_times.kp (F_times.bindsN (ps := ["one", "other"]) fun _ _ _ _ _ _ us hl => match us, hl with | [_, _], _ => rfl)
    have A_bracket : FnA (PySem.Challenge.rw_slideforms_k31_whole_tables_of_changes).prog w K mg base "bracket" 5 (FnS K (clA K xs) false moves_bracket) := fnA_of (ok49 T (He5.fun_of F_bracket) A_plus A_times A_scaled_moves) g_bracket F_bracket.kp (F_bracket.bindsN (ps := ["one", "other"]) fun _ _ _ _ _ _ us hl => match us, hl with | [_, _], _ => rfl)
    have A_unit : FnA (PySem.Challenge.rw_slideforms_k31_whole_tables_of_changes).prog w K mg base "unit" 1 (FnS K (clA K xs) false moves_unit) := fnA_of (ok50 T (He5.fun_of F_unit) ) g_unit F_unit.kp (F_unit.bindsN (ps := ["size"]) fun _ _ _ _ _ _ us hl => match us, hl with | [_], _ => rfl)
    have A_middle : FnA (PySem.Challenge.rw_slideforms_k31_whole_tables_of_changes).prog w K mg base "middle" 5 (FnS K (clA K xs) false moves_middle) := fnA_of (ok51 T (He5.fun_of F_middle) A_plus A_step_up A_step_down A_weight_table A_scaled_moves A_times) g_middle F_middle.kp (F_middle.bindsN (ps := ["size"]) fun _ _ _ _ _ _ us hl => match us, hl with | [_], _ => rfl)
    have A_middle_number : FnA (PySem.Challenge.rw_slideforms_k31_whole_tables_of_changes).prog w K mg base "middle_number" 4 (FnS K (clA K xs) false moves_middle_number) := fnA_of (ok52 T (He5.fun_of F_middle_number) A_check_order A_divide) g_middle_number F_middle_number.kp (F_middle_number.bindsN (ps := ["size"]) fun _ _ _ _ _ _ us hl => match us, hl with | [_], _ => rfl)
    have A_exponential : FnA (PySem.Challenge.rw_slideforms_k31_whole_tables_of_changes).prog w K mg base "exponential" 5 (FnS K (clA K xs) false moves_exponential) := fnA_of (ok54 T (He5.fun_of F_exponential) A_unit A_scaled_moves A_plus A_times) g_exponential F_exponential.kp (F_exponential.bindsN (ps := ["table"]) fun _ _ _ _ _ _ us hl => match us, hl with | [_], _ => rfl)
    have A_trace : FnA (PySem.Challenge.rw_slideforms_k31_whole_tables_of_changes).prog w K mg base "trace" 4 (FnS K (clA K xs) false moves_trace) := fnA_of (ok56 T (He5.fun_of F_trace) A_add_ratios) g_trace F_trace.kp (F_trace.bindsN (ps := ["table"]) fun _ _ _ _ _ _ us hl => match us, hl with | [_], _ => rfl)
    have A_trace_of : FnA (PySem.Challenge.rw_slideforms_k31_whole_tables_of_changes).prog w K mg base "trace_of" 6 (FnS K (clA K xs) false moves_trace_of) := fnA_of (ok57 T (He5.fun_of F_trace_of) A_check_change A_add_ratios A_subtract A_multiply_ratios) g_trace_of F_trace_of.kp (F_trace_of.bindsN (ps := ["change", "size"]) fun _ _ _ _ _ _ us hl => match us, hl with | [_, _], _ => rfl)
    have A_determinant_power : FnA (PySem.Challenge.rw_slideforms_k31_whole_tables_of_changes).prog w K mg base "determinant_power" 3 (FnS K (clA K xs) false moves_determinant_power) := fnA_of (ok58 T (He5.fun_of F_determinant_power) A_check_order) g_determinant_power F_determinant_power.kp (F_determinant_power.bindsN (ps := ["size"]) fun _ _ _ _ _ _ us hl => match us, hl with | [_], _ => rfl)
    have A_cross_moves : FnA (PySem.Challenge.rw_slideforms_k31_whole_tables_of_changes).prog w K mg base "cross_moves" 4 (FnS K (clA K xs) false moves_cross) := fnA_of (ok61 T (He5.fun_of F_cross_moves) A_add_ratios A_multiply_ratios) g_cross_moves F_cross_moves.kp (F_cross_moves.bindsN (ps := ["a", "b", "c", "d"]) fun _ _ _ _ _ _ us hl => match us, hl with | [_, _, _, _], _ => rfl)
    have A_product_of : FnA (PySem.Challenge.rw_slideforms_k31_whole_tables_of_changes).prog w K mg base "product_of" 5 (FnS K (clA K xs) false moves_product_of) := fnA_of (ok63 T (He5.fun_of F_product_of) A_cross_moves) g_product_of F_product_of.kp (F_product_of.bindsN (ps := ["changes"]) fun _ _ _ _ _ _ us hl => match us, hl with | [_], _ => rfl)
    have A__law_power : FnA (PySem.Challenge.rw_slideforms_k31_whole_tables_of_changes).prog w K mg base "_law_power" 3 (FnS K (clA K xs) false law_power) := fnA_of (ok73 T (He5.fun_of F__law_power) A__law_mul) g__law_power F__law_power.kp (F__law_power.bindsN (ps := ["one", "count"]) fun _ _ _ _ _ _ us hl => match us, hl with | [_, _], _ => rfl)
    exact ok81 T (He5.fun_of F_law) A__law_tape A_table_of A__law_changed A_after A_doing A_split_change A__law_draw A__law_change A_step_up A_step_down A_weight_table A__law_fraction A__law_add A_pairing_table A__law_two A__law_same A_changed A__law_times A_times A_bracket A_scaled_moves A_plus A_unit A_middle A_middle_number A__law_make A__law_mul A_exponential A_determinant A_trace A__law_sum A_trace_of A_determinant_power A_product_of A__law_power A__law_pick rfl (tld T (He5.fun_of F__law_told) g__law_told (F__law_told.bindsN (ps := ["make_it"]) fun _ _ _ _ _ _ us hl => match us, hl with | [_], _ => rfl)) (hTB tp List.mem_cons_self) rfl
end G
open PySem PySem.W PySem.Calls PyProof.Rows
theorem G.ends (M : G.LawTrue) : PySem.Challenge.rw_slideforms_k31_whole_tables_of_changes.Holds := by
  w_on; o_law
  refine HandSHeadRun.head_any (r := OpenLaw.row PySem.Challenge.rw_slideforms_k31_whole_tables_of_changes) (q := view (OpenLaw.row PySem.Challenge.rw_slideforms_k31_whole_tables_of_changes).prog [81]) (H := G.hk) (ob := G.ob) (M := 9000) (loose := G.loose) (d := HandSHeadRun.topDef (OpenLaw.row PySem.Challenge.rw_slideforms_k31_whole_tables_of_changes).prog 81) (kwd := []) G.ob_eq
    (by kernel_rfl) (fun s => by kernel_rfl) G.run (by kernel_rfl) (by kernel_rfl) (by kernel_rfl) (by rfl) (by first | assumption | decide +kernel) (by decide +kernel) ⟨rfl, rfl, rfl, rfl, rfl, by decide +kernel⟩ ?hw ?hc
  case hw => w_witness2
  case hc =>
    refine LamX.walk_ofTsE (l := PySem.Challenge.rw_slideforms_k31_whole_tables_of_changes) (n := 63) (k := 49) (x := "script") (CX := fun w => L2.CX (PySem.Challenge.rw_slideforms_k31_whole_tables_of_changes).prog w) rfl (by decide) (by kernel_rfl) ⟨rfl, by decide, by decide⟩ ?F (fun w H s e s' z => ?G)
    case G => obtain ⟨_, _, _, _, _, _, _, _, _, _, _, _, z⟩ := z; exact z
    case F =>
      intro w mg fa h Y Gn hmg0
      obtain ⟨K, KX, c⟩ := Y
      have hmg : mg ("law" : PySem.Str) = some (.ref fa) := by
        have e : (HandSHeadRun.topDef (OpenLaw.row PySem.Challenge.rw_slideforms_k31_whole_tables_of_changes).prog 81).name = ("law" : PySem.Str) := by kernel_rfl
        rw [← e]
        exact hmg0
      exact ⟨K, KX, G.lawAt M KX Gn hmg c rfl⟩

end

theorem PySem.Challenge.cw_slideforms_k31_whole_tables_of_changes_holds : PySem.Challenge.rw_slideforms_k31_whole_tables_of_changes.Holds := by
  exact G.ends fun ns h _ => G.law_holds ns h
