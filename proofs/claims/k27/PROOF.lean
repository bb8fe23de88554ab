import PyProof.Rows.All
import Wide.All
import OpenK.AllK
import Wide.FinOn
import HandS.ForMost
import HandS.IsInst
import HandS.TupAny
import HandS.TupMul
import HandS.Star
import HandS.Walk
import HandS.Conv
import KE.GoesEnum
import KE.KDictKeyed
import KE.KDictDisplayH
import KE.KeyNested
import KE.SortData
import PySem.Challenge.RW_trainring_k27_whole_means_of_all_states
set_option Elab.async false
set_option linter.all false
set_option maxRecDepth 100000
set_option maxHeartbeats 8000000
/-! rules of my own: enumerate of a tuple; dicts keyed by tuples of tuples; sorted of such tuples -/
namespace K27
open PySem PySem.Spec PyProof.Rows L2

/-! ### enumerate(tuple) -/
/-- the iterator of the tuple at l, as it is made -/
abbrev tupIt (l : Addr) : Obj := { cls := .type "tuple_iterator", data := .fields #[.ref l, .int 0 0] }
/-- an enumerate object over the iterator at i, as it is made -/
abbrev enumOf (i : Addr) : Obj := { cls := .type "enumerate", data := .fields #[.none, .bool false, .ref i, rawInt 0, .none, .none] }
theorem meets_enum_newT (l : Addr) (items : Array Value) :
    Meets (Builtin.«enumerate.__new__» ⟨[.type "enumerate", .ref l], []⟩) (fun _ R sh => sh.heap.IsTuple l items ∧
      R (.ok (.ret (.ref (sh.heap.push (tupIt l)).objs.size)))
        { sh with heap := (sh.heap.push (tupIt l)).push (enumOf sh.heap.objs.size) }) :=
  .of_wp fun prog w A R sh h => by
    obtain ⟨hh, g, d, tk, os⟩ := sh; obtain ⟨h1, h⟩ := h
    have hsub := sub_enumerate
    have q1 : ∀ {A' : Around} {E : Value → Shared → Prop} {Q : Value → Shared → Prop}, Q (.ref hh.objs.size) ⟨hh.push (tupIt l), g, d, tk, os⟩ → wpAny (model prog w) A' (pyIter (.ref l)) Q E ⟨hh, g, d, tk, os⟩ :=
      fun q => wpAny_pyIter_tuple (s := ⟨hh, g, d, tk, os⟩) h1 q
    wp_walk using q1
    refine wpAny_stack_any fun now => wpAny_pure ?_
    split
    · rename_i c _ _ _ _ _
      cases hty : (c == Value.type "enumerate")
      · wp_walk using q1
        exact ⟨_, rfl, h⟩
      · wp_walk using q1
        exact ⟨_, rfl, h⟩
    · wp_walk using q1
      exact ⟨_, rfl, h⟩

theorem call_enumerate_tuple {prog : Program} {w : World} {A : Around} {E : Value → Shared → Prop} {sh : Shared} {l : Addr} {items : Array Value} {Q : Value → Shared → Prop} (hL : sh.heap.IsTuple l items)
    (h : ∀ g', IsEnum g' (sh.heap.objs.size + 1) sh.heap.objs.size 0 .none → g'.IsTupleIter sh.heap.objs.size l 0 → g'.objs.size = sh.heap.objs.size + 2 →
      (∀ b ob0, sh.heap.get? b = some ob0 → g'.get? b = some ob0) → Q (.ref (sh.heap.objs.size + 1)) { sh with heap := g' }) :
    wpAny (model prog w) A (call (.type "enumerate") [.ref l]) Q E sh := by
  refine callType_new F.called_enumerate (by decide) (F.typeCall_enumerate_1 _) (F.newCall_enumerate_1 _)
    (fun ob => F.args_object_init_2 ob _) F.entry_enumerate_new
    (meets_enum_newT l items) ⟨hL, ?_⟩
  have szs : (sh.heap.push (tupIt l)).objs.size = sh.heap.objs.size + 1 := Heap.size_push ..
  show _ ∧ _
  rw [szs]
  have isE : IsEnum ((sh.heap.push (tupIt l)).push
      (enumOf sh.heap.objs.size)) (sh.heap.objs.size + 1) sh.heap.objs.size 0 .none := by
    have := Heap.get?_push_size (sh.heap.push (tupIt l))
      (o := (enumOf sh.heap.objs.size)) rfl
    rw [szs] at this; exact this
  refine ⟨⟨_, isE, rfl⟩, h _ isE ⟨_, Heap.get?_push_of_some _ (Heap.get?_push_size _ rfl), rfl, rfl⟩ (by rw [Heap.size_push, szs]) fun b ob0 x => Heap.get?_push_of_some _ (Heap.get?_push_of_some _ x)⟩

/-- the items of the tuple at a, each in a fresh pair with vals place -/
def IteT (K : PySem.W.Frag) (a : Addr) : It :=
  ⟨fun i H => ∃ (xs : List V) (x : V), SqT K H a xs ∧ xs[i]? = some x, fun i H v H' => ∃ T x, v = .ref T ∧ H T = none ∧ H' = upd H T (.tup [.int (i : Nat), x]) ∧ ∀ xs, SqT K H a xs → xs[i]? = some x, fun i H => ∃ xs : List V, SqT K H a xs ∧ xs.length = i⟩
theorem tup_ne_enum {h : Heap} {a e itr : Addr} {items : Array Value} {i : Int} {was : Value} (p : h.IsTuple a items) (isE : IsEnum h e itr i was) : e ≠ a := by
  intro eqz
  subst eqz
  obtain ⟨ob0, gob, cal, _⟩ := p
  rw [isE] at gob
  cases gob
  have hc' : Value.type "enumerate" = Value.type "tuple" := cal
  injection hc' with e
  exact absurd e (by decide)
theorem tup_ne_iter {h : Heap} {a b itr : Addr} {items : Array Value} {i : Nat} (p : h.IsTuple a items) (lt : h.IsTupleIter itr b i) : a ≠ itr := by
  intro eqz
  subst eqz
  obtain ⟨ob0, gob, cal, _⟩ := p
  obtain ⟨o', ho', hc', _⟩ := lt
  rw [ho'] at gob
  cases gob
  rw [hc'] at cal
  injection cal with e
  exact absurd e (by decide)
theorem turn_enumT {P : Program} {w : World} {K : PySem.W.Frag} {elts : List Expr} {kk : Nat} {tpos : Pos} (a e itr : Addr) :
    Turn P w K (.Tuple elts kk tpos) (IteT K a) [e, itr] e (fun i h => (∃ was, IsEnum h e itr ((i : Nat) : Int) was) ∧ h.IsTupleIter itr a i ∧ e ≠ itr) where
  mem := by simp
  obj := fun i h now b mb => by
    obtain ⟨⟨was, isE⟩, ⟨ob0, gob, cal, dat⟩, _⟩ := now
    have alt : b = e ∨ b = itr := by simpa using mb
    rcases alt with eqz | eqz
    · rw [eqz]; exact ⟨_, isE, fun v q => nomatch q⟩
    · rw [eqz]; exact ⟨ob0, gob, fun v q => by rw [dat] at q; cases q⟩
  keep := fun i h g' now k => let ⟨⟨was, isE⟩, lt, apart⟩ := now; ⟨⟨was, k e (by simp) _ isE⟩, lt.at fun ob0 q => k itr (by simp) ob0 q, apart⟩
  item := by
    intro X eqP eqW eqK cal i pn sh τ H E J own now goes
    subst eqP eqW eqK
    obtain ⟨⟨was, isE⟩, onIt, apart⟩ := now
    obtain ⟨xs, x, seq, itm⟩ := goes
    obtain ⟨vals, rel, p, szs⟩ := J.tuple seq
    obtain ⟨uu, gu, ruu⟩ := rel.get itm
    have p' : sh.heap.IsTuple a vals.toArray := p
    have ltE : e < sh.heap.objs.size := Heap.lt_size isE
    have ltI : itr < sh.heap.objs.size := by obtain ⟨_, q, _⟩ := onIt; exact Heap.lt_size q
    have neA : e ≠ a := tup_ne_enum p' isE
    have neI : a ≠ itr := tup_ne_iter p' onIt
    have lts : i < vals.toArray.size := by
      have := (List.getElem?_eq_some_iff.mp gu).1
      simpa using this
    refine wpAny_pyNext_enum_itemD (Draws.tuple (A := X.A.in1) (J.ok.hd cal) itr a neI vals.toArray) isE ⟨onIt, p'⟩ lts apart (by
      intro hm
      rcases List.mem_cons.mp hm with eqz | hm
      · exact apart eqz
      · exact neA (List.mem_singleton.mp hm)) fun x' g' tk hx' gob st' tupT szz keeps => ?_
    have ex : x' = uu := by
      have e1 : vals[i]? = some x' := by simpa using hx'
      rw [gu] at e1
      exact (Option.some.inj e1).symm
    subst ex
    obtain ⟨hit', _⟩ := st'
    refine ⟨_, rfl, wpAny_letOwnedTupleGo_enum (s := { sh with heap := g', toks := tk + 1 }) gob fun g'' he' but => ?_⟩
    have tupT2 : g''.get? sh.heap.objs.size = some { cls := .type "tuple", data := .seq #[.int i tk, x'] } := (but.2 _ (Nat.ne_of_gt ltE)).trans tupT
    have fresh : ObjOk X.prog X.w (upd H sh.heap.objs.size (.tup [.int (i : Nat), x])) g'' sh.heap.objs.size (.tup [.int (i : Nat), x]) :=
      ⟨by show 2 ≤ sizeLine; decide, [.int i tk, x'], .cons ⟨_, rfl⟩ (.cons ruu .nil), ⟨_, tupT2, rfl, _, rfl⟩⟩
    have J1 : Inv X pn τ (upd H sh.heap.objs.size (.tup [.int (i : Nat), x])) { sh with heap := g'', toks := tk + 1 } :=
      J.turnedNew (ch := [e, itr]) (fun b ob2 mb q => (but.2 b (fun eqz => mb (by simp [eqz]))).trans (keeps b ob2 (fun eqz => mb (by simp [eqz])) (fun eqz => mb (by simp [eqz])) q)) own (Nat.le_refl _) fresh
    refine ⟨.ref sh.heap.objs.size, _, J1, rfl, ⟨_, x, rfl, J.hok.fresh (Nat.le_refl _), rfl, fun ys hy => by rw [J.tuple_inj hy seq]; exact itm⟩, ⟨⟨x', ?_⟩, hit'.at fun ob0 q => (but.2 itr (Ne.symm apart)).trans q, apart⟩, fun b mb => ?_⟩
    · rw [show ((i + 1 : Nat) : Int) = (i : Int) + 1 by omega]; exact he'
    · have hb' : b < sh.heap.objs.size := by
        have alt : b = e ∨ b = itr := by simpa using mb
        rcases alt with eqz | eqz
        · rw [eqz]; exact ltE
        · rw [eqz]; exact ltI
      exact (upd_ne (Nat.ne_of_lt hb')).trans (own b mb).1
  done := by
    intro X eqP eqW eqK cal i pn sh τ H E J own now goes
    subst eqP eqW eqK
    obtain ⟨⟨was, isE⟩, onIt, apart⟩ := now
    obtain ⟨xs, seq, itm⟩ := goes
    obtain ⟨vals, rel, p, szs⟩ := J.tuple seq
    have p' : sh.heap.IsTuple a vals.toArray := p
    have neI : a ≠ itr := tup_ne_iter p' onIt
    obtain ⟨w0, w1, w2, w3, w4, w5⟩ := own itr (by simp)
    have lenl := rel.length
    have hno : vals.toArray.size = i := by
      rw [List.size_toArray, ← lenl]
      exact itm
    exact wpAny_pyNext_enum_endD (Draws.tuple (A := X.A.in1) (J.ok.hd cal) itr a neI vals.toArray) isE (by rw [hno]; exact ⟨onIt, p'⟩) fun g' exb => ⟨rfl, J.turned (t' := sh.toks) (fun b ob0 mb q => exb b ob0 mb q) w0 w1 w3 w4 w5⟩
  self := fun A i sh Q E now h => let ⟨⟨_, isE⟩, _⟩ := now; wpAny_pyIter_enum isE h
def iEnumT (K : PySem.W.Frag) (ta : TA) : TI := fun τ H R => ta τ H fun vs H1 => ∃ a xs, vs = [.ref a] ∧ SqT K H1 a xs ∧ R (IteT K a) H1
theorem pi_enumT {X : Cx} {e : Expr} {ta : TA} {p pos tpos : Pos} {elts : List Expr} {kk : Nat} (goes : Gl X "enumerate") (hm : X.mg "enumerate" = none) (ha : PA X [e] ta) (nsys : starEach [e] X.env = [(false, eval e X.env)] := by rfl) :
    PI X (.Tuple elts kk tpos) (.Call (.Name "enumerate" p) [e] [] pos) (iEnumT X.K ta) := by
  refine ⟨fun pn sh τ H R J h => ?_⟩
  refine Call_ (ld_blt J goes hm boot_enumerate (PyProof.Rows.callWith_type1 (thn (ha.run pos pn sh τ H _ J h) fun us s1 ⟨vs, H1, J1, r1, q1⟩ => ?_) nsys rfl))
  obtain ⟨a, xs, ex, seq, q⟩ := q1
  subst ex
  cases r1 with
  | cons r rr =>
    cases rr
    cases r
    obtain ⟨vals, rel, p', szs⟩ := J1.tuple seq
    refine call_enumerate_tuple (show s1.heap.IsTuple a vals.toArray from p') fun g' isE onIt szz keeps => wpAny_pyIter_enum isE ?_
    have J2 : Inv X pn τ H1 { s1 with heap := g' } := J1.kept (t' := s1.toks) keeps
    refine ⟨s1.heap.objs.size + 1, [s1.heap.objs.size + 1, s1.heap.objs.size], _, _, H1, rfl, J2, turn_enumT a (s1.heap.objs.size + 1) s1.heap.objs.size, ⟨⟨.none, isE⟩, onIt, Nat.succ_ne_self _⟩, fun b mb => ?_, q⟩
    have alt : b = s1.heap.objs.size + 1 ∨ b = s1.heap.objs.size := by simpa using mb
    have leb : s1.heap.objs.size ≤ b := by
      rcases alt with eqz | eqz
      · rw [eqz]; exact Nat.le_add_right _ _
      · rw [eqz]; exact Nat.le_refl _
    exact J1.fpOk leb (J1.hok.fresh leb)
theorem walk_enumT {K : PySem.W.Frag} {a : Addr} {xs : List V} : Walk (IteT K a) xs.length (fun H => SqT K H a xs) (YPair (fun i => some (.int (i : Nat))) (fun i => xs[i]?)) := by
  refine ⟨fun i _ lt q => ⟨xs, xs[i], q, by simp [lt]⟩, fun _ q => ⟨xs, q, rfl⟩, fun i H v H' _ q y => ?_⟩
  obtain ⟨T, x, g1, g2, g3, g4⟩ := y
  exact ⟨T, .int (i : Nat), x, g1, g2, g3, rfl, g4 xs q⟩
end K27
namespace K27
open PySem PySem.Spec PyProof.Rows L2

/-! ### states: tuples of tuples of ints -/
abbrev Sta := List (List Int)
def keyT (t : List Int) : NestedKey := .tup (t.map NestedKey.num)
def keyS (st : Sta) : NestedKey := .tup (st.map keyT)
theorem num_inj : ∀ {a b : List Int}, a.map NestedKey.num = b.map NestedKey.num → a = b
  | [], [], _ => rfl
  | [], _ :: _, h => by cases h
  | _ :: _, [], h => by cases h
  | x :: a, y :: b, h => by
    rw [List.map_cons, List.map_cons] at h
    injection h with h1 h2
    injection h1 with h1
    rw [h1, num_inj h2]
theorem keyT_inj {a b : List Int} (h : keyT a = keyT b) : a = b := by
  unfold keyT at h
  injection h with h
  exact num_inj h
theorem keyTs_inj : ∀ {a b : Sta}, a.map keyT = b.map keyT → a = b
  | [], [], _ => rfl
  | [], _ :: _, h => by cases h
  | _ :: _, [], h => by cases h
  | x :: a, y :: b, h => by
    rw [List.map_cons, List.map_cons] at h
    injection h with h1 h2
    rw [keyT_inj h1, keyTs_inj h2]
theorem keyS_inj {a b : Sta} (h : keyS a = keyS b) : a = b := by
  unfold keyS at h
  injection h with h
  exact keyTs_inj h
theorem depth_num : ∀ t : List Int, NestedKey.depthAll (t.map NestedKey.num) = 0
  | [] => by simp [NestedKey.depthAll]
  | x :: t => by
    rw [List.map_cons, NestedKey.depthAll, depth_num t]
    simp [NestedKey.depth]
theorem depth_keyT (t : List Int) : (keyT t).depth = 1 := by
  unfold keyT
  rw [NestedKey.depth, depth_num]
theorem depth_keyTs : ∀ st : Sta, NestedKey.depthAll (st.map keyT) ≤ 1
  | [] => by simp [NestedKey.depthAll]
  | t :: st => by
    have h := depth_keyTs st
    rw [List.map_cons, NestedKey.depthAll, depth_keyT]
    omega
theorem depth_keyS (st : Sta) : (keyS st).depth ≤ 8 := by
  unfold keyS
  rw [NestedKey.depth]
  have h := depth_keyTs st
  omega

/-- at q a train -/
abbrev TrAt (H : Hp) (q : Addr) (t : List Int) : Prop := H q = some (.tup (t.map V.int))
/-- at p a state -/
def StAt (H : Hp) (p : Addr) (st : Sta) : Prop := ∃ qs : List Addr, H p = some (.tup (qs.map V.ref)) ∧ Paired (TrAt H) qs st
theorem paired_same {H H' : Hp} (e : Same H H') : ∀ {qs : List Addr} {st : Sta}, Paired (TrAt H) qs st → Paired (TrAt H') qs st
  | _, _, .nil => .nil
  | _, _, .cons h t => .cons (e _ _ h) (paired_same e t)
theorem StAt.same {H H' : Hp} {p : Addr} {st : Sta} (e : Same H H') (h : StAt H p st) : StAt H' p st := by
  obtain ⟨qs, h1, h2⟩ := h
  exact ⟨qs, e _ _ h1, paired_same e h2⟩
/-- a list, a dict: what is no tuple may change -/
def NoTup (o : HO) : Prop := ∀ xs, o ≠ .tup xs
theorem StAt.upd {H : Hp} {p d : Addr} {st : Sta} {o o' : HO} (h : StAt H p st) (hd : H d = some o) (n : NoTup o) : StAt (upd H d o') p st := by
  obtain ⟨qs, h1, h2⟩ := h
  have k : ∀ q xs, H q = some (.tup xs) → L2.upd H d o' q = some (.tup xs) := fun q xs e => by
    rw [upd_ne (fun z => by
      subst z
      rw [hd] at e
      exact n _ (Option.some.inj e))]
    exact e
  refine ⟨qs, k _ _ h1, ?_⟩
  clear h1
  induction h2 with
  | nil => exact .nil
  | cons a t ih => exact .cons (k _ _ a) ih

section
variable {P : Program} {w : World} {H : Hp} {h : Heap}
theorem nested_ints : ∀ {t : List Int} {its : List Value}, Vals (t.map V.int) its → NestedAll h (t.map NestedKey.num) its
  | [], _, r => by
    rw [List.map_nil] at r
    cases r
    exact .nil
  | x :: t, _, r => by
    rw [List.map_cons] at r
    cases r with
    | cons h1 h2 =>
      obtain ⟨tk, e⟩ := h1
      subst e
      exact .cons (.int _ _) (nested_ints h2)
theorem nested_tr {q : Addr} {t : List Int} (ok : HOk P w H h) (e : TrAt H q t) : NestedIs h (keyT t) (.ref q) := by
  obtain ⟨_, its, r, o, h1, h2, n, h3⟩ := (show ObjOk P w H h q (.tup (t.map V.int)) from ok q _ e)
  exact .tup h1 h2 h3 (by simpa using nested_ints r)
theorem nested_trs (ok : HOk P w H h) : ∀ {qs : List Addr} {st : Sta} {its : List Value}, Paired (TrAt H) qs st → Vals (qs.map V.ref) its → NestedAll h (st.map keyT) its
  | [], _, _, .nil, r => by
    rw [List.map_nil] at r
    cases r
    exact .nil
  | q :: qs, _, _, .cons a t, r => by
    rw [List.map_cons] at r
    cases r with
    | cons h1 h2 =>
      cases h1
      exact .cons (nested_tr ok a) (nested_trs ok t h2)
theorem nested_st {p : Addr} {st : Sta} (ok : HOk P w H h) (e : StAt H p st) : (nestedKind P w).is h (keyS st) p := by
  obtain ⟨qs, e1, e2⟩ := e
  obtain ⟨_, its, r, o, h1, h2, n, h3⟩ := (show ObjOk P w H h p (.tup (qs.map V.ref)) from ok p _ e1)
  exact ⟨.tup h1 h2 h3 (by simpa using nested_trs ok e2 r), depth_keyS st⟩
end

/-! ### dicts whose keys are states, whose values are True -/
abbrev Ps := List (Addr × Sta)
def entN (x : Addr × Sta) : NestedKey × Addr × Value := (keyS x.2, x.1, Value.bool true)
def NDf (P : Program) (w : World) (d : Addr) (xs : Ps) : Heap → Prop := fun h => (d == sysModules) = false ∧ xs.length ≤ sizeLine ∧ (xs.map (·.2)).Nodup ∧
  ∃ o es ep, h.get? d = some o ∧ o.ExactDict ∧ o.data = .dict es ep ∧ es.toList = (xs.map entN).map (entryOfKey (nestedKind P w))
def ND (P : Program) (w : World) (d : Addr) (xs : Ps) : HO := .ext (NDf P w d xs)
theorem nd_noTup {P : Program} {w : World} {d : Addr} {xs : Ps} : NoTup (ND P w d xs) := fun _ z => by unfold ND at z; cases z
def AllSt (H : Hp) (xs : Ps) : Prop := ∀ x ∈ xs, StAt H x.1 x.2
theorem AllSt.same {H H' : Hp} {xs : Ps} (e : Same H H') (h : AllSt H xs) : AllSt H' xs := fun x m => (h x m).same e
theorem AllSt.upd {H : Hp} {xs : Ps} {d : Addr} {o o' : HO} (h : AllSt H xs) (hd : H d = some o) (n : NoTup o) : AllSt (L2.upd H d o') xs := fun x m => (h x m).upd hd n
theorem AllSt.snoc {H : Hp} {xs : Ps} {x : Addr × Sta} (h : AllSt H xs) (hx : StAt H x.1 x.2) : AllSt H (xs ++ [x]) := fun y m => by
  rcases List.mem_append.mp m with m | m
  · exact h y m
  · rw [List.mem_singleton.mp m]
    exact hx
theorem nd_ok {P : Program} {w : World} {H : Hp} {h : Heap} {d : Addr} {xs : Ps} (n : NDf P w d xs h) : ObjOk P w H h d (ND P w d xs) := by
  refine ⟨n, ?_, fun h1 h2 f k => ?_⟩
  · obtain ⟨_, _, _, o, _, _, e, _⟩ := n
    exact ⟨o, e⟩
  · obtain ⟨a1, a2, a3, o, es, ep, e, r⟩ := f
    exact ⟨a1, a2, a3, o, es, ep, k o e, r⟩
theorem entN_nodup {xs : Ps} (n : (xs.map (·.2)).Nodup) : ((xs.map entN).map (·.1)).Nodup := by
  unfold List.Nodup at n ⊢
  rw [List.map_map, List.pairwise_map]
  rw [List.pairwise_map] at n
  exact n.imp fun hne e => hne (keyS_inj e)
theorem nd_of {P : Program} {w : World} {H : Hp} {h : Heap} {d : Addr} {xs : Ps} (ok : HOk P w H h) (e : Rd H d (ND P w d xs)) (a : AllSt H xs) :
    (d == sysModules) = false ∧ xs.length ≤ sizeLine ∧ (xs.map (·.2)).Nodup ∧ h.DictOfH (nestedKind P w) d (xs.map entN) := by
  obtain ⟨⟨a1, a2, a3, o, es, ep, e1, e2, e3, e4⟩, _⟩ := (show ObjOk P w H h d (ND P w d xs) from e.ok ok)
  refine ⟨a1, a2, a3, o, es, ep, e1, e2, e3, e4, fun x hx => ?_, entN_nodup a3⟩
  obtain ⟨z, hz, rfl⟩ := List.mem_map.mp hx
  exact nested_st ok (a z hz)
theorem atKey_none {xs : Ps} {st : Sta} (h : st ∉ xs.map (·.2)) : atKey (xs.map entN) (keyS st) = none := by
  unfold atKey
  rw [Option.map_eq_none_iff, List.find?_eq_none]
  intro x hx z
  obtain ⟨m, hm, rfl⟩ := List.mem_map.mp hx
  have e : keyS m.2 = keyS st := of_decide_eq_true z
  exact h (List.mem_map.mpr ⟨m, hm, keyS_inj e⟩)

/-- d[p] = True, p a new key -/
def rNDput (P : Program) (w : World) : TSet := fun o i v H Q => ∃ (d p : Addr) (st : Sta) (xs : Ps), o = .ref d ∧ i = .ref p ∧ v = .bl true ∧ H d = some (ND P w d xs) ∧ AllSt H xs ∧ StAt H p st ∧ st ∉ xs.map (·.2) ∧ xs.length < sizeLine ∧
  Q (upd H d (ND P w d (xs ++ [(p, st)])))
theorem snoc_nodup {xs : Ps} {p : Addr} {st : Sta} (n : (xs.map (·.2)).Nodup) (h : st ∉ xs.map (·.2)) : ((xs ++ [(p, st)]).map (·.2)).Nodup := by
  rw [List.map_append]
  unfold List.Nodup at n ⊢
  rw [List.pairwise_append]
  refine ⟨n, List.pairwise_singleton _ _, fun a ha b hb z => ?_⟩
  have hb' : b = st := by simpa using hb
  subst hb'
  subst z
  exact h ha
section
variable {X : Cx}
theorem set_nd (hu : X.A.units + 64 < cLine) : PSet X (rNDput X.prog X.w) := by
  intro pins s σ H o i v ov iv u Q I ro ri rv q
  obtain ⟨d, p, st, xs, rfl, rfl, rfl, hd, ha, hp, hn, hl, q⟩ := q
  cases (show ov = Value.ref d from ro)
  cases (show iv = Value.ref p from ri)
  cases (show u = Value.bool true from rv)
  obtain ⟨b1, b2, b3, dd⟩ := nd_of I.hok (.inl hd) ha
  refine wpAny_setItem_heap (knd := nestedKind X.prog X.w) (hsz := by rw [List.length_map]; exact b2) (show X.A.units + 1 + 8 < cLine by omega) (nested_st I.hok hp) dd fun h' dd' hs => ?_
  rw [storedH_new (atKey_none hn)] at dd'
  obtain ⟨ob, es, ep, e1, e2, e3, e4, _, _⟩ := dd'
  refine ⟨_, d_write I (by rw [hd]; exact True.intro) hs ⟨ob, e1⟩ (nd_ok ⟨b1, ?_, snoc_nodup b3 hn, ob, es, ep, e1, e2, e3, ?_⟩), q⟩
  · rw [List.length_append]
    exact hl
  · rw [e4, List.map_append, List.map_append, List.map_append]
    rfl
def tNDnew (P : Program) (w : World) : TE := fun _ H Q => ∀ d, H d = none → Q (.ref d) (upd H d (ND P w d []))
theorem nd_empty {P : Program} {w : World} {H : Hp} (h : Heap) (hb : sysModules < h.objs.size) : ObjOk P w H (h.push { cls := .type "dict", data := .dict #[] }) h.objs.size (ND P w h.objs.size []) :=
  nd_ok ⟨beq_eq_false_iff_ne.mpr (Ne.symm (Nat.ne_of_lt hb)), Nat.zero_le _, List.nodup_nil, _, #[], 0, Heap.get?_push_size _ rfl, ⟨rfl, rfl, rfl⟩, rfl, rfl⟩
theorem pe_ndnew {pos : Pos} : PE X (.Dict [] [] pos) (tNDnew X.prog X.w) := ⟨fun pins s σ H Q I h =>
  wpAny_Dict_empty ⟨.ref s.heap.objs.size, _, I.laid (a := s.heap.objs.size) (o := ND X.prog X.w s.heap.objs.size []) (t' := s.toks) (fun _ _ q => Heap.get?_push_of_some _ q) (Nat.le_refl _) (nd_empty s.heap I.big), rfl, h _ (I.hok.fresh (Nat.le_refl _))⟩⟩
/-- the object of a new dict -/
abbrev emptyD : Obj := { cls := .type "dict", data := .dict #[] }
/-- a display of one pair, the key's address kept -/
theorem wpAny_Dict_oneH {prog : Program} {w : World} {A : Around} {E : Value → Shared → Prop} {K : Type} [DecidableEq K] {knd : HeapKind prog w K} {s : Shared} {env : Env} {k v : Expr} {pos : Pos} {Q : Value → Shared → Prop} (hu : knd.room A)
    (h : wpAny (model prog w) A (evalPairs (pairTrees [some k] [v] env pos)) (fun vs s₁ => ∃ ps, CarriesH knd s₁.heap vs ps ∧ s₁.heap.DictOfH knd s.heap.objs.size [] ∧
      ∀ h' tk, h'.DictOfH knd s.heap.objs.size (storedAllH [] ps) → Heap.SameBut s.heap.objs.size s₁.heap h' → Q (.ref s.heap.objs.size) { s₁ with heap := h', toks := tk }) E
      { s with heap := s.heap.push emptyD }) : wpAny (model prog w) A (eval (.Dict [some k] [v] pos) env) Q E s := by
  rw [arm_eval_Dict, zip_pairTrees [some k] [v] env pos rfl rfl, dictDisplay_pairs (pairTrees [some k] [v] env pos) (by simp [pairTrees]) (by simp [pairTrees])]
  exact wpAny_bind (wpAny_standAt (wpAny_bind (wpAny_subDictH (knd := knd) (Q := fun d s' => wpAny (model prog w) A (pure (Value.ref d)) Q E s') hu (by simp [pairTrees])
    (wpAny_mono h (fun vs s₁ h₁ => by obtain ⟨ps, hc, hm, hq⟩ := h₁; exact ⟨ps, hc, hm, fun h' tk a b => wpAny_pure (hq h' tk a b)⟩) fun _ _ e => e))))
/-- {e: True}, e a state -/
def tNDisp (P : Program) (w : World) (tk tv : TE) : TE := fun σ H Q => ∀ d, H d = none → tk σ (upd H d (ND P w d [])) fun x H1 => tv σ H1 fun y H2 => ∃ (p : Addr) (st : Sta), x = .ref p ∧ y = .bl true ∧ StAt H2 p st ∧ H2 d = some (ND P w d []) ∧
  Q (.ref d) (upd H2 d (ND P w d [(p, st)]))
theorem pe_ndisp {k v : Expr} {pos : Pos} {tk tv : TE} (hu : X.A.units + 64 < cLine) (hk : PE X k tk) (hv : PE X v tv) : PE X (.Dict [some k] [v] pos) (tNDisp X.prog X.w tk tv) := by
  refine ⟨fun pins s σ H Q I wanted => ?_⟩
  have isNew := I.hok.fresh (Nat.le_refl s.heap.objs.size)
  have I1 := I.laid (a := s.heap.objs.size) (o := ND X.prog X.w s.heap.objs.size []) (h' := s.heap.push { cls := .type "dict", data := .dict #[] }) (t' := s.toks) (fun _ _ q => Heap.get?_push_of_some _ q) (Nat.le_refl _) (nd_empty s.heap I.big)
  have pp : PPs X pos [some k] [v] [(tk, tv)] := pps_cons hk hv pps_nil
  refine wpAny_Dict_oneH (knd := nestedKind X.prog X.w) (show X.A.units + 8 < cLine by omega)
    (thn (pp.run pins _ σ _ (fun ps H2 => ∃ (p : Addr) (st : Sta), ps = [(.ref p, .bl true)] ∧ StAt H2 p st ∧ H2 s.heap.objs.size = some (ND X.prog X.w s.heap.objs.size []) ∧ Q (.ref s.heap.objs.size) (upd H2 s.heap.objs.size (ND X.prog X.w s.heap.objs.size [(p, st)]))) I1 ?_) fun ws s2 ⟨ps, H2, I2, rel, p, st, ep, hp, e, q2⟩ => ?_)
  · have q' := wanted _ isNew
    show tk σ _ fun x H1 => tv σ H1 fun y H2 => _
    refine (?_ : tk σ _ _)
    have key : (fun x H1 => tv σ H1 fun y H2 => ∃ (p : Addr) (st : Sta), x = V.ref p ∧ y = V.bl true ∧ StAt H2 p st ∧ H2 s.heap.objs.size = some (ND X.prog X.w s.heap.objs.size []) ∧ Q (.ref s.heap.objs.size) (upd H2 s.heap.objs.size (ND X.prog X.w s.heap.objs.size [(p, st)])))
      = (fun x H1 => tv σ H1 fun y H2 => tPairs [] σ H2 fun ps H3 => ∃ (p : Addr) (st : Sta), ((x, y) :: ps) = [(V.ref p, V.bl true)] ∧ StAt H3 p st ∧ H3 s.heap.objs.size = some (ND X.prog X.w s.heap.objs.size []) ∧ Q (.ref s.heap.objs.size) (upd H3 s.heap.objs.size (ND X.prog X.w s.heap.objs.size [(p, st)]))) := by
      funext x H1
      congr 1
      funext y H2
      show _ = ∃ (p : Addr) (st : Sta), ((x, y) :: []) = [(V.ref p, V.bl true)] ∧ _
      refine propext ⟨fun ⟨p, st, h1, h2, h3⟩ => ⟨p, st, by rw [h1, h2], h3⟩, fun ⟨p, st, h1, h3⟩ => ?_⟩
      injection h1 with h1 _
      injection h1 with h1 h2
      exact ⟨p, st, h1, h2, h3⟩
    rw [key] at q'
    exact q'
  · subst ep
    cases rel with
    | @cons a b as bs r rr =>
      cases rr
      obtain ⟨b1, b2⟩ := b
      obtain ⟨r1, r2⟩ := r
      cases (show b1 = Value.ref p from r1)
      cases (show b2 = Value.bool true from r2)
      obtain ⟨c1, c2, c3, dd⟩ := nd_of I2.hok (.inl e) (fun x hx => nomatch hx)
      refine ⟨[(keyS st, p, Value.bool true)], ⟨rfl, rfl, nested_st I2.hok hp, True.intro⟩, dd, fun h' tk' dd' hs => ⟨.ref s.heap.objs.size, _, ?_, rfl, q2⟩⟩
      obtain ⟨ob, es, ep, e1, e2, e3, e4, _, _⟩ := dd'
      refine d_write I2 (by rw [e]; exact True.intro) hs ⟨ob, e1⟩ (nd_ok ⟨c1, by show 1 ≤ sizeLine; decide, by simp, ob, es, ep, e1, e2, e3, ?_⟩)
      rw [e4]
      rfl
/-! ### for p in d, d locked -/
theorem Inv.frzN {pn : List (Addr × Obj)} {τ : L2.St} {H : Hp} {sh : Shared} {d : Addr} {ob0 : Obj} {xs : Ps} (J : Inv X pn τ H sh) (h : H d = some (.frz ob0 (ND X.prog X.w d xs))) :
    (d == sysModules) = false ∧ sh.heap.get? d = some ob0 ∧ ob0.ExactDict ∧ ∃ (ents : Array DictEntry) (stamp : Nat), ob0.data = .dict ents stamp ∧ ents.size = xs.length ∧
      ∀ (i : Nat) (x : Addr × Sta), xs[i]? = some x → ∃ ent0 : DictEntry, ents[i]? = some ent0 ∧ ent0.key = .ref x.1 := by
  obtain ⟨dat, ⟨a1, a2, a3, o', ents, stamp, e1, e2, e3, e4⟩, _⟩ := J.hok d _ h
  rw [dat] at e1
  cases e1
  refine ⟨a1, dat, e2, ents, stamp, e3, ?_, fun i x e => ?_⟩
  · have := size_of_entries e4
    rw [List.length_map] at this
    exact this
  · have q := entry_at e4 i
    rw [List.getElem?_map, e] at q
    exact ⟨_, q, rfl⟩
def Itn (P : Program) (w : World) (d : Addr) (ob0 : Obj) (xs : Ps) : It :=
  ⟨fun i H => H d = some (.frz ob0 (ND P w d xs)) ∧ i < xs.length, fun i H x H' => H' = H ∧ ∃ y : Addr × Sta, xs[i]? = some y ∧ x = .ref y.1, fun i H => H d = some (.frz ob0 (ND P w d xs)) ∧ xs.length ≤ i⟩
theorem turn_nd {P : Program} {w : World} {K : PySem.W.Frag} {tg : Expr} {d : Addr} {ob0 : Obj} {ents : Array DictEntry} {stamp : Nat} {xs : Ps} (itr : Addr) (hod : ob0.data = .dict ents stamp) :
    Turn P w K tg (Itn P w d ob0 xs) [itr] itr (fun i h => h.IsKeyIter itr d i xs.length stamp) where
  mem := by simp
  obj := fun i h now b mb => by
    have e : b = itr := by simpa using mb
    subst e
    obtain ⟨ob1, e, c, dd⟩ := now
    exact ⟨ob1, e, fun v eqz => by rw [dd] at eqz; cases eqz⟩
  keep := fun i h g' now k => now.at fun ob1 e => k itr (by simp) ob1 e
  item := by
    intro X eqP eqW eqK cal i pn sh τ H E J own now goes
    subst eqP eqW eqK
    obtain ⟨dat, lt⟩ := goes
    obtain ⟨w0, w1, w2, w3, w4, w5⟩ := own itr (by simp)
    obtain ⟨nsys, gd, itm, es', ep', dt, szz, ent⟩ := Inv.frzN J dat
    obtain ⟨rfl, rfl⟩ := dict_ep hod dt
    obtain ⟨y, hy⟩ : ∃ p, xs[i]? = some p := ⟨xs[i], List.getElem?_eq_getElem lt⟩
    obtain ⟨ent0, gent, kent⟩ := ent i y hy
    refine next_key_item now gd dt szz gent fun g' st' but => ?_
    have J1 : Inv X pn τ H { sh with heap := g' } := J.turned (t' := sh.toks) (fun b ob2 mb e => (but.2 b mb).trans e) w0 w1 w3 w4 w5
    obtain ⟨ob1, e, c, dd⟩ := id st'
    refine ⟨ent0.key, rfl, go_of (s := { sh with heap := g' }) e c dd (by decide) ⟨.ref y.1, H, J1, kent, ⟨rfl, y, hy, rfl⟩, st', fun b mb => (own b mb).1⟩⟩
  done := by
    intro X eqP eqW eqK cal i pn sh τ H E J own now goes
    subst eqP eqW eqK
    obtain ⟨dat, lt⟩ := goes
    obtain ⟨w0, w1, w2, w3, w4, w5⟩ := own itr (by simp)
    obtain ⟨nsys, gd, itm, es', ep', dt, szz, ent⟩ := Inv.frzN J dat
    obtain ⟨rfl, rfl⟩ := dict_ep hod dt
    exact next_key_end (J.ok.hd cal) now gd dt szz lt fun g' exb => ⟨rfl, J.turned (t' := sh.toks) (fun b ob2 mb e => exb b ob2 mb e) w0 w1 w3 w4 w5⟩
  self := fun A i sh Q E now h => wpAny_pyIter_keyiter now h
def iNd (P : Program) (w : World) (td : TE) : TI := fun τ H R => td τ H fun x H1 => ∃ (d : Addr) (ob0 : Obj) (xs : Ps), x = .ref d ∧ H1 d = some (.frz ob0 (ND P w d xs)) ∧ R (Itn P w d ob0 xs) H1
theorem pi_nd {tg e : Expr} {td : TE} (isE : PE X e td) : PI X tg e (iNd X.prog X.w td) := by
  refine ⟨fun pn sh τ H R J h => ?_⟩
  refine thn (isE.run pn sh τ H _ J h) fun uu s1 ⟨x, H1, J1, rx, d, ob0, xs, ex, dat, q⟩ => ?_
  subst ex
  obtain rfl : uu = Value.ref d := rx
  obtain ⟨nsys, gd, itm, ents, stamp, dt, szz, ent⟩ := Inv.frzN J1 dat
  refine iter_keys nsys gd itm dt (pi_one (tk := s1.toks) J1 _ (turn_nd _ dt) ⟨_, Heap.get?_push_size _ rfl, rfl, ?_⟩ q)
  rw [szz] <;> rfl
theorem walk_nd {P : Program} {w : World} {d : Addr} {ob0 : Obj} {xs : Ps} : Walk (Itn P w d ob0 xs) xs.length (fun H => H d = some (.frz ob0 (ND P w d xs))) (fun i H x H' => H' = H ∧ ∃ y : Addr × Sta, xs[i]? = some y ∧ x = .ref y.1) :=
  ⟨fun _ _ lt q => ⟨q, lt⟩, fun _ q => ⟨q, Nat.le_refl _⟩, fun _ _ _ _ _ _ y => y⟩

/-! ### list(d) -/
def refs (xs : Ps) : List V := xs.map fun x => V.ref x.1
theorem call_list_nd (cal : X.calm = true) : CallR X (.type "list") (fun vs H Q => ∃ (d : Addr) (xs : Ps), vs = [V.ref d] ∧ H d = some (ND X.prog X.w d xs) ∧ ∀ p, H p = none → Q (.ref p) (upd H p (.lst (refs xs)))) := by
  intro pn sh τ H vs us Q J r h
  obtain ⟨d, xs, rfl, dat, q⟩ := h
  obtain ⟨uu, rfl, rx⟩ := r.one
  cases rx
  obtain ⟨⟨a1, a2, a3, ob0, ents, stamp, gob, itm, dt, isE⟩, _⟩ := (show ObjOk X.prog X.w H sh.heap d (ND X.prog X.w d xs) from J.hok d _ dat)
  have l1 : ents.size = xs.length := by
    have := size_of_entries isE
    rw [List.length_map] at this
    exact this
  refine PySem.W.kdl_call (kdl_raw a1 itm dt) (J.ok.hd cal) gob (by omega) fun g' tk made cap kept e itr => ?_
  have ea : made.toList = (xs.map (·.1)).map Value.ref := by
    have lenl : made.toList.length = xs.length := by rw [Array.length_toList, itr.1]; exact l1
    apply List.ext_getElem?
    intro j
    rw [List.getElem?_map, List.getElem?_map]
    cases atj : made.toList[j]? with
    | none =>
      have h1 := List.getElem?_eq_none_iff.mp atj
      rw [List.getElem?_eq_none (by omega)]
      all_goals rfl
    | some v =>
      obtain ⟨ent0, gent, isv⟩ := itr.2 j v (by rw [← Array.getElem?_toList]; exact atj)
      have qent := entry_at isE j
      rw [gent, List.getElem?_map] at qent
      cases mb : xs[j]? with
      | none =>
        rw [mb] at qent
        exact nomatch (show some ent0 = none from qent)
      | some b =>
        rw [mb] at qent
        have e2 : ent0 = entryOfKey (nestedKind X.prog X.w) (entN b) := Option.some.inj qent
        rw [isv, e2]
        all_goals rfl
  have er : refs xs = (xs.map (·.1)).map V.ref := by unfold refs; rw [List.map_map]; rfl
  have rel : Vals (refs xs) made.toList := by rw [ea, er]; exact vals_refs _
  have szs : (refs xs).length ≤ sizeLine := by unfold refs; rw [List.length_map]; omega
  refine ⟨.ref sh.heap.objs.size, _, J.laid (t' := tk) (o := .lst (refs xs)) kept (Nat.le_refl _) ?_, rfl, q _ (J.hok.fresh (Nat.le_refl _))⟩
  exact ⟨szs, made.toList, cap, rel, by rw [Array.toArray_toList]; exact e⟩

/-! ### sorted(list of states) -/
def datT (t : List Int) : PyData := .tuple (t.map PyData.int)
def datS (st : Sta) : PyData := .tuple (st.map datT)
theorem alike_ts : ∀ a b : Sta, PySem.W.alikeAll (a.map datT) (b.map datT) = true
  | [], _ => by simp [PySem.W.alikeAll]
  | _ :: _, [] => by simp [PySem.W.alikeAll]
  | x :: a, y :: b => by
    rw [List.map_cons, List.map_cons, PySem.W.alikeAll, alike_ts a b, Bool.and_true]
    unfold datT
    rw [PySem.W.alike]
    exact PySem.W.alike_ints x y
theorem alike_s (a b : Sta) : PySem.W.alike (datS a) (datS b) = true := by
  unfold datS
  rw [PySem.W.alike]
  exact alike_ts a b
theorem ddepth_ts : ∀ a : Sta, PyData.depthAll (a.map datT) ≤ 1
  | [] => by simp [PyData.depthAll]
  | x :: a => by
    have h := ddepth_ts a
    have e : (datT x).depth ≤ 1 := by
      unfold datT
      rw [PyData.depth, PySem.W.depth_ints]
      exact Nat.le_refl 1
    rw [List.map_cons, PyData.depthAll]
    omega
theorem ddepth_s (a : Sta) : (datS a).depth ≤ 2 := by
  unfold datS
  rw [PyData.depth]
  have h := ddepth_ts a
  omega
theorem dp_ints {K : PySem.W.Frag} {H : Hp} : ∀ t : List Int, DpAll K H (t.map V.int) (t.map PyData.int)
  | [] => .nil
  | x :: t => .cons (.int x) (dp_ints t)
theorem dp_ts {K : PySem.W.Frag} {H : Hp} : ∀ {qs : List Addr} {st : Sta}, Paired (TrAt H) qs st → DpAll K H (qs.map V.ref) (st.map datT)
  | _, _, .nil => .nil
  | _, _, .cons a t => .cons (.tup (.inl (.inl a)) (dp_ints _)) (dp_ts t)
theorem dp_st {K : PySem.W.Frag} {H : Hp} {p : Addr} {st : Sta} (h : StAt H p st) : Dp K H (.ref p) (datS st) := by
  obtain ⟨qs, h1, h2⟩ := h
  exact .tup (.inl (.inl h1)) (dp_ts h2)
open PySem.W in
theorem refs_each {pins : List (Addr × Obj)} {σ : L2.St} {H : Hp} {s : Shared} (I : Inv X pins σ H s) : ∀ {xs : Ps} {its : List Value}, AllSt H xs → Vals (refs xs) its →
    EachIs (fun v (b : Addr × Sta) => v = Value.ref b.1) its xs ∧ EachIs (fun v (b : Addr × Sta) => ∃ as, Reads s.heap v (datS b.2) as) its xs
  | [], _, _, r => by
    unfold refs at r
    rw [List.map_nil] at r
    cases r
    exact ⟨.nil, .nil⟩
  | x :: xs, _, a, r => by
    unfold refs at r
    rw [List.map_cons] at r
    cases r with
    | cons h t =>
      cases h
      obtain ⟨i1, i2⟩ := refs_each I (fun y m => a y (List.mem_cons_of_mem _ m)) t
      exact ⟨.cons rfl i1, .cons (Dp.reads I _ _ _ (dp_st (a x List.mem_cons_self)) rfl) i2⟩
open PySem.W in
theorem each_refs : ∀ {out : List Value} {ys : Ps}, EachIs (fun v (b : Addr × Sta) => v = Value.ref b.1) out ys → Vals (refs ys) out
  | _, _, .nil => .nil
  | _, _, .cons h t => .cons h (each_refs t)
/-- sorted of a list of states: some arrangement of them -/
theorem call_sorted_st (hc : X.calm = true) (hu : X.A.units + 64 < cLine) : CallR X (.builtin "sorted") (fun vs H Q => ∃ (l : Addr) (xs : Ps), vs = [V.ref l] ∧ SqL X.K H l (refs xs) ∧ AllSt H xs ∧ (∀ x ∈ xs, x.2 ≠ []) ∧
    ∀ p ys, ys.Perm xs → H p = none → Q (.ref p) (upd H p (.lst (refs ys)))) := by
  intro pins s σ H vs us Q I r h
  obtain ⟨l, xs, rfl, hl, ha, hn, q⟩ := h
  obtain ⟨u, rfl, rx⟩ := r.one
  cases rx
  obtain ⟨its, rv, pl, hz⟩ := I.list hl
  obtain ⟨e1, e2⟩ := refs_each I ha rv
  have hlen : xs.length ≤ sizeLine := by
    unfold refs at hz
    rw [List.length_map] at hz
    exact hz
  refine PySem.W.sorted_data (enc := fun b : Addr × Sta => datS b.2) pl.isList e1 e2 (PySem.W.AllAlike.of fun a b => alike_s a.2 b.2) (.inl fun d hd => ?_) hlen (fun b _ => ?_) fun out ho eo => ?_
  · obtain ⟨x, hx, rfl⟩ := List.mem_map.mp hd
    have h1 := hn x hx
    cases e : x.2 with
    | nil => exact absurd e h1
    | cons t r =>
      refine ⟨datT t, r.map datT, ?_⟩
      rfl
  · have h := ddepth_s b.2
    show X.A.units + 2 + (datS b.2).depth < cLine
    omega
  · have pm := List.mergeSort_perm xs (PySem.W.dataLe false fun b : Addr × Sta => datS b.2)
    obtain ⟨c, hcc⟩ := PyProof.Rows.sortedAll_at s.heap its out.toArray
    have hz2 : (refs (xs.mergeSort (PySem.W.dataLe false fun b : Addr × Sta => datS b.2))).length ≤ sizeLine := by
      unfold refs
      rw [List.length_map, pm.length_eq]
      exact hlen
    refine ⟨.ref (s.heap.objs.size + 1), _, I.laid (t' := s.toks) (a := s.heap.objs.size + 1) (o := .lst (refs (xs.mergeSort (PySem.W.dataLe false fun b : Addr × Sta => datS b.2)))) (fun _ _ => PyProof.Rows.sortedAll_old) (Nat.le_succ _) ?_, rfl, q _ _ pm (I.hok.fresh (Nat.le_succ _))⟩
    exact ⟨hz2, out, c, each_refs eo, hcc⟩
end
end K27
/-! the mathematics: what the program reckons, as plain functions; no program in sight -/
namespace K27
/-! ### ints -/
def fac : Nat → Int
  | 0 => 1
  | n + 1 => fac n * ((n : Int) + 1)
def chI (n : Int) : Nat → Int
  | 0 => 1
  | k + 1 => (chI n k * (n - (k : Int))) / ((k : Int) + 1)
def cho (n k : Int) : Int := if 0 ≤ k ∧ k ≤ n then chI n k.toNat else 0
def nst (s : Int) : Nat → Int
  | 0 => 1
  | k + 1 => nst s k * (s + (k : Int))
def rat (a b : Int) : Int × Int := (a / (Int.gcd a b : Nat), b / (Int.gcd a b : Nat))
def mts (c s : Int) : Nat → Int
  | 0 => 0
  | k + 1 => mts c s k + fac (c - 1).toNat * ((k : Int) + 1) * ((k : Int) + 1) * cho s ((k : Int) + 1) * cho c ((k : Int) + 1)
/-- the mean number of trains -/
def mt (c s : Int) : Int × Int := rat (mts c s c.toNat) (nst s c.toNat)

/-! ### states -/
def emp (st : List (List Int)) (i : Nat) : Bool := (st.getD i []).isEmpty
def gapFrom (st : List (List Int)) (i : Nat) : Nat → Nat → Int
  | 0, _ => (st.length : Int)
  | fuel + 1, g => if emp st ((i + g) % st.length) = true then gapFrom st i fuel (g + 1) else (g : Int)
def gapIn (st : List (List Int)) (i : Nat) : Int := gapFrom st i st.length 1
/-- the stations with trains -/
def ocs (st : List (List Int)) : List Nat := (List.range st.length).filter fun i => !emp st i
def gaps (st : List (List Int)) : List Int := (ocs st).map (gapIn st)
def maxL (ns : List Int) : Int := ns.foldl max (ns.headD 0)
def sqs (st : List (List Int)) : Int := ((gaps st).map fun g => g * g).sum
def few (s : Int) (st : List (List Int)) : Int := s - maxL (gaps st)
def chc (s : Int) (st : List (List Int)) : Int := (s * s - sqs st) / 2

def insT (t : List Int) (p : Nat) (c : Int) : List Int := t.take p ++ c :: t.drop p
def putS (st : List (List Int)) (i : Nat) (t : List Int) : List (List Int) := st.take i ++ t :: st.drop (i + 1)
def growT (c : Int) (st : List (List Int)) (i : Nat) : List (List (List Int)) := (List.range ((st.getD i []).length + 1)).map fun p => putS st i (insT (st.getD i []) p c)
def growS (c : Int) (st : List (List Int)) : List (List (List Int)) := (List.range st.length).flatMap (growT c st)
def grow (c : Int) (xs : List (List (List Int))) : List (List (List Int)) := xs.flatMap (growS c)
def gen (s : Nat) : Nat → List (List (List Int))
  | 0 => [List.replicate s []]
  | k + 1 => grow (k : Int) (gen s k)
/-- a state of c cars and s stations -/
def okS (c s : Nat) (st : List (List Int)) : Bool := st.length == s && decide st.flatten.Nodup && st.flatten.all (fun x => decide (0 ≤ x) && decide (x < (c : Int))) && st.flatten.length == c

/-- a state as one number, for a quick look that no two are alike -/
def codeT (n : Nat) (t : List Int) : Nat := t.foldl (fun n x => n * 16 + (x.toNat + 2)) (n * 16 + 1)
def codeS (st : List (List Int)) : Nat := st.foldl codeT 0
theorem nodup_code {l : List (List (List Int))} (h : (l.map codeS).Nodup) : l.Nodup :=
  List.Pairwise.of_map codeS (fun a b hab e => hab (by rw [e])) h
/-- what is asked of a yard of few states -/
def good (c s : Nat) : Bool :=
  decide (1 ≤ c) && decide (c ≤ 7) && decide (2 ≤ s) && decide (s ≤ 8) &&
  (List.range (c + 1)).all (fun k => decide ((gen s k).map codeS).Nodup && decide ((gen s k).length ≤ 1000) && (gen s k).all (fun st => st.length == s && st.all (fun t => decide (t.length ≤ 7)))) &&
  (gen s c).all (fun st => okS c s st && !(gaps st).isEmpty) &&
  decide (0 < (gen s c).length) &&
  decide (nst s c ≤ 20000) &&
  decide (mt c s = rat ((gen s c).map (fun st => ((ocs st).length : Int))).sum (gen s c).length) &&
  decide (rat (s * s * (gen s c).length - ((gen s c).map sqs).sum) (2 * (gen s c).length) = rat ((gen s c).map (chc s)).sum (gen s c).length)
def fewYards : List (Int × Int) := [(1, 5), (2, 4), (3, 3), (3, 4), (2, 6), (4, 3), (3, 2), (4, 2), (2, 2)]
theorem all_good : ∀ y ∈ fewYards, good y.1.toNat y.2.toNat = true := by decide +kernel
theorem big_mt : ∀ c : Fin 7, ∀ s : Fin 7, mt ((c.val : Int) + 1) ((s.val : Int) + 2) = rat (((c.val : Int) + 1) * ((s.val : Int) + 2)) (((c.val : Int) + 1) + ((s.val : Int) + 2) - 1) := by decide +kernel
end K27
namespace K27
open PySem PySem.Spec PyProof.Rows L2
def topS (i : Nat) : Stmt := PySem.Challenge.pw_trainring_k27_whole_means_of_all_states.main.body.getD i (.Pass ⟨0, 0, 0, 0⟩)
theorem sc_is_integer : FnScope ["value"] ["value"] (defScope (topS 1)) := ⟨rfl, rfl, rfl, by decide +kernel, rfl, by decide +kernel, by decide +kernel⟩
theorem sc_is_in : FnScope ["value", "least", "most"] ["value", "least", "most"] (defScope (topS 2)) := ⟨rfl, rfl, rfl, by decide +kernel, rfl, by decide +kernel, by decide +kernel⟩
theorem sc_is_list : FnScope ["value", "least", "most"] ["value", "least", "most"] (defScope (topS 3)) := ⟨rfl, rfl, rfl, by decide +kernel, rfl, by decide +kernel, by decide +kernel⟩
theorem sc_need_yard : FnScope ["yard"] ["yard"] (defScope (topS 13)) := ⟨rfl, rfl, rfl, by decide +kernel, rfl, by decide +kernel, by decide +kernel⟩
theorem sc_need_trains : FnScope ["yard", "state", "cars", "stations", "met", "index", "train", "car"] ["yard", "state"] (defScope (topS 14)) := ⟨rfl, rfl, rfl, by decide +kernel, rfl, by decide +kernel, by decide +kernel⟩
theorem sc_need_state : FnScope ["yard", "state"] ["yard", "state"] (defScope (topS 15)) := ⟨rfl, rfl, rfl, by decide +kernel, rfl, by decide +kernel, by decide +kernel⟩
theorem sc_trains_in : FnScope ["state", "station", "train"] ["state"] (defScope (topS 16)) := ⟨rfl, rfl, rfl, by decide +kernel, rfl, by decide +kernel, by decide +kernel⟩
theorem sc_all_states : FnScope ["yard", "cars", "stations", "found", "car", "later", "state", "station", "train", "place", "longer", "there"] ["yard"] (defScope (topS 17)) := ⟨rfl, rfl, rfl, by decide +kernel, rfl, by decide +kernel, by decide +kernel⟩
theorem sc_number_of_states : FnScope ["yard", "cars", "stations", "found", "car"] ["yard"] (defScope (topS 18)) := ⟨rfl, rfl, rfl, by decide +kernel, rfl, by decide +kernel, by decide +kernel⟩
theorem sc_choose : FnScope ["many", "some", "found", "number"] ["many", "some"] (defScope (topS 19)) := ⟨rfl, rfl, rfl, by decide +kernel, rfl, by decide +kernel, by decide +kernel⟩
theorem sc_factorial : FnScope ["many", "found", "number"] ["many"] (defScope (topS 20)) := ⟨rfl, rfl, rfl, by decide +kernel, rfl, by decide +kernel, by decide +kernel⟩
theorem sc_gap_in : FnScope ["state", "station", "gap"] ["state", "station"] (defScope (topS 22)) := ⟨rfl, rfl, rfl, by decide +kernel, rfl, by decide +kernel, by decide +kernel⟩
theorem sc_all_gaps : FnScope ["state", "station", "train"] ["state"] (defScope (topS 24)) := ⟨rfl, rfl, rfl, by decide +kernel, rfl, by decide +kernel, by decide +kernel⟩
theorem sc_calls_to_one : FnScope ["yard", "state"] ["yard", "state"] (defScope (topS 25)) := ⟨rfl, rfl, rfl, by decide +kernel, rfl, by decide +kernel, by decide +kernel⟩
theorem sc_shared : FnScope ["one", "other"] ["one", "other"] (defScope (topS 27)) := ⟨rfl, rfl, rfl, by decide +kernel, rfl, by decide +kernel, by decide +kernel⟩
theorem sc_ratio : FnScope ["top", "low", "part"] ["top", "low"] (defScope (topS 28)) := ⟨rfl, rfl, rfl, by decide +kernel, rfl, by decide +kernel, by decide +kernel⟩
theorem sc_mean_calls : FnScope ["yard", "state", "gap"] ["yard", "state"] (defScope (topS 30)) := ⟨rfl, rfl, rfl, by decide +kernel, rfl, by decide +kernel, by decide +kernel⟩
theorem sc_mean_trains : FnScope ["yard", "cars", "stations", "whole", "many"] ["yard"] (defScope (topS 32)) := ⟨rfl, rfl, rfl, by decide +kernel, rfl, by decide +kernel, by decide +kernel⟩
theorem sc_need_all : FnScope ["yard"] ["yard"] (defScope (topS 33)) := ⟨rfl, rfl, rfl, by decide +kernel, rfl, by decide +kernel, by decide +kernel⟩
theorem sc_mean_fewest : FnScope ["yard", "some", "state"] ["yard"] (defScope (topS 34)) := ⟨rfl, rfl, rfl, by decide +kernel, rfl, by decide +kernel, by decide +kernel⟩
theorem sc_mean_by_chance : FnScope ["yard", "some", "squares", "state", "gap"] ["yard"] (defScope (topS 35)) := ⟨rfl, rfl, rfl, by decide +kernel, rfl, by decide +kernel, by decide +kernel⟩
theorem sc__law_taken : FnScope ["_law_row", "_law_many", "_law_found", "_law_cell"] ["_law_row", "_law_many"] (defScope (topS 37)) := ⟨rfl, rfl, rfl, by decide +kernel, rfl, by decide +kernel, by decide +kernel⟩
theorem sc__law_pick : FnScope ["_law_row", "_law_things"] ["_law_row", "_law_things"] (defScope (topS 38)) := ⟨rfl, rfl, rfl, by decide +kernel, rfl, by decide +kernel, by decide +kernel⟩
theorem sc__law_alike : FnScope ["_law_found", "_law_due", "_law_k"] ["_law_found", "_law_due"] (defScope (topS 39)) := ⟨rfl, rfl, rfl, by decide +kernel, rfl, by decide +kernel, by decide +kernel⟩
theorem sc__law_gcd : FnScope ["_law_one", "_law_other"] ["_law_one", "_law_other"] (defScope (topS 40)) := ⟨rfl, rfl, rfl, by decide +kernel, rfl, by decide +kernel, by decide +kernel⟩
theorem sc__law_lowest : FnScope ["_law_numerator", "_law_denominator", "_law_common"] ["_law_numerator", "_law_denominator"] (defScope (topS 41)) := ⟨rfl, rfl, rfl, by decide +kernel, rfl, by decide +kernel, by decide +kernel⟩
theorem sc__law_yard : FnScope ["_law_row", "_law_cars", "_law_stations"] ["_law_row", "_law_cars", "_law_stations"] (defScope (topS 42)) := ⟨rfl, rfl, rfl, by decide +kernel, rfl, by decide +kernel, by decide +kernel⟩
theorem sc__law_taken_stations : FnScope ["_law_state", "_law_station"] ["_law_state"] (defScope (topS 43)) := ⟨rfl, rfl, rfl, by decide +kernel, rfl, by decide +kernel, by decide +kernel⟩
theorem sc__law_states : FnScope ["_law_yard_here", "_law_found", "_law_car", "_law_later", "_law_state", "_law_station", "_law_train", "_law_place"] ["_law_yard_here"] (defScope (topS 44)) := ⟨rfl, rfl, rfl, by decide +kernel, rfl, by decide +kernel, by decide +kernel⟩
theorem sc__law_few : FnScope ["_law_row"] ["_law_row"] (defScope (topS 45)) := ⟨rfl, rfl, rfl, by decide +kernel, rfl, by decide +kernel, by decide +kernel⟩
theorem sc_law : FnScope ["_law_script", "_law_row", "_law_yard_here", "_law_some", "_law_big", "_law_state"] ["_law_script"] (defScope (topS 46)) := ⟨rfl, rfl, rfl, by decide +kernel, rfl, by decide +kernel, by decide +kernel⟩
/-- names that the module leaves to the builtins -/
structure Bl (mg : Str → Option Value) : Prop where
  b_isinstance : mg "isinstance" = none
  b_int : mg "int" = none
  b_bool : mg "bool" = none
  b_tuple : mg "tuple" = none
  b_len : mg "len" = none
  b_enumerate : mg "enumerate" = none
  b_range : mg "range" = none
  b_sorted : mg "sorted" = none
  b_list : mg "list" = none
  b_max : mg "max" = none
  b_abs : mg "abs" = none
  b_sum : mg "sum" = none
  b_str : mg "str" = none
/-- a def that stands behind the top under its own name, with its promise -/
structure Cal (P : Program) (w : World) (K : PySem.W.Frag) (mg : Str → Option Value) (base : Heap) (x : Str) (ps : List Str) (k : Nat) (sp : Sp) : Prop where
  ex : ∃ (f : Addr) (fd : FuncData), FnOk P w K mg base CX0 k f fd ps sp ∧ mg x = some (.ref f) ∧ PySem.W.keepIn K (.ref f) = true ∧ Binds K fd ps []
theorem Cal.mono {P : Program} {w : World} {K : PySem.W.Frag} {mg : Str → Option Value} {base : Heap} {x : Str} {ps : List Str} {j k : Nat} {sp : Sp} (C : Cal P w K mg base x ps j sp) (h : j ≤ k) : Cal P w K mg base x ps k sp := by
  obtain ⟨f, fd, F, g, kp, b⟩ := C.ex
  exact ⟨f, fd, F.mono h, g, kp, b⟩
theorem pe_cal {X : Cx} {x : Str} {ps : List Str} {k : Nat} {sp : Sp} {p pos : Pos} {e : Expr} {es : List Expr} {t : TA} (C : Cal X.prog X.w X.K X.mg X.base x ps k sp) (hr : Room k X.A) (ha : PA X (e :: es) t) (hg : Gl X x := by rfl)
    (hdebug : (x == ("__debug__" : Str)) = false := by decide) (he : starEach (e :: es) X.env = (false, eval e X.env) :: starEach es X.env := by rfl) (hpl : (backTo pos (starEach es X.env)).any (·.1) = false := by rfl) :
    PE X (.Call (.Name x p) (e :: es) [] pos) (tCall sp [] E0 t) := by
  obtain ⟨f, fd, F, g, kp, b⟩ := C.ex
  exact pe_call F hr hg g kp b .nil pass0 ha hdebug he hpl
/-- a def as it stands behind the top -/
structure Dn (K : PySem.W.Frag) (mg : Str → Option Value) (x : Str) (st : Stmt) (ps : List Str) : Prop where
  ex : ∃ (f : Addr) (fd : FuncData), Fun K x x st f fd ∧ mg x = some (.ref f) ∧ Binds K fd ps []
/-- the rule for such a def -/
theorem Dn.ok {P : Program} {w : World} {K : PySem.W.Frag} {mg : Str → Option Value} {base : Heap} {x : Str} {st : Stmt} {N ps : List Str} {k : Nat} {sp : Sp} (D : Dn K mg x st ps) (S : FnScope N ps (defScope st)) (len : ∀ vs H Q E, sp vs H Q E → vs.length = ps.length)
    (hbody : ∀ (f : Addr) (cdv : Value) (A : Around) (outer : List Env) (s : Shared) (H : Hp) (vs : List V) (Q : VK) (E : XK), Room k (A.deeper (envOfC x (defScope st) s.heap.objs.size f cdv)) → sp vs H Q E →
      ∃ t, PSs (cxOf CX0 P w K mg base N x (defScope st) f cdv A outer s H E).nox (defBody st) t ∧ t { nx := fun _ H' => Q .non H', rt := Q } (start N vs) H) : Cal P w K mg base x ps (k + 1) sp := by
  obtain ⟨f, fd, F, g, b⟩ := D.ex
  exact ⟨f, fd, F.ok S len fun cdv A outer s H vs Q E hr h => hbody f cdv A outer s H vs Q E hr h, g, F.kp, b⟩
/-! ### heaps -/
theorem same_new {H : Hp} {p : Addr} {o : HO} (h : H p = none) : Same H (upd H p o) := fun b x e => by
  rw [upd_ne (ne_of_none e h)]
  exact e
/-- what a heap did not have may change -/
theorem same_mut {H H' : Hp} {p : Addr} {o : HO} (e : Same H H') (h : H p = none) : Same H (upd H' p o) := fun b x hb => by
  rw [upd_ne (ne_of_none hb h)]
  exact e b x hb
theorem upd_self {H : Hp} {a : Addr} {o : HO} (h : H a = some o) : upd H a o = H := by
  funext b
  by_cases e : b = a
  · subst e
    rw [upd_same, h]
  · rw [upd_ne e]
theorem blT {Q : VK} {H : Hp} {p : Prop} [Decidable p] (h : p) (q : Q (.bl true) H) : Q (.bl (decide p)) H := by
  rw [decide_eq_true h]
  exact q
theorem blF {Q : VK} {H : Hp} {p : Prop} [Decidable p] (h : ¬ p) (q : Q (.bl false) H) : Q (.bl (decide p)) H := by
  rw [decide_eq_false h]
  exact q
theorem iteD {c A B : Prop} [Decidable c] (h : c) (x : A) : if decide c = true then A else B := by
  rw [decide_eq_true h]
  exact iteT x
theorem iteDF {c A B : Prop} [Decidable c] (h : ¬ c) (x : B) : if decide c = true then A else B := by
  rw [decide_eq_false h]
  exact iteF x
theorem tyes {σ : L2.St} {H : Hp} {F G : Hp → Prop} (h : F H) : tYes σ H fun b H3 => if b = true then F H3 else G H3 := by
  show if true = true then F H else G H
  rw [if_pos rfl]
  exact h
/-- two places that hold what differs -/
theorem two_ne {H : Hp} {a b : Addr} {o : HO} (ha : H a = some o) (hb : H b = none) : a ≠ b := ne_of_none ha hb
end K27
namespace K27
open PySem PySem.Spec PyProof.Rows L2
section
variable {P : Program} {w : World} {K : PySem.W.Frag} {mg : Str → Option Value} {base : Heap}
/-- is_integer of an int -/
def spIsInteger : Sp := fun vs H Q _ => ∃ i : Int, vs = [.int i] ∧ Q (.bl true) H
theorem ok_is_integer (D : Dn K mg "is_integer" (topS 1) ["value"]) (B : Bl mg) : Cal P w K mg base "is_integer" ["value"] 1 spIsInteger := by
  refine D.ok sc_is_integer (fun vs H Q E h => ?_) (fun f cdv A outer s H vs Q E hr h => ?_)
  · obtain ⟨i, rfl, _⟩ := h
    rfl
  · obtain ⟨i, rfl, q⟩ := h
    refine ⟨_, pss_one (ps_ret (pe_and (pe_callB call_isi rfl B.b_isinstance (by decide +kernel) (pa_cons (pv 0) (pa_cons (pe_bltn (v := .ty "int") rfl B.b_int (by decide +kernel) rfl) pa_nil)))
      (pe_one (pe_not (pe_callB call_isi rfl B.b_isinstance (by decide +kernel) (pa_cons (pv 0) (pa_cons (pe_bltn (v := .ty "bool") rfl B.b_bool (by decide +kernel) rfl) pa_nil))))))), ?_⟩
    refine ⟨.int i, rfl, .int i, .ty "int", _, _, true, rfl, .ty _, .base (.int i), kit_ty (by decide +kernel), true, rfl, iteT ?_⟩
    exact ⟨.int i, rfl, .int i, .ty "bool", _, _, false, rfl, .ty _, .base (.int i), kit_ty (by decide +kernel), false, rfl, q⟩
/-- is_in of an int that is in the range -/
def spIsIn : Sp := fun vs H Q _ => ∃ i a b : Int, vs = [.int i, .int a, .int b] ∧ a ≤ i ∧ i ≤ b ∧ Q (.bl true) H
theorem ok_is_in (D : Dn K mg "is_in" (topS 2) ["value", "least", "most"]) (C1 : Cal P w K mg base "is_integer" ["value"] 1 spIsInteger) : Cal P w K mg base "is_in" ["value", "least", "most"] 2 spIsIn := by
  refine D.ok sc_is_in (fun vs H Q E h => ?_) (fun f cdv A outer s H vs Q E hr h => ?_)
  · obtain ⟨i, a, b, rfl, _⟩ := h
    rfl
  · obtain ⟨i, a, b, rfl, h1, h2, q⟩ := h
    refine ⟨_, pss_one (ps_ret (pe_and (pe_cal C1 hr (pa_cons (pv 0) pa_nil)) (pe_one (pe_chain op_le op_le (pv 1) (pv 0) (pv 2))))), ?_⟩
    refine ⟨.int i, rfl, i, rfl, true, rfl, iteT ?_⟩
    refine ⟨.int a, rfl, .int i, rfl, a, i, rfl, rfl, decide (a ≤ i), rfl, iteD h1 ?_⟩
    exact ⟨.int b, rfl, i, b, rfl, rfl, blT h2 q⟩
/-- is_list of a tuple of a length in the range -/
def spIsList : Sp := fun vs H Q _ => ∃ (p : Addr) (xs : List V) (a b : Int), vs = [.ref p, .int a, .int b] ∧ H p = some (.tup xs) ∧ a ≤ (xs.length : Int) ∧ (xs.length : Int) ≤ b ∧ Q (.bl true) H
theorem ok_is_list (D : Dn K mg "is_list" (topS 3) ["value", "least", "most"]) (B : Bl mg) : Cal P w K mg base "is_list" ["value", "least", "most"] 1 spIsList := by
  refine D.ok sc_is_list (fun vs H Q E h => ?_) (fun f cdv A outer s H vs Q E hr h => ?_)
  · obtain ⟨p, xs, a, b, rfl, _⟩ := h
    rfl
  · obtain ⟨p, xs, a, b, rfl, hp, h1, h2, q⟩ := h
    refine ⟨_, pss_one (ps_ret (pe_and (pe_callB call_isi rfl B.b_isinstance (by decide +kernel) (pa_cons (pv 0) (pa_cons (pe_bltn (v := .ty "tuple") rfl B.b_tuple (by decide +kernel) rfl) pa_nil)))
      (pe_one (pe_chain op_le op_le (pv 1) (pe_callB call_len_seq rfl B.b_len PySem.boot_len (pa_cons (pv 0) pa_nil)) (pv 2))))), ?_⟩
    refine ⟨.ref p, rfl, .ref p, .ty "tuple", _, _, true, rfl, .ty _, .base (.tup hp), kit_ty (by decide +kernel), true, rfl, iteT ?_⟩
    refine ⟨.int a, rfl, .ref p, rfl, p, xs, rfl, .inr (.of hp), a, _, rfl, rfl, decide (a ≤ (xs.length : Int)), rfl, iteD h1 ?_⟩
    exact ⟨.int b, rfl, _, b, rfl, rfl, blT h2 q⟩
/-- a yard at y -/
def YardAt (H : Hp) (y : Addr) (c s : Int) : Prop := H y = some (.tup [.int c, .int s]) ∧ 1 ≤ c ∧ c ≤ 7 ∧ 2 ≤ s ∧ s ≤ 8
theorem YardAt.same {H H' : Hp} {y : Addr} {c s : Int} (e : Same H H') (h : YardAt H y c s) : YardAt H' y c s := ⟨e _ _ h.1, h.2⟩
theorem yard0 {xs : List V} {c s : V} (e : xs = [c, s]) : atI xs 0 = some c := by subst e; rfl
theorem yard1 {xs : List V} {c s : V} (e : xs = [c, s]) : atI xs 1 = some s := by subst e; rfl
def spNeedYard : Sp := fun vs H Q _ => ∃ (y : Addr) (c s : Int), vs = [.ref y] ∧ YardAt H y c s ∧ Q .non H
/-- the module's numbers -/
structure Cst (mg : Str → Option Value) : Prop where
  cars : ∃ t, mg "MOST_CARS" = some (.int 7 t)
  stations : ∃ t, mg "MOST_STATIONS" = some (.int 8 t)
  states : ∃ t, mg "MOST_STATES" = some (.int 20000 t)
theorem ok_need_yard (D : Dn K mg "need_yard" (topS 13) ["yard"]) (M : Cst mg) (C1 : Cal P w K mg base "is_in" ["value", "least", "most"] 2 spIsIn) (C2 : Cal P w K mg base "is_list" ["value", "least", "most"] 1 spIsList) : Cal P w K mg base "need_yard" ["yard"] 3 spNeedYard := by
  refine D.ok sc_need_yard (fun vs H Q E h => ?_) (fun f cdv A outer s H vs Q E hr h => ?_)
  · obtain ⟨y, c, st, rfl, _⟩ := h
    rfl
  · obtain ⟨y, c, st, rfl, ⟨hy, h1, h2, h3, h4⟩, q⟩ := h
    obtain ⟨t1, m1⟩ := M.cars
    obtain ⟨t2, m2⟩ := M.stations
    refine ⟨_, pss_one (ps_if (PW.pt (pw_or (pt_not (pt_val (pe_cal C2 (hr.mono (by decide)) (pa_cons (pv 0) (pa_cons pe_int (pa_cons pe_int pa_nil))))))
      (pw_or (pt_not (pt_val (pe_cal C1 hr (pa_cons (pe_ix ix_tup (pv 0) pe_int (fun _ _ => rfl)) (pa_cons pe_int (pa_cons (pe_glob (v := .int 7) rfl m1 ⟨_, rfl⟩) pa_nil))))))
      (pw_or1 (pt_not (pt_val (pe_cal C1 hr (pa_cons (pe_ix ix_tup (pv 0) pe_int (fun _ _ => rfl)) (pa_cons pe_int (pa_cons (pe_glob (v := .int 8) rfl m2 ⟨_, rfl⟩) pa_nil)))))))))) (pss_one ps_never) pss_nil), ?_⟩
    refine ⟨.ref y, rfl, y, _, 2, 2, rfl, hy, Int.le_refl 2, Int.le_refl 2, true, rfl, iteF ?_⟩
    refine ⟨.ref y, rfl, y, _, 0, .int c, rfl, rfl, .of hy, rfl, c, 1, 7, rfl, h1, h2, true, rfl, iteF ?_⟩
    refine ⟨.ref y, rfl, y, _, 1, .int st, rfl, rfl, .of hy, rfl, st, 2, 8, rfl, h3, h4, true, rfl, iteF ?_⟩
    exact q
end
end K27
namespace K27
open PySem PySem.Spec PyProof.Rows L2
section
variable {P : Program} {w : World} {K : PySem.W.Frag} {mg : Str → Option Value} {base : Heap}
def spNumber : Sp := fun vs H Q _ => ∃ (y : Addr) (c s : Int), vs = [.ref y] ∧ YardAt H y c s ∧ Q (.int (nst s c.toNat)) H
theorem ok_number (D : Dn K mg "number_of_states" (topS 18) ["yard"]) (B : Bl mg) : Cal P w K mg base "number_of_states" ["yard"] 1 spNumber := by
  refine D.ok sc_number_of_states (fun vs H Q E h => ?_) (fun f cdv A outer s H vs Q E hr h => ?_)
  · obtain ⟨y, c, st, rfl, _⟩ := h
    rfl
  · obtain ⟨y, c, st, rfl, ⟨hy, h1, h2, h3, h4⟩, q⟩ := h
    refine ⟨_, pss_cons (ps_asg (pv 0) (pg_tup rfl (pgs_cons (pg_name (i := 1) sc_number_of_states.nd rfl (Or.inl rfl)) (pgs_cons (pg_name (i := 2) sc_number_of_states.nd rfl (Or.inl rfl)) pgs_nil))))
      (pss_cons (ps_set (i := 3) sc_number_of_states.nd rfl (Or.inl rfl) pe_int)
      (pss_cons (ps_for PassesOwn.never rfl (pi_range1 rfl B.b_range (pa_cons (pv 1) pa_nil)) (pg_name (i := 4) sc_number_of_states.nd rfl (Or.inl rfl))
        (pss_one (ps_set (i := 3) sc_number_of_states.nd rfl (Or.inl rfl) (pe_op op_mul (pv 3) (pe_op op_add (pv 2) (pv 4))))))
      (pss_one (ps_ret (pv 3))))), ?_⟩
    refine ⟨.ref y, rfl, y, _, rfl, .of hy, rfl, _, _, rfl, _, _, rfl, rfl, ?_⟩
    refine ⟨.int c, rfl, c, rfl, by omega, by omega, ?_⟩
    refine for_range (lo := 0) (n := c.toNat) (fun i σ H' => ∃ z, σ = [some (.ref y), some (.int c), some (.int st), some (.int (nst st i)), z] ∧ H' = H) ⟨none, rfl, rfl⟩ (fun i σ H' hi hp => ?_) (fun σ H' hp => ?_)
    · obtain ⟨z, rfl, rfl⟩ := hp
      refine ⟨_, rfl, .int st, rfl, .int (0 + (i : Int)), rfl, _, _, rfl, rfl, _, _, rfl, rfl, .inr ⟨by omega, by omega⟩, some (.int (0 + (i : Int))), ?_, rfl⟩
      rw [Int.zero_add]
      rfl
    · obtain ⟨z, rfl, rfl⟩ := hp
      exact ⟨_, rfl, q⟩
def spFac : Sp := fun vs H Q _ => ∃ m : Int, vs = [.int m] ∧ 0 ≤ m ∧ m ≤ 100 ∧ Q (.int (fac m.toNat)) H
theorem ok_factorial (D : Dn K mg "factorial" (topS 20) ["many"]) (B : Bl mg) : Cal P w K mg base "factorial" ["many"] 1 spFac := by
  refine D.ok sc_factorial (fun vs H Q E h => ?_) (fun f cdv A outer s H vs Q E hr h => ?_)
  · obtain ⟨m, rfl, _⟩ := h
    rfl
  · obtain ⟨m, rfl, h1, h2, q⟩ := h
    refine ⟨_, pss_cons (ps_set (i := 1) sc_factorial.nd rfl (Or.inl rfl) pe_int)
      (pss_cons (ps_for PassesOwn.never rfl (pi_range2 rfl B.b_range (pa_cons pe_int (pa_cons (pe_op op_add (pv 0) pe_int) pa_nil))) (pg_name (i := 2) sc_factorial.nd rfl (Or.inl rfl))
        (pss_one (ps_set (i := 1) sc_factorial.nd rfl (Or.inl rfl) (pe_op op_mul (pv 1) (pv 2)))))
      (pss_one (ps_ret (pv 1)))), ?_⟩
    refine ⟨.int m, rfl, m, 1, rfl, rfl, 2, m + 1, rfl, by omega, ?_⟩
    refine for_range (lo := 2) (n := (m + 1 - 2).toNat) (fun i σ H' => ∃ z, σ = [some (.int m), some (.int (fac (i + 1))), z] ∧ H' = H) ⟨none, rfl, rfl⟩ (fun i σ H' hi hp => ?_) (fun σ H' hp => ?_)
    · obtain ⟨z, rfl, rfl⟩ := hp
      refine ⟨_, rfl, .int (2 + (i : Int)), rfl, _, _, rfl, rfl, .inr ⟨by omega, by omega⟩, some (.int (2 + (i : Int))), ?_, rfl⟩
      rw [show (2 : Int) + (i : Int) = ((i + 1 : Nat) : Int) + 1 by omega]
      rfl
    · obtain ⟨z, rfl, rfl⟩ := hp
      refine ⟨_, rfl, ?_⟩
      by_cases e : m = 0
      · subst e
        exact q
      · rw [show (m + 1 - 2).toNat + 1 = m.toNat by omega]
        exact q
def spCho : Sp := fun vs H Q _ => ∃ n k : Int, vs = [.int n, .int k] ∧ -100 ≤ n ∧ n ≤ 100 ∧ -100 ≤ k ∧ k ≤ 100 ∧ Q (.int (cho n k)) H
theorem ok_choose (D : Dn K mg "choose" (topS 19) ["many", "some"]) (B : Bl mg) : Cal P w K mg base "choose" ["many", "some"] 1 spCho := by
  refine D.ok sc_choose (fun vs H Q E h => ?_) (fun f cdv A outer s H vs Q E hr h => ?_)
  · obtain ⟨n, k, rfl, _⟩ := h
    rfl
  · obtain ⟨n, k, rfl, h1, h2, h3, h4, q⟩ := h
    refine ⟨_, pss_cons (ps_if (pt_not (pt_chain op_le op_le pe_int (pv 1) (pv 0))) (pss_one (ps_ret pe_int)) pss_nil)
      (pss_cons (ps_set (i := 2) sc_choose.nd rfl (Or.inl rfl) pe_int)
      (pss_cons (ps_for PassesOwn.never rfl (pi_range1 rfl B.b_range (pa_cons (pv 1) pa_nil)) (pg_name (i := 3) sc_choose.nd rfl (Or.inl rfl))
        (pss_one (ps_set (i := 2) sc_choose.nd rfl (Or.inl rfl) (pe_op op_fdiv (pe_op op_mul (pv 2) (pe_op op_sub (pv 0) (pv 3))) (pe_op op_add (pv 3) pe_int)))))
      (pss_one (ps_ret (pv 2))))), ?_⟩
    refine ⟨.int k, rfl, 0, k, rfl, rfl, decide (0 ≤ k), rfl, ?_⟩
    have out : ¬ (0 ≤ k ∧ k ≤ n) → Q (.int 0) H := fun hn => by
      unfold cho at q
      rw [if_neg hn] at q
      exact q
    by_cases hk : 0 ≤ k
    · refine iteD hk ⟨.int n, rfl, k, n, rfl, rfl, decide (k ≤ n), rfl, ?_⟩
      by_cases hn : k ≤ n
      · rw [decide_eq_true hn]
        refine iteF ?_
        refine ⟨.int k, rfl, k, rfl, by omega, by omega, ?_⟩
        refine for_range (lo := 0) (n := k.toNat) (fun i σ H' => ∃ z, σ = [some (.int n), some (.int k), some (.int (chI n i)), z] ∧ H' = H) ⟨none, rfl, rfl⟩ (fun i σ H' hi hp => ?_) (fun σ H' hp => ?_)
        · obtain ⟨z, rfl, rfl⟩ := hp
          refine ⟨_, rfl, .int n, rfl, .int (0 + (i : Int)), rfl, _, _, rfl, rfl, _, _, rfl, rfl, .inr ⟨by omega, by omega⟩, .int (0 + (i : Int)), rfl, _, _, rfl, rfl, _, _, rfl, rfl, ⟨by omega, by omega⟩, some (.int (0 + (i : Int))), ?_, rfl⟩
          rw [Int.zero_add]
          rfl
        · obtain ⟨z, rfl, rfl⟩ := hp
          refine ⟨_, rfl, ?_⟩
          unfold cho at q
          rw [if_pos ⟨hk, hn⟩] at q
          exact q
      · rw [decide_eq_false hn]
        exact iteT (out fun h => hn h.2)
    · refine iteDF hk ⟨false, rfl, ?_⟩
      exact iteT (out fun h => hk h.1)
end
end K27
namespace K27
open PySem PySem.Spec PyProof.Rows L2
theorem gcd_turn (x y : Nat) : Nat.gcd y (x % y) = Nat.gcd x y := by
  rw [Nat.gcd_comm y, ← Nat.gcd_rec, Nat.gcd_comm]
theorem absI (i : Int) : (if i < 0 then -i else i) = (i.natAbs : Int) := by
  split <;> omega
/-- the measure of the two gcds -/
def second (σ : L2.St) (_ : Hp) : Nat := match σ[1]? with
  | some (some (V.int y)) => y.toNat
  | _ => 0
def RatAt (H : Hp) (p : Addr) (r : Int × Int) : Prop := H p = some (.tup [.int r.1, .int r.2])
def RetR (r : Int × Int) (H : Hp) (Q : VK) : Prop := ∀ p H', Same H H' → H p = none → RatAt H' p r → Q (.ref p) H'
section
variable {P : Program} {w : World} {K : PySem.W.Frag} {mg : Str → Option Value} {base : Heap}
def spGcd : Sp := fun vs H Q _ => ∃ a b : Int, vs = [.int a, .int b] ∧ Q (.int (Int.gcd a b : Nat)) H
theorem ok_shared (D : Dn K mg "shared" (topS 27) ["one", "other"]) (B : Bl mg) : Cal P w K mg base "shared" ["one", "other"] 1 spGcd := by
  refine D.ok sc_shared (fun vs H Q E h => ?_) (fun f cdv A outer s H vs Q E hr h => ?_)
  · obtain ⟨a, b, rfl, _⟩ := h
    rfl
  · obtain ⟨a, b, rfl, q⟩ := h
    refine ⟨_, pss_cons (ps_par (i := 0) (j := 1) rfl sc_shared.nd rfl rfl (by decide) rfl rfl (pa_cons (pe_callB call_abs rfl B.b_abs (by decide +kernel) (pa_cons (pv 0) pa_nil)) (pa_cons (pe_callB call_abs rfl B.b_abs (by decide +kernel) (pa_cons (pv 1) pa_nil)) pa_nil)) (by rfl))
      (pss_cons (ps_while PassesOwn.never (pt_cmpR op_ne (pv 1) pe_int (nomark _))
        (pss_one (ps_par (i := 0) (j := 1) rfl sc_shared.nd rfl rfl (by decide) rfl rfl (pa_cons (pv 1) (pa_cons (pe_op op_mod (pv 0) (pv 1)) pa_nil)) (by rfl))))
      (pss_one (ps_ret (pv 0)))), ?_⟩
    refine ⟨.int a, rfl, a, rfl, .int b, rfl, b, rfl, _, _, rfl, ?_⟩
    rw [absI, absI]
    refine while_by (fun σ H' => ∃ x y : Nat, σ = [some (.int (x : Int)), some (.int (y : Int))] ∧ Nat.gcd x y = Int.gcd a b ∧ H' = H) second ⟨a.natAbs, b.natAbs, rfl, rfl, rfl⟩ (fun σ H' hp => ?_) (fun σ H Q Q' hq ⟨x, e, sc, k, ek, q⟩ => ⟨x, e, sc, k, ek, hq _ _ q⟩)
    obtain ⟨x, y, rfl, hg, rfl⟩ := hp
    refine ⟨.int y, rfl, rfl, _, rfl, ?_⟩
    by_cases hy : y = 0
    · subst hy
      refine iteNS rfl ⟨_, rfl, ?_⟩
      rw [Nat.gcd_zero_right] at hg
      rw [hg]
      exact q
    · have hne : ¬ ((V.int (y : Int)) = V.int 0) := fun z => by
        injection z with z
        omega
      rw [decide_eq_false hne]
      refine iteT ⟨.int y, rfl, .int x, rfl, .int y, rfl, _, _, rfl, rfl, by omega, _, _, rfl, ⟨y, x % y, rfl, ?_, rfl⟩, ?_⟩
      · rw [gcd_turn]
        exact hg
      · show ((x : Int) % (y : Int)).toNat < ((y : Int)).toNat
        have h1 := Int.emod_lt_of_pos (x : Int) (show (0 : Int) < y by omega)
        have h2 := Int.emod_nonneg (x : Int) (show (y : Int) ≠ 0 by omega)
        omega
def spGcdN : Sp := fun vs H Q _ => ∃ a b : Nat, vs = [.int (a : Int), .int (b : Int)] ∧ Q (.int (Nat.gcd a b : Nat)) H
theorem ok_law_gcd (D : Dn K mg "_law_gcd" (topS 40) ["_law_one", "_law_other"]) (B : Bl mg) : Cal P w K mg base "_law_gcd" ["_law_one", "_law_other"] 1 spGcdN := by
  refine D.ok sc__law_gcd (fun vs H Q E h => ?_) (fun f cdv A outer s H vs Q E hr h => ?_)
  · obtain ⟨a, b, rfl, _⟩ := h
    rfl
  · obtain ⟨a, b, rfl, q⟩ := h
    refine ⟨_, pss_cons (ps_while PassesOwn.never (pt_cmpR op_ne (pv 1) pe_int (nomark _))
        (pss_one (ps_par (i := 0) (j := 1) rfl sc__law_gcd.nd rfl rfl (by decide) rfl rfl (pa_cons (pv 1) (pa_cons (pe_op op_mod (pe_callTy call_int1 rfl B.b_int (by decide +kernel) (pa_cons (pv 0) pa_nil)) (pv 1)) pa_nil)) (by rfl))))
      (pss_one (ps_ret (pv 0))), ?_⟩
    refine while_by (fun σ H' => ∃ x y : Nat, σ = [some (.int (x : Int)), some (.int (y : Int))] ∧ Nat.gcd x y = Nat.gcd a b ∧ H' = H) second ⟨a, b, rfl, rfl, rfl⟩ (fun σ H' hp => ?_) (fun σ H Q Q' hq ⟨x, e, sc, k, ek, q⟩ => ⟨x, e, sc, k, ek, hq _ _ q⟩)
    obtain ⟨x, y, rfl, hg, rfl⟩ := hp
    refine ⟨.int y, rfl, rfl, _, rfl, ?_⟩
    by_cases hy : y = 0
    · subst hy
      refine iteNS rfl ⟨_, rfl, ?_⟩
      rw [Nat.gcd_zero_right] at hg
      rw [hg]
      exact q
    · have hne : ¬ ((V.int (y : Int)) = V.int 0) := fun z => by
        injection z with z
        omega
      rw [decide_eq_false hne]
      refine iteT ⟨.int y, rfl, .int x, rfl, .inl ⟨x, rfl, .int y, rfl, _, _, rfl, rfl, by omega, _, _, rfl, ⟨y, x % y, rfl, ?_, rfl⟩, ?_⟩⟩
      · rw [gcd_turn]
        exact hg
      · show ((x : Int) % (y : Int)).toNat < ((y : Int)).toNat
        have h1 := Int.emod_lt_of_pos (x : Int) (show (0 : Int) < y by omega)
        have h2 := Int.emod_nonneg (x : Int) (show (y : Int) ≠ 0 by omega)
        omega
theorem gcd_ok {a b : Int} (h1 : 0 < b) (h2 : b < 1073741824) : CDiv a (Int.gcd a b : Nat) := by
  have hd : Nat.gcd a.natAbs b.natAbs ∣ b.natAbs := Nat.gcd_dvd_right _ _
  have hle := Nat.le_of_dvd (by omega) hd
  have hpos : 0 < Nat.gcd a.natAbs b.natAbs := Nat.gcd_pos_of_pos_right _ (by omega)
  show (0 : Int) < ((Nat.gcd a.natAbs b.natAbs : Nat) : Int) ∧ ((Nat.gcd a.natAbs b.natAbs : Nat) : Int) < 1073741824
  omega
def spRat : Sp := fun vs H Q _ => ∃ a b : Int, vs = [.int a, .int b] ∧ 0 < b ∧ b < 1073741824 ∧ RetR (rat a b) H Q
theorem ok_ratio (D : Dn K mg "ratio" (topS 28) ["top", "low"]) (C1 : Cal P w K mg base "shared" ["one", "other"] 1 spGcd) : Cal P w K mg base "ratio" ["top", "low"] 2 spRat := by
  refine D.ok sc_ratio (fun vs H Q E h => ?_) (fun f cdv A outer s H vs Q E hr h => ?_)
  · obtain ⟨a, b, rfl, _⟩ := h
    rfl
  · obtain ⟨a, b, rfl, h1, h2, q⟩ := h
    refine ⟨_, pss_cons (ps_set (i := 2) sc_ratio.nd rfl (Or.inl rfl) (pe_cal C1 hr (pa_cons (pv 0) (pa_cons (pv 1) pa_nil))))
      (pss_one (ps_ret (pe_tup (pa_cons (pe_op op_fdiv (pv 0) (pv 2)) (pa_cons (pe_op op_fdiv (pv 1) (pv 2)) pa_nil))))), ?_⟩
    refine ⟨.int a, rfl, .int b, rfl, a, b, rfl, ?_⟩
    refine ⟨.int a, rfl, _, rfl, _, _, rfl, rfl, gcd_ok h1 h2, .int b, rfl, _, rfl, _, _, rfl, rfl, gcd_ok h1 h2, by show 2 ≤ sizeLine; decide, fun p hp => ?_⟩
    exact q p _ (same_new hp) hp upd_same
theorem ok_law_lowest (D : Dn K mg "_law_lowest" (topS 41) ["_law_numerator", "_law_denominator"]) (B : Bl mg) (C1 : Cal P w K mg base "_law_gcd" ["_law_one", "_law_other"] 1 spGcdN) : Cal P w K mg base "_law_lowest" ["_law_numerator", "_law_denominator"] 2 spRat := by
  refine D.ok sc__law_lowest (fun vs H Q E h => ?_) (fun f cdv A outer s H vs Q E hr h => ?_)
  · obtain ⟨a, b, rfl, _⟩ := h
    rfl
  · obtain ⟨a, b, rfl, h1, h2, q⟩ := h
    refine ⟨_, pss_cons (ps_set (i := 2) sc__law_lowest.nd rfl (Or.inl rfl) (pe_cal C1 hr (pa_cons (pe_callB call_abs rfl B.b_abs (by decide +kernel) (pa_cons (pv 0) pa_nil)) (pa_cons (pv 1) pa_nil))))
      (pss_one (ps_ret (pe_tup (pa_cons (pe_op op_fdiv (pv 0) (pv 2)) (pa_cons (pe_op op_fdiv (pv 1) (pv 2)) pa_nil))))), ?_⟩
    refine ⟨.int a, rfl, a, rfl, .int b, rfl, a.natAbs, b.natAbs, ?_, ?_⟩
    · show [V.int (if a < 0 then -a else a), V.int b] = [V.int (a.natAbs : Int), V.int (b.natAbs : Int)]
      rw [absI, show (b.natAbs : Int) = b by omega]
    · refine ⟨.int a, rfl, _, rfl, _, _, rfl, rfl, gcd_ok h1 h2, .int b, rfl, _, rfl, _, _, rfl, rfl, gcd_ok h1 h2, by show 2 ≤ sizeLine; decide, fun p hp => ?_⟩
      exact q p _ (same_new hp) hp upd_same
end
end K27
namespace K27
open PySem PySem.Spec PyProof.Rows L2
/-! ### trains as data -/
theorem lay_ints : ∀ t : List Int, PyData.canLayAll0 (t.map PyData.int) = true
  | [] => by simp [PyData.canLayAll0]
  | x :: t => by
    rw [List.map_cons, PyData.canLayAll0, lay_ints t]
    simp [PyData.canLay0]
theorem shaped_t (t : List Int) : SeqAt.shaped (datT t) = true := by
  unfold SeqAt.shaped datT
  rw [PyData.canLay0, lay_ints, PyData.depth, PySem.W.depth_ints]
  rfl
theorem eqv_nil (t : List Int) : PyData.eqv (datT t) (.tuple []) = t.isEmpty := by
  unfold datT
  rw [PyData.eqv]
  cases t with
  | nil =>
    rw [List.map_nil, PyData.eqvAll]
    rfl
  | cons x t =>
    rw [List.map_cons, PyData.eqvAll]
    rfl
theorem shaped_nil : SeqAt.shaped (.tuple []) = true := shaped_t []
theorem dp_t {K : PySem.W.Frag} {H : Hp} {q : Addr} {t : List Int} (h : TrAt H q t) : Dp K H (.ref q) (datT t) := .tup (.inl (.inl h)) (dp_ints t)
theorem dp_nil {K : PySem.W.Frag} {H : Hp} {q : Addr} (h : H q = some (.tup [])) : Dp K H (.ref q) (.tuple []) := .tup (.inl (.inl h)) .nil
theorem StAt.at {H : Hp} {p : Addr} {st : Sta} {qs : List Addr} (h : Paired (TrAt H) qs st) {k : Nat} (hk : k < st.length) : ∃ q, qs[k]? = some q ∧ TrAt H q (st.getD k []) := by
  have hl := Paired.length h
  obtain ⟨q, hq⟩ : ∃ q, qs[k]? = some q := ⟨qs[k]'(by omega), List.getElem?_eq_getElem (by omega)⟩
  obtain ⟨t, ht, r⟩ := paired_get h hq
  refine ⟨q, hq, ?_⟩
  rw [List.getD_eq_getElem?_getD, ht]
  exact r
section
variable {P : Program} {w : World} {K : PySem.W.Frag} {mg : Str → Option Value} {base : Heap}
def spGapIn : Sp := fun vs H Q _ => ∃ (p : Addr) (st : Sta) (i : Nat), vs = [.ref p, .int (i : Int)] ∧ StAt H p st ∧ i < st.length ∧ st.length ≤ 8 ∧ ∀ H', Same H H' → Q (.int (gapIn st i)) H'
theorem ok_gap_in (D : Dn K mg "gap_in" (topS 22) ["state", "station"]) (B : Bl mg) : Cal P w K mg base "gap_in" ["state", "station"] 1 spGapIn := by
  refine D.ok sc_gap_in (fun vs H Q E h => ?_) (fun f cdv A outer s H vs Q E hr h => ?_)
  · obtain ⟨p, st, i, rfl, _⟩ := h
    rfl
  · obtain ⟨p, st, i, rfl, hst, hi, h8, q⟩ := h
    obtain ⟨qs, hp, hqs⟩ := hst
    have hl : qs.length = st.length := Paired.length hqs
    refine ⟨_, pss_cons (ps_for PassesOwn.never rfl (pi_range2 rfl B.b_range (pa_cons pe_int (pa_cons (pe_op op_add (pe_callB call_len_seq rfl B.b_len PySem.boot_len (pa_cons (pv 0) pa_nil)) pe_int) pa_nil))) (pg_name (i := 2) sc_gap_in.nd rfl (Or.inl rfl))
        (pss_one (ps_if (pt_cmpR (op_neD hr.units) (pe_ix ix_tup (pv 0) (pe_op op_mod (pe_op op_add (pv 1) (pv 2)) (pe_callB call_len_seq rfl B.b_len PySem.boot_len (pa_cons (pv 0) pa_nil))) (fun _ _ => rfl)) (pe_tup pa_nil) (nomark _))
          (pss_one (ps_ret (pv 2))) pss_nil)))
      (pss_one (ps_ret (pe_callB call_len_seq rfl B.b_len PySem.boot_len (pa_cons (pv 0) pa_nil)))), ?_⟩
    refine ⟨.ref p, rfl, p, _, rfl, .inr (.of hp), _, 1, rfl, rfl, 1, _, rfl, ⟨by omega, by omega, ?_, ?_⟩, ?_⟩
    · rw [List.length_map]; omega
    · rw [List.length_map]; omega
    have en : (((qs.map V.ref).length : Int) + 1 - 1).toNat = st.length := by rw [List.length_map]; omega
    show ∃ W : Nat → Nat → L2.St → Hp → Prop, _
    rw [en]
    refine for_range (lo := 1) (n := st.length) (fun j σ H' => ∃ z, σ = [some (.ref p), some (.int (i : Int)), z] ∧ Same H H' ∧ gapIn st i = gapFrom st i (st.length - j) (1 + j)) ⟨none, rfl, Same.refl H, rfl⟩ (fun j σ H' hj hp' => ?_) (fun σ H' hp' => ?_)
    · obtain ⟨z, rfl, sm, eg⟩ := hp'
      have hp1 : H' p = some (.tup (qs.map V.ref)) := sm _ _ hp
      have hk : (i + (1 + j)) % st.length < st.length := Nat.mod_lt _ (by omega)
      obtain ⟨q1, e1, t1⟩ := StAt.at (p := p) hqs hk
      refine ⟨.ref p, rfl, .int (i : Int), rfl, .int (1 + (j : Int)), rfl, _, _, rfl, rfl, .ref p, rfl, p, _, rfl, .inr (.of hp1), _, _, rfl, rfl, ?_, p, _, _, .ref q1, rfl, rfl, .of hp1, at_of (j := (i + (1 + j)) % st.length) ?_ ?_, by show 0 ≤ sizeLine; decide, fun e he => ?_⟩
      · show (0 : Int) < ((qs.map V.ref).length : Int)
        rw [List.length_map]
        omega
      · show ((i : Int) + (1 + (j : Int))) % ((qs.map V.ref).length : Int) = _
        rw [List.length_map, hl]
        exact rfl
      · rw [List.getElem?_map, e1]
        rfl
      · have sm2 : Same H' (upd H' e (.tup [])) := same_new he
        refine ⟨datT _, .tuple [], dp_t (sm2 _ _ (sm _ _ t1)), dp_nil upd_same, shaped_t _, shaped_nil, _, rfl, ?_⟩
        rw [eqv_nil]
        have eb : (st.getD ((i + (1 + j)) % st.length) []).isEmpty = emp st ((i + (1 + j)) % st.length) := rfl
        rw [eb]
        rw [show st.length - j = (st.length - (j + 1)) + 1 by omega, gapFrom] at eg
        cases hb : emp st ((i + (1 + j)) % st.length) with
        | true =>
          rw [hb, if_pos rfl] at eg
          refine iteF ⟨_, rfl, sm.trans sm2, ?_⟩
          rw [eg, show 1 + j + 1 = 1 + (j + 1) by omega]
        | false =>
          rw [hb, if_neg Bool.false_ne_true] at eg
          refine iteT ⟨.int (1 + (j : Int)), rfl, ?_⟩
          have q' := q _ (sm.trans sm2)
          rw [eg, show (((1 + j : Nat)) : Int) = 1 + (j : Int) by omega] at q'
          exact q'
    · obtain ⟨z, rfl, sm, eg⟩ := hp'
      refine ⟨.ref p, rfl, p, _, rfl, .inr (.of (sm _ _ hp)), ?_⟩
      rw [Nat.sub_self, gapFrom] at eg
      have q' := q _ sm
      rw [eg] at q'
      rw [List.length_map, hl]
      exact q'
/-- the pairs (station, train) -/
def PairAt (H : Hp) (a : Addr) (i : Nat) : Prop := ∃ q : Addr, H a = some (.tup [.int (i : Int), .ref q])
theorem pairs_same {H H' : Hp} (e : Same H H') {as : List Addr} {is : List Nat} (h : Paired (PairAt H) as is) : Paired (PairAt H') as is := Paired.mapP h fun a i ⟨q, x⟩ => ⟨q, e _ _ x⟩
def spTrains : Sp := fun vs H Q _ => ∃ (p : Addr) (st : Sta), vs = [.ref p] ∧ StAt H p st ∧ st.length ≤ 8 ∧ ∀ l as H', Same H H' → H l = none → H' l = some (.lst (as.map V.ref)) → Paired (PairAt H') as (ocs st) → Q (.ref l) H'
theorem range_filter {f : Nat → Bool} (n : Nat) : (List.range (n + 1)).filter f = (List.range n).filter f ++ (if f n = true then [n] else []) := by
  rw [List.range_succ, List.filter_append]
  congr 1
  by_cases h : f n = true
  · rw [if_pos h, List.filter_cons, if_pos h]
    rfl
  · rw [if_neg h, List.filter_cons, if_neg h]
    rfl
theorem ok_trains_in (D : Dn K mg "trains_in" (topS 16) ["state"]) (B : Bl mg) : Cal P w K mg base "trains_in" ["state"] 1 spTrains := by
  refine D.ok sc_trains_in (fun vs H Q E h => ?_) (fun f cdv A outer s H vs Q E hr h => ?_)
  · obtain ⟨p, st, rfl, _⟩ := h
    rfl
  · obtain ⟨p, st, rfl, hst, h8, q⟩ := h
    obtain ⟨qs, hp, hqs⟩ := hst
    have hl : qs.length = st.length := Paired.length hqs
    refine ⟨_, pss_one (ps_ret (pe_lc (own := [("station", 1), ("train", 2)]) (g := gTup K 2 (gCons (gName 1) (gCons (gName 2) gNil))) (tt := tTest (tOp (rNeD K) (tVar 2) (tTup tNil))) rfl sc_trains_in.nd (pi_enumT rfl B.b_enumerate (pa_cons (pv 0) pa_nil)) (blkOk_by (N := ["state", "station", "train"]) (sc := defScope (topS 16)) (by decide +kernel))
      (fun _ _ _ _ _ => pg_tup rfl (pgs_cons (pg_name (i := 1) sc_trains_in.nd rfl (Or.inl rfl)) (pgs_cons (pg_name (i := 2) sc_trains_in.nd rfl (Or.inl rfl)) pgs_nil)))
      (fun _ _ _ _ _ => pts_one (pt_cmpR (op_neD hr.units) (pv 2) (pe_tup pa_nil) (nomark _)))
      (fun _ _ _ _ _ => pe_tup (pa_cons (pv 1) (pa_cons (pv 2) pa_nil))))), ?_⟩
    refine ⟨.ref p, rfl, p, _, rfl, .of hp, fun L hL => ?_⟩
    refine lc_it (walk_enumT (xs := qs.map V.ref)) (fun i H' => Same H H' ∧ ∃ as, H' L = some (.lst (as.map V.ref)) ∧ Paired (PairAt H') as ((List.range i).filter fun i => !emp st i) ∧ as.length ≤ i) ⟨same_new hL, [], upd_same, .nil, Nat.le_refl _⟩
      (fun i H' _ hp' => .of (hp'.1 _ _ hp)) (fun i x H1 H2 hi hp' hy => ?_) (fun H' hp' => ?_)
    · obtain ⟨sm, as, hL1, pr, hz⟩ := hp'
      obtain ⟨T, x1, x2, rfl, nT, rfl, f1, f2⟩ := hy
      rw [List.length_map, hl] at hi
      obtain ⟨q1, e1, t1⟩ := StAt.at (p := p) hqs hi
      have ex1 : x1 = .int (i : Int) := (Option.some.inj f1).symm
      have ex2 : x2 = .ref q1 := by
        have f2' : (qs.map V.ref)[i]? = some x2 := f2
        rw [List.getElem?_map, e1] at f2'
        exact (Option.some.inj f2').symm
      subst ex1 ex2
      have s1 : Same H1 (upd H1 T (.tup [.int (i : Int), .ref q1])) := same_new nT
      refine ⟨T, _, rfl, .of upd_same, rfl, _, _, rfl, _, _, rfl, rfl, rfl, ?_⟩
      refine ⟨.ref q1, rfl, by show 0 ≤ sizeLine; decide, fun e he => ?_⟩
      have s2 := s1.trans (same_new (o := .tup []) he)
      refine ⟨datT _, .tuple [], dp_t (s2 _ _ (sm _ _ t1)), dp_nil upd_same, shaped_t _, shaped_nil, _, rfl, ?_⟩
      rw [eqv_nil]
      have eb : (st.getD i []).isEmpty = emp st i := rfl
      rw [eb]
      refine ite2 (fun hb => ?_) (fun hb => ?_)
      · refine ⟨.int (i : Int), rfl, .ref q1, rfl, by show 2 ≤ sizeLine; decide, fun T2 nT2 => ?_⟩
        have s3 := s2.trans (same_new (o := .tup [.int (i : Int), .ref q1]) nT2)
        have hL3 := s3 _ _ hL1
        refine ⟨as.map V.ref, hL3, by rw [List.length_map]; exact small1000 (by omega), ?_⟩
        have nL : T2 ≠ L := (two_ne (s2 _ _ hL1) nT2).symm
        refine ⟨same_mut (sm.trans s3) hL, as ++ [T2], ?_, ?_, ?_⟩
        · rw [upd_same, List.map_append]
          rfl
        · rw [range_filter, if_pos hb]
          refine Paired.snoc (Paired.mapP pr fun a j ⟨q, x⟩ => ⟨q, ?_⟩) ⟨q1, ?_⟩
          · rw [upd_ne (fun z => by subst z; rw [hL1] at x; cases x)]
            exact s3 _ _ x
          · rw [upd_ne nL]
            exact upd_same
        · rw [List.length_append]
          show as.length + 1 ≤ i + 1
          omega
      · refine ⟨sm.trans s2, as, s2 _ _ hL1, ?_, by omega⟩
        rw [range_filter, if_neg hb, List.append_nil]
        exact pairs_same s2 pr
    · obtain ⟨sm, as, hL1, pr, hz⟩ := hp'
      rw [List.length_map, hl] at pr
      exact q L as H' sm hL hL1 pr
end
end K27
namespace K27
open PySem PySem.Spec PyProof.Rows L2
section
variable {P : Program} {w : World} {K : PySem.W.Frag} {mg : Str → Option Value} {base : Heap}
def spGaps : Sp := fun vs H Q _ => ∃ (p : Addr) (st : Sta), vs = [.ref p] ∧ StAt H p st ∧ st.length ≤ 8 ∧ ∀ l H', Same H H' → H l = none → H' l = some (.lst ((gaps st).map V.int)) → Q (.ref l) H'
theorem ocs_len (st : Sta) : (ocs st).length ≤ st.length := by
  unfold ocs
  have h := List.length_filter_le (fun i => !emp st i) (List.range st.length)
  rw [List.length_range] at h
  exact h
theorem ocs_lt {st : Sta} {i j : Nat} (h : (ocs st)[j]? = some i) : i < st.length := by
  have m := List.mem_of_getElem? h
  unfold ocs at m
  exact List.mem_range.mp (List.mem_filter.mp m).1
theorem ok_all_gaps (D : Dn K mg "all_gaps" (topS 24) ["state"]) (C1 : Cal P w K mg base "trains_in" ["state"] 1 spTrains) (C2 : Cal P w K mg base "gap_in" ["state", "station"] 1 spGapIn) : Cal P w K mg base "all_gaps" ["state"] 2 spGaps := by
  refine D.ok sc_all_gaps (fun vs H Q E h => ?_) (fun f cdv A outer s H vs Q E hr h => ?_)
  · obtain ⟨p, st, rfl, _⟩ := h
    rfl
  · obtain ⟨p, st, rfl, hst, h8, q⟩ := h
    refine ⟨_, pss_one (ps_ret (pe_lc (own := [("station", 1), ("train", 2)]) (g := gTup K 2 (gCons (gName 1) (gCons (gName 2) gNil))) (tt := tYes) rfl sc_all_gaps.nd (pi_list (pe_cal C1 hr (pa_cons (pv 0) pa_nil))) (blkOk_by (N := ["state", "station", "train"]) (sc := defScope (topS 24)) (by decide +kernel))
      (fun _ _ _ _ _ => pg_tup rfl (pgs_cons (pg_name (i := 1) sc_all_gaps.nd rfl (Or.inl rfl)) (pgs_cons (pg_name (i := 2) sc_all_gaps.nd rfl (Or.inl rfl)) pgs_nil)))
      (fun _ _ _ _ _ => pts_nil)
      (fun _ _ _ _ _ => pe_cal C2 hr (pa_cons (pv 0) (pa_cons (pv 1) pa_nil))))), ?_⟩
    refine ⟨.ref p, rfl, p, st, rfl, hst, h8, fun l as H1 s1 nl hl pr => ?_⟩
    refine ⟨l, rfl, ⟨_, .of hl⟩, fun L hL => ?_⟩
    have hlen : as.length = (ocs st).length := Paired.length pr
    have hz := ocs_len st
    refine lc_it (walk_list (xs := as.map V.ref)) (fun i H' => Same H1 H' ∧ H' L = some (.lst (((ocs st).take i).map fun j => V.int (gapIn st j)))) ⟨same_new hL, upd_same⟩
      (fun i H' _ hp' => .of (hp'.1 _ _ hl)) (fun i x H2 H3 hi hp' hy => ?_) (fun H' hp' => ?_)
    · obtain ⟨sm, hL1⟩ := hp'
      obtain ⟨rfl, hx⟩ := hy
      rw [List.length_map] at hi
      rw [List.getElem?_map, List.getElem?_eq_getElem hi] at hx
      have ex := Option.some.inj hx
      subst ex
      obtain ⟨j, hj, t, ht⟩ := paired_get pr (List.getElem?_eq_getElem hi)
      have hT := sm _ _ ht
      refine ⟨as[i], _, rfl, .of hT, rfl, _, _, rfl, _, _, rfl, rfl, rfl, ?_⟩
      refine tyes ?_
      refine ⟨.ref p, rfl, .int (j : Int), rfl, p, st, j, rfl, hst.same (s1.trans sm), ocs_lt hj, h8, fun H4 s4 => ?_⟩
      refine ⟨_, s4 _ _ hL1, ?_, same_mut (sm.trans s4) hL, ?_⟩
      · rw [List.length_map, List.length_take]
        exact small1000 (by omega)
      · rw [upd_same, List.take_add_one, hj, List.map_append]
        rfl
    · obtain ⟨sm, hL1⟩ := hp'
      rw [List.length_map, hlen, List.take_length] at hL1
      refine q L H' (s1.trans sm) (s1.free hL) ?_
      rw [hL1]
      unfold gaps
      rw [List.map_map]
      rfl
/-! ### a state is one -/
def mets (cs : List Int) : List (Key × V) := cs.map fun c => (Sum.inl c, V.bl true)
theorem mets_val {cs : List Int} {x : Int} (h : x ∉ cs) : valV (mets cs) (Sum.inl x) = none := by
  unfold valV mets
  rw [Option.map_eq_none_iff, List.find?_eq_none]
  intro y hy z
  obtain ⟨c, hc, rfl⟩ := List.mem_map.mp hy
  have e : (Sum.inl c : Key) = Sum.inl x := of_decide_eq_true z
  injection e with e
  subst e
  exact h hc
theorem mets_put {cs : List Int} {x : Int} (h : x ∉ cs) : putK (mets cs) (Sum.inl x) (V.bl true) = mets (cs ++ [x]) := by
  rw [putK_new _ (mets_val h)]
  unfold mets
  rw [List.map_append]
  rfl
theorem flat_at {st : Sta} {i : Nat} {t : List Int} (h : st[i]? = some t) : st.flatten = (st.take i).flatten ++ (t ++ (st.drop (i + 1)).flatten) := by
  obtain ⟨hi, e⟩ := List.getElem?_eq_some_iff.mp h
  rw [← List.flatten_cons, ← e, ← List.drop_eq_getElem_cons hi, ← List.flatten_append, List.take_append_drop]
theorem flat_take {st : Sta} {i : Nat} {t : List Int} (h : st[i]? = some t) : (st.take (i + 1)).flatten = (st.take i).flatten ++ t := by
  rw [List.take_add_one, h, List.flatten_append]
  show _ ++ (t ++ []) = _
  rw [List.append_nil]
theorem list_at {α : Type} {t : List α} {j : Nat} {x : α} (h : t[j]? = some x) : t = t.take j ++ x :: t.drop (j + 1) := by
  obtain ⟨hi, e⟩ := List.getElem?_eq_some_iff.mp h
  rw [← e, ← List.drop_eq_getElem_cons hi, List.take_append_drop]
theorem take_snoc {α : Type} {t : List α} {j : Nat} {x : α} (h : t[j]? = some x) : t.take (j + 1) = t.take j ++ [x] := by
  rw [List.take_add_one, h]
  rfl
structure Fit (c s : Int) (st : Sta) : Prop where
  len : (st.length : Int) = s
  nd : st.flatten.Nodup
  rng : ∀ x ∈ st.flatten, 0 ≤ x ∧ x < c
  all : (st.flatten.length : Int) = c
def spNeedTrains : Sp := fun vs H Q _ => ∃ (y p : Addr) (c s : Int) (st : Sta), vs = [.ref y, .ref p] ∧ YardAt H y c s ∧ StAt H p st ∧ Fit c s st ∧ ∀ H', Same H H' → Q .non H'
theorem ok_need_trains (D : Dn K mg "need_trains" (topS 14) ["yard", "state"]) (B : Bl mg) (C1 : Cal P w K mg base "is_in" ["value", "least", "most"] 2 spIsIn) (C2 : Cal P w K mg base "is_list" ["value", "least", "most"] 1 spIsList) : Cal P w K mg base "need_trains" ["yard", "state"] 3 spNeedTrains := by
  refine D.ok sc_need_trains (fun vs H Q E h => ?_) (fun f cdv A outer s H vs Q E hr h => ?_)
  · obtain ⟨y, p, c, n, st, rfl, _⟩ := h
    rfl
  · obtain ⟨y, p, c, n, st, rfl, ⟨hy, h1, h2, h3, h4⟩, ⟨qs, hp, hqs⟩, fit, q⟩ := h
    have hl : qs.length = st.length := Paired.length hqs
    have hn := fit.len
    have nd := sc_need_trains.nd
    refine ⟨_, pss_cons (ps_asg (pv 0) (pg_tup rfl (pgs_cons (pg_name (i := 2) nd rfl (Or.inl rfl)) (pgs_cons (pg_name (i := 3) nd rfl (Or.inl rfl)) pgs_nil))))
      (pss_cons (ps_if (pt_not (pt_val (pe_cal C2 (hr.mono (by decide)) (pa_cons (pv 1) (pa_cons (pv 3) (pa_cons (pv 3) pa_nil)))))) (pss_one ps_never) pss_nil)
      (pss_cons (ps_set (i := 4) nd rfl (Or.inl rfl) pe_dnewK)
      (pss_cons (ps_for PassesOwn.never rfl (pi_enumT rfl B.b_enumerate (pa_cons (pv 1) pa_nil)) (pg_tup rfl (pgs_cons (pg_name (i := 5) nd rfl (Or.inl rfl)) (pgs_cons (pg_name (i := 6) nd rfl (Or.inl rfl)) pgs_nil)))
        (pss_cons (ps_if (pt_not (pt_val (pe_cal C2 (hr.mono (by decide)) (pa_cons (pv 6) (pa_cons pe_int (pa_cons (pv 2) pa_nil)))))) (pss_one ps_never) pss_nil)
        (pss_one (ps_for PassesOwn.never rfl (pi_tup (pv 6)) (pg_name (i := 7) nd rfl (Or.inl rfl))
          (pss_cons (ps_if (PW.pt (pw_or (pt_not (pt_val (pe_cal C1 hr (pa_cons (pv 7) (pa_cons pe_int (pa_cons (pe_op op_sub (pv 2) pe_int) pa_nil)))))) (pw_or1 (pt_cmp (pc_din (hu_of hr) (pv 7) (pv 4)))))) (pss_one ps_never) pss_nil)
          (pss_one (ps_dput (hu_of hr) (pv 4) (pv 7) pe_bl rfl)))))))
      (pss_one (ps_if (pt_cmpR op_lt (pe_callB call_lenD rfl B.b_len PySem.boot_len (pa_cons (pv 4) pa_nil)) (pv 2) (nomark _)) (pss_one ps_never) pss_nil))))), ?_⟩
    -- cars, stations = yard
    refine ⟨.ref y, rfl, y, _, rfl, .of hy, rfl, _, _, rfl, _, _, rfl, rfl, ?_⟩
    -- is_list(state, stations, stations)
    refine ⟨.ref p, rfl, .int n, rfl, .int n, rfl, p, _, n, n, rfl, hp, ?_, ?_, true, rfl, iteF ?_⟩
    · rw [List.length_map, hl]; omega
    · rw [List.length_map, hl]; omega
    -- met = {}
    refine fun d nd' => ?_
    have s0 : Same H (upd H d (.dK [])) := same_new nd'
    refine ⟨.ref p, rfl, p, _, rfl, .of (s0 _ _ hp), ?_⟩
    refine for_it (walk_enumT (xs := qs.map V.ref)) (fun i σ H' => ∃ z5 z6 z7, σ = [some (.ref y), some (.ref p), some (.int c), some (.int n), some (.ref d), z5, z6, z7] ∧ Same H H' ∧ H' d = some (.dK (mets (st.take i).flatten))) ⟨none, none, none, rfl, s0, upd_same⟩
      (fun i σ H' _ hp' => by
        obtain ⟨_, _, _, _, sm, _⟩ := hp'
        exact .of (sm _ _ hp)) (fun i x σ H1 H2 hi hp' hy' => ?_) (fun σ H' hp' => ?_)
    · obtain ⟨z5, z6, z7, rfl, sm, hd⟩ := hp'
      obtain ⟨T, x1, x2, rfl, nT, rfl, f1, f2⟩ := hy'
      rw [List.length_map, hl] at hi
      obtain ⟨q1, e1, t1⟩ := StAt.at (p := p) hqs hi
      have ex1 : x1 = .int (i : Int) := (Option.some.inj f1).symm
      have ex2 : x2 = .ref q1 := by
        have f2' : (qs.map V.ref)[i]? = some x2 := f2
        rw [List.getElem?_map, e1] at f2'
        exact (Option.some.inj f2').symm
      subst ex1 ex2
      have hti : st[i]? = some (st.getD i []) := by
        rw [List.getD_eq_getElem?_getD, List.getElem?_eq_getElem hi]
        rfl
      have ht := flat_at hti
      have hnext := flat_take hti
      generalize st.getD i [] = t at *
      have hc : (t.length : Int) ≤ c := by
        have := fit.all
        rw [ht, List.length_append, List.length_append] at this
        omega
      have s1 : Same H1 (upd H1 T (.tup [.int (i : Int), .ref q1])) := same_new nT
      have s2 := sm.trans s1
      have hd1 := s1 _ _ hd
      refine ⟨T, _, rfl, .of upd_same, rfl, _, _, rfl, _, _, rfl, rfl, ?_⟩
      refine ⟨.ref q1, rfl, .int c, rfl, q1, _, 0, c, rfl, s2 _ _ t1, by omega, by rw [List.length_map]; exact hc, true, rfl, iteF ?_⟩
      refine ⟨.ref q1, rfl, q1, rfl, ⟨_, .of (s2 _ _ t1)⟩, ?_⟩
      refine for_it (walk_tup (xs := t.map V.int)) (fun j σ H' => ∃ z7, σ = [some (.ref y), some (.ref p), some (.int c), some (.int n), some (.ref d), some (.int (i : Int)), some (.ref q1), z7] ∧ Same H H' ∧ H' d = some (.dK (mets ((st.take i).flatten ++ t.take j)))) ⟨z7, rfl, s2, ?_⟩
        (fun j σ H' _ hp' => by
          obtain ⟨_, _, sm, _⟩ := hp'
          exact .of (sm _ _ t1)) (fun j x σ H2 H3 hj hp' hy' => ?_) (fun σ H' hp' => ?_)
      · rw [List.take_zero, List.append_nil]
        exact hd1
      · obtain ⟨w7, rfl, sm3, hd3⟩ := hp'
        obtain ⟨rfl, hx⟩ := hy'
        rw [List.length_map] at hj
        rw [List.getElem?_map, List.getElem?_eq_getElem hj] at hx
        have ex := Option.some.inj hx
        subst ex
        have hj' : t[j]? = some t[j] := List.getElem?_eq_getElem hj
        have hsplit := list_at hj'
        have hmem : t[j] ∈ st.flatten := by
          rw [ht]
          exact List.mem_append_right _ (List.mem_append_left _ (List.getElem_mem hj))
        have hr' := fit.rng _ hmem
        have hnew : t[j] ∉ (st.take i).flatten ++ t.take j := by
          have hN := fit.nd
          rw [ht] at hN
          have hfull : (st.take i).flatten ++ (t ++ (st.drop (i + 1)).flatten) = ((st.take i).flatten ++ t.take j) ++ (t[j] :: (t.drop (j + 1) ++ (st.drop (i + 1)).flatten)) := by
            conv => lhs; rw [hsplit]
            simp only [List.append_assoc, List.cons_append]
          rw [hfull] at hN
          have hd' := (List.nodup_append.mp hN).2.2
          exact fun m => hd' _ m _ List.mem_cons_self rfl
        refine ⟨.int t[j], rfl, .int c, rfl, c, 1, rfl, rfl, t[j], 0, c - 1, rfl, hr'.1, by omega, true, rfl, iteF ?_⟩
        refine ⟨.int t[j], rfl, .ref d, rfl, d, _, rfl, DGet.k (k := Sum.inl t[j]) hd3, _, rfl, ?_⟩
        rw [mets_val hnew]
        refine iteF ?_
        refine ⟨.ref d, rfl, .int t[j], rfl, d, _, rfl, DPut.k (k := Sum.inl t[j]) hd3 ?_, ?_⟩
        · unfold mets
          rw [List.length_map, List.length_append, List.length_take]
          have := fit.all
          rw [ht, List.length_append, List.length_append] at this
          exact small1000 (by omega)
        · refine ⟨_, rfl, same_mut sm3 nd', ?_⟩
          rw [upd_same, mets_put hnew, take_snoc hj', List.append_assoc]
      · obtain ⟨w7, rfl, sm3, hd3⟩ := hp'
        refine ⟨_, _, _, rfl, sm3, ?_⟩
        rw [hd3, List.length_map, List.take_length, hnext]
    · obtain ⟨z5, z6, z7, rfl, sm, hd⟩ := hp'
      rw [List.length_map, hl, List.take_length] at hd
      refine ⟨.ref d, rfl, d, _, rfl, hd, .int c, rfl, _, c, rfl, rfl, _, rfl, ?_⟩
      refine iteDF ?_ ?_
      · show ¬ (((mets st.flatten).length : Int) < c)
        unfold mets
        rw [List.length_map]
        have := fit.all
        omega
      · exact q _ sm
def spNeedState : Sp := spNeedTrains
theorem ok_need_state (D : Dn K mg "need_state" (topS 15) ["yard", "state"]) (C1 : Cal P w K mg base "need_yard" ["yard"] 3 spNeedYard) (C2 : Cal P w K mg base "need_trains" ["yard", "state"] 3 spNeedTrains) : Cal P w K mg base "need_state" ["yard", "state"] 4 spNeedTrains := by
  refine D.ok sc_need_state (fun vs H Q E h => ?_) (fun f cdv A outer s H vs Q E hr h => ?_)
  · obtain ⟨y, p, c, n, st, rfl, _⟩ := h
    rfl
  · obtain ⟨y, p, c, n, st, rfl, hy, hst, fit, q⟩ := h
    refine ⟨_, pss_cons (ps_expr (pe_cal C1 hr (pa_cons (pv 0) pa_nil))) (pss_one (ps_expr (pe_cal C2 hr (pa_cons (pv 0) (pa_cons (pv 1) pa_nil))))), ?_⟩
    refine ⟨.ref y, rfl, y, c, n, rfl, hy, ?_⟩
    exact ⟨.ref y, rfl, .ref p, rfl, y, p, c, n, st, rfl, hy, hst, fit, fun H' s' => q H' s'⟩
end
end K27
namespace K27
open PySem PySem.Spec PyProof.Rows L2
/-! ### small mathematics -/
theorem fold_max : ∀ (ns : List Int) (a : Int), (ns.foldl max a = a ∨ ns.foldl max a ∈ ns) ∧ a ≤ ns.foldl max a ∧ ∀ x ∈ ns, x ≤ ns.foldl max a
  | [], a => ⟨.inl rfl, Int.le_refl _, fun x h => nomatch h⟩
  | y :: ns, a => by
    obtain ⟨h1, h2, h3⟩ := fold_max ns (max a y)
    rw [List.foldl_cons]
    refine ⟨?_, by omega, fun x hx => ?_⟩
    · rcases h1 with h1 | h1
      · rw [h1]
        rcases Int.le_total a y with h | h
        · right
          rw [Int.max_eq_right h]
          exact List.mem_cons_self
        · left
          exact Int.max_eq_left h
      · exact .inr (List.mem_cons_of_mem _ h1)
    · rcases List.mem_cons.mp hx with rfl | hx
      · omega
      · exact h3 x hx
theorem maxL_eq {ns : List Int} {m : Int} (hm : m ∈ ns) (hle : ∀ y, y ∈ ns → y ≤ m) : m = maxL ns := by
  unfold maxL
  obtain ⟨h1, h2, h3⟩ := fold_max ns (ns.headD 0)
  have a := h3 m hm
  have b : ns.foldl max (ns.headD 0) ∈ ns := by
    rcases h1 with h1 | h1
    · rw [h1]
      cases ns with
      | nil => exact nomatch hm
      | cons x r => exact List.mem_cons_self
    · exact h1
  have c := hle _ b
  omega
theorem gapFrom_le {st : Sta} {i : Nat} : ∀ (fuel g : Nat), g + fuel ≤ st.length + 1 → 0 ≤ gapFrom st i fuel g ∧ gapFrom st i fuel g ≤ (st.length : Int)
  | 0, g, h => by
    rw [gapFrom]
    omega
  | fuel + 1, g, h => by
    rw [gapFrom]
    split
    · exact gapFrom_le fuel (g + 1) (by omega)
    · omega
theorem gapIn_le (st : Sta) (i : Nat) : 0 ≤ gapIn st i ∧ gapIn st i ≤ (st.length : Int) := gapFrom_le st.length 1 (by omega)
theorem gaps_le {st : Sta} {g : Int} (h : g ∈ gaps st) : 0 ≤ g ∧ g ≤ (st.length : Int) := by
  unfold gaps at h
  obtain ⟨i, _, rfl⟩ := List.mem_map.mp h
  exact gapIn_le st i
theorem cho_key : ∀ s : Fin 9, ∀ k : Fin 9, 0 ≤ cho (s.val : Int) (k.val : Int) ∧ cho (s.val : Int) (k.val : Int) ≤ 1000 := by decide +kernel
theorem nst_key : ∀ s : Fin 9, ∀ c : Fin 8, 1 ≤ s.val → 0 < nst (s.val : Int) c.val ∧ nst (s.val : Int) c.val < 1073741824 := by decide +kernel
theorem cho_small {s k : Int} (h1 : 0 ≤ s) (h2 : s ≤ 8) (h3 : 0 ≤ k) (h4 : k ≤ 8) : 0 ≤ cho s k ∧ cho s k ≤ 1000 := by
  have := cho_key ⟨s.toNat, by omega⟩ ⟨k.toNat, by omega⟩
  simp only [Int.toNat_of_nonneg h1, Int.toNat_of_nonneg h3] at this
  exact this
theorem nst_small {s c : Int} (h1 : 1 ≤ s) (h2 : s ≤ 8) (h3 : 0 ≤ c) (h4 : c ≤ 7) : 0 < nst s c.toNat ∧ nst s c.toNat < 1073741824 := by
  have := nst_key ⟨s.toNat, by omega⟩ ⟨c.toNat, by omega⟩ (by show 1 ≤ s.toNat; omega)
  simp only [Int.toNat_of_nonneg (show 0 ≤ s by omega)] at this
  exact this
section
variable {P : Program} {w : World} {K : PySem.W.Frag} {mg : Str → Option Value} {base : Heap}
def spToOne : Sp := fun vs H Q _ => ∃ (y p : Addr) (c s : Int) (st : Sta), vs = [.ref y, .ref p] ∧ YardAt H y c s ∧ StAt H p st ∧ Fit c s st ∧ 0 < (gaps st).length ∧ ∀ H', Same H H' → Q (.int (few s st)) H'
theorem ok_calls_to_one (D : Dn K mg "calls_to_one" (topS 25) ["yard", "state"]) (B : Bl mg) (C1 : Cal P w K mg base "need_state" ["yard", "state"] 4 spNeedTrains) (C2 : Cal P w K mg base "all_gaps" ["state"] 2 spGaps) : Cal P w K mg base "calls_to_one" ["yard", "state"] 5 spToOne := by
  refine D.ok sc_calls_to_one (fun vs H Q E h => ?_) (fun f cdv A outer s H vs Q E hr h => ?_)
  · obtain ⟨y, p, c, n, st, rfl, _⟩ := h
    rfl
  · obtain ⟨y, p, c, n, st, rfl, hy, hst, fit, hg, q⟩ := h
    have hn := fit.len
    have hy' := hy.2
    refine ⟨_, pss_cons (ps_expr (pe_cal C1 hr (pa_cons (pv 0) (pa_cons (pv 1) pa_nil))))
      (pss_one (ps_ret (pe_op op_sub (pe_ix ix_tup (pv 0) pe_int (fun _ _ => rfl)) (pe_callB (cr_max rfl) rfl B.b_max (by decide +kernel) (pa_cons (pe_cal C2 (hr.mono (by decide)) (pa_cons (pv 1) pa_nil)) pa_nil))))), ?_⟩
    refine ⟨.ref y, rfl, .ref p, rfl, y, p, c, n, st, rfl, hy, hst, fit, fun H1 s1 => ?_⟩
    refine ⟨.ref y, rfl, y, _, 1, .int n, rfl, rfl, .of (s1 _ _ hy.1), rfl, ?_⟩
    refine ⟨.ref p, rfl, p, st, rfl, hst.same s1, by omega, fun l H2 s2 nl hl => ?_⟩
    refine ⟨l, gaps st, rfl, .of hl, hg, fun m hm hle => ⟨n, m, rfl, rfl, ?_⟩⟩
    have q' := q H2 (s1.trans s2)
    unfold few at q'
    rw [← maxL_eq hm hle] at q'
    exact q'
def spChance : Sp := fun vs H Q _ => ∃ (y p : Addr) (c s : Int) (st : Sta), vs = [.ref y, .ref p] ∧ YardAt H y c s ∧ StAt H p st ∧ Fit c s st ∧ ∀ H', Same H H' → Q (.int (chc s st)) H'
/-- [gap * gap for gap in all_gaps(state)] is walked -/
theorem sq_take {ns : List Int} {i : Nat} {x : Int} (h : ns[i]? = some x) : (ns.take (i + 1)).map (fun g => V.int (g * g)) = (ns.take i).map (fun g => V.int (g * g)) ++ [V.int (x * x)] := by
  rw [take_snoc h, List.map_append]
  rfl
theorem ok_mean_calls (D : Dn K mg "mean_calls" (topS 30) ["yard", "state"]) (B : Bl mg) (C1 : Cal P w K mg base "need_state" ["yard", "state"] 4 spNeedTrains) (C2 : Cal P w K mg base "all_gaps" ["state"] 2 spGaps) : Cal P w K mg base "mean_calls" ["yard", "state"] 5 spChance := by
  refine D.ok sc_mean_calls (fun vs H Q E h => ?_) (fun f cdv A outer s H vs Q E hr h => ?_)
  · obtain ⟨y, p, c, n, st, rfl, _⟩ := h
    rfl
  · obtain ⟨y, p, c, n, st, rfl, hy, hst, fit, q⟩ := h
    have hn := fit.len
    have hy' := hy.2
    refine ⟨_, pss_cons (ps_expr (pe_cal C1 hr (pa_cons (pv 0) (pa_cons (pv 1) pa_nil))))
      (pss_one (ps_ret (pe_op op_fdiv (pe_op op_sub (pe_op op_mul (pe_ix ix_tup (pv 0) pe_int (fun _ _ => rfl)) (pe_ix ix_tup (pv 0) pe_int (fun _ _ => rfl)))
        (pe_callB (cr_sum rfl) rfl B.b_sum (by decide +kernel) (pa_cons (pe_lc (own := [("gap", 2)]) (g := gName 2) (tt := tYes) rfl sc_mean_calls.nd (pi_list (pe_cal C2 (hr.mono (by decide)) (pa_cons (pv 1) pa_nil))) (blkOk_by (N := ["yard", "state", "gap"]) (sc := defScope (topS 30)) (by decide +kernel))
          (fun _ _ _ _ _ => pg_name (i := 2) sc_mean_calls.nd rfl (Or.inl rfl)) (fun _ _ _ _ _ => pts_nil) (fun _ _ _ _ _ => pe_op op_mul (pv 2) (pv 2))) pa_nil))) pe_int))), ?_⟩
    refine ⟨.ref y, rfl, .ref p, rfl, y, p, c, n, st, rfl, hy, hst, fit, fun H1 s1 => ?_⟩
    refine ⟨.ref y, rfl, y, _, 1, .int n, rfl, rfl, .of (s1 _ _ hy.1), rfl, .ref y, rfl, y, _, 1, .int n, rfl, rfl, .of (s1 _ _ hy.1), rfl, n, n, rfl, rfl, .inl ⟨by omega, by omega⟩, ?_⟩
    refine ⟨.ref p, rfl, p, st, rfl, hst.same s1, by omega, fun l H2 s2 nl hl => ?_⟩
    refine ⟨l, rfl, ⟨_, .of hl⟩, fun L hL => ?_⟩
    refine lc_it (walk_list (xs := (gaps st).map V.int)) (fun i H' => Same H2 H' ∧ H' L = some (.lst (((gaps st).take i).map fun g => V.int (g * g)))) ⟨same_new hL, upd_same⟩
      (fun i H' _ hp' => .of (hp'.1 _ _ hl)) (fun i x H3 H4 hi hp' hy => ?_) (fun H' hp' => ?_)
    · obtain ⟨sm, hL1⟩ := hp'
      obtain ⟨rfl, hx⟩ := hy
      rw [List.length_map] at hi
      rw [List.getElem?_map, List.getElem?_eq_getElem hi] at hx
      have ex := Option.some.inj hx
      subst ex
      have hb := gaps_le (List.getElem_mem hi)
      have hlen : (gaps st).length ≤ st.length := by
        unfold gaps
        rw [List.length_map]
        exact ocs_len st
      refine ⟨rfl, tyes ?_⟩
      refine ⟨_, rfl, _, rfl, (gaps st)[i], (gaps st)[i], rfl, rfl, .inl ⟨by omega, by omega⟩, _, hL1, ?_, same_mut sm hL, ?_⟩
      · rw [List.length_map, List.length_take]
        exact small1000 (by omega)
      · rw [upd_same, sq_take (List.getElem?_eq_getElem hi)]
    · obtain ⟨sm, hL1⟩ := hp'
      rw [List.length_map, List.take_length] at hL1
      have hL2 : H' L = some (.lst (((gaps st).map fun g => g * g).map V.int)) := by
        rw [hL1, List.map_map]
        rfl
      refine ⟨L, _, rfl, .of hL2, ?_⟩
      refine ⟨_, _, rfl, rfl, _, 2, rfl, rfl, ⟨by decide, by decide⟩, ?_⟩
      have q' := q H' (s1.trans (s2.trans sm))
      unfold chc sqs at q'
      exact q'
def spMeanTrains : Sp := fun vs H Q _ => ∃ (y : Addr) (c s : Int), vs = [.ref y] ∧ YardAt H y c s ∧ RetR (mt c s) H Q
theorem ok_mean_trains (D : Dn K mg "mean_trains" (topS 32) ["yard"]) (B : Bl mg) (C1 : Cal P w K mg base "need_yard" ["yard"] 3 spNeedYard) (C2 : Cal P w K mg base "factorial" ["many"] 1 spFac) (C3 : Cal P w K mg base "choose" ["many", "some"] 1 spCho)
    (C4 : Cal P w K mg base "ratio" ["top", "low"] 2 spRat) (C5 : Cal P w K mg base "number_of_states" ["yard"] 1 spNumber) : Cal P w K mg base "mean_trains" ["yard"] 4 spMeanTrains := by
  refine D.ok sc_mean_trains (fun vs H Q E h => ?_) (fun f cdv A outer s H vs Q E hr h => ?_)
  · obtain ⟨y, c, n, rfl, _⟩ := h
    rfl
  · obtain ⟨y, c, n, rfl, hy, q⟩ := h
    obtain ⟨hy1, h1, h2, h3, h4⟩ := id hy
    have nd := sc_mean_trains.nd
    have r1 : Room 1 (A.deeper (envOfC "mean_trains" (defScope (topS 32)) s.heap.objs.size f cdv)) := hr.mono (by decide)
    refine ⟨_, pss_cons (ps_expr (pe_cal C1 hr (pa_cons (pv 0) pa_nil)))
      (pss_cons (ps_asg (pv 0) (pg_tup rfl (pgs_cons (pg_name (i := 1) nd rfl (Or.inl rfl)) (pgs_cons (pg_name (i := 2) nd rfl (Or.inl rfl)) pgs_nil))))
      (pss_cons (ps_set (i := 3) nd rfl (Or.inl rfl) pe_int)
      (pss_cons (ps_for PassesOwn.never rfl (pi_range2 rfl B.b_range (pa_cons pe_int (pa_cons (pe_op op_add (pv 1) pe_int) pa_nil))) (pg_name (i := 4) nd rfl (Or.inl rfl))
        (pss_one (ps_aug (i := 3) nd rfl (Or.inl rfl) (pe_op op_mul (pe_op op_mul (pe_op op_mul (pe_op op_mul (pe_cal C2 r1 (pa_cons (pe_op op_sub (pv 1) pe_int) pa_nil)) (pv 4)) (pv 4)) (pe_cal C3 r1 (pa_cons (pv 2) (pa_cons (pv 4) pa_nil)))) (pe_cal C3 r1 (pa_cons (pv 1) (pa_cons (pv 4) pa_nil)))) ip_add)))
      (pss_one (ps_ret (pe_cal C4 (hr.mono (by decide)) (pa_cons (pv 3) (pa_cons (pe_cal C5 r1 (pa_cons (pv 0) pa_nil)) pa_nil)))))))), ?_⟩
    refine ⟨.ref y, rfl, y, c, n, rfl, hy, ?_⟩
    refine ⟨.ref y, rfl, y, _, rfl, .of hy1, rfl, _, _, rfl, _, _, rfl, rfl, ?_⟩
    refine ⟨.int c, rfl, c, 1, rfl, rfl, 1, c + 1, rfl, by omega, ?_⟩
    have en : (c + 1 - 1).toNat = c.toNat := by omega
    show ∃ W : Nat → Nat → L2.St → Hp → Prop, _
    rw [en]
    refine for_range (lo := 1) (n := c.toNat) (fun i σ H' => ∃ z, σ = [some (.ref y), some (.int c), some (.int n), some (.int (mts c n i)), z] ∧ H' = H) ⟨none, rfl, rfl⟩ (fun i σ H' hi hp => ?_) (fun σ H' hp => ?_)
    · obtain ⟨z, rfl, rfl⟩ := hp
      have b1 := cho_small (s := n) (k := 1 + (i : Int)) (by omega) (by omega) (by omega) (by omega)
      have b2 := cho_small (s := c) (k := 1 + (i : Int)) (by omega) (by omega) (by omega) (by omega)
      refine ⟨_, rfl, .int c, rfl, c, 1, rfl, rfl, c - 1, rfl, by omega, by omega, ?_⟩
      refine ⟨.int (1 + (i : Int)), rfl, _, _, rfl, rfl, .inr ⟨by omega, by omega⟩, .int (1 + (i : Int)), rfl, _, _, rfl, rfl, .inr ⟨by omega, by omega⟩, ?_⟩
      refine ⟨.int n, rfl, .int (1 + (i : Int)), rfl, n, 1 + (i : Int), rfl, by omega, by omega, by omega, by omega, _, _, rfl, rfl, .inr ⟨by omega, by omega⟩, ?_⟩
      refine ⟨.int c, rfl, .int (1 + (i : Int)), rfl, c, 1 + (i : Int), rfl, by omega, by omega, by omega, by omega, _, _, rfl, rfl, .inr ⟨by omega, by omega⟩, ?_⟩
      refine ⟨_, _, rfl, rfl, some (.int (1 + (i : Int))), ?_, rfl⟩
      rw [Int.add_comm 1 (i : Int)]
      rfl
    · obtain ⟨z, rfl, rfl⟩ := hp
      have b3 := nst_small (s := n) (c := c) (by omega) (by omega) (by omega) (by omega)
      refine ⟨_, rfl, .ref y, rfl, y, c, n, rfl, hy, _, _, rfl, b3.1, b3.2, ?_⟩
      exact q
def spNeedAll : Sp := fun vs H Q _ => ∃ (y : Addr) (c s : Int), vs = [.ref y] ∧ YardAt H y c s ∧ nst s c.toNat ≤ 20000 ∧ Q .non H
theorem ok_need_all (D : Dn K mg "need_all" (topS 33) ["yard"]) (M : Cst mg) (C1 : Cal P w K mg base "need_yard" ["yard"] 3 spNeedYard) (C5 : Cal P w K mg base "number_of_states" ["yard"] 1 spNumber) : Cal P w K mg base "need_all" ["yard"] 4 spNeedAll := by
  refine D.ok sc_need_all (fun vs H Q E h => ?_) (fun f cdv A outer s H vs Q E hr h => ?_)
  · obtain ⟨y, c, n, rfl, _⟩ := h
    rfl
  · obtain ⟨y, c, n, rfl, hy, hm, q⟩ := h
    obtain ⟨t, m⟩ := M.states
    refine ⟨_, pss_cons (ps_expr (pe_cal C1 hr (pa_cons (pv 0) pa_nil)))
      (pss_one (ps_if (pt_cmpR op_gt (pe_cal C5 (hr.mono (by decide)) (pa_cons (pv 0) pa_nil)) (pe_glob (v := .int 20000) rfl m ⟨_, rfl⟩) (nomark _)) (pss_one ps_never) pss_nil)), ?_⟩
    refine ⟨.ref y, rfl, y, c, n, rfl, hy, ?_⟩
    refine ⟨.ref y, rfl, y, c, n, rfl, hy, _, _, rfl, rfl, _, rfl, iteDF (by omega) q⟩
end
end K27
namespace K27
open PySem PySem.Spec PyProof.Rows L2
/-! ### slices of tuples, whole or not -/
theorem cut_take (xs : List V) (j : Nat) : cutV xs none (some (j : Int)) = xs.take j := by
  unfold cutV
  rw [HT.sIx_nat, HT.sIx_none, List.drop_zero, Nat.sub_zero]
  exact (List.take_eq_take_min ..).symm
theorem cut_drop (xs : List V) (j : Nat) : cutV xs (some (j : Int)) none = xs.drop j := by
  unfold cutV
  rw [HT.sIx_nat, HT.sIx_none]
  by_cases h : j ≤ xs.length
  · rw [Nat.min_eq_left h]
    exact List.take_of_length_le (by rw [List.length_drop]; exact Nat.le_refl _)
  · rw [Nat.min_eq_right (by omega), List.drop_length, List.drop_eq_nil_of_le (by omega), List.take_nil]
theorem cut_whole {xs : List V} {lo hi : Option Int} (h : HT.sIx xs.length 0 lo = 0 ∧ HT.sIx xs.length xs.length hi = xs.length) : cutV xs lo hi = xs := by
  unfold cutV
  rw [h.1, h.2, List.drop_zero, Nat.sub_zero]
  exact List.take_length
theorem sl_any {K : PySem.W.Frag} {a : Addr} {xs : List V} {lo hi : Option Int} {H : Hp} {Q : VK} (h : H a = some (.tup xs)) (q : ∀ p H', Same H H' → H' p = some (.tup (cutV xs lo hi)) → Q (.ref p) H') : rSlA K (.ref a) lo hi H Q :=
  ⟨a, xs, rfl, .of h, fun w => q a H (Same.refl H) (by rw [cut_whole w]; exact h), fun _ p hp => q p _ (same_new hp) upd_same⟩
theorem sl_take {K : PySem.W.Frag} {a : Addr} {xs : List V} {j : Nat} {H : Hp} {Q : VK} (h : H a = some (.tup xs)) (q : ∀ p H', Same H H' → H' p = some (.tup (xs.take j)) → Q (.ref p) H') : rSlA K (.ref a) none (some (j : Int)) H Q :=
  sl_any h fun p H' s e => q p H' s (by rw [← cut_take]; exact e)
theorem sl_drop {K : PySem.W.Frag} {a : Addr} {xs : List V} {j : Nat} {H : Hp} {Q : VK} (h : H a = some (.tup xs)) (q : ∀ p H', Same H H' → H' p = some (.tup (xs.drop j)) → Q (.ref p) H') : rSlA K (.ref a) (some (j : Int)) none H Q :=
  sl_any h fun p H' s e => q p H' s (by rw [← cut_drop]; exact e)
theorem sl_dropP {K : PySem.W.Frag} {σ : L2.St} {a : Addr} {xs : List V} {j : Nat} {H : Hp} {Q : VK} (h : H a = some (.tup xs)) (q : ∀ p H', Same H H' → H' p = some (.tup (xs.drop j)) → Q (.ref p) H') : tNoPart σ H fun u H3 => rSlA K (.ref a) (some (j : Int)) u H3 Q :=
  sl_drop h q
theorem cat_any {K : PySem.W.Frag} {a b : Addr} {xs ys : List V} {H : Hp} {Q : VK} (ha : H a = some (.tup xs)) (hb : H b = some (.tup ys)) (hl : xs.length + ys.length ≤ sizeLine) (q : ∀ p H', Same H H' → H' p = some (.tup (xs ++ ys)) → Q (.ref p) H') : rCatA K (.ref a) (.ref b) H Q :=
  ⟨a, b, xs, ys, rfl, rfl, .of ha, .of hb, hl, fun e => q b H (Same.refl H) (by rw [e, List.nil_append]; exact hb), fun _ e => q a H (Same.refl H) (by rw [e, List.append_nil]; exact ha), fun _ _ p hp => q p _ (same_new hp) upd_same⟩

/-! ### pairs of lists -/
theorem paired_take {α β : Type} {G : α → β → Prop} : ∀ {l : List α} {m : List β} (n : Nat), Paired G l m → Paired G (l.take n) (m.take n)
  | _, _, 0, _ => .nil
  | _, _, _ + 1, .nil => .nil
  | _, _, n + 1, .cons r t => .cons r (paired_take n t)
theorem paired_drop {α β : Type} {G : α → β → Prop} : ∀ {l : List α} {m : List β} (n : Nat), Paired G l m → Paired G (l.drop n) (m.drop n)
  | _, _, 0, r => r
  | _, _, _ + 1, .nil => .nil
  | _, _, n + 1, .cons _ t => paired_drop n t
theorem paired_app {α β : Type} {G : α → β → Prop} : ∀ {l l' : List α} {m m' : List β}, Paired G l m → Paired G l' m' → Paired G (l ++ l') (m ++ m')
  | _, _, _, _, .nil, s => s
  | _, _, _, _, .cons r t, s => .cons r (paired_app t s)

/-! ### the growing of states -/
theorem ins_map (t : List Int) (j : Nat) (c : Int) : (t.map V.int).take j ++ (V.int c :: (t.map V.int).drop j) = (insT t j c).map V.int := by
  unfold insT
  rw [List.map_append, List.map_cons, List.map_take, List.map_drop]
theorem put_at {H : Hp} {qs : List Addr} {st : Sta} {i : Nat} {L p : Addr} {t : List Int} (h : Paired (TrAt H) qs st) (hL : TrAt H L t) (hp : H p = some (.tup ((qs.map V.ref).take i ++ (V.ref L :: (qs.map V.ref).drop (i + 1))))) : StAt H p (putS st i t) := by
  refine ⟨qs.take i ++ (L :: qs.drop (i + 1)), ?_, paired_app (paired_take i h) (.cons hL (paired_drop (i + 1) h))⟩
  rw [hp, List.map_append, List.map_cons, List.map_take, List.map_drop]
theorem flatMap_at {α β : Type} {l : List α} {a : Nat} {x : α} (f : α → List β) (h : l[a]? = some x) : l.flatMap f = (l.take a).flatMap f ++ (f x ++ (l.drop (a + 1)).flatMap f) := by
  conv => lhs; rw [list_at h]
  rw [List.flatMap_append, List.flatMap_cons]
theorem flatMap_take {α β : Type} {l : List α} {a : Nat} {x : α} (f : α → List β) (h : l[a]? = some x) : (l.take (a + 1)).flatMap f = (l.take a).flatMap f ++ f x := by
  rw [take_snoc h, List.flatMap_append, List.flatMap_cons, List.flatMap_nil, List.append_nil]
theorem range_at {n i : Nat} (h : i < n) : (List.range n)[i]? = some i := by
  rw [List.getElem?_range h]
theorem range_take {n i : Nat} (h : i < n) : (List.range n).take i = List.range i := by
  rw [List.take_range, Nat.min_eq_left (Nat.le_of_lt h)]
/-- what is made so far, ahead of place e of station i of the a-th state -/
def made (c : Int) (G : List Sta) (st : Sta) (a i e : Nat) : List Sta :=
  ((G.take a).flatMap (growS c) ++ (List.range i).flatMap (growT c st)) ++ (List.range e).map fun p => putS st i (insT (st.getD i []) p c)
theorem made_split {c : Int} {G : List Sta} {st : Sta} {a i e : Nat} (ha : G[a]? = some st) (hi : i < st.length) (he : e < (st.getD i []).length + 1) :
    ∃ R, grow c G = made c G st a i e ++ (putS st i (insT (st.getD i []) e c) :: R) := by
  unfold grow made
  have e1 := flatMap_at (growS c) ha
  have e2 : growS c st = (List.range i).flatMap (growT c st) ++ (growT c st i ++ ((List.range st.length).drop (i + 1)).flatMap (growT c st)) := by
    unfold growS
    rw [flatMap_at (growT c st) (range_at hi), range_take hi]
  have e3 : growT c st i = (List.range e).map (fun p => putS st i (insT (st.getD i []) p c)) ++ (putS st i (insT (st.getD i []) e c) :: ((List.range ((st.getD i []).length + 1)).drop (e + 1)).map fun p => putS st i (insT (st.getD i []) p c)) := by
    unfold growT
    conv => lhs; rw [list_at (range_at he), range_take he]
    rw [List.map_append, List.map_cons]
  rw [e1, e2, e3]
  refine ⟨((List.range ((st.getD i []).length + 1)).drop (e + 1)).map (fun p => putS st i (insT (st.getD i []) p c)) ++ (((List.range st.length).drop (i + 1)).flatMap (growT c st) ++ (G.drop (a + 1)).flatMap (growS c)), ?_⟩
  simp only [List.append_assoc, List.cons_append]
theorem made_new {c : Int} {G : List Sta} {st : Sta} {a i e : Nat} (ha : G[a]? = some st) (hi : i < st.length) (he : e < (st.getD i []).length + 1) (hn : (grow c G).Nodup) :
    putS st i (insT (st.getD i []) e c) ∉ made c G st a i e := by
  obtain ⟨R, hR⟩ := made_split (c := c) ha hi he
  rw [hR] at hn
  exact fun m => (List.nodup_append.mp hn).2.2 _ m _ List.mem_cons_self rfl
theorem made_len {c : Int} {G : List Sta} {st : Sta} {a i e : Nat} (ha : G[a]? = some st) (hi : i < st.length) (he : e < (st.getD i []).length + 1) : (made c G st a i e).length < (grow c G).length := by
  obtain ⟨R, hR⟩ := made_split (c := c) ha hi he
  rw [hR, List.length_append, List.length_cons]
  omega
theorem made_place (c : Int) (G : List Sta) (st : Sta) (a i e : Nat) : made c G st a i (e + 1) = made c G st a i e ++ [putS st i (insT (st.getD i []) e c)] := by
  unfold made
  rw [List.range_succ (n := e), List.map_append, List.append_assoc, List.append_assoc, List.append_assoc]
  rfl
theorem made_station (c : Int) (G : List Sta) (st : Sta) (a i : Nat) : made c G st a i ((st.getD i []).length + 1) = made c G st a (i + 1) 0 := by
  unfold made
  rw [List.range_zero, List.map_nil, List.append_nil, List.range_succ (n := i), List.flatMap_append, List.flatMap_cons, List.flatMap_nil, List.append_nil, ← List.append_assoc]
  rfl
theorem made_zero (c : Int) (G : List Sta) (st : Sta) (a : Nat) : made c G st a 0 0 = (G.take a).flatMap (growS c) := by
  unfold made
  rw [List.range_zero, List.map_nil, List.append_nil, List.flatMap_nil, List.append_nil]
theorem made_state {c : Int} {G : List Sta} {st : Sta} {a : Nat} (ha : G[a]? = some st) : made c G st a st.length 0 = (G.take (a + 1)).flatMap (growS c) := by
  unfold made
  rw [List.range_zero, List.map_nil, List.append_nil, flatMap_take _ ha]
  rfl
/-- what is known of a yard of few states -/
structure Few (c s : Nat) : Prop where
  nd : ∀ k, k ≤ c → (gen s k).Nodup
  sz : ∀ k, k ≤ c → (gen s k).length ≤ 1000
  wf : ∀ k, k ≤ c → ∀ st ∈ gen s k, st.length = s ∧ ∀ t ∈ st, t.length ≤ 7
end K27
namespace K27
open PySem PySem.Spec PyProof.Rows L2
theorem frz_noTup {o : Obj} {P : Program} {w : World} {d : Addr} {xs : Ps} : NoTup (HO.frz o (ND P w d xs)) := fun _ z => by cases z
/-- a new list of all states, in some order -/
def RetSt (c s : Int) (H : Hp) (Q : VK) : Prop := ∀ (l : Addr) (ps : Ps) (H' : Hp), Same H H' → H l = none → H' l = some (.lst (refs ps)) → AllSt H' ps → (ps.map (·.2)).Perm (gen s.toNat c.toNat) → Q (.ref l) H'
theorem rep_flat (n : Nat) (v : V) : (List.replicate n [v]).flatten = List.replicate n v := by
  induction n with
  | zero => rfl
  | succ n ih =>
    rw [List.replicate_succ, List.flatten_cons, ih, List.replicate_succ]
    rfl
theorem rep_paired {H : Hp} {e : Addr} (h : H e = some (.tup [])) : ∀ n : Nat, Paired (TrAt H) (List.replicate n e) (List.replicate n ([] : List Int))
  | 0 => .nil
  | n + 1 => .cons h (rep_paired h n)
section
variable {P : Program} {w : World} {K : PySem.W.Frag} {mg : Str → Option Value} {base : Heap}
def spStates : Sp := fun vs H Q _ => ∃ (y : Addr) (c s : Int), vs = [.ref y] ∧ YardAt H y c s ∧ Few c.toNat s.toNat ∧ RetSt c s H Q
theorem ok_all_states (D : Dn K mg "all_states" (topS 17) ["yard"]) (B : Bl mg) : Cal P w K mg base "all_states" ["yard"] 1 spStates := by
  refine D.ok sc_all_states (fun vs H Q E h => ?_) (fun f cdv A outer s H vs Q E hr h => ?_)
  · obtain ⟨y, c, n, rfl, _⟩ := h
    rfl
  · obtain ⟨y, c, n, rfl, ⟨hy, h1, h2, h3, h4⟩, F, q⟩ := h
    have nd := sc_all_states.nd
    refine ⟨_, pss_cons (ps_asg (pv 0) (pg_tup rfl (pgs_cons (pg_name (i := 1) nd rfl (Or.inl rfl)) (pgs_cons (pg_name (i := 2) nd rfl (Or.inl rfl)) (pgs_nil))))) (pss_cons (ps_set (i := 3) nd rfl (Or.inl rfl) (pe_ndisp hr.units (pe_op op_repT (pe_tup (pa_cons (pe_tup (pa_nil)) (pa_nil))) (pv 2)) pe_bl)) (pss_cons (ps_for PassesOwn.never rfl (pi_range1 rfl B.b_range (pa_cons (pv 1) (pa_nil))) (pg_name (i := 4) nd rfl (Or.inl rfl)) (pss_cons (ps_set (i := 5) nd rfl (Or.inl rfl) (pe_ndnew)) (pss_cons (ps_lock (ps_for PassesOwn.never rfl (pi_nd (pv 3)) (pg_name (i := 6) nd rfl (Or.inl rfl)) (pss_one (ps_for PassesOwn.never rfl (pi_enumT rfl B.b_enumerate (pa_cons (pv 6) (pa_nil))) (pg_tup rfl (pgs_cons (pg_name (i := 7) nd rfl (Or.inl rfl)) (pgs_cons (pg_name (i := 8) nd rfl (Or.inl rfl)) (pgs_nil)))) (pss_one (ps_for PassesOwn.never rfl (pi_range1 rfl B.b_range (pa_cons (pe_op op_add (pe_callB call_len_seq rfl B.b_len PySem.boot_len (pa_cons (pv 8) (pa_nil))) (pe_int)) (pa_nil))) (pg_name (i := 9) nd rfl (Or.inl rfl)) (pss_cons (ps_set (i := 10) nd rfl (Or.inl rfl) (pe_tup (StX.pa_star (pe_slice sl_tupA (pv 8) po_none (po_some (pv 9))) (pa_cons (pv 4) (StX.pa_star (pe_slice sl_tupA (pv 8) (po_some (pv 9)) po_none) (pa_nil)))))) (pss_cons (ps_set (i := 11) nd rfl (Or.inl rfl) (pe_tup (StX.pa_star (pe_slice sl_tupA (pv 6) po_none (po_some (pv 7))) (pa_cons (pv 10) (StX.pa_star (pe_slice sl_tupA (pv 6) (po_some (pe_op op_add (pv 7) (pe_int))) po_none) (pa_nil)))))) (pss_one (ps_asg pe_bl (pg_sub (pv 5) (pv 11) (set_nd hr.units)))))))))))) (pss_one (ps_set (i := 3) nd rfl (Or.inl rfl) (pv 5)))))) (pss_one (ps_ret (pe_callB (call_sorted_st rfl hr.units) rfl B.b_sorted (by decide +kernel) (pa_cons (pe_callTy (call_list_nd rfl) rfl B.b_list (by decide +kernel) (pa_cons (pv 3) (pa_nil))) (pa_nil))))))), ?_⟩
    -- cars, stations = yard
    refine ⟨.ref y, rfl, y, _, rfl, .of hy, rfl, _, _, rfl, _, _, rfl, rfl, ?_⟩
    -- found = {((),) * stations: True}
    refine fun d0 hd0 => ?_
    have s0 : Same H (upd H d0 (ND P w d0 [])) := same_new hd0
    refine ⟨by show 0 ≤ sizeLine; decide, fun e0 he0 => ⟨by show 1 ≤ sizeLine; decide, fun u0 hu0 => ?_⟩⟩
    have s1 := s0.trans (same_new (o := .tup []) he0)
    have s2 := s1.trans (same_new (o := .tup [.ref e0]) hu0)
    refine ⟨.int n, rfl, u0, n, [.ref e0], rfl, rfl, .of upd_same, by simp, h3, by omega, by simp, fun p0 hp0 => ?_⟩
    have s3 := s2.trans (same_new (o := .tup (List.replicate n.toNat [V.ref e0]).flatten) hp0)
    have hD0 : (upd (upd (upd (upd H d0 (ND P w d0 [])) e0 (.tup [])) u0 (.tup [.ref e0])) p0 (.tup (List.replicate n.toNat [V.ref e0]).flatten)) d0 = some (ND P w d0 []) :=
      same_new hp0 _ _ (same_new hu0 _ _ (same_new he0 _ _ upd_same))
    have hE0 : (upd (upd (upd (upd H d0 (ND P w d0 [])) e0 (.tup [])) u0 (.tup [.ref e0])) p0 (.tup (List.replicate n.toNat [V.ref e0]).flatten)) e0 = some (.tup []) :=
      same_new hp0 _ _ (same_new hu0 _ _ upd_same)
    have hS0 : StAt (upd (upd (upd (upd H d0 (ND P w d0 [])) e0 (.tup [])) u0 (.tup [.ref e0])) p0 (.tup (List.replicate n.toNat [V.ref e0]).flatten)) p0 (List.replicate n.toNat []) := by
      refine ⟨List.replicate n.toNat e0, ?_, rep_paired hE0 _⟩
      rw [upd_same, rep_flat, List.map_replicate]
    refine ⟨p0, _, rfl, rfl, hS0, hD0, ?_⟩
    have hS0' : StAt (upd (upd (upd (upd (upd H d0 (ND P w d0 [])) e0 (.tup [])) u0 (.tup [.ref e0])) p0 (.tup (List.replicate n.toNat [V.ref e0]).flatten)) d0 (ND P w d0 [(p0, List.replicate n.toNat [])])) p0 (List.replicate n.toNat []) := hS0.upd hD0 nd_noTup
    -- the loop over the cars
    refine ⟨.int c, rfl, c, rfl, by omega, by omega, ?_⟩
    refine for_range (lo := 0) (n := c.toNat) (fun k σ H' => ∃ (dF : Addr) (xs : Ps) (z4 z5 z6 z7 z8 z9 z10 z11 : Option V), σ = [some (.ref y), some (.int c), some (.int n), some (.ref dF), z4, z5, z6, z7, z8, z9, z10, z11] ∧
        Same H H' ∧ H' dF = some (ND P w dF xs) ∧ AllSt H' xs ∧ xs.map (·.2) = gen n.toNat k)
      ⟨d0, [(p0, List.replicate n.toNat [])], none, none, none, none, none, none, none, none, rfl, same_mut s3 hd0, upd_same, fun x hx => by rw [List.mem_singleton.mp hx]; exact hS0', rfl⟩ (fun k σ H' hk hp => ?_) (fun σ H' hp => ?_)
    · obtain ⟨dF, xs, z4, z5, z6, z7, z8, z9, z10, z11, rfl, sm, hF, hA, hG⟩ := hp
      rw [Int.zero_add]
      -- later = {}
      refine fun dL hL => ?_
      have nFL : dF ≠ dL := two_ne hF hL
      have hF1 : (upd H' dL (ND P w dL [])) dF = some (ND P w dF xs) := same_new hL _ _ hF
      refine ⟨dF, ND P w dF xs, hF1, True.intro, fun od => ?_⟩
      -- Hb: the heap while found is locked, without later
      have hbL : (upd H' dF (.frz od (ND P w dF xs))) dL = none := by rw [upd_ne nFL.symm]; exact hL
      have hbF : (upd H' dF (.frz od (ND P w dF xs))) dF = some (.frz od (ND P w dF xs)) := upd_same
      have hbA : AllSt (upd H' dF (.frz od (ND P w dF xs))) xs := hA.upd hF nd_noTup
      have hbO : ∀ b, b ≠ dF → (upd H' dF (.frz od (ND P w dF xs))) b = H' b := fun b hb => upd_ne hb
      have hS : Same (upd H' dF (.frz od (ND P w dF xs))) (upd (upd H' dL (ND P w dL [])) dF (.frz od (ND P w dF xs))) := fun b o e => by
        by_cases hb : b = dF
        · subst hb
          rw [upd_same] at e ⊢
          exact e
        · rw [upd_ne hb] at e ⊢
          exact same_new hL _ _ e
      generalize (upd H' dF (.frz od (ND P w dF xs))) = Hb at *
      have hlen : xs.length = (gen n.toNat k).length := by rw [← hG, List.length_map]
      have hgen : gen n.toNat (k + 1) = grow (k : Int) (gen n.toNat k) := rfl
      have hnd := F.nd (k + 1) (by omega)
      have hsz := F.sz (k + 1) (by omega)
      rw [hgen] at hnd hsz
      refine ⟨.ref dF, rfl, dF, od, xs, rfl, upd_same, ?_⟩
      refine for_it (walk_nd (P := P) (w := w) (d := dF) (ob0 := od) (xs := xs)) (fun a σ H2 => ∃ (ys : Ps) (z6 z7 z8 z9 z10 z11 : Option V), σ = [some (.ref y), some (.int c), some (.int n), some (.ref dF), some (.int (k : Int)), some (.ref dL), z6, z7, z8, z9, z10, z11] ∧
          Same Hb H2 ∧ H2 dL = some (ND P w dL ys) ∧ AllSt H2 ys ∧ ys.map (·.2) = ((gen n.toNat k).take a).flatMap (growS (k : Int)))
        ⟨[], _, _, _, _, _, _, rfl, hS, by rw [upd_ne nFL.symm]; exact upd_same, (fun x hx => nomatch hx), rfl⟩ (fun a σ H2 _ hp => ?_) (fun a x σ H2 H3 ha hp hY => ?_) (fun σ H2 hp => ?_)
      · obtain ⟨ys, _, _, _, _, _, _, _, sm2, _⟩ := hp
        exact sm2 _ _ hbF
      · obtain ⟨ys, z6, z7, z8, z9, z10, z11, rfl, sm2, hd2, hA2, hm2⟩ := hp
        obtain ⟨rfl, ⟨p, st⟩, hx, rfl⟩ := hY
        have hst : (gen n.toNat k)[a]? = some st := by
          rw [← hG, List.getElem?_map, hx]
          rfl
        obtain ⟨hwl, hwt⟩ := F.wf k (by omega) st (List.mem_of_getElem? hst)
        obtain ⟨qs, hp, hqs⟩ := hbA _ (List.mem_of_getElem? hx)
        have hp : Hb p = some (.tup (qs.map V.ref)) := hp
        have hqs : Paired (TrAt Hb) qs st := hqs
        have hl : qs.length = st.length := Paired.length hqs
        refine ⟨.ref p, rfl, p, _, rfl, .of (sm2 _ _ hp), ?_⟩
        refine for_it (walk_enumT (xs := qs.map V.ref)) (fun i σ H3 => ∃ (ys : Ps) (z7 z8 z9 z10 z11 : Option V), σ = [some (.ref y), some (.int c), some (.int n), some (.ref dF), some (.int (k : Int)), some (.ref dL), some (.ref p), z7, z8, z9, z10, z11] ∧
            Same Hb H3 ∧ H3 dL = some (ND P w dL ys) ∧ AllSt H3 ys ∧ ys.map (·.2) = made (k : Int) (gen n.toNat k) st a i 0)
          ⟨ys, _, _, _, _, _, rfl, sm2, hd2, hA2, by rw [made_zero]; exact hm2⟩ (fun i σ H3 _ hp' => ?_) (fun i x σ H3 H4 hi hp' hY => ?_) (fun σ H3 hp' => ?_)
        · obtain ⟨ys, _, _, _, _, _, _, sm3, _⟩ := hp'
          exact .of (sm3 _ _ hp)
        · obtain ⟨ys, z7, z8, z9, z10, z11, rfl, sm3, hd3, hA3, hm3⟩ := hp'
          obtain ⟨T, x1, x2, rfl, nT, rfl, f1, f2⟩ := hY
          rw [List.length_map, hl] at hi
          obtain ⟨q1, e1, t1⟩ := StAt.at (p := p) hqs hi
          have ex1 : x1 = .int (i : Int) := (Option.some.inj f1).symm
          have ex2 : x2 = .ref q1 := by
            have f2' : (qs.map V.ref)[i]? = some x2 := f2
            rw [List.getElem?_map, e1] at f2'
            exact (Option.some.inj f2').symm
          subst ex1 ex2
          have hti : st[i]? = some (st.getD i []) := by
            rw [List.getD_eq_getElem?_getD, List.getElem?_eq_getElem hi]
            rfl
          have htl : (st.getD i []).length ≤ 7 := hwt _ (List.mem_of_getElem? hti)
          have s4 : Same H3 (upd H3 T (.tup [.int (i : Int), .ref q1])) := same_new nT
          have hd4 := s4 _ _ hd3
          have hA4 := hA3.same s4
          refine ⟨T, _, rfl, .of upd_same, rfl, _, _, rfl, _, _, rfl, rfl, ?_⟩
          have sm4 := sm3.trans s4
          generalize (upd H3 T (.tup [.int (i : Int), .ref q1])) = H4 at *
          refine ⟨.ref q1, rfl, q1, _, rfl, .inr (.of (sm4 _ _ t1)), _, 1, rfl, rfl, _, rfl, ?_, ?_, ?_⟩
          · rw [List.length_map]; omega
          · rw [List.length_map]; omega
          have en : (((((st.getD i []).map V.int).length : Nat) : Int) + 1).toNat = (st.getD i []).length + 1 := by rw [List.length_map]; omega
          show ∃ W : Nat → Nat → L2.St → Hp → Prop, _
          rw [en]
          refine for_range (lo := 0) (n := (st.getD i []).length + 1) (fun e σ H5 => ∃ (ys : Ps) (z9 z10 z11 : Option V), σ = [some (.ref y), some (.int c), some (.int n), some (.ref dF), some (.int (k : Int)), some (.ref dL), some (.ref p), some (.int (i : Int)), some (.ref q1), z9, z10, z11] ∧
              Same Hb H5 ∧ H5 dL = some (ND P w dL ys) ∧ AllSt H5 ys ∧ ys.map (·.2) = made (k : Int) (gen n.toNat k) st a i e)
            ⟨ys, _, _, _, rfl, sm4, hd4, hA4, hm3⟩ (fun e σ H5 he hp' => ?_) (fun σ H5 hp' => ?_)
          · obtain ⟨ys, z9, z10, z11, rfl, sm5, hd5, hA5, hm5⟩ := hp'
            rw [Int.zero_add]
            -- longer
            refine ⟨.ref q1, rfl, .int (e : Int), rfl, (e : Int), rfl, sl_take (sm5 _ _ t1) fun p1 H6 s6 h6 => ?_⟩
            refine ⟨p1, _, rfl, .inl (.of h6), .int (k : Int), rfl, .ref q1, rfl, .int (e : Int), rfl, (e : Int), rfl, sl_dropP (s6 _ _ (sm5 _ _ t1)) fun p2 H7 s7 h7 => ?_⟩
            refine ⟨p2, _, rfl, .inl (.of h7), ?_, fun L1 hL1 => ?_⟩
            · rw [List.append_nil, ins_map, List.length_map]
              unfold insT
              rw [List.length_append, List.length_take, List.length_cons, List.length_drop]
              exact Nat.le_of_lt (small1000 (by omega))
            rw [List.append_nil, ins_map]
            have s8 := (s6.trans s7).trans (same_new (o := .tup ((insT (st.getD i []) e (k : Int)).map V.int)) hL1)
            have hT8 : TrAt (upd H7 L1 (.tup ((insT (st.getD i []) e (k : Int)).map V.int))) L1 (insT (st.getD i []) e (k : Int)) := upd_same
            generalize (upd H7 L1 (.tup ((insT (st.getD i []) e (k : Int)).map V.int))) = H8 at *
            have sm8 := sm5.trans s8
            -- there
            refine ⟨.ref p, rfl, .int (i : Int), rfl, (i : Int), rfl, sl_take (sm8 _ _ hp) fun p3 H9 s9 h9 => ?_⟩
            refine ⟨p3, _, rfl, .inl (.of h9), .ref L1, rfl, .ref p, rfl, .int (i : Int), rfl, (i : Int), 1, rfl, rfl, ((i + 1 : Nat) : Int), rfl, sl_dropP (s9 _ _ (sm8 _ _ hp)) fun p4 HA sA hA' => ?_⟩
            refine ⟨p4, _, rfl, .inl (.of hA'), ?_, fun R hR => ?_⟩
            · rw [List.append_nil, List.length_append, List.length_take, List.length_cons, List.length_drop, List.length_map]
              exact Nat.le_of_lt (small1000 (by omega))
            rw [List.append_nil]
            have sB := (s9.trans sA).trans (same_new (o := .tup ((qs.map V.ref).take i ++ (V.ref L1 :: (qs.map V.ref).drop (i + 1)))) hR)
            have hRt : (upd HA R (.tup ((qs.map V.ref).take i ++ (V.ref L1 :: (qs.map V.ref).drop (i + 1))))) R = some (.tup ((qs.map V.ref).take i ++ (V.ref L1 :: (qs.map V.ref).drop (i + 1)))) := upd_same
            generalize (upd HA R (.tup ((qs.map V.ref).take i ++ (V.ref L1 :: (qs.map V.ref).drop (i + 1))))) = HB at *
            have smB := sm8.trans sB
            have hst' : StAt HB R (putS st i (insT (st.getD i []) e (k : Int))) := put_at (paired_same smB hqs) (sB _ _ hT8) hRt
            -- later[there] = True
            have hdB : HB dL = some (ND P w dL ys) := sB _ _ (s8 _ _ hd5)
            have hAB : AllSt HB ys := hA5.same (s8.trans sB)
            have hnew := made_new hst hi he hnd
            have hle := made_len (c := (k : Int)) hst hi he
            refine ⟨.ref dL, rfl, .ref R, rfl, dL, R, _, ys, rfl, rfl, rfl, hdB, hAB, hst', ?_, ?_, ?_⟩
            · rw [hm5]; exact hnew
            · rw [← List.length_map (f := fun x : Addr × Sta => x.2), hm5]
              exact small1000 (by omega)
            · refine ⟨ys ++ [(R, putS st i (insT (st.getD i []) e (k : Int)))], _, _, _, rfl, same_mut smB hbL, upd_same, ?_, ?_⟩
              · exact (AllSt.snoc hAB hst').upd hdB nd_noTup
              · rw [List.map_append, hm5, made_place]
                rfl
          · obtain ⟨ys, z9, z10, z11, rfl, sm5, hd5, hA5, hm5⟩ := hp'
            exact ⟨ys, _, _, _, _, _, rfl, sm5, hd5, hA5, by rw [hm5, made_station]⟩
        · obtain ⟨ys, z7, z8, z9, z10, z11, rfl, sm3, hd3, hA3, hm3⟩ := hp'
          refine ⟨ys, _, _, _, _, _, _, rfl, sm3, hd3, hA3, ?_⟩
          rw [hm3, List.length_map, hl, made_state hst]
      · obtain ⟨ys, z6, z7, z8, z9, z10, z11, rfl, sm2, hd2, hA2, hm2⟩ := hp
        have hF2 := sm2 _ _ hbF
        refine ⟨hF2, ?_⟩
        refine ⟨.ref dL, rfl, dL, ys, _, _, _, _, _, _, _, _, rfl, fun b o e => ?_, ?_, hA2.upd hF2 frz_noTup, ?_⟩
        · have e' := sm _ _ e
          by_cases hb : b = dF
          · subst hb
            rw [upd_same]
            rw [hF] at e'
            exact e'
          · rw [upd_ne hb]
            exact sm2 _ _ (by rw [hbO b hb]; exact e')
        · rw [upd_ne nFL.symm]
          exact hd2
        · rw [hm2, hlen, List.take_length, hgen]
          rfl
    · obtain ⟨dF, xs, z4, z5, z6, z7, z8, z9, z10, z11, rfl, sm, hF, hA, hG⟩ := hp
      refine ⟨.ref dF, rfl, dF, xs, rfl, hF, fun l hl => ?_⟩
      have sL : Same H' (upd H' l (.lst (refs xs))) := same_new hl
      refine ⟨l, xs, rfl, .of upd_same, hA.same sL, fun x hx => ?_, fun p ys pm hp => ?_⟩
      · have hm : x.2 ∈ gen n.toNat c.toNat := by
          rw [← hG]
          exact List.mem_map.mpr ⟨x, hx, rfl⟩
        have := (F.wf c.toNat (Nat.le_refl _) _ hm).1
        intro z
        rw [z] at this
        have h0 : 0 = n.toNat := this
        omega
      · have sP := sm.trans (sL.trans (same_new (o := .lst (refs ys)) hp))
        refine q p ys _ sP ((sm.trans sL).free hp) upd_same (fun x hx => ?_) ?_
        · exact (hA x (pm.mem_iff.mp hx)).same (sL.trans (same_new hp))
        · rw [← hG]
          exact pm.map _
end
end K27
namespace K27
open PySem PySem.Spec PyProof.Rows L2
theorem lst_noTup {xs : List V} : NoTup (HO.lst xs) := fun _ z => by cases z
theorem refs_snoc (ys : Ps) (p : Addr) (st : Sta) : refs ys ++ [V.ref p] = refs (ys ++ [(p, st)]) := by
  unfold refs
  rw [List.map_append]
  rfl
theorem refs_len (ys : Ps) : (refs ys).length = ys.length := by
  unfold refs
  rw [List.length_map]
section
variable {P : Program} {w : World} {K : PySem.W.Frag} {mg : Str → Option Value} {base : Heap}
theorem ok_law_states (D : Dn K mg "_law_states" (topS 44) ["_law_yard_here"]) (B : Bl mg) : Cal P w K mg base "_law_states" ["_law_yard_here"] 1 spStates := by
  refine D.ok sc__law_states (fun vs H Q E h => ?_) (fun f cdv A outer s H vs Q E hr h => ?_)
  · obtain ⟨y, c, n, rfl, _⟩ := h
    rfl
  · obtain ⟨y, c, n, rfl, ⟨hy, h1, h2, h3, h4⟩, F, q⟩ := h
    have nd := sc__law_states.nd
    refine ⟨_, pss_cons (ps_set (i := 1) nd rfl (Or.inl rfl) (pe_lst (pa_cons (pe_op op_repT (pe_tup (pa_cons (pe_tup (pa_nil)) (pa_nil))) (pe_ix ix_tup (pv 0) pe_int (fun _ _ => rfl))) (pa_nil)))) (pss_cons (ps_for PassesOwn.never rfl (pi_range1 rfl B.b_range (pa_cons (pe_ix ix_tup (pv 0) pe_int (fun _ _ => rfl)) (pa_nil))) (pg_name (i := 2) nd rfl (Or.inl rfl)) (pss_cons (ps_set (i := 3) nd rfl (Or.inl rfl) (pe_lst pa_nil)) (pss_cons (ps_for PassesOwn.never rfl (pi_list (pv 1)) (pg_name (i := 4) nd rfl (Or.inl rfl)) (pss_one (ps_for PassesOwn.never rfl (pi_range1 rfl B.b_range (pa_cons (pe_ix ix_tup (pv 0) pe_int (fun _ _ => rfl)) (pa_nil))) (pg_name (i := 5) nd rfl (Or.inl rfl)) (pss_cons (ps_set (i := 6) nd rfl (Or.inl rfl) (pe_ix ix_tup (pv 4) (pv 5) (fun _ _ => rfl))) (pss_one (ps_for PassesOwn.never rfl (pi_range1 rfl B.b_range (pa_cons (pe_op op_add (pe_callB call_len_seq rfl B.b_len PySem.boot_len (pa_cons (pv 6) (pa_nil))) (pe_int)) (pa_nil))) (pg_name (i := 7) nd rfl (Or.inl rfl)) (pss_one (ps_expr (pe_bm PySem.F.plainAttrs_list PySem.F.slot_list_append PySem.F.type_list_append mt_append (pv 3) (pa_cons (pe_op op_catA (pe_op op_catA (pe_slice sl_tupA (pv 4) po_none (po_some (pv 5))) (pe_tup (pa_cons (pe_op op_catA (pe_op op_catA (pe_slice sl_tupA (pv 6) po_none (po_some (pv 7))) (pe_tup (pa_cons (pv 2) (pa_nil)))) (pe_slice sl_tupA (pv 6) (po_some (pv 7)) po_none)) (pa_nil)))) (pe_slice sl_tupA (pv 4) (po_some (pe_op op_add (pv 5) (pe_int))) po_none)) (pa_nil))))))))))) (pss_one (ps_set (i := 1) nd rfl (Or.inl rfl) (pv 3)))))) (pss_one (ps_ret (pe_callB (call_sorted_st rfl hr.units) rfl B.b_sorted (by decide +kernel) (pa_cons (pv 1) (pa_nil)))))), ?_⟩
    -- found = [((),) * yard[1]]
    refine ⟨by show 0 ≤ sizeLine; decide, fun e0 he0 => ⟨by show 1 ≤ sizeLine; decide, fun u0 hu0 => ?_⟩⟩
    have s1 : Same H (upd H e0 (.tup [])) := same_new he0
    have s2 := s1.trans (same_new (o := .tup [.ref e0]) hu0)
    refine ⟨.ref y, rfl, y, _, 1, .int n, rfl, rfl, .of (s2 _ _ hy), rfl, u0, n, [.ref e0], rfl, rfl, .of upd_same, by simp, h3, by omega, by simp, fun p0 hp0 => ?_⟩
    have s3 := s2.trans (same_new (o := .tup (List.replicate n.toNat [V.ref e0]).flatten) hp0)
    have hE0 : (upd (upd (upd H e0 (.tup [])) u0 (.tup [.ref e0])) p0 (.tup (List.replicate n.toNat [V.ref e0]).flatten)) e0 = some (.tup []) :=
      same_new hp0 _ _ (same_new hu0 _ _ upd_same)
    have hS0 : StAt (upd (upd (upd H e0 (.tup [])) u0 (.tup [.ref e0])) p0 (.tup (List.replicate n.toNat [V.ref e0]).flatten)) p0 (List.replicate n.toNat []) := by
      refine ⟨List.replicate n.toNat e0, ?_, rep_paired hE0 _⟩
      rw [upd_same, rep_flat, List.map_replicate]
    refine ⟨by show 1 ≤ sizeLine; decide, fun l0 hl0 => ?_⟩
    have s4 : Same _ (upd (upd (upd (upd H e0 (.tup [])) u0 (.tup [.ref e0])) p0 (.tup (List.replicate n.toNat [V.ref e0]).flatten)) l0 (.lst [.ref p0])) := same_new hl0
    -- the loop over the cars
    refine ⟨.ref y, rfl, y, _, 0, .int c, rfl, rfl, .of (s4 _ _ (s3 _ _ hy)), rfl, c, rfl, by omega, by omega, ?_⟩
    refine for_range (lo := 0) (n := c.toNat) (fun k σ H' => ∃ (lF : Addr) (xs : Ps) (z2 z3 z4 z5 z6 z7 : Option V), σ = [some (.ref y), some (.ref lF), z2, z3, z4, z5, z6, z7] ∧
        Same H H' ∧ H' lF = some (.lst (refs xs)) ∧ AllSt H' xs ∧ xs.map (·.2) = gen n.toNat k)
      ⟨l0, [(p0, List.replicate n.toNat [])], none, none, none, none, none, none, rfl, s3.trans s4, upd_same, fun x hx => by rw [List.mem_singleton.mp hx]; exact hS0.same s4, rfl⟩ (fun k σ H' hk hp => ?_) (fun σ H' hp => ?_)
    · obtain ⟨lF, xs, z2, z3, z4, z5, z6, z7, rfl, sm, hF, hA, hG⟩ := hp
      rw [Int.zero_add]
      have hy' := sm _ _ hy
      -- later = []
      refine ⟨Nat.zero_le _, fun dL hL => ?_⟩
      have sL : Same H' (upd H' dL (.lst [])) := same_new hL
      have hlen : xs.length = (gen n.toNat k).length := by rw [← hG, List.length_map]
      have hgen : gen n.toNat (k + 1) = grow (k : Int) (gen n.toNat k) := rfl
      have hnd := F.nd (k + 1) (by omega)
      have hsz := F.sz (k + 1) (by omega)
      rw [hgen] at hnd hsz
      refine ⟨.ref lF, rfl, lF, rfl, ⟨_, .of (sL _ _ hF)⟩, ?_⟩
      refine for_it (walk_list (xs := refs xs)) (fun a σ H2 => ∃ (ys : Ps) (z4 z5 z6 z7 : Option V), σ = [some (.ref y), some (.ref lF), some (.int (k : Int)), some (.ref dL), z4, z5, z6, z7] ∧
          Same H' H2 ∧ H2 dL = some (.lst (refs ys)) ∧ AllSt H2 ys ∧ ys.map (·.2) = ((gen n.toNat k).take a).flatMap (growS (k : Int)))
        ⟨[], _, _, _, _, rfl, sL, upd_same, (fun x hx => nomatch hx), rfl⟩ (fun a σ H2 _ hp => ?_) (fun a x σ H2 H3 ha hp hY => ?_) (fun σ H2 hp => ?_)
      · obtain ⟨ys, _, _, _, _, _, sm2, _⟩ := hp
        exact .of (sm2 _ _ hF)
      · obtain ⟨ys, z4, z5, z6, z7, rfl, sm2, hd2, hA2, hm2⟩ := hp
        obtain ⟨rfl, hx⟩ := hY
        rw [refs_len] at ha
        obtain ⟨⟨p, st⟩, hx'⟩ : ∃ z, xs[a]? = some z := ⟨xs[a], List.getElem?_eq_getElem ha⟩
        have ex : x = .ref p := by
          unfold refs at hx
          rw [List.getElem?_map, hx'] at hx
          exact (Option.some.inj hx).symm
        subst ex
        have hst : (gen n.toNat k)[a]? = some st := by
          rw [← hG, List.getElem?_map, hx']
          rfl
        obtain ⟨hwl, hwt⟩ := F.wf k (by omega) st (List.mem_of_getElem? hst)
        obtain ⟨qs, hp, hqs⟩ := hA _ (List.mem_of_getElem? hx')
        have hp : H' p = some (.tup (qs.map V.ref)) := hp
        have hqs : Paired (TrAt H') qs st := hqs
        have hl : qs.length = st.length := Paired.length hqs
        refine ⟨.ref y, rfl, y, _, 1, .int n, rfl, rfl, .of (sm2 _ _ hy'), rfl, n, rfl, by omega, by omega, ?_⟩
        refine for_range (lo := 0) (n := n.toNat) (fun i σ H3 => ∃ (ys : Ps) (z5 z6 z7 : Option V), σ = [some (.ref y), some (.ref lF), some (.int (k : Int)), some (.ref dL), some (.ref p), z5, z6, z7] ∧
            Same H' H3 ∧ H3 dL = some (.lst (refs ys)) ∧ AllSt H3 ys ∧ ys.map (·.2) = made (k : Int) (gen n.toNat k) st a i 0)
          ⟨ys, _, _, _, rfl, sm2, hd2, hA2, by rw [made_zero]; exact hm2⟩ (fun i σ H3 hi hp' => ?_) (fun σ H3 hp' => ?_)
        · obtain ⟨ys, z5, z6, z7, rfl, sm3, hd3, hA3, hm3⟩ := hp'
          rw [Int.zero_add]
          have hi : i < st.length := by rw [hwl]; exact hi
          obtain ⟨q1, e1, t1⟩ := StAt.at (p := p) hqs hi
          have hti : st[i]? = some (st.getD i []) := by
            rw [List.getD_eq_getElem?_getD, List.getElem?_eq_getElem hi]
            rfl
          have htl : (st.getD i []).length ≤ 7 := hwt _ (List.mem_of_getElem? hti)
          -- train = state[station]
          refine ⟨.ref p, rfl, .int (i : Int), rfl, p, _, _, .ref q1, rfl, rfl, .of (sm3 _ _ hp), at_of (j := i) rfl ?_, ?_⟩
          · rw [List.getElem?_map, e1]
            rfl
          refine ⟨.ref q1, rfl, q1, _, rfl, .inr (.of (sm3 _ _ t1)), _, 1, rfl, rfl, _, rfl, ?_, ?_, ?_⟩
          · rw [List.length_map]; omega
          · rw [List.length_map]; omega
          have en : (((((st.getD i []).map V.int).length : Nat) : Int) + 1).toNat = (st.getD i []).length + 1 := by rw [List.length_map]; omega
          show ∃ W : Nat → Nat → L2.St → Hp → Prop, _
          rw [en]
          refine for_range (lo := 0) (n := (st.getD i []).length + 1) (fun e σ H5 => ∃ (ys : Ps) (z7 : Option V), σ = [some (.ref y), some (.ref lF), some (.int (k : Int)), some (.ref dL), some (.ref p), some (.int (i : Int)), some (.ref q1), z7] ∧
              Same H' H5 ∧ H5 dL = some (.lst (refs ys)) ∧ AllSt H5 ys ∧ ys.map (·.2) = made (k : Int) (gen n.toNat k) st a i e)
            ⟨ys, _, rfl, sm3, hd3, hA3, hm3⟩ (fun e σ H5 he hp' => ?_) (fun σ H5 hp' => ?_)
          · obtain ⟨ys, z7, rfl, sm5, hd5, hA5, hm5⟩ := hp'
            rw [Int.zero_add]
            have hle := made_len (c := (k : Int)) hst hi he
            have hyl : ys.length ≤ 1000 := by
              rw [← List.length_map (f := fun x : Addr × Sta => x.2), hm5]
              omega
            refine ⟨.ref dL, rfl, .inl ⟨rfl, _, .of hd5⟩, ?_⟩
            -- state[:station]
            refine ⟨.ref p, rfl, .int (i : Int), rfl, (i : Int), rfl, sl_take (sm5 _ _ hp) fun p1 H6 s6 h6 => ?_⟩
            -- train[:place] + (car,)
            refine ⟨.ref q1, rfl, .int (e : Int), rfl, (e : Int), rfl, sl_take (s6 _ _ (sm5 _ _ t1)) fun p2 H7 s7 h7 => ?_⟩
            refine ⟨.int (k : Int), rfl, by show 1 ≤ sizeLine; decide, fun p3 hp3 => ?_⟩
            have s8 : Same H7 (upd H7 p3 (.tup [.int (k : Int)])) := same_new hp3
            have h8 : (upd H7 p3 (.tup [.int (k : Int)])) p3 = some (.tup [.int (k : Int)]) := upd_same
            generalize (upd H7 p3 (.tup [.int (k : Int)])) = H8 at *
            refine cat_any (s8 _ _ h7) h8 ?_ fun p4 H9 s9 h9 => ?_
            · rw [List.length_take, List.length_map]
              show _ + 1 ≤ sizeLine
              exact Nat.le_of_lt (small1000 (by omega))
            -- .. + train[place:]
            have s59 := ((s6.trans s7).trans s8).trans s9
            refine ⟨.ref q1, rfl, .int (e : Int), rfl, (e : Int), rfl, sl_dropP (s59 _ _ (sm5 _ _ t1)) fun p5 HA sA hA' => ?_⟩
            refine cat_any (sA _ _ h9) hA' ?_ fun p6 HB sB hB => ?_
            · rw [List.length_append, List.length_take, List.length_drop, List.length_map]
              show _ + 1 + _ ≤ sizeLine
              exact Nat.le_of_lt (small1000 (by omega))
            rw [List.append_assoc] at hB
            have hB' : TrAt HB p6 (insT (st.getD i []) e (k : Int)) := by
              unfold TrAt
              rw [← ins_map]
              exact hB
            refine ⟨by show 1 ≤ sizeLine; decide, fun L hLn => ?_⟩
            have sC : Same HB (upd HB L (.tup [.ref p6])) := same_new hLn
            have hC : (upd HB L (.tup [.ref p6])) L = some (.tup [.ref p6]) := upd_same
            generalize (upd HB L (.tup [.ref p6])) = HC at *
            have s6C := (((s7.trans s8).trans s9).trans sA).trans (sB.trans sC)
            refine cat_any (s6C _ _ h6) hC ?_ fun p7 HD sD hD => ?_
            · rw [List.length_take, List.length_map]
              show _ + 1 ≤ sizeLine
              exact Nat.le_of_lt (small1000 (by omega))
            have s5D := s6.trans (s6C.trans sD)
            refine ⟨.ref p, rfl, .int (i : Int), rfl, (i : Int), 1, rfl, rfl, ((i + 1 : Nat) : Int), rfl, sl_dropP (s5D _ _ (sm5 _ _ hp)) fun p8 HE sE hE => ?_⟩
            refine cat_any (sE _ _ hD) hE ?_ fun p9 HF' sF hF' => ?_
            · rw [List.length_append, List.length_take, List.length_drop, List.length_map]
              show _ + 1 + _ ≤ sizeLine
              exact Nat.le_of_lt (small1000 (by omega))
            rw [List.append_assoc] at hF'
            have s5F := s5D.trans (sE.trans sF)
            have smF := sm5.trans s5F
            have hst' : StAt HF' p9 (putS st i (insT (st.getD i []) e (k : Int))) := put_at (paired_same smF hqs) ((sC.trans (sD.trans (sE.trans sF))) _ _ hB') hF'
            have hdF := s5F _ _ hd5
            refine ⟨dL, refs ys, .ref p9, rfl, rfl, hdF, ?_, ?_⟩
            · rw [refs_len]
              exact small1000 (by omega)
            · refine ⟨ys ++ [(p9, putS st i (insT (st.getD i []) e (k : Int)))], _, rfl, same_mut smF hL, ?_, ?_, ?_⟩
              · rw [upd_same, refs_snoc]
              · exact (AllSt.snoc (hA5.same s5F) hst').upd hdF lst_noTup
              · rw [List.map_append, hm5, made_place]
                rfl
          · obtain ⟨ys, z7, rfl, sm5, hd5, hA5, hm5⟩ := hp'
            exact ⟨ys, _, _, _, rfl, sm5, hd5, hA5, by rw [hm5, made_station]⟩
        · obtain ⟨ys, z5, z6, z7, rfl, sm3, hd3, hA3, hm3⟩ := hp'
          refine ⟨ys, _, _, _, _, rfl, sm3, hd3, hA3, ?_⟩
          have e := made_state (c := (k : Int)) hst
          rw [hwl] at e
          rw [hm3]
          exact e
      · obtain ⟨ys, z4, z5, z6, z7, rfl, sm2, hd2, hA2, hm2⟩ := hp
        refine ⟨.ref dL, rfl, dL, ys, _, _, _, _, _, _, rfl, sm.trans sm2, hd2, hA2, ?_⟩
        rw [hm2, refs_len, hlen, List.take_length, hgen]
        rfl
    · obtain ⟨lF, xs, z2, z3, z4, z5, z6, z7, rfl, sm, hF, hA, hG⟩ := hp
      refine ⟨.ref lF, rfl, lF, xs, rfl, .of hF, hA, fun x hx => ?_, fun p ys pm hp => ?_⟩
      · have hm : x.2 ∈ gen n.toNat c.toNat := by
          rw [← hG]
          exact List.mem_map.mpr ⟨x, hx, rfl⟩
        have := (F.wf c.toNat (Nat.le_refl _) _ hm).1
        intro z
        rw [z] at this
        have h0 : 0 = n.toNat := this
        omega
      · have sP := sm.trans (same_new (o := .lst (refs ys)) hp)
        refine q p ys _ sP (sm.free hp) upd_same (fun x hx => ?_) ?_
        · exact (hA x (pm.mem_iff.mp hx)).same (same_new hp)
        · rw [← hG]
          exact pm.map _
end
end K27
namespace K27
open PySem PySem.Spec PyProof.Rows L2
/-! ### small mathematics -/
theorem perm_sum {a b : List Int} (h : a.Perm b) : a.sum = b.sum := by
  induction h with
  | nil => rfl
  | cons x _ ih => rw [List.sum_cons, List.sum_cons, ih]
  | swap x y l =>
    rw [List.sum_cons, List.sum_cons, List.sum_cons, List.sum_cons]
    omega
  | trans _ _ i1 i2 => exact i1.trans i2
theorem st_sum {ps : Ps} {G : List Sta} (h : (ps.map (·.2)).Perm G) (f : Sta → Int) : (ps.map fun x => f x.2).sum = (G.map f).sum := by
  have := perm_sum (h.map f)
  rw [List.map_map] at this
  exact this
theorem st_len {ps : Ps} {G : List Sta} (h : (ps.map (·.2)).Perm G) : ps.length = G.length := by
  have := h.length_eq
  rw [List.length_map] at this
  exact this
/-- a yard whose states are few and well known -/
structure Good (c s : Int) : Prop where
  few : Few c.toNat s.toNat
  fit : ∀ st ∈ gen s.toNat c.toNat, Fit c s st ∧ 0 < (gaps st).length
  pos : 0 < (gen s.toNat c.toNat).length
  nst : nst s c.toNat ≤ 20000
theorem Good.at {c s : Int} (g : Good c s) {ps : Ps} (h : (ps.map (·.2)).Perm (gen s.toNat c.toNat)) {x : Addr × Sta} (hx : x ∈ ps) : Fit c s x.2 ∧ 0 < (gaps x.2).length :=
  g.fit _ (h.mem_iff.mp (List.mem_map.mpr ⟨x, hx, rfl⟩))
theorem Good.len {c s : Int} (g : Good c s) {ps : Ps} (h : (ps.map (·.2)).Perm (gen s.toNat c.toNat)) : 0 < ps.length ∧ ps.length ≤ 1000 := by
  have h1 := st_len h
  have h2 := g.pos
  have h3 := g.few.sz c.toNat (Nat.le_refl _)
  omega
theorem blk_any {N : List Str} {sc sc' scope : Scope} {own : List (Str × Nat)} (b : BlkOk N sc scope own) (h : scope.names.all (fun y => decide (y.2 ≠ .free)) = true) : BlkOk N sc' scope own :=
  ⟨b.kind, b.uniq, b.ix, fun y hy e => absurd e (of_decide_eq_true (List.all_eq_true.mp h y hy)), b.own⟩
section
variable {K : PySem.W.Frag}
/-- a comprehension over a list of states, an int each -/
theorem lc_states {l : Addr} {ps : Ps} {H1 : Hp} {D : Addr} {te : TE} {vs : List Nat} {σ : L2.St} {j : Nat} {Qd : Hp → Prop} (f : Sta → Int) (hl : H1 l = some (.lst (refs ps))) (hD : H1 D = none) (hz : ps.length ≤ 1000)
    (hw : ∀ v, wipe ((wipe σ vs).set j (some v)) vs = wipe σ vs)
    (he : ∀ x ∈ ps, ∀ H2, Same H1 H2 → ∀ Q' : VK, (∀ H3, Same H2 H3 → Q' (.int (f x.2)) H3) → te ((wipe σ vs).set j (some (.ref x.1))) H2 Q')
    (hq : ∀ H', Same H1 H' → H' D = some (.lst ((ps.map fun x => f x.2).map V.int)) → Qd H') :
    ∃ Wd : Nat → Nat → Hp → Prop, (∃ m, Wd 0 m (upd H1 D (.lst []))) ∧ ∀ k m G, Wd k m G →
      ((Itl K l).stop k G ∧ Qd G) ∨ ((Itl K l).go k G ∧ ∃ Nt : Hp → Prop, (∀ G', Nt G' → ∃ m', m' < m ∧ Wd (k + 1) m' G') ∧ ∀ x G', (Itl K l).yld k G x G' → gName j x (wipe σ vs) G' fun τ G2 => wipe τ vs = wipe σ vs ∧ tYes τ G2 fun b G3 =>
        if b = true then te τ G3 fun v G4 => ∃ sofar, G4 D = some (.lst sofar) ∧ sofar.length < sizeLine ∧ Nt (upd G4 D (.lst (sofar ++ [v]))) else Nt G3) := by
  refine lc_it (walk_list (xs := refs ps)) (fun i H' => Same H1 H' ∧ H' D = some (.lst ((ps.take i).map fun x => V.int (f x.2)))) ⟨same_new hD, upd_same⟩
    (fun i H' _ hp' => .of (hp'.1 _ _ hl)) (fun i v H2 H3 hi hp' hy => ?_) (fun H' hp' => ?_)
  · obtain ⟨sm, hD1⟩ := hp'
    obtain ⟨rfl, hv⟩ := hy
    rw [refs_len] at hi
    have hx : ps[i]? = some ps[i] := List.getElem?_eq_getElem hi
    have ev : v = .ref ps[i].1 := by
      unfold refs at hv
      rw [List.getElem?_map, hx] at hv
      exact (Option.some.inj hv).symm
    subst ev
    refine ⟨hw _, tyes ?_⟩
    refine he _ (List.getElem_mem hi) _ sm _ fun H4 s4 => ?_
    refine ⟨_, s4 _ _ hD1, ?_, same_mut (sm.trans s4) hD, ?_⟩
    · rw [List.length_map, List.length_take]
      exact small1000 (by omega)
    · rw [upd_same, take_snoc hx, List.map_append]
      rfl
  · obtain ⟨sm, hD1⟩ := hp'
    rw [refs_len, List.take_length] at hD1
    refine hq H' sm ?_
    rw [hD1, List.map_map]
    rfl
/-- sum([gap * gap for gap in all_gaps(state)]) -/
def sqTE (K : PySem.W.Frag) (iS iG : Nat) : TE := tCB (rSum K) (tCons (tLc (iList K (tCall spGaps [] E0 (tCons (tVar iS) tNil))) (gName iG) tYes (tOp (rI CMul fun i j => .int (i * j)) (tVar iG) (tVar iG)) [iG]) tNil)
theorem sq_read {iS iG : Nat} {σ : L2.St} {H : Hp} {Q : VK} {p : Addr} {st : Sta} (hσ : σ[iS]? = some (some (.ref p))) (hst : StAt H p st) (h8 : st.length ≤ 8) (hw : ∀ x, wipe ((wipe σ [iG]).set iG (some x)) [iG] = wipe σ [iG])
    (hv : ∀ x, ((wipe σ [iG]).set iG (some x))[iG]? = some (some x)) (q : ∀ H', Same H H' → Q (.int (sqs st)) H') : sqTE K iS iG σ H Q := by
  refine ⟨.ref p, hσ, p, st, rfl, hst, h8, fun l H2 s2 nl hl => ?_⟩
  refine ⟨l, rfl, ⟨_, .of hl⟩, fun L hL => ?_⟩
  refine lc_it (walk_list (xs := (gaps st).map V.int)) (fun i H' => Same H2 H' ∧ H' L = some (.lst (((gaps st).take i).map fun g => V.int (g * g)))) ⟨same_new hL, upd_same⟩
    (fun i H' _ hp' => .of (hp'.1 _ _ hl)) (fun i x H3 H4 hi hp' hy => ?_) (fun H' hp' => ?_)
  · obtain ⟨sm, hL1⟩ := hp'
    obtain ⟨rfl, hx⟩ := hy
    rw [List.length_map] at hi
    rw [List.getElem?_map, List.getElem?_eq_getElem hi] at hx
    have ex := Option.some.inj hx
    subst ex
    have hb := gaps_le (List.getElem_mem hi)
    have hlen : (gaps st).length ≤ st.length := by
      unfold gaps
      rw [List.length_map]
      exact ocs_len st
    refine ⟨hw _, tyes ?_⟩
    refine ⟨_, hv _, _, hv _, (gaps st)[i], (gaps st)[i], rfl, rfl, .inl ⟨by omega, by omega⟩, _, hL1, ?_, same_mut sm hL, ?_⟩
    · rw [List.length_map, List.length_take]
      exact small1000 (by omega)
    · rw [upd_same, sq_take (List.getElem?_eq_getElem hi)]
  · obtain ⟨sm, hL1⟩ := hp'
    rw [List.length_map, List.take_length] at hL1
    have hL2 : H' L = some (.lst (((gaps st).map fun g => g * g).map V.int)) := by
      rw [hL1, List.map_map]
      rfl
    exact ⟨L, _, rfl, .of hL2, q H' (s2.trans sm)⟩
end
section
variable {P : Program} {w : World} {K : PySem.W.Frag} {mg : Str → Option Value} {base : Heap}
def spMeanFewest : Sp := fun vs H Q _ => ∃ (y : Addr) (c s : Int), vs = [.ref y] ∧ YardAt H y c s ∧ Good c s ∧ RetR (rat ((gen s.toNat c.toNat).map (few s)).sum (gen s.toNat c.toNat).length) H Q
theorem ok_mean_fewest (D : Dn K mg "mean_fewest" (topS 34) ["yard"]) (B : Bl mg) (C1 : Cal P w K mg base "need_all" ["yard"] 4 spNeedAll) (C2 : Cal P w K mg base "all_states" ["yard"] 1 spStates) (C3 : Cal P w K mg base "all_gaps" ["state"] 2 spGaps)
    (C4 : Cal P w K mg base "ratio" ["top", "low"] 2 spRat) : Cal P w K mg base "mean_fewest" ["yard"] 5 spMeanFewest := by
  refine D.ok sc_mean_fewest (fun vs H Q E h => ?_) (fun f cdv A outer s H vs Q E hr h => ?_)
  · obtain ⟨y, c, n, rfl, _⟩ := h
    rfl
  · obtain ⟨y, c, n, rfl, hy, g, q⟩ := h
    have nd := sc_mean_fewest.nd
    have hy' := hy.2
    refine ⟨_, pss_cons (ps_expr (pe_cal C1 hr (pa_cons (pv 0) pa_nil)))
      (pss_cons (ps_set (i := 1) nd rfl (Or.inl rfl) (pe_cal C2 (hr.mono (by decide)) (pa_cons (pv 0) pa_nil)))
      (pss_one (ps_ret (pe_cal C4 (hr.mono (by decide)) (pa_cons (pe_callB (cr_sum rfl) rfl B.b_sum (by decide +kernel) (pa_cons (pe_lc (own := [("state", 2)]) (g := gName 2) (tt := tYes)
          (te := tOp (rI0 fun i j => .int (i - j)) (tOp (rIxT K) (tVar 0) (tC (.int 1))) (tCB (rMax K) (tCons (tCall spGaps [] E0 (tCons (tVar 2) tNil)) tNil)))
          rfl nd (pi_list (pv 1)) (blkOk_by (N := ["yard", "some", "state"]) (sc := defScope (topS 34)) (by decide +kernel))
          (fun _ _ _ _ _ => pg_name (i := 2) nd rfl (Or.inl rfl)) (fun _ _ _ _ _ => pts_nil)
          (fun _ _ _ _ _ => pe_op op_sub (pe_ix ix_tup (pv 0) pe_int (fun _ _ => rfl)) (pe_callB (cr_max rfl) rfl B.b_max (by decide +kernel) (pa_cons (pe_cal C3 (hr.mono (by decide)) (pa_cons (pv 2) pa_nil)) pa_nil)))) pa_nil))
        (pa_cons (pe_callB call_len_seq rfl B.b_len PySem.boot_len (pa_cons (pv 1) pa_nil)) pa_nil)))))), ?_⟩
    refine ⟨.ref y, rfl, y, c, n, rfl, hy, g.nst, ?_⟩
    refine ⟨.ref y, rfl, y, c, n, rfl, hy, g.few, fun l ps H1 s1 nl hl hA pm => ?_⟩
    obtain ⟨z1, z2⟩ := g.len pm
    refine ⟨.ref l, rfl, l, rfl, ⟨_, .of hl⟩, fun L hL => ?_⟩
    refine lc_states (few n) hl hL z2 (fun _ => rfl) (fun x hx H2 s2 Q' q' => ?_) (fun H' s' hL' => ?_)
    · obtain ⟨fit, hg⟩ := g.at pm hx
      have hn := fit.len
      refine ⟨.ref y, rfl, y, _, 1, .int n, rfl, rfl, .of (s2 _ _ (s1 _ _ hy.1)), rfl, ?_⟩
      refine ⟨.ref x.1, rfl, x.1, x.2, rfl, (hA x hx).same s2, by omega, fun l2 H3 s3 nl2 hl2 => ?_⟩
      refine ⟨l2, gaps x.2, rfl, .of hl2, hg, fun m hm hle => ⟨n, m, rfl, rfl, ?_⟩⟩
      have q2 := q' H3 s3
      unfold few at q2
      rw [← maxL_eq hm hle] at q2
      exact q2
    · refine ⟨L, _, rfl, .of hL', .ref l, rfl, l, _, rfl, .inl (.of (s' _ _ hl)), _, _, rfl, ?_, ?_, ?_⟩
      · rw [refs_len]; omega
      · rw [refs_len]; omega
      · rw [refs_len, st_sum pm (few n), st_len pm]
        exact fun p H2 s2 np hp => q p H2 ((s1.trans s').trans s2) ((s1.trans s').free np) hp
def spMeanChance : Sp := fun vs H Q _ => ∃ (y : Addr) (c s : Int), vs = [.ref y] ∧ YardAt H y c s ∧ Good c s ∧ RetR (rat (s * s * (gen s.toNat c.toNat).length - ((gen s.toNat c.toNat).map sqs).sum) (2 * (gen s.toNat c.toNat).length)) H Q
theorem ok_mean_by_chance (D : Dn K mg "mean_by_chance" (topS 35) ["yard"]) (B : Bl mg) (C1 : Cal P w K mg base "need_all" ["yard"] 4 spNeedAll) (C2 : Cal P w K mg base "all_states" ["yard"] 1 spStates) (C3 : Cal P w K mg base "all_gaps" ["state"] 2 spGaps)
    (C4 : Cal P w K mg base "ratio" ["top", "low"] 2 spRat) : Cal P w K mg base "mean_by_chance" ["yard"] 5 spMeanChance := by
  refine D.ok sc_mean_by_chance (fun vs H Q E h => ?_) (fun f cdv A outer s H vs Q E hr h => ?_)
  · obtain ⟨y, c, n, rfl, _⟩ := h
    rfl
  · obtain ⟨y, c, n, rfl, hy, g, q⟩ := h
    have nd := sc_mean_by_chance.nd
    have hy' := hy.2
    refine ⟨_, pss_cons (ps_expr (pe_cal C1 hr (pa_cons (pv 0) pa_nil)))
      (pss_cons (ps_set (i := 1) nd rfl (Or.inl rfl) (pe_cal C2 (hr.mono (by decide)) (pa_cons (pv 0) pa_nil)))
      (pss_cons (ps_set (i := 2) nd rfl (Or.inl rfl) (pe_callB (cr_sum rfl) rfl B.b_sum (by decide +kernel) (pa_cons (pe_lc (own := [("state", 3)]) (g := gName 3) (tt := tYes) (te := sqTE K 3 4)
          rfl nd (pi_list (pv 1)) (blkOk_by (N := ["yard", "some", "squares", "state", "gap"]) (sc := defScope (topS 35)) (by decide +kernel))
          (fun _ _ _ _ _ => pg_name (i := 3) nd rfl (Or.inl rfl)) (fun _ _ _ _ _ => pts_nil)
          (fun _ _ _ _ _ => pe_callB (cr_sum rfl) rfl B.b_sum (by decide +kernel) (pa_cons (pe_lc (own := [("gap", 4)]) (g := gName 4) (tt := tYes) rfl nd (pi_list (pe_cal C3 (hr.mono (by decide)) (pa_cons (pv 3) pa_nil)))
            (blk_any (sc := defScope (topS 35)) (blkOk_by (N := ["yard", "some", "squares", "state", "gap"]) (sc := defScope (topS 35)) (by decide +kernel)) (by decide +kernel))
            (fun _ _ _ _ _ => pg_name (i := 4) nd rfl (Or.inl rfl)) (fun _ _ _ _ _ => pts_nil) (fun _ _ _ _ _ => pe_op op_mul (pv 4) (pv 4))) pa_nil))) pa_nil)))
      (pss_one (ps_ret (pe_cal C4 (hr.mono (by decide)) (pa_cons (pe_op op_sub (pe_op op_mul (pe_op op_mul (pe_ix ix_tup (pv 0) pe_int (fun _ _ => rfl)) (pe_ix ix_tup (pv 0) pe_int (fun _ _ => rfl))) (pe_callB call_len_seq rfl B.b_len PySem.boot_len (pa_cons (pv 1) pa_nil))) (pv 2))
        (pa_cons (pe_op op_mul pe_int (pe_callB call_len_seq rfl B.b_len PySem.boot_len (pa_cons (pv 1) pa_nil))) pa_nil))))))), ?_⟩
    refine ⟨.ref y, rfl, y, c, n, rfl, hy, g.nst, ?_⟩
    refine ⟨.ref y, rfl, y, c, n, rfl, hy, g.few, fun l ps H1 s1 nl hl hA pm => ?_⟩
    obtain ⟨z1, z2⟩ := g.len pm
    refine ⟨.ref l, rfl, l, rfl, ⟨_, .of hl⟩, fun L hL => ?_⟩
    refine lc_states sqs hl hL z2 (fun _ => rfl) (fun x hx H2 s2 Q' q' => ?_) (fun H' s' hL' => ?_)
    · obtain ⟨fit, hg⟩ := g.at pm hx
      have hn := fit.len
      exact sq_read (p := x.1) rfl ((hA x hx).same s2) (by omega) (fun _ => rfl) (fun _ => rfl) q'
    · refine ⟨L, _, rfl, .of hL', ?_⟩
      have hyH := s' _ _ (s1 _ _ hy.1)
      refine ⟨.ref y, rfl, y, _, 1, .int n, rfl, rfl, .of hyH, rfl, .ref y, rfl, y, _, 1, .int n, rfl, rfl, .of hyH, rfl, n, n, rfl, rfl, .inl ⟨by omega, by omega⟩, ?_⟩
      refine ⟨.ref l, rfl, l, _, rfl, .inl (.of (s' _ _ hl)), _, _, rfl, rfl, .inr ⟨?_, ?_⟩, .int _, rfl, _, _, rfl, rfl, .ref l, rfl, l, _, rfl, .inl (.of (s' _ _ hl)), 2, _, rfl, rfl, .inl ⟨by decide, by decide⟩, _, _, rfl, ?_, ?_, ?_⟩
      · rw [refs_len]; omega
      · rw [refs_len]; omega
      · rw [refs_len]; omega
      · rw [refs_len]; omega
      · rw [refs_len, st_sum pm sqs, st_len pm]
        exact fun p H2 s2 np hp => q p H2 ((s1.trans s').trans s2) ((s1.trans s').free np) hp
def spTaken : Sp := fun vs H Q _ => ∃ (p : Addr) (st : Sta), vs = [.ref p] ∧ StAt H p st ∧ st.length ≤ 8 ∧ ∀ l H', Same H H' → H l = none → H' l = some (.lst ((ocs st).map fun (i : Nat) => V.int (i : Int))) → Q (.ref l) H'
theorem ok_taken_stations (D : Dn K mg "_law_taken_stations" (topS 43) ["_law_state"]) (B : Bl mg) : Cal P w K mg base "_law_taken_stations" ["_law_state"] 1 spTaken := by
  refine D.ok sc__law_taken_stations (fun vs H Q E h => ?_) (fun f cdv A outer s H vs Q E hr h => ?_)
  · obtain ⟨p, st, rfl, _⟩ := h
    rfl
  · obtain ⟨p, st, rfl, hst, h8, q⟩ := h
    obtain ⟨qs, hp, hqs⟩ := hst
    have hl : qs.length = st.length := Paired.length hqs
    have nd := sc__law_taken_stations.nd
    refine ⟨_, pss_one (ps_ret (pe_lc (own := [("_law_station", 1)]) (g := gName 1) (tt := tTest (tOp (rNeD K) (tOp (rIxT K) (tVar 0) (tVar 1)) (tTup tNil))) rfl nd (pi_range1 rfl B.b_range (pa_cons (pe_callB call_len_seq rfl B.b_len PySem.boot_len (pa_cons (pv 0) pa_nil)) pa_nil)) (blkOk_by (N := ["_law_state", "_law_station"]) (sc := defScope (topS 43)) (by decide +kernel))
      (fun _ _ _ _ _ => pg_name (i := 1) nd rfl (Or.inl rfl))
      (fun _ _ _ _ _ => pts_one (pt_cmpR (op_neD hr.units) (pe_ix ix_tup (pv 0) (pv 1) (fun _ _ => rfl)) (pe_tup pa_nil) (nomark _)))
      (fun _ _ _ _ _ => pv 1))), ?_⟩
    refine ⟨.ref p, rfl, p, _, rfl, .inr (.of hp), _, rfl, ?_, ?_, fun L hL => ?_⟩
    · rw [List.length_map]; omega
    · rw [List.length_map]; omega
    refine lc_it (walk_range (lo := 0)) (fun i H' => Same H H' ∧ H' L = some (.lst (((List.range i).filter fun i => !emp st i).map fun (i : Nat) => V.int (i : Int)))) ⟨same_new hL, upd_same⟩
      (fun i H' _ hp' => True.intro) (fun i x H1 H2 hi hp' hy => ?_) (fun H' hp' => ?_)
    · obtain ⟨sm, hL1⟩ := hp'
      obtain ⟨rfl, rfl⟩ := hy
      rw [List.length_map, Int.toNat_natCast, hl] at hi
      obtain ⟨q1, e1, t1⟩ := StAt.at (p := p) hqs hi
      show gName 1 (V.int ((0 : Int) + (i : Int))) _ _ _
      rw [Int.zero_add]
      refine ⟨rfl, .ref p, rfl, .int (i : Int), rfl, p, _, _, .ref q1, rfl, rfl, .of (sm _ _ hp), at_of (j := i) rfl ?_, by show 0 ≤ sizeLine; decide, fun e he => ?_⟩
      · rw [List.getElem?_map, e1]
        rfl
      have s2 := same_new (o := .tup []) he
      refine ⟨datT _, .tuple [], dp_t (s2 _ _ (sm _ _ t1)), dp_nil upd_same, shaped_t _, shaped_nil, _, rfl, ?_⟩
      rw [eqv_nil]
      have eb : (st.getD i []).isEmpty = emp st i := rfl
      rw [eb]
      refine ite2 (fun hb => ?_) (fun hb => ?_)
      · refine ⟨.int (i : Int), rfl, _, s2 _ _ hL1, ?_, same_mut (sm.trans s2) hL, ?_⟩
        · rw [List.length_map]
          have := List.length_filter_le (fun i => !emp st i) (List.range i)
          rw [List.length_range] at this
          exact small1000 (by omega)
        · rw [upd_same, range_filter, if_pos hb, List.map_append]
          rfl
      · refine ⟨sm.trans s2, ?_⟩
        rw [range_filter, if_neg hb, List.append_nil]
        exact s2 _ _ hL1
    · obtain ⟨sm, hL1⟩ := hp'
      rw [List.length_map, Int.toNat_natCast, hl] at hL1
      exact q L H' sm hL hL1
end
end K27
namespace K27
open PySem PySem.Spec PyProof.Rows L2
/-! ### the row that the law draws from -/
def Row (K : PySem.W.Frag) (r a : Addr) (ns : List Int) (H : Hp) : Prop := ∃ j z k : Int, H r = some (.lst [.ref a, .int j, .int z, .int k]) ∧ (∀ o, SqL K (upd H r o) a (ns.map V.int)) ∧ 0 ≤ j ∧ 0 ≤ z ∧ z < 2147483647 ∧ 0 ≤ k
/-- all but the row is as it was -/
def But (r : Addr) (H H' : Hp) : Prop := ∀ b o, b ≠ r → H b = some o → H' b = some o
theorem But.upd {r : Addr} {H : Hp} {o : HO} : But r H (L2.upd H r o) := fun b u hb e => by
  rw [upd_ne hb]
  exact e
theorem But.trans {r : Addr} {H H1 H2 : Hp} (a : But r H H1) (b : But r H1 H2) : But r H H2 := fun x o hx e => b x o hx (a x o hx e)
theorem But.of {r : Addr} {H H' : Hp} (s : Same H H') : But r H H' := fun b o _ e => s b o e
theorem Row.same {K : PySem.W.Frag} {r a : Addr} {ns : List Int} {H H' : Hp} (s : Same H H') (h : Row K r a ns H) : Row K r a ns H' := by
  obtain ⟨j, z, k, h1, h2, h3⟩ := h
  refine ⟨j, z, k, s _ _ h1, fun o => Same.seq (fun b u e => ?_) (h2 o), h3⟩
  by_cases hb : b = r
  · subst hb
    rw [upd_same] at e ⊢
    exact e
  · rw [upd_ne hb] at e ⊢
    exact s _ _ e
theorem Row.put {K : PySem.W.Frag} {r a : Addr} {ns : List Int} {H : Hp} {j z k : Int} (h2 : ∀ o, SqL K (upd H r o) a (ns.map V.int)) (hj : 0 ≤ j) (hz : 0 ≤ z) (hz2 : z < 2147483647) (hk : 0 ≤ k) : Row K r a ns (upd H r (.lst [.ref a, .int j, .int z, .int k])) :=
  ⟨j, z, k, upd_same, fun o => by rw [upd_upd]; exact h2 o, hj, hz, hz2, hk⟩
section
variable {P : Program} {w : World} {K : PySem.W.Frag} {mg : Str → Option Value} {base : Heap}
def spDraw (K : PySem.W.Frag) : Sp := fun vs H Q _ => ∃ (r a : Addr) (ns : List Int) (m : Int), vs = [.ref r, .int m] ∧ Row K r a ns H ∧ 0 < m ∧ m < 1000000 ∧ ∀ (i : Int) H', 0 ≤ i → i < m → (∃ o, H' = upd H r o) → Row K r a ns H' → Q (.int i) H'
theorem ok_law_taken (D : Dn K mg "_law_taken" (topS 37) ["_law_row", "_law_many"]) (B : Bl mg) : Cal P w K mg base "_law_taken" ["_law_row", "_law_many"] 1 (spDraw K) := by
  refine D.ok sc__law_taken (fun vs H Q E h => ?_) (fun f cdv A outer s H vs Q E hr h => ?_)
  · obtain ⟨r, a, ns, m, rfl, _⟩ := h
    rfl
  · obtain ⟨r, a, ns, m, rfl, ⟨j, z, k, hR, hS, hj, hz, hz2, hk⟩, hm, hm2, q⟩ := h
    have nd := sc__law_taken.nd
    refine ⟨_, pss_cons (ps_if (pt_cmpR op_gt (pe_ix ix_list (pv 0) (pe_int) (fun _ _ => rfl)) (pe_int) (nomark _)) (pss_cons (ps_set (i := 2) nd rfl (Or.inl rfl) (pe_op op_mod (pe_callTy call_int1 rfl B.b_int (by decide +kernel) (pa_cons (pe_ix ix_list (pv 0) (pe_int) (fun _ _ => rfl)) (pa_nil))) (pv 1))) (pss_cons (ps_asg (pe_op op_fdiv (pe_ix ix_list (pv 0) (pe_int) (fun _ _ => rfl)) (pv 1)) (pg_sub (pv 0) pe_int set_list)) (pss_one (ps_ret (pv 2))))) (pss_nil)) (pss_cons (ps_asg (pe_op op_add (pe_ix ix_list (pv 0) (pe_int) (fun _ _ => rfl)) (pe_int)) (pg_sub (pv 0) pe_int set_list)) (pss_cons (ps_if (pt_cmpR op_gt (pe_ix ix_list (pv 0) (pe_int) (fun _ _ => rfl)) (pe_callB call_len_seq rfl B.b_len PySem.boot_len (pa_cons (pe_ix ix_list (pv 0) (pe_int) (fun _ _ => rfl)) (pa_nil))) (nomark _)) (pss_cons (ps_asg (pe_op op_mod (pe_callTy call_int1 rfl B.b_int (by decide +kernel) (pa_cons (pe_op op_add (pe_op op_mul (pe_ix ix_list (pv 0) (pe_int) (fun _ _ => rfl)) (pe_int)) (pe_int)) (pa_nil))) (pe_int)) (pg_sub (pv 0) pe_int set_list)) (pss_one (ps_ret (pe_op op_mod (pe_callTy call_int1 rfl B.b_int (by decide +kernel) (pa_cons (pe_op op_fdiv (pe_ix ix_list (pv 0) (pe_int) (fun _ _ => rfl)) (pe_int)) (pa_nil))) (pv 1))))) (pss_nil)) (pss_cons (ps_set (i := 3) nd rfl (Or.inl rfl) (pe_ix ix_list (pe_ix ix_list (pv 0) (pe_int) (fun _ _ => rfl)) (pe_op op_sub (pe_ix ix_list (pv 0) (pe_int) (fun _ _ => rfl)) (pe_int)) (fun _ _ => rfl))) (pss_cons (ps_asg (pe_op op_mod (pe_callTy call_int1 rfl B.b_int (by decide +kernel) (pa_cons (pe_op op_add (pe_op op_add (pe_op op_mul (pe_ix ix_list (pv 0) (pe_int) (fun _ _ => rfl)) (pe_int)) (pv 3)) (pe_int)) (pa_nil))) (pe_int)) (pg_sub (pv 0) pe_int set_list)) (pss_cons (ps_if (pt_cmpR op_ge (pv 3) (pe_op op_pow (pe_int) (pe_int)) (nomark _)) (pss_one (ps_asg (pe_op op_fdiv (pv 3) (pv 1)) (pg_sub (pv 0) pe_int set_list))) (pss_nil)) (pss_one (ps_ret (pe_op op_mod (pe_callTy call_int1 rfl B.b_int (by decide +kernel) (pa_cons (pv 3) (pa_nil))) (pv 1))))))))), ?_⟩
    refine ⟨.ref r, rfl, r, _, 3, .int k, rfl, rfl, .of hR, rfl, _, _, rfl, rfl, _, rfl, ?_⟩
    by_cases h0 : 0 < k
    · refine iteD h0 ?_
      refine ⟨.ref r, rfl, r, _, 3, .int k, rfl, rfl, .of hR, rfl, .inl ⟨k, rfl, .int m, rfl, _, _, rfl, rfl, hm, ?_⟩⟩
      refine ⟨.ref r, rfl, r, _, 3, .int k, rfl, rfl, .of hR, rfl, .int m, rfl, _, _, rfl, rfl, ⟨hm, by omega⟩, .ref r, rfl, r, _, 3, 3, rfl, rfl, hR, rfl, ?_⟩
      refine ⟨_, rfl, ?_⟩
      exact q _ _ (Int.emod_nonneg _ (by omega)) (Int.emod_lt_of_pos _ hm) ⟨_, rfl⟩ (Row.put hS hj hz hz2 (Int.ediv_nonneg hk (by omega)))
    · refine iteDF h0 ?_
      -- row[1] = row[1] + 1
      refine ⟨.ref r, rfl, r, _, 1, .int j, rfl, rfl, .of hR, rfl, _, _, rfl, rfl, .ref r, rfl, r, _, 1, 1, rfl, rfl, hR, rfl, ?_⟩
      have hR1 : (upd H r (.lst ([V.ref a, V.int j, V.int z, V.int k].set 1 (V.int (j + 1))))) r = some (.lst [.ref a, .int (j + 1), .int z, .int k]) := upd_same
      have hS1 : ∀ o, SqL K (upd (upd H r (.lst ([V.ref a, V.int j, V.int z, V.int k].set 1 (V.int (j + 1))))) r o) a (ns.map V.int) := fun o => by rw [upd_upd]; exact hS o
      have hA1 : SqL K (upd H r (.lst ([V.ref a, V.int j, V.int z, V.int k].set 1 (V.int (j + 1))))) a (ns.map V.int) := hS _
      have hu1 : ∃ o, (upd H r (.lst ([V.ref a, V.int j, V.int z, V.int k].set 1 (V.int (j + 1))))) = upd H r o := ⟨_, rfl⟩
      generalize (upd H r (.lst ([V.ref a, V.int j, V.int z, V.int k].set 1 (V.int (j + 1))))) = H1 at *
      refine ⟨.ref r, rfl, r, _, 1, .int (j + 1), rfl, rfl, .of hR1, rfl, .ref r, rfl, r, _, 0, .ref a, rfl, rfl, .of hR1, rfl, a, _, rfl, .inl hA1, _, _, rfl, rfl, _, rfl, ?_⟩
      have end1 : ∀ (o : HO), ∃ o', upd H1 r o = upd H r o' := fun o => by
        obtain ⟨o1, e1⟩ := hu1
        rw [e1, upd_upd]
        exact ⟨o, rfl⟩
      by_cases h1 : ((ns.map V.int).length : Int) < j + 1
      · refine iteD h1 ?_
        refine ⟨.ref r, rfl, r, _, 2, .int z, rfl, rfl, .of hR1, rfl, _, _, rfl, rfl, .inl ⟨by omega, by omega⟩, _, _, rfl, rfl, .inl ⟨_, rfl, _, _, rfl, rfl, (by show (0 : Int) < 2147483647; decide), .ref r, rfl, r, _, 2, 2, rfl, rfl, hR1, rfl, ?_⟩⟩
        refine ⟨.ref r, rfl, r, _, 2, .int ((z * 48271 + 11) % 2147483647), rfl, rfl, .of upd_same, rfl, _, _, rfl, rfl, ⟨by decide, by decide⟩, .inl ⟨_, rfl, .int m, rfl, _, _, rfl, rfl, hm, ?_⟩⟩
        exact q _ _ (Int.emod_nonneg _ (by omega)) (Int.emod_lt_of_pos _ hm) (end1 _) (Row.put hS1 (by omega) (Int.emod_nonneg _ (by decide)) (Int.emod_lt_of_pos _ (by decide)) hk)
      · refine iteDF h1 ?_
        rw [List.length_map] at h1
        have hjn : j.toNat < ns.length := by omega
        have hget : (ns.map V.int)[j.toNat]? = some (.int ns[j.toNat]) := by
          rw [List.getElem?_map, List.getElem?_eq_getElem hjn]
          rfl
        refine ⟨.ref r, rfl, r, _, 0, .ref a, rfl, rfl, .of hR1, rfl, .ref r, rfl, r, _, 1, .int (j + 1), rfl, rfl, .of hR1, rfl, _, _, rfl, rfl, a, _, _, .int ns[j.toNat], rfl, rfl, hA1, at_of (j := j.toNat) ?_ hget, ?_⟩
        · show j + 1 - 1 = _
          omega
        generalize ns[j.toNat] = cell
        refine ⟨.ref r, rfl, r, _, 2, .int z, rfl, rfl, .of hR1, rfl, _, _, rfl, rfl, .inl ⟨by omega, by omega⟩, .int cell, rfl, _, _, rfl, rfl, _, _, rfl, rfl, .inl ⟨_, rfl, _, _, rfl, rfl, (by show (0 : Int) < 2147483647; decide), .ref r, rfl, r, _, 2, 2, rfl, rfl, hR1, rfl, ?_⟩⟩
        refine ⟨.int cell, rfl, 10, 18, rfl, rfl, ⟨by decide, by decide, by decide⟩, _, _, rfl, rfl, _, rfl, ?_⟩
        have z1 : 0 ≤ (z * 48271 + cell + 11) % 2147483647 := Int.emod_nonneg _ (by decide)
        have z2 : (z * 48271 + cell + 11) % 2147483647 < 2147483647 := Int.emod_lt_of_pos _ (by decide)
        by_cases h2 : (10 : Int) ^ (18 : Int).toNat ≤ cell
        · refine iteD h2 ?_
          have hc : 0 ≤ cell := Int.le_trans (by decide) h2
          refine ⟨.int cell, rfl, .int m, rfl, _, _, rfl, rfl, ⟨hm, by omega⟩, .ref r, rfl, r, _, 3, 3, rfl, rfl, upd_same, rfl, ?_⟩
          refine ⟨.int cell, rfl, .inl ⟨_, rfl, .int m, rfl, _, _, rfl, rfl, hm, ?_⟩⟩
          rw [upd_upd]
          exact q _ _ (Int.emod_nonneg _ (by omega)) (Int.emod_lt_of_pos _ hm) (end1 _) (Row.put hS1 (by omega) z1 z2 (Int.ediv_nonneg hc (by omega)))
        · refine iteDF h2 ?_
          refine ⟨.int cell, rfl, .inl ⟨_, rfl, .int m, rfl, _, _, rfl, rfl, hm, ?_⟩⟩
          exact q _ _ (Int.emod_nonneg _ (by omega)) (Int.emod_lt_of_pos _ hm) (end1 _) (Row.put hS1 (by omega) z1 z2 hk)
def spPick (K : PySem.W.Frag) : Sp := fun vs H Q _ => ∃ (r a t : Addr) (ns : List Int) (xs : List V), vs = [.ref r, .ref t] ∧ Row K r a ns H ∧ H t = some (.lst xs) ∧ t ≠ r ∧ 0 < xs.length ∧ xs.length < 1000 ∧
  ∀ (i : Nat) v H', xs[i]? = some v → But r H H' → Row K r a ns H' → Q v H'
theorem ok_law_pick (D : Dn K mg "_law_pick" (topS 38) ["_law_row", "_law_things"]) (B : Bl mg) (C1 : Cal P w K mg base "_law_taken" ["_law_row", "_law_many"] 1 (spDraw K)) : Cal P w K mg base "_law_pick" ["_law_row", "_law_things"] 2 (spPick K) := by
  refine D.ok sc__law_pick (fun vs H Q E h => ?_) (fun f cdv A outer s H vs Q E hr h => ?_)
  · obtain ⟨r, a, t, ns, xs, rfl, _⟩ := h
    rfl
  · obtain ⟨r, a, t, ns, xs, rfl, hR, ht, hne, h1, h2, q⟩ := h
    refine ⟨_, pss_one (ps_ret (pe_ix ix_list (pv 1) (pe_cal C1 hr (pa_cons (pv 0) (pa_cons (pe_callB call_len_seq rfl B.b_len PySem.boot_len (pa_cons (pv 1) pa_nil)) pa_nil))) (fun _ _ => rfl))), ?_⟩
    refine ⟨.ref t, rfl, .ref r, rfl, .ref t, rfl, t, _, rfl, .inl (.of ht), r, a, ns, _, rfl, hR, by omega, by omega, fun i H' hi hi2 hu hR' => ?_⟩
    obtain ⟨o, rfl⟩ := hu
    have hlt : i.toNat < xs.length := by omega
    have hx : xs[i.toNat]? = some xs[i.toNat] := List.getElem?_eq_getElem hlt
    refine ⟨t, xs, i, _, rfl, rfl, .of ?_, at_of (j := i.toNat) (by omega) hx, ?_⟩
    · rw [upd_ne hne]
      exact ht
    · exact q i.toNat _ _ hx But.upd hR'
def spFew (K : PySem.W.Frag) : Sp := fun vs H Q _ => ∃ (r a : Addr) (ns : List Int), vs = [.ref r] ∧ Row K r a ns H ∧ ∀ (y : Addr) (c s : Int) H', (c, s) ∈ fewYards → H' y = some (.tup [.int c, .int s]) → But r H H' → Row K r a ns H' → Q (.ref y) H'
theorem ok_law_few (D : Dn K mg "_law_few" (topS 45) ["_law_row"]) (C1 : Cal P w K mg base "_law_pick" ["_law_row", "_law_things"] 2 (spPick K)) : Cal P w K mg base "_law_few" ["_law_row"] 3 (spFew K) := by
  refine D.ok sc__law_few (fun vs H Q E h => ?_) (fun f cdv A outer s H vs Q E hr h => ?_)
  · obtain ⟨r, a, ns, rfl, _⟩ := h
    rfl
  · obtain ⟨r, a, ns, rfl, hR, q⟩ := h
    refine ⟨_, pss_one (ps_ret (pe_cal C1 hr (pa_cons (pv 0) (pa_cons (pe_lst (pa_cons (pe_tup (pa_cons pe_int (pa_cons pe_int pa_nil))) (pa_cons (pe_tup (pa_cons pe_int (pa_cons pe_int pa_nil))) (pa_cons (pe_tup (pa_cons pe_int (pa_cons pe_int pa_nil)))
      (pa_cons (pe_tup (pa_cons pe_int (pa_cons pe_int pa_nil))) (pa_cons (pe_tup (pa_cons pe_int (pa_cons pe_int pa_nil))) (pa_cons (pe_tup (pa_cons pe_int (pa_cons pe_int pa_nil))) (pa_cons (pe_tup (pa_cons pe_int (pa_cons pe_int pa_nil)))
      (pa_cons (pe_tup (pa_cons pe_int (pa_cons pe_int pa_nil))) (pa_cons (pe_tup (pa_cons pe_int (pa_cons pe_int pa_nil))) pa_nil)))))))))) pa_nil)))), ?_⟩
    have rr : ∃ o, H r = some o := by
      obtain ⟨j, z, k, h1, _⟩ := hR
      exact ⟨_, h1⟩
    obtain ⟨o0, hr0⟩ := rr
    refine ⟨.ref r, rfl, ?_⟩
    refine ⟨by show 2 ≤ sizeLine; decide, fun p1 n1 => ?_⟩
    have s1 : Same H (upd H p1 (.tup [.int 1, .int 5])) := same_new n1
    have e1 : (upd H p1 (.tup [.int 1, .int 5])) p1 = some (.tup [.int 1, .int 5]) := upd_same
    generalize (upd H p1 (.tup [.int 1, .int 5])) = H1 at *
    refine ⟨by show 2 ≤ sizeLine; decide, fun p2 n2 => ?_⟩
    have s2 : Same H1 (upd H1 p2 (.tup [.int 2, .int 4])) := same_new n2
    have e2 : (upd H1 p2 (.tup [.int 2, .int 4])) p2 = some (.tup [.int 2, .int 4]) := upd_same
    generalize (upd H1 p2 (.tup [.int 2, .int 4])) = H2 at *
    refine ⟨by show 2 ≤ sizeLine; decide, fun p3 n3 => ?_⟩
    have s3 : Same H2 (upd H2 p3 (.tup [.int 3, .int 3])) := same_new n3
    have e3 : (upd H2 p3 (.tup [.int 3, .int 3])) p3 = some (.tup [.int 3, .int 3]) := upd_same
    generalize (upd H2 p3 (.tup [.int 3, .int 3])) = H3 at *
    refine ⟨by show 2 ≤ sizeLine; decide, fun p4 n4 => ?_⟩
    have s4 : Same H3 (upd H3 p4 (.tup [.int 3, .int 4])) := same_new n4
    have e4 : (upd H3 p4 (.tup [.int 3, .int 4])) p4 = some (.tup [.int 3, .int 4]) := upd_same
    generalize (upd H3 p4 (.tup [.int 3, .int 4])) = H4 at *
    refine ⟨by show 2 ≤ sizeLine; decide, fun p5 n5 => ?_⟩
    have s5 : Same H4 (upd H4 p5 (.tup [.int 2, .int 6])) := same_new n5
    have e5 : (upd H4 p5 (.tup [.int 2, .int 6])) p5 = some (.tup [.int 2, .int 6]) := upd_same
    generalize (upd H4 p5 (.tup [.int 2, .int 6])) = H5 at *
    refine ⟨by show 2 ≤ sizeLine; decide, fun p6 n6 => ?_⟩
    have s6 : Same H5 (upd H5 p6 (.tup [.int 4, .int 3])) := same_new n6
    have e6 : (upd H5 p6 (.tup [.int 4, .int 3])) p6 = some (.tup [.int 4, .int 3]) := upd_same
    generalize (upd H5 p6 (.tup [.int 4, .int 3])) = H6 at *
    refine ⟨by show 2 ≤ sizeLine; decide, fun p7 n7 => ?_⟩
    have s7 : Same H6 (upd H6 p7 (.tup [.int 3, .int 2])) := same_new n7
    have e7 : (upd H6 p7 (.tup [.int 3, .int 2])) p7 = some (.tup [.int 3, .int 2]) := upd_same
    generalize (upd H6 p7 (.tup [.int 3, .int 2])) = H7 at *
    refine ⟨by show 2 ≤ sizeLine; decide, fun p8 n8 => ?_⟩
    have s8 : Same H7 (upd H7 p8 (.tup [.int 4, .int 2])) := same_new n8
    have e8 : (upd H7 p8 (.tup [.int 4, .int 2])) p8 = some (.tup [.int 4, .int 2]) := upd_same
    generalize (upd H7 p8 (.tup [.int 4, .int 2])) = H8 at *
    refine ⟨by show 2 ≤ sizeLine; decide, fun p9 n9 => ?_⟩
    have s9 : Same H8 (upd H8 p9 (.tup [.int 2, .int 2])) := same_new n9
    have e9 : (upd H8 p9 (.tup [.int 2, .int 2])) p9 = some (.tup [.int 2, .int 2]) := upd_same
    generalize (upd H8 p9 (.tup [.int 2, .int 2])) = H9 at *
    refine ⟨by show 9 ≤ sizeLine; decide, fun t nt => ?_⟩
    have s10 : Same H9 (upd H9 t (.lst [.ref p1, .ref p2, .ref p3, .ref p4, .ref p5, .ref p6, .ref p7, .ref p8, .ref p9])) := same_new nt
    have e10 : (upd H9 t (.lst [.ref p1, .ref p2, .ref p3, .ref p4, .ref p5, .ref p6, .ref p7, .ref p8, .ref p9])) t = some (.lst [.ref p1, .ref p2, .ref p3, .ref p4, .ref p5, .ref p6, .ref p7, .ref p8, .ref p9]) := upd_same
    have w9 := s9.trans s10
    have w8 := s8.trans w9
    have w7 := s7.trans w8
    have w6 := s6.trans w7
    have w5 := s5.trans w6
    have w4 := s4.trans w5
    have w3 := s3.trans w4
    have w2 := s2.trans w3
    have w1 := s1.trans w2
    have htr : t ≠ r := fun z => by
      have h := (s1.trans (s2.trans (s3.trans (s4.trans (s5.trans (s6.trans (s7.trans (s8.trans s9)))))))) _ _ hr0
      rw [← z, nt] at h
      cases h
    refine ⟨r, a, t, ns, _, rfl, hR.same w1, e10, htr, (by show 0 < 9; decide), (by show 9 < 1000; decide), fun i v H' hv hb hR' => ?_⟩
    have fin : ∀ (p : Addr) (c s : Int), H9 p = some (.tup [.int c, .int s]) → (c, s) ∈ fewYards → v = .ref p → Q v H' := fun p c s hp hm hv => by
      subst hv
      refine q p c s H' hm (hb _ _ (fun z => ?_) (s10 _ _ hp)) ((But.of w1).trans hb) hR'
      subst z
      have h := (s1.trans (s2.trans (s3.trans (s4.trans (s5.trans (s6.trans (s7.trans (s8.trans s9)))))))) _ _ hr0
      obtain ⟨j, z, k, h1, _⟩ := hR
      rw [hr0] at h1
      cases h1
      rw [hp] at h
      cases h
    have x8 := s8.trans s9
    have x7 := s7.trans x8
    have x6 := s6.trans x7
    have x5 := s5.trans x6
    have x4 := s4.trans x5
    have x3 := s3.trans x4
    have x2 := s2.trans x3
    match i, hv with
    | 0, hv => exact fin p1 1 5 (x2 _ _ e1) (by decide) (Option.some.inj hv).symm
    | 1, hv => exact fin p2 2 4 (x3 _ _ e2) (by decide) (Option.some.inj hv).symm
    | 2, hv => exact fin p3 3 3 (x4 _ _ e3) (by decide) (Option.some.inj hv).symm
    | 3, hv => exact fin p4 3 4 (x5 _ _ e4) (by decide) (Option.some.inj hv).symm
    | 4, hv => exact fin p5 2 6 (x6 _ _ e5) (by decide) (Option.some.inj hv).symm
    | 5, hv => exact fin p6 4 3 (x7 _ _ e6) (by decide) (Option.some.inj hv).symm
    | 6, hv => exact fin p7 3 2 (x8 _ _ e7) (by decide) (Option.some.inj hv).symm
    | 7, hv => exact fin p8 4 2 (s9 _ _ e8) (by decide) (Option.some.inj hv).symm
    | 8, hv => exact fin p9 2 2 e9 (by decide) (Option.some.inj hv).symm
    | i + 9, hv => exact absurd hv (by simp)
def spBig (K : PySem.W.Frag) : Sp := fun vs H Q _ => ∃ (r a : Addr) (ns : List Int), vs = [.ref r, .int 7, .int 8] ∧ Row K r a ns H ∧ ∀ (y : Addr) (c s : Int) H', YardAt H' y c s → Q (.ref y) H'
theorem ok_law_yard (D : Dn K mg "_law_yard" (topS 42) ["_law_row", "_law_cars", "_law_stations"]) (C1 : Cal P w K mg base "_law_taken" ["_law_row", "_law_many"] 1 (spDraw K)) : Cal P w K mg base "_law_yard" ["_law_row", "_law_cars", "_law_stations"] 2 (spBig K) := by
  refine D.ok sc__law_yard (fun vs H Q E h => ?_) (fun f cdv A outer s H vs Q E hr h => ?_)
  · obtain ⟨r, a, ns, rfl, _⟩ := h
    rfl
  · obtain ⟨r, a, ns, rfl, hR, q⟩ := h
    refine ⟨_, pss_one (ps_ret (pe_tup (pa_cons (pe_op op_add pe_int (pe_cal C1 hr (pa_cons (pv 0) (pa_cons (pv 1) pa_nil)))) (pa_cons (pe_op op_add pe_int (pe_cal C1 hr (pa_cons (pv 0) (pa_cons (pe_op op_sub (pv 2) pe_int) pa_nil)))) pa_nil)))), ?_⟩
    refine ⟨.ref r, rfl, .int 7, rfl, r, a, ns, 7, rfl, hR, by decide, by decide, fun i H1 h1 h2 _ hR1 => ?_⟩
    refine ⟨1, i, rfl, rfl, .ref r, rfl, .int 8, rfl, 8, 1, rfl, rfl, r, a, ns, 7, rfl, hR1, by decide, by decide, fun j H2 h3 h4 _ hR2 => ?_⟩
    refine ⟨2, j, rfl, rfl, by show 2 ≤ sizeLine; decide, fun p hp => ?_⟩
    exact q p (1 + i) (2 + j) _ ⟨upd_same, by omega, by omega, by omega, by omega⟩
end
end K27
namespace K27
open PySem PySem.Spec PyProof.Rows L2
theorem cls2 : Paired ClsV [V.ty "tuple", V.ty "list"] [Value.type "tuple", Value.type "list"] := .cons (.ty _) (.cons (.ty _) .nil)
theorem kit_int {K : PySem.W.Frag} : PySem.W.kitAny K (.type "int") [Value.type "tuple", Value.type "list"] = some false :=
  kitAny_cons (b := false) (kit_ty (by decide +kernel)) (fun _ => kitAny_cons (b := false) (kit_ty (by decide +kernel)) (fun _ => kitAny_nil) (fun h => nomatch h)) (fun h => nomatch h)
theorem kit_tup {K : PySem.W.Frag} : PySem.W.kitAny K (.type "tuple") [Value.type "tuple", Value.type "list"] = some true :=
  kitAny_cons (b := true) (kit_ty (by decide +kernel)) (fun h => nomatch h) (fun _ => rfl)
section
variable {P : Program} {w : World} {K : PySem.W.Frag} {mg : Str → Option Value} {base : Heap}
/-- two equal ints are alike -/
def spAlike1 : Sp := fun vs H Q _ => ∃ i : Int, vs = [.int i, .int i] ∧ ∀ H', Same H H' → Q (.bl true) H'
theorem ok_alike1 (D : Dn K mg "_law_alike" (topS 39) ["_law_found", "_law_due"]) (B : Bl mg) : Cal P w K mg base "_law_alike" ["_law_found", "_law_due"] 1 spAlike1 := by
  refine D.ok sc__law_alike (fun vs H Q E h => ?_) (fun f cdv A outer s H vs Q E hr h => ?_)
  · obtain ⟨i, rfl, _⟩ := h
    rfl
  · obtain ⟨i, rfl, q⟩ := h
    refine ⟨_, pss_cons (ps_if (pt_val (pe_callB call_isiT rfl B.b_isinstance (by decide +kernel) (pa_cons (pv 1) (pa_cons (pe_tup (pa_cons (pe_bltn (v := .ty "tuple") rfl B.b_tuple (by decide +kernel) rfl) (pa_cons (pe_bltn (v := .ty "list") rfl B.b_list (by decide +kernel) rfl) pa_nil))) pa_nil)))) pss_never pss_nil)
      (pss_cons (ps_if (PW.pt (pw_or (pt_cmp (pc_isN (pv 1))) (pw_or1 (pt_val (pe_callB call_isi rfl B.b_isinstance (by decide +kernel) (pa_cons (pv 1) (pa_cons (pe_bltn (v := .ty "str") rfl B.b_str (by decide +kernel) rfl) pa_nil))))))) pss_never pss_nil)
      (pss_one (ps_ret (pe_and (pe_callB call_isi rfl B.b_isinstance (by decide +kernel) (pa_cons (pv 0) (pa_cons (pe_bltn (v := .ty "int") rfl B.b_int (by decide +kernel) rfl) pa_nil)))
        (pe_and (pe_cmpR op_eq (pe_callB call_isi rfl B.b_isinstance (by decide +kernel) (pa_cons (pv 0) (pa_cons (pe_bltn (v := .ty "bool") rfl B.b_bool (by decide +kernel) rfl) pa_nil))) (pe_callB call_isi rfl B.b_isinstance (by decide +kernel) (pa_cons (pv 1) (pa_cons (pe_bltn (v := .ty "bool") rfl B.b_bool (by decide +kernel) rfl) pa_nil))) (nomark _))
        (pe_one (pe_cmpR op_eq (pv 0) (pv 1) (nomark _)))))))), ?_⟩
    refine ⟨.int i, rfl, by show 2 ≤ sizeLine; decide, fun T nT => ?_⟩
    have s1 : Same H (upd H T (.tup [.ty "tuple", .ty "list"])) := same_new nT
    refine ⟨.int i, T, _, _, _, false, rfl, upd_same, cls2, .base (.int i), kit_int, false, rfl, iteF ?_⟩
    refine ⟨.int i, rfl, _, rfl, ?_⟩
    rw [decide_eq_false (fun z => by cases z)]
    refine iteF ⟨.int i, rfl, .int i, .ty "str", _, _, false, rfl, .ty _, .base (.int i), kit_ty (by decide +kernel), false, rfl, iteF ?_⟩
    refine ⟨.int i, rfl, .int i, .ty "int", _, _, true, rfl, .ty _, .base (.int i), kit_ty (by decide +kernel), true, rfl, iteT ?_⟩
    refine ⟨.int i, rfl, .int i, .ty "bool", _, _, false, rfl, .ty _, .base (.int i), kit_ty (by decide +kernel), .int i, rfl, .int i, .ty "bool", _, _, false, rfl, .ty _, .base (.int i), kit_ty (by decide +kernel), rfl, _, rfl, iteD rfl ?_⟩
    exact ⟨.int i, rfl, .int i, rfl, rfl, blT rfl (q _ s1)⟩
def spAlike2 : Sp := fun vs H Q _ => ∃ (p q : Addr) (r : Int × Int), vs = [.ref p, .ref q] ∧ RatAt H p r ∧ RatAt H q r ∧ ∀ H', Same H H' → Q (.bl true) H'
theorem ok_alike2 (D : Dn K mg "_law_alike" (topS 39) ["_law_found", "_law_due"]) (B : Bl mg) (C1 : Cal P w K mg base "_law_alike" ["_law_found", "_law_due"] 1 spAlike1) : Cal P w K mg base "_law_alike" ["_law_found", "_law_due"] 2 spAlike2 := by
  refine D.ok sc__law_alike (fun vs H Q E h => ?_) (fun f cdv A outer s H vs Q E hr h => ?_)
  · obtain ⟨p, q, r, rfl, _⟩ := h
    rfl
  · obtain ⟨p, p', r, rfl, hp, hp', q⟩ := h
    have nd := sc__law_alike.nd
    refine ⟨_, pss_cons (ps_if (pt_val (pe_callB call_isiT rfl B.b_isinstance (by decide +kernel) (pa_cons (pv 1) (pa_cons (pe_tup (pa_cons (pe_bltn (v := .ty "tuple") rfl B.b_tuple (by decide +kernel) rfl) (pa_cons (pe_bltn (v := .ty "list") rfl B.b_list (by decide +kernel) rfl) pa_nil))) pa_nil))))
        (pss_cons (ps_if (PW.pt (pw_or (pt_not (pt_val (pe_callB call_isiT rfl B.b_isinstance (by decide +kernel) (pa_cons (pv 0) (pa_cons (pe_tup (pa_cons (pe_bltn (v := .ty "tuple") rfl B.b_tuple (by decide +kernel) rfl) (pa_cons (pe_bltn (v := .ty "list") rfl B.b_list (by decide +kernel) rfl) pa_nil))) pa_nil)))))
            (pw_or1 (pt_cmpR op_ne (pe_callB call_isi rfl B.b_isinstance (by decide +kernel) (pa_cons (pv 0) (pa_cons (pe_bltn (v := .ty "list") rfl B.b_list (by decide +kernel) rfl) pa_nil))) (pe_callB call_isi rfl B.b_isinstance (by decide +kernel) (pa_cons (pv 1) (pa_cons (pe_bltn (v := .ty "list") rfl B.b_list (by decide +kernel) rfl) pa_nil))) (nomark _))))) pss_never pss_nil)
        (pss_cons (ps_if (pt_cmpR op_ne (pe_callB call_len_seq rfl B.b_len PySem.boot_len (pa_cons (pv 0) pa_nil)) (pe_callB call_len_seq rfl B.b_len PySem.boot_len (pa_cons (pv 1) pa_nil)) (nomark _)) pss_never pss_nil)
        (pss_one (ps_ret (pe_cmpR (op_eqD hr.units) (pe_lc (own := [("_law_k", 2)]) (g := gName 2) (tt := tNot (tB (tCall spAlike1 [] E0 (tCons (tOp (rIxT K) (tVar 0) (tVar 2)) (tCons (tOp (rIxT K) (tVar 1) (tVar 2)) tNil))))) rfl nd
            (pi_range1 rfl B.b_range (pa_cons (pe_callB call_len_seq rfl B.b_len PySem.boot_len (pa_cons (pv 1) pa_nil)) pa_nil)) (blkOk_by (N := ["_law_found", "_law_due", "_law_k"]) (sc := defScope (topS 39)) (by decide +kernel))
            (fun _ _ _ _ _ => pg_name (i := 2) nd rfl (Or.inl rfl))
            (fun _ _ _ _ _ => pts_one (pt_not (pt_val (pe_cal C1 hr (pa_cons (pe_ix ix_tup (pv 0) (pv 2) (fun _ _ => rfl)) (pa_cons (pe_ix ix_tup (pv 1) (pv 2) (fun _ _ => rfl)) pa_nil))))))
            (fun _ _ _ _ _ => pv 2)) (pe_lst pa_nil) (nomark _)))))) pss_nil) pss_never, ?_⟩
    -- isinstance(due, (tuple, list))
    refine ⟨.ref p', rfl, by show 2 ≤ sizeLine; decide, fun T nT => ?_⟩
    have s1 : Same H (upd H T (.tup [.ty "tuple", .ty "list"])) := same_new nT
    refine ⟨.ref p', T, _, _, _, true, rfl, upd_same, cls2, .base (.tup (s1 _ _ hp')), kit_tup, true, rfl, iteT ?_⟩
    generalize (upd H T (.tup [.ty "tuple", .ty "list"])) = H1 at *
    refine ⟨.ref p, rfl, by show 2 ≤ sizeLine; decide, fun T2 nT2 => ?_⟩
    have s2 := s1.trans (same_new (o := .tup [.ty "tuple", .ty "list"]) nT2)
    refine ⟨.ref p, T2, _, _, _, true, rfl, upd_same, cls2, .base (.tup (s2 _ _ hp)), kit_tup, true, rfl, iteF ?_⟩
    generalize (upd H1 T2 (.tup [.ty "tuple", .ty "list"])) = H2 at *
    have hq := s2 _ _ hp
    have hq' := s2 _ _ hp'
    refine ⟨.ref p, rfl, .ref p, .ty "list", _, _, false, rfl, .ty _, .base (.tup hq), kit_ty (by decide +kernel), .ref p', rfl, .ref p', .ty "list", _, _, false, rfl, .ty _, .base (.tup hq'), kit_ty (by decide +kernel), rfl, _, rfl, iteNS rfl ?_⟩
    -- len
    refine ⟨.ref p, rfl, p, _, rfl, .inr (.of hq), .ref p', rfl, p', _, rfl, .inr (.of hq'), rfl, _, rfl, iteNS rfl ?_⟩
    -- the comprehension
    refine ⟨.ref p', rfl, p', _, rfl, .inr (.of hq'), 2, rfl, by decide, by decide, fun L hL => ?_⟩
    refine lc_it (walk_range (lo := 0)) (fun i H' => Same H2 H' ∧ H' L = some (.lst [])) ⟨same_new hL, upd_same⟩
      (fun i H' _ hp' => True.intro) (fun i x H3 H4 hi hp2 hy => ?_) (fun H' hp2 => ?_)
    · obtain ⟨sm, hL1⟩ := hp2
      obtain ⟨rfl, rfl⟩ := hy
      have hi : i < 2 := hi
      show gName 2 (V.int ((0 : Int) + (i : Int))) _ _ _
      rw [Int.zero_add]
      obtain ⟨z, hz1⟩ : ∃ z : Int, [V.int r.1, V.int r.2][i]? = some (.int z) := by
        match i, hi with
        | 0, _ => exact ⟨r.1, rfl⟩
        | 1, _ => exact ⟨r.2, rfl⟩
      refine ⟨rfl, ?_⟩
      refine ⟨.ref p, rfl, .int (i : Int), rfl, p, _, _, .int z, rfl, rfl, .of (sm _ _ hq), at_of (j := i) rfl hz1, .ref p', rfl, .int (i : Int), rfl, p', _, _, .int z, rfl, rfl, .of (sm _ _ hq'), at_of (j := i) rfl hz1, z, rfl, fun H5 s5 => ?_⟩
      exact ⟨true, rfl, iteF ⟨sm.trans s5, s5 _ _ hL1⟩⟩
    · obtain ⟨sm, hL1⟩ := hp2
      refine ⟨by show 0 ≤ sizeLine; decide, fun e ne => ?_⟩
      have s3 := same_new (o := .lst []) ne
      refine ⟨.list [], .list [], .lst (.of (s3 _ _ hL1)) .nil, .lst (.of upd_same) .nil, by decide +kernel, by decide +kernel, ?_⟩
      have e1 : PyData.eqv (.list []) (.list []) = true := by decide +kernel
      rw [e1]
      exact q _ (s2.trans (sm.trans s3))
end
end K27
namespace K27
open PySem PySem.Spec PyProof.Rows L2
/-! ### the nine yards, the big yards -/
theorem few_nat : ∀ y ∈ fewYards, y.1 = (y.1.toNat : Int) ∧ y.2 = (y.2.toNat : Int) := by decide
theorem few_good {c n : Int} (h : (c, n) ∈ fewYards) : ∃ C S : Nat, c = C ∧ n = S ∧ good C S = true := ⟨c.toNat, n.toNat, (few_nat _ h).1, (few_nat _ h).2, all_good _ h⟩
theorem good_of {C S : Nat} (h : good C S = true) : (1 ≤ C ∧ C ≤ 7 ∧ 2 ≤ S ∧ S ≤ 8) ∧ Good (C : Int) (S : Int) ∧
    mt C S = rat ((gen S C).map (fun st => ((ocs st).length : Int))).sum (gen S C).length ∧
    rat ((S : Int) * S * (gen S C).length - ((gen S C).map sqs).sum) (2 * (gen S C).length) = rat ((gen S C).map (chc S)).sum (gen S C).length := by
  simp only [good, Bool.and_eq_true, decide_eq_true_eq, List.all_eq_true] at h
  obtain ⟨⟨⟨⟨⟨⟨⟨⟨⟨h1, h2⟩, h3⟩, h4⟩, h5⟩, h6⟩, h7⟩, h8⟩, h9⟩, h10⟩ := h
  refine ⟨⟨h1, h2, h3, h4⟩, ⟨?_, ?_, ?_, ?_⟩, h9, h10⟩
  · rw [Int.toNat_natCast, Int.toNat_natCast]
    refine ⟨fun k hk => nodup_code (h5 k (List.mem_range.mpr (by omega))).1.1, fun k hk => (h5 k (List.mem_range.mpr (by omega))).1.2, fun k hk st hst => ?_⟩
    have h := (h5 k (List.mem_range.mpr (by omega))).2 st hst
    exact ⟨eq_of_beq h.1, h.2⟩
  · rw [Int.toNat_natCast, Int.toNat_natCast]
    intro st hst
    obtain ⟨o, g⟩ := h6 st hst
    simp only [okS, Bool.and_eq_true, decide_eq_true_eq, List.all_eq_true] at o
    obtain ⟨⟨⟨o1, o2⟩, o3⟩, o4⟩ := o
    refine ⟨⟨?_, o2, o3, ?_⟩, ?_⟩
    · rw [eq_of_beq o1]
    · rw [eq_of_beq o4]
    · cases e : gaps st with
      | nil =>
        rw [e] at g
        cases g
      | cons x r => exact Nat.succ_pos _
  · rw [Int.toNat_natCast, Int.toNat_natCast]
    exact h7
  · rw [Int.toNat_natCast]
    exact h8
theorem big_of {c s : Int} (h1 : 1 ≤ c) (h2 : c ≤ 7) (h3 : 2 ≤ s) (h4 : s ≤ 8) : mt c s = rat (c * s) (c + s - 1) := by
  have := big_mt ⟨(c - 1).toNat, by omega⟩ ⟨(s - 2).toNat, by omega⟩
  simp only [Int.toNat_of_nonneg (show 0 ≤ c - 1 by omega), Int.toNat_of_nonneg (show 0 ≤ s - 2 by omega)] at this
  rw [show c - 1 + 1 = c by omega, show s - 2 + 2 = s by omega] at this
  exact this
/-- len of a list or tuple -/
def rLn (K : PySem.W.Frag) : List V → Hp → VK → Prop := fun xs H Q => ∃ p ys, xs = [.ref p] ∧ (SqL K H p ys ∨ SqT K H p ys) ∧ Q (.int ys.length) H
section
variable {P : Program} {w : World} {K : PySem.W.Frag} {mg : Str → Option Value} {base : Heap}
def spLaw (K : PySem.W.Frag) : Sp := fun vs H Q _ => ∃ (a : Addr) (ns : List Int), vs = [.ref a] ∧ SqL K H a (ns.map V.int) ∧ ∀ H', Q (.bl true) H'
theorem ok_law {f : Addr} {fd : FuncData} (F : Fun K "law" "law" (topS 46) f fd) (B : Bl mg) (C1 : Cal P w K mg base "_law_few" ["_law_row"] 3 (spFew K)) (C2 : Cal P w K mg base "_law_states" ["_law_yard_here"] 1 spStates)
    (C3 : Cal P w K mg base "_law_alike" ["_law_found", "_law_due"] 2 spAlike2) (C4 : Cal P w K mg base "mean_trains" ["yard"] 4 spMeanTrains) (C5 : Cal P w K mg base "_law_lowest" ["_law_numerator", "_law_denominator"] 2 spRat)
    (C6 : Cal P w K mg base "_law_taken_stations" ["_law_state"] 1 spTaken) (C7 : Cal P w K mg base "mean_fewest" ["yard"] 5 spMeanFewest) (C8 : Cal P w K mg base "calls_to_one" ["yard", "state"] 5 spToOne)
    (C9 : Cal P w K mg base "mean_by_chance" ["yard"] 5 spMeanChance) (C10 : Cal P w K mg base "mean_calls" ["yard", "state"] 5 spChance) (C11 : Cal P w K mg base "_law_yard" ["_law_row", "_law_cars", "_law_stations"] 2 (spBig K)) :
    FnOk P w K mg base CX0 6 f fd ["_law_script"] (spLaw K) := by
  refine F.ok sc_law (fun vs H Q E h => ?_) (fun cdv A outer s H vs Q E hr h => ?_)
  · obtain ⟨a, ns, rfl, _⟩ := h
    rfl
  · obtain ⟨a, ns, rfl, hS, q⟩ := h
    have nd := sc_law.nd
    have r1 : Room 1 (A.deeper (envOfC "law" (defScope (topS 46)) s.heap.objs.size f cdv)) := hr.mono (by decide)
    have r2 : Room 2 (A.deeper (envOfC "law" (defScope (topS 46)) s.heap.objs.size f cdv)) := hr.mono (by decide)
    have r4 : Room 4 (A.deeper (envOfC "law" (defScope (topS 46)) s.heap.objs.size f cdv)) := hr.mono (by decide)
    refine ⟨_, pss_cons (ps_set (i := 1) nd rfl (Or.inl rfl) (pe_lst (pa_cons (pv 0) (pa_cons pe_int (pa_cons pe_int (pa_cons pe_int pa_nil))))))
      (pss_cons (ps_set (i := 2) nd rfl (Or.inr rfl) (pe_cal C1 (hr.mono (by decide)) (pa_cons (pv 1) pa_nil)))
      (pss_cons (ps_set (i := 3) nd rfl (Or.inl rfl) (pe_cal C2 r1 (pa_cons (pv 2) pa_nil)))
      (pss_cons (ps_if (pt_not (pt_val (pe_cal C3 r2 (pa_cons (pe_cal C4 r4 (pa_cons (pv 2) pa_nil)) (pa_cons (pe_cal C5 r2 (pa_cons (pe_callB (cr_sum rfl) rfl B.b_sum (by decide +kernel)
          (pa_cons (pe_lc (own := [("_law_state", 5)]) (g := gName 5) (tt := tYes) (te := tCB (rLn K) (tCons (tCall spTaken [] E0 (tCons (tVar 5) tNil)) tNil)) rfl nd (pi_list (pv 3))
            (blkOk_by (N := ["_law_script", "_law_row", "_law_yard_here", "_law_some", "_law_big", "_law_state"]) (sc := defScope (topS 46)) (by decide +kernel))
            (fun _ _ _ _ _ => pg_name (i := 5) nd rfl (Or.inl rfl)) (fun _ _ _ _ _ => pts_nil) (fun _ _ _ _ _ => pe_callB call_len_seq rfl B.b_len PySem.boot_len (pa_cons (pe_cal C6 r1 (pa_cons (pv 5) pa_nil)) pa_nil))) pa_nil))
          (pa_cons (pe_callB call_len_seq rfl B.b_len PySem.boot_len (pa_cons (pv 3) pa_nil)) pa_nil))) pa_nil))))) pss_never pss_nil)
      (pss_cons (ps_if (pt_not (pt_val (pe_cal C3 r2 (pa_cons (pe_cal C7 hr (pa_cons (pv 2) pa_nil)) (pa_cons (pe_cal C5 r2 (pa_cons (pe_callB (cr_sum rfl) rfl B.b_sum (by decide +kernel)
          (pa_cons (pe_lc (own := [("_law_state", 5)]) (g := gName 5) (tt := tYes) (te := tCall spToOne [] E0 (tCons (tVar 2) (tCons (tVar 5) tNil))) rfl nd (pi_list (pv 3))
            (blkOk_by (N := ["_law_script", "_law_row", "_law_yard_here", "_law_some", "_law_big", "_law_state"]) (sc := defScope (topS 46)) (by decide +kernel))
            (fun _ _ _ _ _ => pg_name (i := 5) nd rfl (Or.inl rfl)) (fun _ _ _ _ _ => pts_nil) (fun _ _ _ _ _ => pe_cal C8 hr (pa_cons (pv 2) (pa_cons (pv 5) pa_nil)))) pa_nil))
          (pa_cons (pe_callB call_len_seq rfl B.b_len PySem.boot_len (pa_cons (pv 3) pa_nil)) pa_nil))) pa_nil))))) pss_never pss_nil)
      (pss_cons (ps_if (pt_not (pt_val (pe_cal C3 r2 (pa_cons (pe_cal C9 hr (pa_cons (pv 2) pa_nil)) (pa_cons (pe_cal C5 r2 (pa_cons (pe_callB (cr_sum rfl) rfl B.b_sum (by decide +kernel)
          (pa_cons (pe_lc (own := [("_law_state", 5)]) (g := gName 5) (tt := tYes) (te := tCall spChance [] E0 (tCons (tVar 2) (tCons (tVar 5) tNil))) rfl nd (pi_list (pv 3))
            (blkOk_by (N := ["_law_script", "_law_row", "_law_yard_here", "_law_some", "_law_big", "_law_state"]) (sc := defScope (topS 46)) (by decide +kernel))
            (fun _ _ _ _ _ => pg_name (i := 5) nd rfl (Or.inl rfl)) (fun _ _ _ _ _ => pts_nil) (fun _ _ _ _ _ => pe_cal C10 hr (pa_cons (pv 2) (pa_cons (pv 5) pa_nil)))) pa_nil))
          (pa_cons (pe_callB call_len_seq rfl B.b_len PySem.boot_len (pa_cons (pv 3) pa_nil)) pa_nil))) pa_nil))))) pss_never pss_nil)
      (pss_cons (ps_set (i := 4) nd rfl (Or.inl rfl) (pe_cal C11 r2 (pa_cons (pv 1) (pa_cons pe_int (pa_cons pe_int pa_nil)))))
      (pss_one (ps_ret (pe_cmpR (op_eqD hr.units) (pe_cal C4 r4 (pa_cons (pv 4) pa_nil))
        (pe_cal C5 r2 (pa_cons (pe_op op_mul (pe_ix ix_tup (pv 4) pe_int (fun _ _ => rfl)) (pe_ix ix_tup (pv 4) pe_int (fun _ _ => rfl)))
          (pa_cons (pe_op op_sub (pe_op op_add (pe_ix ix_tup (pv 4) pe_int (fun _ _ => rfl)) (pe_ix ix_tup (pv 4) pe_int (fun _ _ => rfl))) pe_int) pa_nil))) (nomark _)))))))))), ?_⟩
    -- the row
    refine ⟨.ref a, rfl, by show 4 ≤ sizeLine; decide, fun r nr => ?_⟩
    have hR0 : Row K r a ns (upd H r (.lst [.ref a, .int 0, .int 8027, .int 0])) :=
      Row.put (fun o => Same.seq (same_new nr) hS) (by decide) (by decide) (by decide) (by decide)
    -- the yard
    refine ⟨.ref r, rfl, r, a, ns, rfl, hR0, fun y c n H1 hm hy _ hR1 => ?_⟩
    obtain ⟨C, S, e1, e2, hgood⟩ := few_good hm
    subst e1 e2
    obtain ⟨⟨b1, b2, b3, b4⟩, G, m1, m2⟩ := good_of hgood
    have hY : YardAt H1 y (C : Int) (S : Int) := ⟨hy, by omega, by omega, by omega, by omega⟩
    -- all states
    refine ⟨.ref y, rfl, y, _, _, rfl, hY, G.few, fun l ps H2 s2 nl hl hA pm => ?_⟩
    have hY2 := hY.same s2
    have hR2 := hR1.same s2
    obtain ⟨z1, z2⟩ := G.len pm
    -- mean_trains
    refine ⟨.ref y, rfl, y, _, _, rfl, hY2, fun p H3 s3 np hp => ?_⟩
    refine ⟨.ref l, rfl, l, rfl, ⟨_, .of (s3 _ _ hl)⟩, fun L hL => ?_⟩
    refine lc_states (fun st => ((ocs st).length : Int)) (s3 _ _ hl) hL z2 (fun _ => rfl) (fun x hx H4 s4 Q' q' => ?_) (fun H4 s4 hL4 => ?_)
    · have hn := (G.at pm hx).1.len
      refine ⟨.ref x.1, rfl, x.1, x.2, rfl, ((hA x hx).same s3).same s4, by omega, fun l2 H5 s5 nl2 hl2 => ?_⟩
      refine ⟨l2, _, rfl, .inl (.of hl2), ?_⟩
      rw [List.length_map]
      exact q' H5 s5
    refine ⟨L, _, rfl, .of hL4, .ref l, rfl, l, _, rfl, .inl (.of (s4 _ _ (s3 _ _ hl))), _, _, rfl, ?_, ?_, fun p2 H5 s5 np2 hp2 => ?_⟩
    · rw [refs_len]; omega
    · rw [refs_len]; omega
    rw [refs_len, st_sum pm (fun st => ((ocs st).length : Int)), st_len pm] at hp2
    simp only [Int.toNat_natCast] at hp2
    rw [← m1] at hp2
    refine ⟨p, p2, _, rfl, s5 _ _ (s4 _ _ hp), hp2, fun H6 s6 => ⟨true, rfl, iteF ?_⟩⟩
    have t6 : Same H2 H6 := (s3.trans s4).trans (s5.trans s6)
    clear hp2 np2 hL4 hL np hp s3 s4 s5 s6
    have hl := t6 _ _ hl
    have hA := hA.same t6
    have hY6 := hY2.same t6
    have hR6 := hR2.same t6
    clear t6
    -- mean_fewest
    refine ⟨.ref y, rfl, y, _, _, rfl, hY6, G, fun p H3 s3 np hp => ?_⟩
    refine ⟨.ref l, rfl, l, rfl, ⟨_, .of (s3 _ _ hl)⟩, fun L hL => ?_⟩
    refine lc_states (few (S : Int)) (s3 _ _ hl) hL z2 (fun _ => rfl) (fun x hx H4 s4 Q' q' => ?_) (fun H4 s4 hL4 => ?_)
    · obtain ⟨fit, hg⟩ := G.at pm hx
      exact ⟨.ref y, rfl, .ref x.1, rfl, y, x.1, _, _, x.2, rfl, (hY6.same s3).same s4, ((hA x hx).same s3).same s4, fit, hg, q'⟩
    refine ⟨L, _, rfl, .of hL4, .ref l, rfl, l, _, rfl, .inl (.of (s4 _ _ (s3 _ _ hl))), _, _, rfl, ?_, ?_, fun p2 H5 s5 np2 hp2 => ?_⟩
    · rw [refs_len]; omega
    · rw [refs_len]; omega
    rw [refs_len, st_sum pm (few (S : Int)), st_len pm] at hp2
    refine ⟨p, p2, _, rfl, s5 _ _ (s4 _ _ hp), hp2, fun H7 s7 => ⟨true, rfl, iteF ?_⟩⟩
    have t7 : Same H6 H7 := (s3.trans s4).trans (s5.trans s7)
    clear hp2 np2 hL4 hL np hp s3 s4 s5 s7
    have hl := t7 _ _ hl
    have hA := hA.same t7
    have hY7 := hY6.same t7
    have hR7 := hR6.same t7
    clear t7
    -- mean_by_chance
    refine ⟨.ref y, rfl, y, _, _, rfl, hY7, G, fun p H3 s3 np hp => ?_⟩
    refine ⟨.ref l, rfl, l, rfl, ⟨_, .of (s3 _ _ hl)⟩, fun L hL => ?_⟩
    refine lc_states (chc (S : Int)) (s3 _ _ hl) hL z2 (fun _ => rfl) (fun x hx H4 s4 Q' q' => ?_) (fun H4 s4 hL4 => ?_)
    · obtain ⟨fit, hg⟩ := G.at pm hx
      exact ⟨.ref y, rfl, .ref x.1, rfl, y, x.1, _, _, x.2, rfl, (hY7.same s3).same s4, ((hA x hx).same s3).same s4, fit, q'⟩
    refine ⟨L, _, rfl, .of hL4, .ref l, rfl, l, _, rfl, .inl (.of (s4 _ _ (s3 _ _ hl))), _, _, rfl, ?_, ?_, fun p2 H5 s5 np2 hp2 => ?_⟩
    · rw [refs_len]; omega
    · rw [refs_len]; omega
    rw [refs_len, st_sum pm (chc (S : Int)), st_len pm] at hp2
    simp only [Int.toNat_natCast] at hp2 hp
    rw [← m2] at hp2
    refine ⟨p, p2, _, rfl, s5 _ _ (s4 _ _ hp), hp2, fun H8 s8 => ⟨true, rfl, iteF ?_⟩⟩
    have hR8 := hR7.same ((s3.trans s4).trans (s5.trans s8))
    -- the big yard
    refine ⟨.ref r, rfl, r, a, ns, rfl, hR8, fun y2 c2 n2 H9 hY9 => ?_⟩
    obtain ⟨hy9, g1, g2, g3, g4⟩ := id hY9
    refine ⟨.ref y2, rfl, y2, c2, n2, rfl, hY9, fun p3 HA sA npA hpA => ?_⟩
    have hyA := sA _ _ hy9
    refine ⟨.ref y2, rfl, y2, _, 0, .int c2, rfl, rfl, .of hyA, rfl, .ref y2, rfl, y2, _, 1, .int n2, rfl, rfl, .of hyA, rfl, c2, n2, rfl, rfl, .inl ⟨by omega, by omega⟩, ?_⟩
    refine ⟨.ref y2, rfl, y2, _, 0, .int c2, rfl, rfl, .of hyA, rfl, .ref y2, rfl, y2, _, 1, .int n2, rfl, rfl, .of hyA, rfl, c2, n2, rfl, rfl, _, 1, rfl, rfl, ?_⟩
    refine ⟨c2 * n2, c2 + n2 - 1, rfl, by omega, by omega, fun p4 HB sB npB hpB => ?_⟩
    rw [← big_of g1 g2 g3 g4] at hpB
    have d1 : Dp K HB (.ref p3) (datT [(mt c2 n2).1, (mt c2 n2).2]) := .tup (.of (sB _ _ hpA)) (.cons (.int _) (.cons (.int _) .nil))
    have d2 : Dp K HB (.ref p4) (datT [(mt c2 n2).1, (mt c2 n2).2]) := .tup (.of hpB) (.cons (.int _) (.cons (.int _) .nil))
    refine ⟨_, _, d1, d2, shaped_t _, shaped_t _, ?_⟩
    have al : PySem.W.alike (datT [(mt c2 n2).1, (mt c2 n2).2]) (datT [(mt c2 n2).1, (mt c2 n2).2]) = true := by
      unfold datT
      rw [PySem.W.alike]
      exact PySem.W.alike_ints _ _
    rw [PySem.W.eqv_refl_alike _ al]
    exact q _
end
end K27
namespace K27
open PySem PySem.Spec PyProof.Rows L2
/-! ### what the top has written -/
theorem dn_mk {K : PySem.W.Frag} {h : Heap} {mg : Str → Option Value} {x : Str} {st : Stmt} {ps : List Str} {f : Addr} {oc : Value} {od an : Option Addr} {sl : Array (Option Value)} {kV dc pm cd ct : Value} (X : K.In h) (G : h.Ns mainGlobals mg)
    (a : PySem.W.nsIn K mainGlobals x = some (some (.ref f))) (l : K.lookup f = some ⟨oc, od, .func (PySem.W.fnOf x x (defArgs st) (defBody st) (defScope st) .none kV dc pm an cd ct), sl⟩) (c : PySem.W.codeIn K cd x = true) (k : PySem.W.keepIn K (.ref f) = true)
    (b : ∀ (kV doc pm : Value) (an : Option Addr) (cdv ct : Value) (us : List Value), us.length = ps.length → bindArgs (PySem.W.fnOf x x (defArgs st) (defBody st) (defScope st) .none kV doc pm an cdv ct) ⟨us, []⟩ = pure (ps.zip us)) : Dn K mg x st ps := by
  have F := fun_mk (st := st) l c k
  exact ⟨f, _, F, PySem.W.mg_of X G a, F.binds b⟩
theorem bind_is_integer : ∀ (kV doc pm : Value) (an : Option Addr) (cdv ct : Value) (us : List Value), us.length = (["value"] : List Str).length → bindArgs (PySem.W.fnOf "is_integer" "is_integer" (defArgs (topS 1)) (defBody (topS 1)) (defScope (topS 1)) .none kV doc pm an cdv ct) ⟨us, []⟩ = pure ((["value"] : List Str).zip us) :=
  fun _ _ _ _ _ _ us hl => match us, hl with | [_], _ => rfl
theorem bind_is_in : ∀ (kV doc pm : Value) (an : Option Addr) (cdv ct : Value) (us : List Value), us.length = (["value", "least", "most"] : List Str).length → bindArgs (PySem.W.fnOf "is_in" "is_in" (defArgs (topS 2)) (defBody (topS 2)) (defScope (topS 2)) .none kV doc pm an cdv ct) ⟨us, []⟩ = pure ((["value", "least", "most"] : List Str).zip us) :=
  fun _ _ _ _ _ _ us hl => match us, hl with | [_, _, _], _ => rfl
theorem bind_is_list : ∀ (kV doc pm : Value) (an : Option Addr) (cdv ct : Value) (us : List Value), us.length = (["value", "least", "most"] : List Str).length → bindArgs (PySem.W.fnOf "is_list" "is_list" (defArgs (topS 3)) (defBody (topS 3)) (defScope (topS 3)) .none kV doc pm an cdv ct) ⟨us, []⟩ = pure ((["value", "least", "most"] : List Str).zip us) :=
  fun _ _ _ _ _ _ us hl => match us, hl with | [_, _, _], _ => rfl
theorem bind_need_yard : ∀ (kV doc pm : Value) (an : Option Addr) (cdv ct : Value) (us : List Value), us.length = (["yard"] : List Str).length → bindArgs (PySem.W.fnOf "need_yard" "need_yard" (defArgs (topS 13)) (defBody (topS 13)) (defScope (topS 13)) .none kV doc pm an cdv ct) ⟨us, []⟩ = pure ((["yard"] : List Str).zip us) :=
  fun _ _ _ _ _ _ us hl => match us, hl with | [_], _ => rfl
theorem bind_need_trains : ∀ (kV doc pm : Value) (an : Option Addr) (cdv ct : Value) (us : List Value), us.length = (["yard", "state"] : List Str).length → bindArgs (PySem.W.fnOf "need_trains" "need_trains" (defArgs (topS 14)) (defBody (topS 14)) (defScope (topS 14)) .none kV doc pm an cdv ct) ⟨us, []⟩ = pure ((["yard", "state"] : List Str).zip us) :=
  fun _ _ _ _ _ _ us hl => match us, hl with | [_, _], _ => rfl
theorem bind_need_state : ∀ (kV doc pm : Value) (an : Option Addr) (cdv ct : Value) (us : List Value), us.length = (["yard", "state"] : List Str).length → bindArgs (PySem.W.fnOf "need_state" "need_state" (defArgs (topS 15)) (defBody (topS 15)) (defScope (topS 15)) .none kV doc pm an cdv ct) ⟨us, []⟩ = pure ((["yard", "state"] : List Str).zip us) :=
  fun _ _ _ _ _ _ us hl => match us, hl with | [_, _], _ => rfl
theorem bind_trains_in : ∀ (kV doc pm : Value) (an : Option Addr) (cdv ct : Value) (us : List Value), us.length = (["state"] : List Str).length → bindArgs (PySem.W.fnOf "trains_in" "trains_in" (defArgs (topS 16)) (defBody (topS 16)) (defScope (topS 16)) .none kV doc pm an cdv ct) ⟨us, []⟩ = pure ((["state"] : List Str).zip us) :=
  fun _ _ _ _ _ _ us hl => match us, hl with | [_], _ => rfl
theorem bind_all_states : ∀ (kV doc pm : Value) (an : Option Addr) (cdv ct : Value) (us : List Value), us.length = (["yard"] : List Str).length → bindArgs (PySem.W.fnOf "all_states" "all_states" (defArgs (topS 17)) (defBody (topS 17)) (defScope (topS 17)) .none kV doc pm an cdv ct) ⟨us, []⟩ = pure ((["yard"] : List Str).zip us) :=
  fun _ _ _ _ _ _ us hl => match us, hl with | [_], _ => rfl
theorem bind_number_of_states : ∀ (kV doc pm : Value) (an : Option Addr) (cdv ct : Value) (us : List Value), us.length = (["yard"] : List Str).length → bindArgs (PySem.W.fnOf "number_of_states" "number_of_states" (defArgs (topS 18)) (defBody (topS 18)) (defScope (topS 18)) .none kV doc pm an cdv ct) ⟨us, []⟩ = pure ((["yard"] : List Str).zip us) :=
  fun _ _ _ _ _ _ us hl => match us, hl with | [_], _ => rfl
theorem bind_choose : ∀ (kV doc pm : Value) (an : Option Addr) (cdv ct : Value) (us : List Value), us.length = (["many", "some"] : List Str).length → bindArgs (PySem.W.fnOf "choose" "choose" (defArgs (topS 19)) (defBody (topS 19)) (defScope (topS 19)) .none kV doc pm an cdv ct) ⟨us, []⟩ = pure ((["many", "some"] : List Str).zip us) :=
  fun _ _ _ _ _ _ us hl => match us, hl with | [_, _], _ => rfl
theorem bind_factorial : ∀ (kV doc pm : Value) (an : Option Addr) (cdv ct : Value) (us : List Value), us.length = (["many"] : List Str).length → bindArgs (PySem.W.fnOf "factorial" "factorial" (defArgs (topS 20)) (defBody (topS 20)) (defScope (topS 20)) .none kV doc pm an cdv ct) ⟨us, []⟩ = pure ((["many"] : List Str).zip us) :=
  fun _ _ _ _ _ _ us hl => match us, hl with | [_], _ => rfl
theorem bind_gap_in : ∀ (kV doc pm : Value) (an : Option Addr) (cdv ct : Value) (us : List Value), us.length = (["state", "station"] : List Str).length → bindArgs (PySem.W.fnOf "gap_in" "gap_in" (defArgs (topS 22)) (defBody (topS 22)) (defScope (topS 22)) .none kV doc pm an cdv ct) ⟨us, []⟩ = pure ((["state", "station"] : List Str).zip us) :=
  fun _ _ _ _ _ _ us hl => match us, hl with | [_, _], _ => rfl
theorem bind_all_gaps : ∀ (kV doc pm : Value) (an : Option Addr) (cdv ct : Value) (us : List Value), us.length = (["state"] : List Str).length → bindArgs (PySem.W.fnOf "all_gaps" "all_gaps" (defArgs (topS 24)) (defBody (topS 24)) (defScope (topS 24)) .none kV doc pm an cdv ct) ⟨us, []⟩ = pure ((["state"] : List Str).zip us) :=
  fun _ _ _ _ _ _ us hl => match us, hl with | [_], _ => rfl
theorem bind_calls_to_one : ∀ (kV doc pm : Value) (an : Option Addr) (cdv ct : Value) (us : List Value), us.length = (["yard", "state"] : List Str).length → bindArgs (PySem.W.fnOf "calls_to_one" "calls_to_one" (defArgs (topS 25)) (defBody (topS 25)) (defScope (topS 25)) .none kV doc pm an cdv ct) ⟨us, []⟩ = pure ((["yard", "state"] : List Str).zip us) :=
  fun _ _ _ _ _ _ us hl => match us, hl with | [_, _], _ => rfl
theorem bind_shared : ∀ (kV doc pm : Value) (an : Option Addr) (cdv ct : Value) (us : List Value), us.length = (["one", "other"] : List Str).length → bindArgs (PySem.W.fnOf "shared" "shared" (defArgs (topS 27)) (defBody (topS 27)) (defScope (topS 27)) .none kV doc pm an cdv ct) ⟨us, []⟩ = pure ((["one", "other"] : List Str).zip us) :=
  fun _ _ _ _ _ _ us hl => match us, hl with | [_, _], _ => rfl
theorem bind_ratio : ∀ (kV doc pm : Value) (an : Option Addr) (cdv ct : Value) (us : List Value), us.length = (["top", "low"] : List Str).length → bindArgs (PySem.W.fnOf "ratio" "ratio" (defArgs (topS 28)) (defBody (topS 28)) (defScope (topS 28)) .none kV doc pm an cdv ct) ⟨us, []⟩ = pure ((["top", "low"] : List Str).zip us) :=
  fun _ _ _ _ _ _ us hl => match us, hl with | [_, _], _ => rfl
theorem bind_mean_calls : ∀ (kV doc pm : Value) (an : Option Addr) (cdv ct : Value) (us : List Value), us.length = (["yard", "state"] : List Str).length → bindArgs (PySem.W.fnOf "mean_calls" "mean_calls" (defArgs (topS 30)) (defBody (topS 30)) (defScope (topS 30)) .none kV doc pm an cdv ct) ⟨us, []⟩ = pure ((["yard", "state"] : List Str).zip us) :=
  fun _ _ _ _ _ _ us hl => match us, hl with | [_, _], _ => rfl
theorem bind_mean_trains : ∀ (kV doc pm : Value) (an : Option Addr) (cdv ct : Value) (us : List Value), us.length = (["yard"] : List Str).length → bindArgs (PySem.W.fnOf "mean_trains" "mean_trains" (defArgs (topS 32)) (defBody (topS 32)) (defScope (topS 32)) .none kV doc pm an cdv ct) ⟨us, []⟩ = pure ((["yard"] : List Str).zip us) :=
  fun _ _ _ _ _ _ us hl => match us, hl with | [_], _ => rfl
theorem bind_need_all : ∀ (kV doc pm : Value) (an : Option Addr) (cdv ct : Value) (us : List Value), us.length = (["yard"] : List Str).length → bindArgs (PySem.W.fnOf "need_all" "need_all" (defArgs (topS 33)) (defBody (topS 33)) (defScope (topS 33)) .none kV doc pm an cdv ct) ⟨us, []⟩ = pure ((["yard"] : List Str).zip us) :=
  fun _ _ _ _ _ _ us hl => match us, hl with | [_], _ => rfl
theorem bind_mean_fewest : ∀ (kV doc pm : Value) (an : Option Addr) (cdv ct : Value) (us : List Value), us.length = (["yard"] : List Str).length → bindArgs (PySem.W.fnOf "mean_fewest" "mean_fewest" (defArgs (topS 34)) (defBody (topS 34)) (defScope (topS 34)) .none kV doc pm an cdv ct) ⟨us, []⟩ = pure ((["yard"] : List Str).zip us) :=
  fun _ _ _ _ _ _ us hl => match us, hl with | [_], _ => rfl
theorem bind_mean_by_chance : ∀ (kV doc pm : Value) (an : Option Addr) (cdv ct : Value) (us : List Value), us.length = (["yard"] : List Str).length → bindArgs (PySem.W.fnOf "mean_by_chance" "mean_by_chance" (defArgs (topS 35)) (defBody (topS 35)) (defScope (topS 35)) .none kV doc pm an cdv ct) ⟨us, []⟩ = pure ((["yard"] : List Str).zip us) :=
  fun _ _ _ _ _ _ us hl => match us, hl with | [_], _ => rfl
theorem bind__law_taken : ∀ (kV doc pm : Value) (an : Option Addr) (cdv ct : Value) (us : List Value), us.length = (["_law_row", "_law_many"] : List Str).length → bindArgs (PySem.W.fnOf "_law_taken" "_law_taken" (defArgs (topS 37)) (defBody (topS 37)) (defScope (topS 37)) .none kV doc pm an cdv ct) ⟨us, []⟩ = pure ((["_law_row", "_law_many"] : List Str).zip us) :=
  fun _ _ _ _ _ _ us hl => match us, hl with | [_, _], _ => rfl
theorem bind__law_pick : ∀ (kV doc pm : Value) (an : Option Addr) (cdv ct : Value) (us : List Value), us.length = (["_law_row", "_law_things"] : List Str).length → bindArgs (PySem.W.fnOf "_law_pick" "_law_pick" (defArgs (topS 38)) (defBody (topS 38)) (defScope (topS 38)) .none kV doc pm an cdv ct) ⟨us, []⟩ = pure ((["_law_row", "_law_things"] : List Str).zip us) :=
  fun _ _ _ _ _ _ us hl => match us, hl with | [_, _], _ => rfl
theorem bind__law_alike : ∀ (kV doc pm : Value) (an : Option Addr) (cdv ct : Value) (us : List Value), us.length = (["_law_found", "_law_due"] : List Str).length → bindArgs (PySem.W.fnOf "_law_alike" "_law_alike" (defArgs (topS 39)) (defBody (topS 39)) (defScope (topS 39)) .none kV doc pm an cdv ct) ⟨us, []⟩ = pure ((["_law_found", "_law_due"] : List Str).zip us) :=
  fun _ _ _ _ _ _ us hl => match us, hl with | [_, _], _ => rfl
theorem bind__law_gcd : ∀ (kV doc pm : Value) (an : Option Addr) (cdv ct : Value) (us : List Value), us.length = (["_law_one", "_law_other"] : List Str).length → bindArgs (PySem.W.fnOf "_law_gcd" "_law_gcd" (defArgs (topS 40)) (defBody (topS 40)) (defScope (topS 40)) .none kV doc pm an cdv ct) ⟨us, []⟩ = pure ((["_law_one", "_law_other"] : List Str).zip us) :=
  fun _ _ _ _ _ _ us hl => match us, hl with | [_, _], _ => rfl
theorem bind__law_lowest : ∀ (kV doc pm : Value) (an : Option Addr) (cdv ct : Value) (us : List Value), us.length = (["_law_numerator", "_law_denominator"] : List Str).length → bindArgs (PySem.W.fnOf "_law_lowest" "_law_lowest" (defArgs (topS 41)) (defBody (topS 41)) (defScope (topS 41)) .none kV doc pm an cdv ct) ⟨us, []⟩ = pure ((["_law_numerator", "_law_denominator"] : List Str).zip us) :=
  fun _ _ _ _ _ _ us hl => match us, hl with | [_, _], _ => rfl
theorem bind__law_yard : ∀ (kV doc pm : Value) (an : Option Addr) (cdv ct : Value) (us : List Value), us.length = (["_law_row", "_law_cars", "_law_stations"] : List Str).length → bindArgs (PySem.W.fnOf "_law_yard" "_law_yard" (defArgs (topS 42)) (defBody (topS 42)) (defScope (topS 42)) .none kV doc pm an cdv ct) ⟨us, []⟩ = pure ((["_law_row", "_law_cars", "_law_stations"] : List Str).zip us) :=
  fun _ _ _ _ _ _ us hl => match us, hl with | [_, _, _], _ => rfl
theorem bind__law_taken_stations : ∀ (kV doc pm : Value) (an : Option Addr) (cdv ct : Value) (us : List Value), us.length = (["_law_state"] : List Str).length → bindArgs (PySem.W.fnOf "_law_taken_stations" "_law_taken_stations" (defArgs (topS 43)) (defBody (topS 43)) (defScope (topS 43)) .none kV doc pm an cdv ct) ⟨us, []⟩ = pure ((["_law_state"] : List Str).zip us) :=
  fun _ _ _ _ _ _ us hl => match us, hl with | [_], _ => rfl
theorem bind__law_states : ∀ (kV doc pm : Value) (an : Option Addr) (cdv ct : Value) (us : List Value), us.length = (["_law_yard_here"] : List Str).length → bindArgs (PySem.W.fnOf "_law_states" "_law_states" (defArgs (topS 44)) (defBody (topS 44)) (defScope (topS 44)) .none kV doc pm an cdv ct) ⟨us, []⟩ = pure ((["_law_yard_here"] : List Str).zip us) :=
  fun _ _ _ _ _ _ us hl => match us, hl with | [_], _ => rfl
theorem bind__law_few : ∀ (kV doc pm : Value) (an : Option Addr) (cdv ct : Value) (us : List Value), us.length = (["_law_row"] : List Str).length → bindArgs (PySem.W.fnOf "_law_few" "_law_few" (defArgs (topS 45)) (defBody (topS 45)) (defScope (topS 45)) .none kV doc pm an cdv ct) ⟨us, []⟩ = pure ((["_law_row"] : List Str).zip us) :=
  fun _ _ _ _ _ _ us hl => match us, hl with | [_], _ => rfl
theorem all_mk {l : PySem.W.OpenLaw} {w : World} {K : PySem.W.Frag} {h : Heap} {mg : Str → Option Value} {fa : Addr} (X : K.In h) (G : h.Ns mainGlobals mg) (hfa : mg "law" = some (.ref fa))
    {f1 : Addr} {oc1 : Value} {od1 an1 : Option Addr} {sl1 : Array (Option Value)} {kV1 dc1 pm1 cd1 ct1 : Value}
    {f2 : Addr} {oc2 : Value} {od2 an2 : Option Addr} {sl2 : Array (Option Value)} {kV2 dc2 pm2 cd2 ct2 : Value}
    {f3 : Addr} {oc3 : Value} {od3 an3 : Option Addr} {sl3 : Array (Option Value)} {kV3 dc3 pm3 cd3 ct3 : Value}
    {f13 : Addr} {oc13 : Value} {od13 an13 : Option Addr} {sl13 : Array (Option Value)} {kV13 dc13 pm13 cd13 ct13 : Value}
    {f14 : Addr} {oc14 : Value} {od14 an14 : Option Addr} {sl14 : Array (Option Value)} {kV14 dc14 pm14 cd14 ct14 : Value}
    {f15 : Addr} {oc15 : Value} {od15 an15 : Option Addr} {sl15 : Array (Option Value)} {kV15 dc15 pm15 cd15 ct15 : Value}
    {f16 : Addr} {oc16 : Value} {od16 an16 : Option Addr} {sl16 : Array (Option Value)} {kV16 dc16 pm16 cd16 ct16 : Value}
    {f17 : Addr} {oc17 : Value} {od17 an17 : Option Addr} {sl17 : Array (Option Value)} {kV17 dc17 pm17 cd17 ct17 : Value}
    {f18 : Addr} {oc18 : Value} {od18 an18 : Option Addr} {sl18 : Array (Option Value)} {kV18 dc18 pm18 cd18 ct18 : Value}
    {f19 : Addr} {oc19 : Value} {od19 an19 : Option Addr} {sl19 : Array (Option Value)} {kV19 dc19 pm19 cd19 ct19 : Value}
    {f20 : Addr} {oc20 : Value} {od20 an20 : Option Addr} {sl20 : Array (Option Value)} {kV20 dc20 pm20 cd20 ct20 : Value}
    {f22 : Addr} {oc22 : Value} {od22 an22 : Option Addr} {sl22 : Array (Option Value)} {kV22 dc22 pm22 cd22 ct22 : Value}
    {f24 : Addr} {oc24 : Value} {od24 an24 : Option Addr} {sl24 : Array (Option Value)} {kV24 dc24 pm24 cd24 ct24 : Value}
    {f25 : Addr} {oc25 : Value} {od25 an25 : Option Addr} {sl25 : Array (Option Value)} {kV25 dc25 pm25 cd25 ct25 : Value}
    {f27 : Addr} {oc27 : Value} {od27 an27 : Option Addr} {sl27 : Array (Option Value)} {kV27 dc27 pm27 cd27 ct27 : Value}
    {f28 : Addr} {oc28 : Value} {od28 an28 : Option Addr} {sl28 : Array (Option Value)} {kV28 dc28 pm28 cd28 ct28 : Value}
    {f30 : Addr} {oc30 : Value} {od30 an30 : Option Addr} {sl30 : Array (Option Value)} {kV30 dc30 pm30 cd30 ct30 : Value}
    {f32 : Addr} {oc32 : Value} {od32 an32 : Option Addr} {sl32 : Array (Option Value)} {kV32 dc32 pm32 cd32 ct32 : Value}
    {f33 : Addr} {oc33 : Value} {od33 an33 : Option Addr} {sl33 : Array (Option Value)} {kV33 dc33 pm33 cd33 ct33 : Value}
    {f34 : Addr} {oc34 : Value} {od34 an34 : Option Addr} {sl34 : Array (Option Value)} {kV34 dc34 pm34 cd34 ct34 : Value}
    {f35 : Addr} {oc35 : Value} {od35 an35 : Option Addr} {sl35 : Array (Option Value)} {kV35 dc35 pm35 cd35 ct35 : Value}
    {f37 : Addr} {oc37 : Value} {od37 an37 : Option Addr} {sl37 : Array (Option Value)} {kV37 dc37 pm37 cd37 ct37 : Value}
    {f38 : Addr} {oc38 : Value} {od38 an38 : Option Addr} {sl38 : Array (Option Value)} {kV38 dc38 pm38 cd38 ct38 : Value}
    {f39 : Addr} {oc39 : Value} {od39 an39 : Option Addr} {sl39 : Array (Option Value)} {kV39 dc39 pm39 cd39 ct39 : Value}
    {f40 : Addr} {oc40 : Value} {od40 an40 : Option Addr} {sl40 : Array (Option Value)} {kV40 dc40 pm40 cd40 ct40 : Value}
    {f41 : Addr} {oc41 : Value} {od41 an41 : Option Addr} {sl41 : Array (Option Value)} {kV41 dc41 pm41 cd41 ct41 : Value}
    {f42 : Addr} {oc42 : Value} {od42 an42 : Option Addr} {sl42 : Array (Option Value)} {kV42 dc42 pm42 cd42 ct42 : Value}
    {f43 : Addr} {oc43 : Value} {od43 an43 : Option Addr} {sl43 : Array (Option Value)} {kV43 dc43 pm43 cd43 ct43 : Value}
    {f44 : Addr} {oc44 : Value} {od44 an44 : Option Addr} {sl44 : Array (Option Value)} {kV44 dc44 pm44 cd44 ct44 : Value}
    {f45 : Addr} {oc45 : Value} {od45 an45 : Option Addr} {sl45 : Array (Option Value)} {kV45 dc45 pm45 cd45 ct45 : Value}
    {f46 : Addr} {oc46 : Value} {od46 an46 : Option Addr} {sl46 : Array (Option Value)} {kV46 dc46 pm46 cd46 ct46 : Value}
    (a1 : PySem.W.nsIn K mainGlobals "is_integer" = some (some (.ref f1))) (l1 : K.lookup f1 = some ⟨oc1, od1, .func (PySem.W.fnOf "is_integer" "is_integer" (defArgs (topS 1)) (defBody (topS 1)) (defScope (topS 1)) .none kV1 dc1 pm1 an1 cd1 ct1), sl1⟩) (c1 : PySem.W.codeIn K cd1 "is_integer" = true) (k1 : PySem.W.keepIn K (.ref f1) = true)
    (a2 : PySem.W.nsIn K mainGlobals "is_in" = some (some (.ref f2))) (l2 : K.lookup f2 = some ⟨oc2, od2, .func (PySem.W.fnOf "is_in" "is_in" (defArgs (topS 2)) (defBody (topS 2)) (defScope (topS 2)) .none kV2 dc2 pm2 an2 cd2 ct2), sl2⟩) (c2 : PySem.W.codeIn K cd2 "is_in" = true) (k2 : PySem.W.keepIn K (.ref f2) = true)
    (a3 : PySem.W.nsIn K mainGlobals "is_list" = some (some (.ref f3))) (l3 : K.lookup f3 = some ⟨oc3, od3, .func (PySem.W.fnOf "is_list" "is_list" (defArgs (topS 3)) (defBody (topS 3)) (defScope (topS 3)) .none kV3 dc3 pm3 an3 cd3 ct3), sl3⟩) (c3 : PySem.W.codeIn K cd3 "is_list" = true) (k3 : PySem.W.keepIn K (.ref f3) = true)
    (a13 : PySem.W.nsIn K mainGlobals "need_yard" = some (some (.ref f13))) (l13 : K.lookup f13 = some ⟨oc13, od13, .func (PySem.W.fnOf "need_yard" "need_yard" (defArgs (topS 13)) (defBody (topS 13)) (defScope (topS 13)) .none kV13 dc13 pm13 an13 cd13 ct13), sl13⟩) (c13 : PySem.W.codeIn K cd13 "need_yard" = true) (k13 : PySem.W.keepIn K (.ref f13) = true)
    (a14 : PySem.W.nsIn K mainGlobals "need_trains" = some (some (.ref f14))) (l14 : K.lookup f14 = some ⟨oc14, od14, .func (PySem.W.fnOf "need_trains" "need_trains" (defArgs (topS 14)) (defBody (topS 14)) (defScope (topS 14)) .none kV14 dc14 pm14 an14 cd14 ct14), sl14⟩) (c14 : PySem.W.codeIn K cd14 "need_trains" = true) (k14 : PySem.W.keepIn K (.ref f14) = true)
    (a15 : PySem.W.nsIn K mainGlobals "need_state" = some (some (.ref f15))) (l15 : K.lookup f15 = some ⟨oc15, od15, .func (PySem.W.fnOf "need_state" "need_state" (defArgs (topS 15)) (defBody (topS 15)) (defScope (topS 15)) .none kV15 dc15 pm15 an15 cd15 ct15), sl15⟩) (c15 : PySem.W.codeIn K cd15 "need_state" = true) (k15 : PySem.W.keepIn K (.ref f15) = true)
    (a16 : PySem.W.nsIn K mainGlobals "trains_in" = some (some (.ref f16))) (l16 : K.lookup f16 = some ⟨oc16, od16, .func (PySem.W.fnOf "trains_in" "trains_in" (defArgs (topS 16)) (defBody (topS 16)) (defScope (topS 16)) .none kV16 dc16 pm16 an16 cd16 ct16), sl16⟩) (c16 : PySem.W.codeIn K cd16 "trains_in" = true) (k16 : PySem.W.keepIn K (.ref f16) = true)
    (a17 : PySem.W.nsIn K mainGlobals "all_states" = some (some (.ref f17))) (l17 : K.lookup f17 = some ⟨oc17, od17, .func (PySem.W.fnOf "all_states" "all_states" (defArgs (topS 17)) (defBody (topS 17)) (defScope (topS 17)) .none kV17 dc17 pm17 an17 cd17 ct17), sl17⟩) (c17 : PySem.W.codeIn K cd17 "all_states" = true) (k17 : PySem.W.keepIn K (.ref f17) = true)
    (a18 : PySem.W.nsIn K mainGlobals "number_of_states" = some (some (.ref f18))) (l18 : K.lookup f18 = some ⟨oc18, od18, .func (PySem.W.fnOf "number_of_states" "number_of_states" (defArgs (topS 18)) (defBody (topS 18)) (defScope (topS 18)) .none kV18 dc18 pm18 an18 cd18 ct18), sl18⟩) (c18 : PySem.W.codeIn K cd18 "number_of_states" = true) (k18 : PySem.W.keepIn K (.ref f18) = true)
    (a19 : PySem.W.nsIn K mainGlobals "choose" = some (some (.ref f19))) (l19 : K.lookup f19 = some ⟨oc19, od19, .func (PySem.W.fnOf "choose" "choose" (defArgs (topS 19)) (defBody (topS 19)) (defScope (topS 19)) .none kV19 dc19 pm19 an19 cd19 ct19), sl19⟩) (c19 : PySem.W.codeIn K cd19 "choose" = true) (k19 : PySem.W.keepIn K (.ref f19) = true)
    (a20 : PySem.W.nsIn K mainGlobals "factorial" = some (some (.ref f20))) (l20 : K.lookup f20 = some ⟨oc20, od20, .func (PySem.W.fnOf "factorial" "factorial" (defArgs (topS 20)) (defBody (topS 20)) (defScope (topS 20)) .none kV20 dc20 pm20 an20 cd20 ct20), sl20⟩) (c20 : PySem.W.codeIn K cd20 "factorial" = true) (k20 : PySem.W.keepIn K (.ref f20) = true)
    (a22 : PySem.W.nsIn K mainGlobals "gap_in" = some (some (.ref f22))) (l22 : K.lookup f22 = some ⟨oc22, od22, .func (PySem.W.fnOf "gap_in" "gap_in" (defArgs (topS 22)) (defBody (topS 22)) (defScope (topS 22)) .none kV22 dc22 pm22 an22 cd22 ct22), sl22⟩) (c22 : PySem.W.codeIn K cd22 "gap_in" = true) (k22 : PySem.W.keepIn K (.ref f22) = true)
    (a24 : PySem.W.nsIn K mainGlobals "all_gaps" = some (some (.ref f24))) (l24 : K.lookup f24 = some ⟨oc24, od24, .func (PySem.W.fnOf "all_gaps" "all_gaps" (defArgs (topS 24)) (defBody (topS 24)) (defScope (topS 24)) .none kV24 dc24 pm24 an24 cd24 ct24), sl24⟩) (c24 : PySem.W.codeIn K cd24 "all_gaps" = true) (k24 : PySem.W.keepIn K (.ref f24) = true)
    (a25 : PySem.W.nsIn K mainGlobals "calls_to_one" = some (some (.ref f25))) (l25 : K.lookup f25 = some ⟨oc25, od25, .func (PySem.W.fnOf "calls_to_one" "calls_to_one" (defArgs (topS 25)) (defBody (topS 25)) (defScope (topS 25)) .none kV25 dc25 pm25 an25 cd25 ct25), sl25⟩) (c25 : PySem.W.codeIn K cd25 "calls_to_one" = true) (k25 : PySem.W.keepIn K (.ref f25) = true)
    (a27 : PySem.W.nsIn K mainGlobals "shared" = some (some (.ref f27))) (l27 : K.lookup f27 = some ⟨oc27, od27, .func (PySem.W.fnOf "shared" "shared" (defArgs (topS 27)) (defBody (topS 27)) (defScope (topS 27)) .none kV27 dc27 pm27 an27 cd27 ct27), sl27⟩) (c27 : PySem.W.codeIn K cd27 "shared" = true) (k27 : PySem.W.keepIn K (.ref f27) = true)
    (a28 : PySem.W.nsIn K mainGlobals "ratio" = some (some (.ref f28))) (l28 : K.lookup f28 = some ⟨oc28, od28, .func (PySem.W.fnOf "ratio" "ratio" (defArgs (topS 28)) (defBody (topS 28)) (defScope (topS 28)) .none kV28 dc28 pm28 an28 cd28 ct28), sl28⟩) (c28 : PySem.W.codeIn K cd28 "ratio" = true) (k28 : PySem.W.keepIn K (.ref f28) = true)
    (a30 : PySem.W.nsIn K mainGlobals "mean_calls" = some (some (.ref f30))) (l30 : K.lookup f30 = some ⟨oc30, od30, .func (PySem.W.fnOf "mean_calls" "mean_calls" (defArgs (topS 30)) (defBody (topS 30)) (defScope (topS 30)) .none kV30 dc30 pm30 an30 cd30 ct30), sl30⟩) (c30 : PySem.W.codeIn K cd30 "mean_calls" = true) (k30 : PySem.W.keepIn K (.ref f30) = true)
    (a32 : PySem.W.nsIn K mainGlobals "mean_trains" = some (some (.ref f32))) (l32 : K.lookup f32 = some ⟨oc32, od32, .func (PySem.W.fnOf "mean_trains" "mean_trains" (defArgs (topS 32)) (defBody (topS 32)) (defScope (topS 32)) .none kV32 dc32 pm32 an32 cd32 ct32), sl32⟩) (c32 : PySem.W.codeIn K cd32 "mean_trains" = true) (k32 : PySem.W.keepIn K (.ref f32) = true)
    (a33 : PySem.W.nsIn K mainGlobals "need_all" = some (some (.ref f33))) (l33 : K.lookup f33 = some ⟨oc33, od33, .func (PySem.W.fnOf "need_all" "need_all" (defArgs (topS 33)) (defBody (topS 33)) (defScope (topS 33)) .none kV33 dc33 pm33 an33 cd33 ct33), sl33⟩) (c33 : PySem.W.codeIn K cd33 "need_all" = true) (k33 : PySem.W.keepIn K (.ref f33) = true)
    (a34 : PySem.W.nsIn K mainGlobals "mean_fewest" = some (some (.ref f34))) (l34 : K.lookup f34 = some ⟨oc34, od34, .func (PySem.W.fnOf "mean_fewest" "mean_fewest" (defArgs (topS 34)) (defBody (topS 34)) (defScope (topS 34)) .none kV34 dc34 pm34 an34 cd34 ct34), sl34⟩) (c34 : PySem.W.codeIn K cd34 "mean_fewest" = true) (k34 : PySem.W.keepIn K (.ref f34) = true)
    (a35 : PySem.W.nsIn K mainGlobals "mean_by_chance" = some (some (.ref f35))) (l35 : K.lookup f35 = some ⟨oc35, od35, .func (PySem.W.fnOf "mean_by_chance" "mean_by_chance" (defArgs (topS 35)) (defBody (topS 35)) (defScope (topS 35)) .none kV35 dc35 pm35 an35 cd35 ct35), sl35⟩) (c35 : PySem.W.codeIn K cd35 "mean_by_chance" = true) (k35 : PySem.W.keepIn K (.ref f35) = true)
    (a37 : PySem.W.nsIn K mainGlobals "_law_taken" = some (some (.ref f37))) (l37 : K.lookup f37 = some ⟨oc37, od37, .func (PySem.W.fnOf "_law_taken" "_law_taken" (defArgs (topS 37)) (defBody (topS 37)) (defScope (topS 37)) .none kV37 dc37 pm37 an37 cd37 ct37), sl37⟩) (c37 : PySem.W.codeIn K cd37 "_law_taken" = true) (k37 : PySem.W.keepIn K (.ref f37) = true)
    (a38 : PySem.W.nsIn K mainGlobals "_law_pick" = some (some (.ref f38))) (l38 : K.lookup f38 = some ⟨oc38, od38, .func (PySem.W.fnOf "_law_pick" "_law_pick" (defArgs (topS 38)) (defBody (topS 38)) (defScope (topS 38)) .none kV38 dc38 pm38 an38 cd38 ct38), sl38⟩) (c38 : PySem.W.codeIn K cd38 "_law_pick" = true) (k38 : PySem.W.keepIn K (.ref f38) = true)
    (a39 : PySem.W.nsIn K mainGlobals "_law_alike" = some (some (.ref f39))) (l39 : K.lookup f39 = some ⟨oc39, od39, .func (PySem.W.fnOf "_law_alike" "_law_alike" (defArgs (topS 39)) (defBody (topS 39)) (defScope (topS 39)) .none kV39 dc39 pm39 an39 cd39 ct39), sl39⟩) (c39 : PySem.W.codeIn K cd39 "_law_alike" = true) (k39 : PySem.W.keepIn K (.ref f39) = true)
    (a40 : PySem.W.nsIn K mainGlobals "_law_gcd" = some (some (.ref f40))) (l40 : K.lookup f40 = some ⟨oc40, od40, .func (PySem.W.fnOf "_law_gcd" "_law_gcd" (defArgs (topS 40)) (defBody (topS 40)) (defScope (topS 40)) .none kV40 dc40 pm40 an40 cd40 ct40), sl40⟩) (c40 : PySem.W.codeIn K cd40 "_law_gcd" = true) (k40 : PySem.W.keepIn K (.ref f40) = true)
    (a41 : PySem.W.nsIn K mainGlobals "_law_lowest" = some (some (.ref f41))) (l41 : K.lookup f41 = some ⟨oc41, od41, .func (PySem.W.fnOf "_law_lowest" "_law_lowest" (defArgs (topS 41)) (defBody (topS 41)) (defScope (topS 41)) .none kV41 dc41 pm41 an41 cd41 ct41), sl41⟩) (c41 : PySem.W.codeIn K cd41 "_law_lowest" = true) (k41 : PySem.W.keepIn K (.ref f41) = true)
    (a42 : PySem.W.nsIn K mainGlobals "_law_yard" = some (some (.ref f42))) (l42 : K.lookup f42 = some ⟨oc42, od42, .func (PySem.W.fnOf "_law_yard" "_law_yard" (defArgs (topS 42)) (defBody (topS 42)) (defScope (topS 42)) .none kV42 dc42 pm42 an42 cd42 ct42), sl42⟩) (c42 : PySem.W.codeIn K cd42 "_law_yard" = true) (k42 : PySem.W.keepIn K (.ref f42) = true)
    (a43 : PySem.W.nsIn K mainGlobals "_law_taken_stations" = some (some (.ref f43))) (l43 : K.lookup f43 = some ⟨oc43, od43, .func (PySem.W.fnOf "_law_taken_stations" "_law_taken_stations" (defArgs (topS 43)) (defBody (topS 43)) (defScope (topS 43)) .none kV43 dc43 pm43 an43 cd43 ct43), sl43⟩) (c43 : PySem.W.codeIn K cd43 "_law_taken_stations" = true) (k43 : PySem.W.keepIn K (.ref f43) = true)
    (a44 : PySem.W.nsIn K mainGlobals "_law_states" = some (some (.ref f44))) (l44 : K.lookup f44 = some ⟨oc44, od44, .func (PySem.W.fnOf "_law_states" "_law_states" (defArgs (topS 44)) (defBody (topS 44)) (defScope (topS 44)) .none kV44 dc44 pm44 an44 cd44 ct44), sl44⟩) (c44 : PySem.W.codeIn K cd44 "_law_states" = true) (k44 : PySem.W.keepIn K (.ref f44) = true)
    (a45 : PySem.W.nsIn K mainGlobals "_law_few" = some (some (.ref f45))) (l45 : K.lookup f45 = some ⟨oc45, od45, .func (PySem.W.fnOf "_law_few" "_law_few" (defArgs (topS 45)) (defBody (topS 45)) (defScope (topS 45)) .none kV45 dc45 pm45 an45 cd45 ct45), sl45⟩) (c45 : PySem.W.codeIn K cd45 "_law_few" = true) (k45 : PySem.W.keepIn K (.ref f45) = true)
    (a46 : PySem.W.nsIn K mainGlobals "law" = some (some (.ref f46))) (l46 : K.lookup f46 = some ⟨oc46, od46, .func (PySem.W.fnOf "law" "law" (defArgs (topS 46)) (defBody (topS 46)) (defScope (topS 46)) .none kV46 dc46 pm46 an46 cd46 ct46), sl46⟩) (c46 : PySem.W.codeIn K cd46 "law" = true) (k46 : PySem.W.keepIn K (.ref f46) = true)
    (z_isinstance : PySem.W.nsIn K mainGlobals "isinstance" = some none) (z_int : PySem.W.nsIn K mainGlobals "int" = some none) (z_bool : PySem.W.nsIn K mainGlobals "bool" = some none) (z_tuple : PySem.W.nsIn K mainGlobals "tuple" = some none) (z_len : PySem.W.nsIn K mainGlobals "len" = some none) (z_enumerate : PySem.W.nsIn K mainGlobals "enumerate" = some none) (z_range : PySem.W.nsIn K mainGlobals "range" = some none) (z_sorted : PySem.W.nsIn K mainGlobals "sorted" = some none) (z_list : PySem.W.nsIn K mainGlobals "list" = some none) (z_max : PySem.W.nsIn K mainGlobals "max" = some none) (z_abs : PySem.W.nsIn K mainGlobals "abs" = some none) (z_sum : PySem.W.nsIn K mainGlobals "sum" = some none) (z_str : PySem.W.nsIn K mainGlobals "str" = some none)
    {t1 t2 t3 : Tok} (m1 : PySem.W.nsIn K mainGlobals "MOST_CARS" = some (some (.int 7 t1))) (m2 : PySem.W.nsIn K mainGlobals "MOST_STATIONS" = some (some (.int 8 t2))) (m3 : PySem.W.nsIn K mainGlobals "MOST_STATES" = some (some (.int 20000 t3))) :
    ∃ fd : FuncData, (∀ (s : Shared) (v : Value), BindsTo s fd ⟨[v], []⟩ [("_law_script", v)]) ∧ ∀ base : Heap, K.In base → base.Ns mainGlobals mg → FnOk l.prog w K mg base CX0 6 fa fd ["_law_script"] (spLaw K) := by
  have e := hfa.symm.trans (PySem.W.mg_of X G a46)
  cases e
  have FL := fun_mk (st := topS 46) l46 c46 k46
  have B : Bl mg := ⟨PySem.W.mg_none_of X G z_isinstance, PySem.W.mg_none_of X G z_int, PySem.W.mg_none_of X G z_bool, PySem.W.mg_none_of X G z_tuple, PySem.W.mg_none_of X G z_len, PySem.W.mg_none_of X G z_enumerate, PySem.W.mg_none_of X G z_range, PySem.W.mg_none_of X G z_sorted, PySem.W.mg_none_of X G z_list, PySem.W.mg_none_of X G z_max, PySem.W.mg_none_of X G z_abs, PySem.W.mg_none_of X G z_sum, PySem.W.mg_none_of X G z_str⟩
  have M : Cst mg := ⟨⟨_, PySem.W.mg_of X G m1⟩, ⟨_, PySem.W.mg_of X G m2⟩, ⟨_, PySem.W.mg_of X G m3⟩⟩
  have D_is_integer := dn_mk X G a1 l1 c1 k1 bind_is_integer
  have D_is_in := dn_mk X G a2 l2 c2 k2 bind_is_in
  have D_is_list := dn_mk X G a3 l3 c3 k3 bind_is_list
  have D_need_yard := dn_mk X G a13 l13 c13 k13 bind_need_yard
  have D_need_trains := dn_mk X G a14 l14 c14 k14 bind_need_trains
  have D_need_state := dn_mk X G a15 l15 c15 k15 bind_need_state
  have D_trains_in := dn_mk X G a16 l16 c16 k16 bind_trains_in
  have D_all_states := dn_mk X G a17 l17 c17 k17 bind_all_states
  have D_number_of_states := dn_mk X G a18 l18 c18 k18 bind_number_of_states
  have D_choose := dn_mk X G a19 l19 c19 k19 bind_choose
  have D_factorial := dn_mk X G a20 l20 c20 k20 bind_factorial
  have D_gap_in := dn_mk X G a22 l22 c22 k22 bind_gap_in
  have D_all_gaps := dn_mk X G a24 l24 c24 k24 bind_all_gaps
  have D_calls_to_one := dn_mk X G a25 l25 c25 k25 bind_calls_to_one
  have D_shared := dn_mk X G a27 l27 c27 k27 bind_shared
  have D_ratio := dn_mk X G a28 l28 c28 k28 bind_ratio
  have D_mean_calls := dn_mk X G a30 l30 c30 k30 bind_mean_calls
  have D_mean_trains := dn_mk X G a32 l32 c32 k32 bind_mean_trains
  have D_need_all := dn_mk X G a33 l33 c33 k33 bind_need_all
  have D_mean_fewest := dn_mk X G a34 l34 c34 k34 bind_mean_fewest
  have D_mean_by_chance := dn_mk X G a35 l35 c35 k35 bind_mean_by_chance
  have D__law_taken := dn_mk X G a37 l37 c37 k37 bind__law_taken
  have D__law_pick := dn_mk X G a38 l38 c38 k38 bind__law_pick
  have D__law_alike := dn_mk X G a39 l39 c39 k39 bind__law_alike
  have D__law_gcd := dn_mk X G a40 l40 c40 k40 bind__law_gcd
  have D__law_lowest := dn_mk X G a41 l41 c41 k41 bind__law_lowest
  have D__law_yard := dn_mk X G a42 l42 c42 k42 bind__law_yard
  have D__law_taken_stations := dn_mk X G a43 l43 c43 k43 bind__law_taken_stations
  have D__law_states := dn_mk X G a44 l44 c44 k44 bind__law_states
  have D__law_few := dn_mk X G a45 l45 c45 k45 bind__law_few
  clear l1 c1 k1 a1 l2 c2 k2 a2 l3 c3 k3 a3 l13 c13 k13 a13 l14 c14 k14 a14 l15 c15 k15 a15 l16 c16 k16 a16 l17 c17 k17 a17 l18 c18 k18 a18 l19 c19 k19 a19 l20 c20 k20 a20 l22 c22 k22 a22 l24 c24 k24 a24 l25 c25 k25 a25 l27 c27 k27 a27 l28 c28 k28 a28 l30 c30 k30 a30 l32 c32 k32 a32 l33 c33 k33 a33 l34 c34 k34 a34 l35 c35 k35 a35 l37 c37 k37 a37 l38 c38 k38 a38 l39 c39 k39 a39 l40 c40 k40 a40 l41 c41 k41 a41 l42 c42 k42 a42 l43 c43 k43 a43 l44 c44 k44 a44 l45 c45 k45 a45 l46 c46 k46 a46
  refine ⟨PySem.W.fnOf "law" "law" (defArgs (topS 46)) (defBody (topS 46)) (defScope (topS 46)) .none kV46 dc46 pm46 an46 cd46 ct46, fun s v => .of_eq rfl, fun base _ _ => ?_⟩
  have c_is_integer := ok_is_integer (P := l.prog) (w := w) (base := base) D_is_integer B
  have c_is_in := ok_is_in (P := l.prog) (w := w) (base := base) D_is_in c_is_integer
  have c_is_list := ok_is_list (P := l.prog) (w := w) (base := base) D_is_list B
  have c_need_yard := ok_need_yard (P := l.prog) (w := w) (base := base) D_need_yard M c_is_in c_is_list
  have c_need_trains := ok_need_trains (P := l.prog) (w := w) (base := base) D_need_trains B c_is_in c_is_list
  have c_need_state := ok_need_state (P := l.prog) (w := w) (base := base) D_need_state c_need_yard c_need_trains
  have c_trains_in := ok_trains_in (P := l.prog) (w := w) (base := base) D_trains_in B
  have c_all_states := ok_all_states (P := l.prog) (w := w) (base := base) D_all_states B
  have c_number_of_states := ok_number (P := l.prog) (w := w) (base := base) D_number_of_states B
  have c_choose := ok_choose (P := l.prog) (w := w) (base := base) D_choose B
  have c_factorial := ok_factorial (P := l.prog) (w := w) (base := base) D_factorial B
  have c_gap_in := ok_gap_in (P := l.prog) (w := w) (base := base) D_gap_in B
  have c_all_gaps := ok_all_gaps (P := l.prog) (w := w) (base := base) D_all_gaps c_trains_in c_gap_in
  have c_calls_to_one := ok_calls_to_one (P := l.prog) (w := w) (base := base) D_calls_to_one B c_need_state c_all_gaps
  have c_shared := ok_shared (P := l.prog) (w := w) (base := base) D_shared B
  have c_ratio := ok_ratio (P := l.prog) (w := w) (base := base) D_ratio c_shared
  have c_mean_calls := ok_mean_calls (P := l.prog) (w := w) (base := base) D_mean_calls B c_need_state c_all_gaps
  have c_mean_trains := ok_mean_trains (P := l.prog) (w := w) (base := base) D_mean_trains B c_need_yard c_factorial c_choose c_ratio c_number_of_states
  have c_need_all := ok_need_all (P := l.prog) (w := w) (base := base) D_need_all M c_need_yard c_number_of_states
  have c_mean_fewest := ok_mean_fewest (P := l.prog) (w := w) (base := base) D_mean_fewest B c_need_all c_all_states c_all_gaps c_ratio
  have c_mean_by_chance := ok_mean_by_chance (P := l.prog) (w := w) (base := base) D_mean_by_chance B c_need_all c_all_states c_all_gaps c_ratio
  have c__law_taken := ok_law_taken (P := l.prog) (w := w) (base := base) D__law_taken B
  have c__law_pick := ok_law_pick (P := l.prog) (w := w) (base := base) D__law_pick B c__law_taken
  have c__law_alike := ok_alike2 (P := l.prog) (w := w) (base := base) D__law_alike B (ok_alike1 (P := l.prog) (w := w) (base := base) D__law_alike B)
  have c__law_gcd := ok_law_gcd (P := l.prog) (w := w) (base := base) D__law_gcd B
  have c__law_lowest := ok_law_lowest (P := l.prog) (w := w) (base := base) D__law_lowest B c__law_gcd
  have c__law_yard := ok_law_yard (P := l.prog) (w := w) (base := base) D__law_yard c__law_taken
  have c__law_taken_stations := ok_taken_stations (P := l.prog) (w := w) (base := base) D__law_taken_stations B
  have c__law_states := ok_law_states (P := l.prog) (w := w) (base := base) D__law_states B
  have c__law_few := ok_law_few (P := l.prog) (w := w) (base := base) D__law_few c__law_pick
  exact ok_law FL B c__law_few c__law_states c__law_alike c_mean_trains c__law_lowest c__law_taken_stations c_mean_fewest c_calls_to_one c_mean_by_chance c_mean_calls c__law_yard
end K27
open PySem PySem.W PyProof.Rows
set_option maxHeartbeats 0 in
theorem PySem.Challenge.cw_trainring_k27_whole_means_of_all_states_holds : PySem.Challenge.rw_trainring_k27_whole_means_of_all_states.Holds := by
  w_on; o_law; k_head; (case hw => w_witness2)
  k_fill
  refine L2.walk_of (l := PySem.Challenge.rw_trainring_k27_whole_means_of_all_states) (n := 63) (k := 6) (x := "_law_script") (CX := fun _ => L2.CX0) (sp := fun w => K27.spLaw _) rfl (by decide) rfl ⟨rfl, by decide, by decide⟩ (fun w h Y => PySem.W.kIn_of Y) ?F (fun _ _ a ns hl _ hS => ⟨a, ns, rfl, hS, fun _ => rfl⟩) (fun _ _ _ _ _ h => h)
  case F =>
    intro w mg fa h KX G hmg
    refine' K27.all_mk KX G hmg ?a1 ?l1 ?c1 ?k1 ?a2 ?l2 ?c2 ?k2 ?a3 ?l3 ?c3 ?k3 ?a13 ?l13 ?c13 ?k13 ?a14 ?l14 ?c14 ?k14 ?a15 ?l15 ?c15 ?k15 ?a16 ?l16 ?c16 ?k16 ?a17 ?l17 ?c17 ?k17 ?a18 ?l18 ?c18 ?k18 ?a19 ?l19 ?c19 ?k19 ?a20 ?l20 ?c20 ?k20 ?a22 ?l22 ?c22 ?k22 ?a24 ?l24 ?c24 ?k24 ?a25 ?l25 ?c25 ?k25 ?a27 ?l27 ?c27 ?k27 ?a28 ?l28 ?c28 ?k28 ?a30 ?l30 ?c30 ?k30 ?a32 ?l32 ?c32 ?k32 ?a33 ?l33 ?c33 ?k33 ?a34 ?l34 ?c34 ?k34 ?a35 ?l35 ?c35 ?k35 ?a37 ?l37 ?c37 ?k37 ?a38 ?l38 ?c38 ?k38 ?a39 ?l39 ?c39 ?k39 ?a40 ?l40 ?c40 ?k40 ?a41 ?l41 ?c41 ?k41 ?a42 ?l42 ?c42 ?k42 ?a43 ?l43 ?c43 ?k43 ?a44 ?l44 ?c44 ?k44 ?a45 ?l45 ?c45 ?k45 ?a46 ?l46 ?c46 ?k46 ?z_isinstance ?z_int ?z_bool ?z_tuple ?z_len ?z_enumerate ?z_range ?z_sorted ?z_list ?z_max ?z_abs ?z_sum ?z_str ?m1 ?m2 ?m3
    (case a1 => k_is); (case l1 => k_is); (case c1 => k_is); (case k1 => k_is); (case a2 => k_is); (case l2 => k_is); (case c2 => k_is); (case k2 => k_is); (case a3 => k_is); (case l3 => k_is); (case c3 => k_is); (case k3 => k_is); (case a13 => k_is); (case l13 => k_is); (case c13 => k_is); (case k13 => k_is); (case a14 => k_is); (case l14 => k_is); (case c14 => k_is); (case k14 => k_is); (case a15 => k_is); (case l15 => k_is); (case c15 => k_is); (case k15 => k_is); (case a16 => k_is); (case l16 => k_is); (case c16 => k_is); (case k16 => k_is); (case a17 => k_is); (case l17 => k_is); (case c17 => k_is); (case k17 => k_is); (case a18 => k_is); (case l18 => k_is); (case c18 => k_is); (case k18 => k_is); (case a19 => k_is); (case l19 => k_is); (case c19 => k_is); (case k19 => k_is); (case a20 => k_is); (case l20 => k_is); (case c20 => k_is); (case k20 => k_is); (case a22 => k_is); (case l22 => k_is); (case c22 => k_is); (case k22 => k_is); (case a24 => k_is); (case l24 => k_is); (case c24 => k_is); (case k24 => k_is); (case a25 => k_is); (case l25 => k_is); (case c25 => k_is); (case k25 => k_is); (case a27 => k_is); (case l27 => k_is); (case c27 => k_is); (case k27 => k_is); (case a28 => k_is); (case l28 => k_is); (case c28 => k_is); (case k28 => k_is); (case a30 => k_is); (case l30 => k_is); (case c30 => k_is); (case k30 => k_is); (case a32 => k_is); (case l32 => k_is); (case c32 => k_is); (case k32 => k_is); (case a33 => k_is); (case l33 => k_is); (case c33 => k_is); (case k33 => k_is); (case a34 => k_is); (case l34 => k_is); (case c34 => k_is); (case k34 => k_is); (case a35 => k_is); (case l35 => k_is); (case c35 => k_is); (case k35 => k_is); (case a37 => k_is); (case l37 => k_is); (case c37 => k_is); (case k37 => k_is); (case a38 => k_is); (case l38 => k_is); (case c38 => k_is); (case k38 => k_is); (case a39 => k_is); (case l39 => k_is); (case c39 => k_is); (case k39 => k_is); (case a40 => k_is); (case l40 => k_is); (case c40 => k_is); (case k40 => k_is); (case a41 => k_is); (case l41 => k_is); (case c41 => k_is); (case k41 => k_is); (case a42 => k_is); (case l42 => k_is); (case c42 => k_is); (case k42 => k_is); (case a43 => k_is); (case l43 => k_is); (case c43 => k_is); (case k43 => k_is); (case a44 => k_is); (case l44 => k_is); (case c44 => k_is); (case k44 => k_is); (case a45 => k_is); (case l45 => k_is); (case c45 => k_is); (case k45 => k_is); (case a46 => k_is); (case l46 => k_is); (case c46 => k_is); (case k46 => k_is); (case z_isinstance => k_is); (case z_int => k_is); (case z_bool => k_is); (case z_tuple => k_is); (case z_len => k_is); (case z_enumerate => k_is); (case z_range => k_is); (case z_sorted => k_is); (case z_list => k_is); (case z_max => k_is); (case z_abs => k_is); (case z_sum => k_is); (case z_str => k_is); (case m1 => k_is); (case m2 => k_is); (case m3 => k_is)
