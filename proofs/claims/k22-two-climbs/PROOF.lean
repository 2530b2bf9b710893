import PyProof.Rows.All
import Wide.All
import OpenK.AllK
import Wide.FinOn
import KE.KStateDown
import Lean
import HandS.ForMost
import HandS.Evl
import HandS.Steps
import HandS.More
import HandS.WordsExc
import HandS.Defaults
import HandS.MakeKw
import HandS.MakeKwOnly
import HandS.Property
import HandS.Slots
import HandS.SlotsOwn
import HandS.IsInst
import HandS.OwnEq
import HandS.NoneIn
import HandS.Conv
import HandS.Star
import HandS.Wide
import HandS.WideMore
import HandS.Walk
import HandS.Zip
import HandS.RaiseMore
import HandS.Codes
import HandS.Sort
import HandS.SortRule
import HandS.StrMore
import HandS.TryOnly
import HandS.ExcInit
import HandS.ExcSuper
import HandS.ExcIs
import HandS.ExcField
import HandS.Lambda
import HandS.EndTab
import HandS.Head0
import HandS.Head1
import HandS.Head2
import HandS.HeadEnd
import HandS.HeadHook1
import HandS.HeadHook2
import HandS.HeadHook3
import HandS.HeadHook4
import HandS.HeadWalk
import PySem.Challenge.RW_turnedtunes_k22_whole_two_climbs_as_one
import KE.KOpsOwn
import KE.DataMinMax
import HandS.SortKw
import KE.GoesMore
import KE.KUnpackStar
import HandS.ExcValue
import KE.KAssignIn
import KE.IntTextLaws
import KE.KExcSuper
/-! # K22a -/
section
set_option Elab.async false
set_option linter.all false
set_option maxRecDepth 100000
set_option maxHeartbeats 4000000
namespace K22
open PySem PySem.Spec PyProof.Rows L2
/-! ## the text by its places -/
def top (i : Nat) : Stmt := PySem.Challenge.pw_turnedtunes_k22_whole_two_climbs_as_one.main.body.getD i (.Pass ⟨0, 0, 0, 0⟩)
end K22
end

/-! # K22b -/
section
set_option Elab.async false
set_option linter.all false
set_option maxRecDepth 100000
set_option maxHeartbeats 4000000
namespace K22
open PySem PySem.Spec PyProof.Rows L2
/-! ## rules of ours: operators of the own classes -/
section
variable {X : Cx} {CX : CXT} {pins : List (Addr × Obj)} {σ : L2.St} {H : Hp} {s : Shared} {a C dx f : Addr} {fs : List (Str × V)} {k : Nat} {fd : FuncData} {ps : List Str} {sp : Sp} {E : XK}
theorem rr (a : Addr) : RelV (.ref a) (Value.ref a) := rfl
theorem own_inst (I : Inv X pins σ H s) (e : H a = some (.ins C dx fs)) : ∃ od, PySem.W.InstAt s.heap a (PySem.W.instObj C dx) C (some od) := by
  obtain ⟨mA, om, _⟩ := ins_get I.hok e
  obtain ⟨od, i, _⟩ := om.look
  exact ⟨od, i⟩
/-- ~x, x an instance of C -/
def rInvO (C : Addr) (sp : Sp) (E : XK) : V → Hp → VK → Prop := fun x H Q => ∃ a dx fs, x = .ref a ∧ H a = some (.ins C dx fs) ∧ sp [x] H Q E
theorem un_invO (hs : PySem.W.findIn X.K (.ref C) "__invert__" = some (some (.ref f))) (hf : PySem.W.isFn X.K (.ref f) = true) (F : FnOk X.prog X.w X.K X.mg X.base CX k f fd ps sp) (hr : Room k X.A) (hb : Binds X.K fd ps []) (hx : Passes CX X E) :
    UnR X (unaryOp .Invert) (rInvO C sp E) := by
  intro pins s σ H x v Q I rx h
  obtain ⟨a, dx, fs, rfl, ea, h⟩ := h
  obtain rfl : v = Value.ref a := rx
  obtain ⟨od, i⟩ := own_inst I ea
  obtain ⟨m, fr⟩ := I.fr
  exact PySem.W.ksp_inv fr I.mod.kin i hs hf (run_fn F hr hb .nil hx I (.cons (rr _) .nil) h)
/-- x >> y, both of C -/
def rShrO (C : Addr) (sp : Sp) (E : XK) : R2 := fun x y H Q => ∃ a dx fs b dy gs, x = .ref a ∧ y = .ref b ∧ H a = some (.ins C dx fs) ∧ H b = some (.ins C dy gs) ∧ sp [x, y] H (fun v H' => ∃ r, v = .ref r ∧ Q v H') E
theorem op_shrO (hc : PySem.W.selfFirst X.K C = true) (hs : PySem.W.findIn X.K (.ref C) "__rshift__" = some (some (.ref f))) (hf : PySem.W.isFn X.K (.ref f) = true) (F : FnOk X.prog X.w X.K X.mg X.base CX k f fd ps sp) (hr : Room k X.A) (hb : Binds X.K fd ps []) (hx : Passes CX X E) :
    OpR X (binaryOp .RShift) (rShrO C sp E) := by
  intro pins s σ H x y v u Q I rx ry h
  obtain ⟨a, dx, fs, b, dy, gs, rfl, rfl, ea, eb, h⟩ := h
  obtain rfl : v = Value.ref a := rx
  obtain rfl : u = Value.ref b := ry
  obtain ⟨od, i⟩ := own_inst I ea
  obtain ⟨od2, i2⟩ := own_inst I eb
  obtain ⟨m, fr⟩ := I.fr
  refine PySem.W.binop_K fr I.mod.kin i i2.type hc hs hf (thn (run_fn F hr hb .nil hx I (.cons (rr _) (.cons (rr _) .nil)) h) fun r s' hq => ?_)
  obtain ⟨v, H', I', rv, p, rfl, q⟩ := hq
  obtain rfl : r = Value.ref p := rv
  exact ⟨_, H', I', rr _, q⟩
/-- x * n, x of C, n an int -/
def rMulO (C : Addr) (sp : Sp) (E : XK) : R2 := fun x y H Q => ∃ a dx fs n, x = .ref a ∧ y = .int n ∧ H a = some (.ins C dx fs) ∧ sp [x, y] H (fun v H' => ∃ r, v = .ref r ∧ Q v H') E
theorem op_mulO (hc : PySem.W.selfFirst X.K C = true) (hs : PySem.W.findIn X.K (.ref C) "__mul__" = some (some (.ref f))) (hf : PySem.W.isFn X.K (.ref f) = true) (hn : PySem.W.findIn X.K (.ref C) "__rmul__" = some none) {fo ro : Option Value}
    (h1 : PySem.W.findIn X.K (.type "int") "__mul__" = some fo) (h2 : PySem.W.findIn X.K (.type "int") "__rmul__" = some ro) (hsub : PySem.W.subIn X.K (.type "int") (.ref C) = some false)
    (F : FnOk X.prog X.w X.K X.mg X.base CX k f fd ps sp) (hr : Room k X.A) (hb : Binds X.K fd ps []) (hx : Passes CX X E) :
    OpR X (binaryOp .Mult) (rMulO C sp E) := by
  intro pins s σ H x y v u Q I rx ry h
  obtain ⟨a, dx, fs, n, rfl, rfl, ea, h⟩ := h
  obtain rfl : v = Value.ref a := rx
  obtain ⟨od, i⟩ := own_inst I ea
  obtain ⟨m, fr⟩ := I.fr
  obtain ⟨t, rfl⟩ := id ry
  refine PySem.W.ksp_binT (T := "int") (rc := none) fr I.mod.kin i rfl hc hs hf hn (.inl rfl) h1 h2 hsub (thn (run_fn F hr hb .nil hx I (.cons (rr _) (.cons ry .nil)) h) fun r s' hq => ?_)
  obtain ⟨v, H', I', rv, p, rfl, q⟩ := hq
  obtain rfl : r = Value.ref p := rv
  exact ⟨_, H', I', rr _, q⟩
end
end K22
end

/-! # K22c -/
section
set_option Elab.async false
set_option linter.all false
set_option maxRecDepth 100000
set_option maxHeartbeats 4000000
namespace K22
open PySem PySem.Spec PyProof.Rows L2
/-! ## rules of ours: max of tuples, max with a default -/
section
variable {X : Cx}
/-- the greatest of some ints, or d -/
def mxL (d : Int) : List Int → Int
  | [] => d
  | n :: r => r.foldl max n
theorem dp_ints {K : PySem.W.Frag} {H : Hp} : ∀ ns : List Int, DpAll K H (ns.map V.int) (ns.map PyData.int)
  | [] => .nil
  | n :: r => .cons (.int n) (dp_ints r)
theorem alike_int_list (ns : List Int) : PySem.W.AlikeAll (ns.map PyData.int) := by
  refine ⟨fun x hx y hy => ?_, fun x hx => ?_⟩
  · obtain ⟨i, _, rfl⟩ := List.mem_map.mp hx
    obtain ⟨j, _, rfl⟩ := List.mem_map.mp hy
    simp [PySem.W.alike]
  · obtain ⟨i, _, rfl⟩ := List.mem_map.mp hx
    exact fun z => nomatch z
theorem depth_ints : ∀ ns : List Int, PyData.depthAll (ns.map PyData.int) ≤ 1
  | [] => by simp [PyData.depthAll]
  | n :: r => by
    have := depth_ints r
    simp only [List.map_cons, PyData.depthAll, PyData.depth]
    omega
def rMaxDf (K : PySem.W.Frag) : List V → List V → Hp → VK → Prop := fun vs zs H Q => ∃ (a : Addr) (ns : List Int) (d : Int), vs = [V.ref a] ∧ zs = [V.int d] ∧ SqL K H a (ns.map V.int) ∧ Q (.int (mxL d ns)) H
theorem cr_maxDf {k : Nat} (hc : X.calm = true) (hr : Room k X.A) : CallRK X (.builtin "max") [Str.ofString "default"] (rMaxDf X.K) := by
  intro pins s σ H xs zs us ws Q I rx rz h
  obtain ⟨a, ns, d, rfl, rfl, hs, q⟩ := h
  obtain ⟨its, rv, hl, _⟩ := I.list hs
  obtain ⟨as, ra⟩ := Dp.readsAll I _ _ _ (dp_ints ns) rv
  rw [Vals.ref1 rx]
  cases rz with
  | cons r1 r2 =>
    cases r2
    obtain ⟨td, rfl⟩ := r1
    have hu := hr.units
    have hd := depth_ints ns
    refine PySem.W.max_list_default (xs := ns.map PyData.int) (I.ok.hd hc) hl.isList ra (alike_int_list ns) (by omega) (fun e h' tk hk => ?_) fun y ys i v h' tk bs e hv hrd hk => ?_
    · have e1 : ns = [] := List.map_eq_nil_iff.mp e
      subst e1
      exact ⟨.int d, H, I.kept hk, ⟨_, rfl⟩, q⟩
    · cases ns with
      | nil => cases e
      | cons n r =>
        rw [List.map_cons] at e
        cases e
        rw [PySem.W.maxD_ints] at hrd
        cases hrd with
        | int i t => exact ⟨.int _, H, I.kept hk, ⟨_, rfl⟩, q⟩
/-- max of a list of alike data: an item whose data is the greatest -/
def rMaxA (K : PySem.W.Frag) : List V → Hp → VK → Prop := fun vs H Q => ∃ (a : Addr) (xs : List V) (d : PyData) (ds : List PyData), vs = [V.ref a] ∧ SqL K H a xs ∧ DpAll K H xs (d :: ds) ∧ PySem.W.AlikeAll (d :: ds) ∧ PyData.depthAll (d :: ds) ≤ 9 ∧
  ∀ (i : Nat) (v : V), xs[i]? = some v → (d :: ds)[i]? = some (PySem.W.maxD d ds) → Q v H
theorem maxD_mem (d : PyData) (ds : List PyData) : PySem.W.maxD d ds ∈ d :: ds := by
  unfold PySem.W.maxD
  induction ds generalizing d with
  | nil => exact List.mem_cons_self
  | cons e r ih =>
    rw [List.foldl_cons]
    by_cases h : PySem.W.dataLt d e = true
    · rw [if_pos h]
      exact List.mem_cons_of_mem _ (ih e)
    · rw [if_neg h]
      rcases List.mem_cons.mp (ih d) with z | z
      · rw [z]
        exact List.mem_cons_self
      · exact List.mem_cons_of_mem _ (List.mem_cons_of_mem _ z)
theorem cr_maxA {k : Nat} (hc : X.calm = true) (hr : Room k X.A) : CallR X (.builtin "max") (rMaxA X.K) := by
  intro pins s σ H vs us Q I r h
  obtain ⟨a, xs, d, ds, rfl, hs, hdp, hal, hdep, q⟩ := h
  obtain ⟨its, rv, hl, _⟩ := I.list hs
  obtain ⟨as, ra⟩ := Dp.readsAll I _ _ _ hdp rv
  rw [Vals.ref1 r]
  have hu := hr.units
  refine PySem.W.max_list_data (I.ok.hd hc) hl.isList ra hal (by omega) fun i v h' tk bs hv hrd hk => ?_
  have hv2 : its[i]? = some v := by simpa using hv
  have hi : i < its.length := (List.getElem?_eq_some_iff.mp hv2).1
  have hi2 : i < xs.length := by rw [rv.length]; exact hi
  obtain ⟨u, hu1, hu2⟩ := rv.get (List.getElem?_eq_getElem hi2)
  rw [hv2] at hu1
  cases hu1
  obtain ⟨bs2, rd2, hlt, hmem, _⟩ := PySem.W.readsAll_at ra i v hv2
  have e : (d :: ds).getD i .none = PySem.W.maxD d ds := PySem.W.alike_unique _ _ _ _ _ (hal.1 _ hmem _ (maxD_mem d ds)) (PySem.W.reads_keeps hk rd2) hrd
  refine ⟨xs[i], H, I.kept hk, hu2, q i _ (List.getElem?_eq_getElem hi2) ?_⟩
  rw [← e, List.getD_eq_getElem?_getD, List.getElem?_eq_getElem hlt]
  rfl
end
end K22
end

/-! # K22d -/
section
set_option Elab.async false
set_option linter.all false
set_option maxRecDepth 100000
set_option maxHeartbeats 4000000
/-! ## enumerate(t), t a tuple -/
namespace PySem
open AutoSeq1 (wpAny_loadPart')
theorem k22_enum_new (l : Addr) (items : Array Value) (n : Nat) (dct : Option Addr) (sl : Array (Option Value)) :
    Meets (Builtin.«enumerate.__new__» ⟨[.type "enumerate", .ref l], []⟩) (fun _ R s => s.heap.get? l = some { cls := .type "tuple", dict := dct, data := .seq items n, slots := sl } ∧
      R (.ok (.ret (.ref (s.heap.push { cls := .type "tuple_iterator", data := .fields #[.ref l, .int 0 0] }).objs.size)))
        { s with heap := (s.heap.push { cls := .type "tuple_iterator", data := .fields #[.ref l, .int 0 0] }).push { cls := .type "enumerate", data := .fields #[.none, .bool false, .ref s.heap.objs.size, rawInt 0, .none, .none] } }) :=
  .of_wp fun prog w A R s h => by
    obtain ⟨hp, g, d, tk, os⟩ := s
    obtain ⟨hl, h⟩ := h
    have hsub := sub_enumerate
    have hT : Heap.IsTuple (Shared.heap ⟨hp, g, d, tk, os⟩) l items := ⟨_, hl, rfl, n, rfl⟩
    wp_walk using wpAny_loadPart' hl
    refine wpAny_stack_any fun st => wpAny_pure ?_
    split
    · rename_i c _ _ _ _ _
      cases (c == Value.type "enumerate")
      all_goals
        wp_walk using wpAny_loadPart' hl, wpAny_pyIter_tuple hT
        exact ⟨_, rfl, h⟩
    · wp_walk using wpAny_loadPart' hl, wpAny_pyIter_tuple hT
      exact ⟨_, rfl, h⟩
section
variable {prog : Program} {w : World} {A : Around} {E : Value → Shared → Prop} {s : Shared}
theorem k22_enum_call {l : Addr} {items : Array Value} {Q : Value → Shared → Prop} (hL : s.heap.IsTuple l items)
    (h : ∀ h', IsEnum h' (s.heap.objs.size + 1) s.heap.objs.size 0 .none → h'.IsTupleIter s.heap.objs.size l 0 → h'.objs.size = s.heap.objs.size + 2 →
      (∀ b o, s.heap.get? b = some o → h'.get? b = some o) → Q (.ref (s.heap.objs.size + 1)) { s with heap := h' }) :
    wpAny (model prog w) A (call (.type "enumerate") [.ref l]) Q E s := by
  obtain ⟨⟨c, dct, dt, sl⟩, hl, hc, n, hd⟩ := hL
  replace hc : c = .type "tuple" := hc
  replace hd : dt = .seq items n := hd
  subst hc hd
  refine callType_new F.called_enumerate (by decide) (F.typeCall_enumerate_1 _) (F.newCall_enumerate_1 _) (fun obj => F.args_object_init_2 obj _) F.entry_enumerate_new
    (k22_enum_new l items n dct sl) ⟨hl, ?_⟩
  have hz : (s.heap.push { cls := .type "tuple_iterator", data := .fields #[.ref l, .int 0 0] }).objs.size = s.heap.objs.size + 1 := Heap.size_push ..
  show _ ∧ _
  rw [hz]
  have he : IsEnum ((s.heap.push { cls := .type "tuple_iterator", data := .fields #[.ref l, .int 0 0] }).push
      { cls := .type "enumerate", data := .fields #[.none, .bool false, .ref s.heap.objs.size, rawInt 0, .none, .none] }) (s.heap.objs.size + 1) s.heap.objs.size 0 .none := by
    have z := Heap.get?_push_size (s.heap.push { cls := .type "tuple_iterator", data := .fields #[.ref l, .int 0 0] })
      (o := { cls := .type "enumerate", data := .fields #[.none, .bool false, .ref s.heap.objs.size, rawInt 0, .none, .none] }) rfl
    rw [hz] at z
    exact z
  exact ⟨⟨_, he, rfl⟩, h _ he ⟨_, Heap.get?_push_of_some _ (Heap.get?_push_size _ rfl), rfl, rfl⟩ (by rw [Heap.size_push, hz]) fun b o x => Heap.get?_push_of_some _ (Heap.get?_push_of_some _ x)⟩
end
end PySem
namespace K22
open PySem PySem.Spec PyProof.Rows L2
/-- the tuple at a, each item in a new pair -/
def IteT (K : PySem.W.Frag) (a : Addr) : It where
  go := fun i H => ∃ (xs : List V) (x : V), SqT K H a xs ∧ xs[i]? = some x
  yld := fun i H v H' => ∃ T x, v = .ref T ∧ H T = none ∧ H' = upd H T (.tup [.int (i : Nat), x]) ∧ ∀ xs, SqT K H a xs → xs[i]? = some x
  stop := fun i H => ∃ xs : List V, SqT K H a xs ∧ xs.length ≤ i
theorem turn_enumT {P : Program} {w : World} {K : PySem.W.Frag} {elts : List Expr} {kk : Nat} {tpos : Pos} (a e it : Addr) (hne : e ≠ it) :
    Turn P w K (.Tuple elts kk tpos) (IteT K a) [e, it] e (fun i h => (∃ old, IsEnum h e it ((i : Nat) : Int) old) ∧ h.IsTupleIter it a i ∧ a ≠ it ∧ a ≠ e) where
  mem := by simp
  obj := fun i h st b hb => by
    obtain ⟨⟨old, he⟩, ⟨o, ho, hc, hd⟩, _⟩ := st
    rcases (show b = e ∨ b = it by simpa using hb) with z | z
    · rw [z]
      exact ⟨_, he, fun v q => nomatch q⟩
    · rw [z]
      exact ⟨o, ho, fun v q => by rw [hd] at q; cases q⟩
  keep := fun i h h' st k => by
    obtain ⟨⟨old, he⟩, hi, n1, n2⟩ := st
    exact ⟨⟨old, k e (by simp) _ he⟩, hi.at fun o q => k it (by simp) o q, n1, n2⟩
  item := by
    intro X hP hw hK hc i pins s σ H E I hf st hg
    subst hP hw hK
    obtain ⟨⟨old, he⟩, hit, n1, n2⟩ := st
    obtain ⟨xs, x, hq, hx⟩ := hg
    obtain ⟨its, rv, p, hz⟩ := I.tuple hq
    obtain ⟨u, hu, ru⟩ := rv.get hx
    have hel : e < s.heap.objs.size := Heap.lt_size he
    have hil : it < s.heap.objs.size := by
      obtain ⟨_, q, _⟩ := hit
      exact Heap.lt_size q
    have ht : s.heap.IsTuple a its.toArray := p
    have D := Draws.tuple (prog := X.prog) (w := X.w) (A := X.A.in1) (show X.A.in1.handled = none from I.ok.hd hc) it a n1 its.toArray
    have hin : i < its.toArray.size := by
      have := (List.getElem?_eq_some_iff.mp hu).1
      simpa using this
    refine wpAny_pyNext_enum_itemD D he ⟨hit, ht⟩ hin hne (by simp [hne, n2.symm]) fun y h' tk hP ho hst hT hsz hk => ?_
    have ey : y = u := by
      have hP' : its.toArray[i]? = some y := hP
      have : its[i]? = some y := by simpa using hP'
      rw [hu] at this
      exact (Option.some.inj this).symm
    subst ey
    refine ⟨_, rfl, wpAny_letOwnedTupleGo_enum (s := { s with heap := h', toks := tk + 1 }) ho fun h'' he' sb => ?_⟩
    have hT2 : h''.get? s.heap.objs.size = some { cls := .type "tuple", data := .seq #[.int i tk, y] } := (sb.2 _ (Nat.ne_of_gt hel)).trans hT
    have new : ObjOk X.prog X.w (upd H s.heap.objs.size (.tup [.int (i : Nat), x])) h'' s.heap.objs.size (.tup [.int (i : Nat), x]) :=
      ⟨by show 2 ≤ sizeLine; decide, [.int i tk, y], .cons ⟨_, rfl⟩ (.cons ru .nil), ⟨_, hT2, rfl, _, rfl⟩⟩
    have I1 : Inv X pins σ (upd H s.heap.objs.size (.tup [.int (i : Nat), x])) { s with heap := h'', toks := tk + 1 } :=
      I.turnedNew (ch := [e, it]) (fun b ob hb q => (sb.2 b (fun z => hb (by simp [z]))).trans (hk b ob (fun z => hb (by simp [z])) (fun z => hb (by simp [z])) q)) hf (Nat.le_refl _) new
    refine ⟨.ref s.heap.objs.size, _, I1, rfl, ⟨_, x, rfl, I.hok.fresh (Nat.le_refl _), rfl, fun ys hy => by rw [I.tuple_inj hy hq]; exact hx⟩, ⟨⟨y, ?_⟩, hst.1.at fun o q => (sb.2 it (Ne.symm hne)).trans q, n1, n2⟩, fun b hb => ?_⟩
    · have e1 : ((i + 1 : Nat) : Int) = (i : Int) + 1 := by omega
      rw [e1]
      exact he'
    · have hb' : b < s.heap.objs.size := by
        rcases (show b = e ∨ b = it by simpa using hb) with z | z
        · rw [z]
          exact hel
        · rw [z]
          exact hil
      rw [upd_ne (Nat.ne_of_lt hb')]
      exact (hf b hb).1
  done := by
    intro X hP hw hK hc i pins s σ H E I hf st hg
    subst hP hw hK
    obtain ⟨⟨old, he⟩, hit, n1, n2⟩ := st
    obtain ⟨xs, hq, hx⟩ := hg
    obtain ⟨its, rv, p, hz⟩ := I.tuple hq
    obtain ⟨f0, f1, f2, f3, f4, f5⟩ := hf it (by simp)
    have hl := rv.length
    obtain ⟨o, ho, hc', hd⟩ := id hit
    have hT : s.TypeIs (.ref e) "enumerate" := ⟨_, he, rfl⟩
    unfold pyNext
    refine wpAny_bind (wpAny_attempt (wpAny_callSpecial?_slot (name := Str.ofString "__next__") hT F.slot_enumerate_next
      (wpAny_call_entry F.slot_enumerate_next hT F.entry_enumerate_next ?_ (F.args_enumerate_next_1 _))))
    show wpAny _ _ (field (.ref e) 2 >>= _) _ _ _
    refine wpAny_bind (wpAny_field he rfl (x := .ref it) rfl ?_)
    refine wpAny_bind (wpAny_nextOf_tuple_end (A := X.A.in1) (show X.A.in1.handled = none from I.ok.hd hc) hit (items := its.toArray) p (by simp; omega) fun h' x he' hx' => ?_)
    obtain ⟨o2, ho2, hc2⟩ := hx'
    refine wpAny_bind (wpAny_isInstance (T := "StopIteration") (b := true) ⟨o2, ho2, hc2⟩ isSubtype_stop ?_)
    exact wpAny_pure ⟨rfl, I.turned (t' := s.toks) (fun b o hb q => he' b o hb q) f0 f1 f3 f4 f5⟩
  self := fun A i s Q E st h => by
    obtain ⟨⟨_, he⟩, _⟩ := st
    exact wpAny_pyIter_enum he h
def iEnumT (K : PySem.W.Frag) (ta : TA) : TI := fun σ H R => ta σ H fun vs H1 => ∃ a xs, vs = [.ref a] ∧ SqT K H1 a xs ∧ R (IteT K a) H1
theorem pi_enumT {X : Cx} {e : Expr} {ta : TA} {p pos tpos : Pos} {elts : List Expr} {kk : Nat} (hg : Gl X "enumerate") (hm : X.mg "enumerate" = none) (ha : PA X [e] ta) (hs : starEach [e] X.env = [(false, eval e X.env)] := by rfl) :
    PI X (.Tuple elts kk tpos) (.Call (.Name "enumerate" p) [e] [] pos) (iEnumT X.K ta) := by
  refine ⟨fun pins s σ H R I h => ?_⟩
  refine Call_ (ld_blt I hg hm boot_enumerate (PyProof.Rows.callWith_type1 (thn (ha.run pos pins s σ H _ I h) fun us s1 ⟨vs, H1, I1, r1, q1⟩ => ?_) hs rfl))
  obtain ⟨a, xs, ex, hq, q⟩ := q1
  subst ex
  cases r1 with
  | cons r rr =>
    cases rr
    cases r
    obtain ⟨its, rv, p', hz⟩ := I1.tuple hq
    have hlt : a < s1.heap.objs.size := by
      obtain ⟨o, ho, _⟩ := p'
      exact Heap.lt_size ho
    refine k22_enum_call p' fun h' he hit hsz hk => wpAny_pyIter_enum he ?_
    have I2 : Inv X pins σ H1 { s1 with heap := h' } := I1.kept (t' := s1.toks) hk
    refine ⟨s1.heap.objs.size + 1, [s1.heap.objs.size + 1, s1.heap.objs.size], _, _, H1, rfl, I2, turn_enumT a (s1.heap.objs.size + 1) s1.heap.objs.size (Nat.succ_ne_self _), ⟨⟨.none, he⟩, hit, Nat.ne_of_lt hlt, Nat.ne_of_lt (Nat.lt_succ_of_lt hlt)⟩, fun b hb => ?_, q⟩
    have hle : s1.heap.objs.size ≤ b := by
      rcases (show b = s1.heap.objs.size + 1 ∨ b = s1.heap.objs.size by simpa using hb) with z | z
      · rw [z]
        exact Nat.le_succ _
      · rw [z]
        exact Nat.le_refl _
    exact I1.fpOk hle (I1.hok.fresh hle)
theorem walk_enumT {K : PySem.W.Frag} {a : Addr} {xs : List V} : Walk (IteT K a) xs.length (fun H => SqT K H a xs) (YPair (fun i => some (.int (i : Nat))) (fun i => xs[i]?)) where
  goes := fun i H hi hG => ⟨xs, xs[i], hG, List.getElem?_eq_getElem hi⟩
  stops := fun H hG => ⟨xs, hG, Nat.le_refl _⟩
  yields := fun i H x H' hi hG ⟨T, y, e1, e2, e3, e4⟩ => ⟨T, .int (i : Nat), y, e1, e2, e3, rfl, e4 xs hG⟩
end K22
end

/-! # K22e -/
section
set_option Elab.async false
set_option linter.all false
set_option maxRecDepth 100000
set_option maxHeartbeats 4000000
/-! ## a, *b = a list -/
namespace PySem.W
open PySem PySem.Spec PySem.Calls PyProof.Rows
theorem k22_star {prog : Program} {w : World} {A : Around} {E : Value → Shared → Prop} {s : Shared} {l : Addr} {x : Value} {xs : List Value} {Q : List Value → Shared → Prop} (hl : s.heap.IsList l (x :: xs).toArray) (hh : A.handled = none) (hz : xs.length + 1 ≤ sizeLine)
    (h : ∀ D h' tk, (∀ b o, s.heap.get? b = some o → h'.get? b = some o) → s.heap.get? D = none → h'.get? D = some { cls := .type "list", data := .seq xs.toArray } → Q [x, .ref D] { s with heap := h', toks := tk }) :
    wpAny (model prog w) A (unpackItems (.ref l) 2 (some 1)) Q E s := by
  have hll : l < s.heap.objs.size := by
    obtain ⟨o, ho, _⟩ := hl
    exact Heap.lt_size ho
  have hlt : l ≠ s.heap.objs.size := Nat.ne_of_lt hll
  have hsz : (x :: xs).toArray.size = xs.length + 1 := by simp
  unfold unpackItems
  refine wpAny_bind ?_
  unfold notIterableAtAll
  refine wpAny_bind (wpAny_specialOf hl.typeIs slot_list_iter.lookup ?_)
  refine wpAny_pure ?_
  simp only [Bool.false_eq_true, if_false]
  refine wpAny_bind (wpAny_holding (wpAny_pyIter_list hl ?_))
  refine wpAny_bind (wpAny_holding (kun_draw hlt 1 0 _ _ ⟨_, Heap.get?_push_size _ rfl, rfl, rfl⟩ (hl.push _) (by rw [hsz] <;> omega) fun h₁ it1 s1 => ?_))
  have hl₁ : h₁.IsList l (x :: xs).toArray := (hl.push _).extBut s1.extBut hlt
  rw [Nat.zero_add] at it1
  have i2 := it1
  obtain ⟨oi, hoi, _⟩ := i2
  have l2 := hl₁
  obtain ⟨ol, hol, _⟩ := l2
  show wpAny _ _ (if ([x] : List Value).length < 1 then _ else _) _ _ _
  rw [if_neg (show ¬ ([x] : List Value).length < 1 from Nat.lt_irrefl 1)]
  refine wpAny_bind (wpAny_holding (kun_collect (s := { s with heap := h₁ }) (T := "list_iterator") (.inr (.inr (.inl rfl))) (Walks.list (A := A.in1) hh s.heap.objs.size l hlt _) (fun j u st => st.1.typeIs) (k := 1) (by rw [hsz] <;> omega) ⟨it1, hl₁⟩ (Heap.lt_size hoi) (Heap.lt_size hol) (fun h₂ tk hk => ?_) (by rw [hsz] <;> exact hz)))
  show wpAny _ _ (if xs.length < 0 then _ else _) _ _ _
  rw [if_neg (Nat.not_lt_zero _)]
  have e1 : xs.take (xs.length - 0) = xs := List.take_of_length_le (Nat.le_refl _)
  have e2 : xs.drop (xs.length - 0) = [] := List.drop_eq_nil_of_le (Nat.le_refl _)
  show wpAny _ _ (newList (xs.take (xs.length - 0)) >>= fun d => pure ([x] ++ [d] ++ xs.drop (xs.length - 0))) _ _ _
  rw [e1, e2]
  have kp : ∀ b o, s.heap.get? b = some o → h₂.get? b = some o := fun b o e =>
    hk b o (Nat.ne_of_lt (Heap.lt_size e)) (s1.extBut b o (Nat.ne_of_lt (Heap.lt_size e)) (Heap.get?_push_of_some _ e))
  exact wpAny_bind (wpAny_newList (wpAny_pure (h h₂.objs.size _ tk (fun b o e => Heap.get?_push_of_some _ (kp b o e)) (fresh_in kp) (Heap.get?_push_size _ rfl))))
end PySem.W
namespace K22
open PySem PySem.Spec PyProof.Rows L2
section
variable {X : Cx} {pos : Pos}
def gStar (K : PySem.W.Frag) (t : TGs) : TG := fun v σ H Q => ∃ a x xs, v = .ref a ∧ SqL K H a (x :: xs) ∧ ∀ p, H p = none → t [x, .ref p] σ (upd H p (.lst xs)) Q
theorem pg_star {e1 e2 : Expr} {k : Nat} {t : TGs} {sp : Pos} (hc : X.calm = true) (h : PGs X [e1, e2] t) (hn : (assignEach [e1, .Starred e2 sp] X.env) = [(false, assign e1 X.env), (true, assign e2 X.env)] := by rfl)
    (hn2 : (assignEach [e1, e2] X.env).map (·.2) = [assign e1 X.env, assign e2 X.env] := by rfl) : PG X (.Tuple [e1, .Starred e2 sp] k pos) (gStar X.K t) := by
  refine ⟨fun pins s σ H v u Q I r hw => ?_⟩
  obtain ⟨a, x, xs, e1, hq, hw⟩ := hw
  subst e1
  cases r
  obtain ⟨its, rv, pl, hz⟩ := I.list hq
  cases rv with
  | @cons _ u0 _ us ru rt =>
    have hl := rt.length
    rw [List.length_cons] at hz
    rw [PyProof.Rows.assign_Tuple]
    refine wpAny_bind (wpAny_standAt ?_)
    unfold unpack
    rw [hn]
    refine wpAny_bind (wpAny_holding (PySem.W.k22_star pl.isList (I.ok.hd hc) (by rw [← hl]; exact hz) fun D h' tk kp hD hnew => ?_))
    have hHD : H D = none := I.hok.gone hD
    have I1 : Inv X pins σ (upd H D (.lst xs)) { s with heap := h', toks := tk } := I.laidN (t' := tk) kp hD hHD ⟨by omega, us, _, rt, hnew⟩
    have z := h.run pins _ σ (upd H D (.lst xs)) [x, .ref D] [u0, .ref D] Q I1 (.cons ru (.cons (rr D) .nil)) (hw D hHD)
    rw [hn2] at z
    exact z
end
end K22
end

/-! # K22f -/
section
set_option Elab.async false
set_option linter.all false
set_option maxRecDepth 100000
set_option maxHeartbeats 4000000
/-! the facts of the written part, by names -/
namespace K22
open PySem PySem.Spec PyProof.Rows L2
open He (ga ma fAd)
abbrev s_is_integer : Stmt := top 25
def d_is_integer : He.DefD := ⟨("is_integer", none), "is_integer", "is_integer", defArgs s_is_integer, defBody s_is_integer, defScope s_is_integer, [.non, .non], []⟩
abbrev n_is_integer : List Str := ["value", "least", "most"]
theorem sc_is_integer : FnScope n_is_integer ["value", "least", "most"] (defScope s_is_integer) := ⟨rfl, rfl, rfl, by decide +kernel, rfl, by decide +kernel, by decide +kernel⟩
abbrev s_number_told : Stmt := top 26
def d_number_told : He.DefD := ⟨("number_told", none), "number_told", "number_told", defArgs s_number_told, defBody s_number_told, defScope s_number_told, [], []⟩
abbrev n_number_told : List Str := ["word", "figures", "sign"]
theorem sc_number_told : FnScope n_number_told ["word"] (defScope s_number_told) := ⟨rfl, rfl, rfl, by decide +kernel, rfl, by decide +kernel, by decide +kernel⟩
abbrev s_numbers_told : Stmt := top 27
def d_numbers_told : He.DefD := ⟨("numbers_told", none), "numbers_told", "numbers_told", defArgs s_numbers_told, defBody s_numbers_told, defScope s_numbers_told, [], []⟩
abbrev n_numbers_told : List Str := ["words", "found", "word"]
theorem sc_numbers_told : FnScope n_numbers_told ["words"] (defScope s_numbers_told) := ⟨rfl, rfl, rfl, by decide +kernel, rfl, by decide +kernel, by decide +kernel⟩
abbrev s_line_parts : Stmt := top 28
def d_line_parts : He.DefD := ⟨("line_parts", none), "line_parts", "line_parts", defArgs s_line_parts, defBody s_line_parts, defScope s_line_parts, [], []⟩
abbrev n_line_parts : List Str := ["line", "head", "many", "word", "parts"]
theorem sc_line_parts : FnScope n_line_parts ["line", "head", "many"] (defScope s_line_parts) := ⟨rfl, rfl, rfl, by decide +kernel, rfl, by decide +kernel, by decide +kernel⟩
abbrev s_tie_told : Stmt := top 36
def d_tie_told : He.DefD := ⟨("tie_told", none), "tie_told", "tie_told", defArgs s_tie_told, defBody s_tie_told, defScope s_tie_told, [], []⟩
abbrev n_tie_told : List Str := ["text", "words", "backward", "numbers", "first", "second", "length", "amount"]
theorem sc_tie_told : FnScope n_tie_told ["text"] (defScope s_tie_told) := ⟨rfl, rfl, rfl, by decide +kernel, rfl, by decide +kernel, by decide +kernel⟩
abbrev s_is_tie_within : Stmt := top 37
def d_is_tie_within : He.DefD := ⟨("is_tie_within", none), "is_tie_within", "is_tie_within", defArgs s_is_tie_within, defBody s_is_tie_within, defScope s_is_tie_within, [], []⟩
abbrev n_is_tie_within : List Str := ["value", "size"]
theorem sc_is_tie_within : FnScope n_is_tie_within ["value", "size"] (defScope s_is_tie_within) := ⟨rfl, rfl, rfl, by decide +kernel, rfl, by decide +kernel, by decide +kernel⟩
abbrev s_back : Stmt := top 46
def d_back : He.DefD := ⟨("back", none), "back", "back", defArgs s_back, defBody s_back, defScope s_back, [], []⟩
abbrev n_back : List Str := ["link"]
theorem sc_back : FnScope n_back ["link"] (defScope s_back) := ⟨rfl, rfl, rfl, by decide +kernel, rfl, by decide +kernel, by decide +kernel⟩
abbrev s_joined : Stmt := top 47
def d_joined : He.DefD := ⟨("joined", none), "joined", "joined", defArgs s_joined, defBody s_joined, defScope s_joined, [], []⟩
abbrev n_joined : List Str := ["one", "other"]
theorem sc_joined : FnScope n_joined ["one", "other"] (defScope s_joined) := ⟨rfl, rfl, rfl, by decide +kernel, rfl, by decide +kernel, by decide +kernel⟩
abbrev s_times : Stmt := top 48
def d_times : He.DefD := ⟨("times", none), "times", "times", defArgs s_times, defBody s_times, defScope s_times, [], []⟩
abbrev n_times : List Str := ["link", "many"]
theorem sc_times : FnScope n_times ["link", "many"] (defScope s_times) := ⟨rfl, rfl, rfl, by decide +kernel, rfl, by decide +kernel, by decide +kernel⟩
abbrev s_part : Stmt := top 49
def d_part : He.DefD := ⟨("part", none), "part", "part", defArgs s_part, defBody s_part, defScope s_part, [], []⟩
abbrev n_part : List Str := ["link", "start", "length"]
theorem sc_part : FnScope n_part ["link", "start", "length"] (defScope s_part) := ⟨rfl, rfl, rfl, by decide +kernel, rfl, by decide +kernel, by decide +kernel⟩
abbrev s_is_one_part : Stmt := top 50
def d_is_one_part : He.DefD := ⟨("is_one_part", none), "is_one_part", "is_one_part", defArgs s_is_one_part, defBody s_is_one_part, defScope s_is_one_part, [], []⟩
abbrev n_is_one_part : List Str := ["tie"]
theorem sc_is_one_part : FnScope n_is_one_part ["tie"] (defScope s_is_one_part) := ⟨rfl, rfl, rfl, by decide +kernel, rfl, by decide +kernel, by decide +kernel⟩
abbrev s_cannot_be : Stmt := top 51
def d_cannot_be : He.DefD := ⟨("cannot_be", none), "cannot_be", "cannot_be", defArgs s_cannot_be, defBody s_cannot_be, defScope s_cannot_be, [], []⟩
abbrev n_cannot_be : List Str := ["tie"]
theorem sc_cannot_be : FnScope n_cannot_be ["tie"] (defScope s_cannot_be) := ⟨rfl, rfl, rfl, by decide +kernel, rfl, by decide +kernel, by decide +kernel⟩
abbrev s_is_pin : Stmt := top 52
def d_is_pin : He.DefD := ⟨("is_pin", none), "is_pin", "is_pin", defArgs s_is_pin, defBody s_is_pin, defScope s_is_pin, [], []⟩
abbrev n_is_pin : List Str := ["tie"]
theorem sc_is_pin : FnScope n_is_pin ["tie"] (defScope s_is_pin) := ⟨rfl, rfl, rfl, by decide +kernel, rfl, by decide +kernel, by decide +kernel⟩
abbrev s_evened : Stmt := top 53
def d_evened : He.DefD := ⟨("evened", none), "evened", "evened", defArgs s_evened, defBody s_evened, defScope s_evened, [], []⟩
abbrev n_evened : List Str := ["link", "tie", "meet", "half", "found"]
theorem sc_evened : FnScope n_evened ["link"] (defScope s_evened) := ⟨rfl, rfl, rfl, by decide +kernel, rfl, by decide +kernel, by decide +kernel⟩
abbrev s_rounds : Stmt := top 54
def d_rounds : He.DefD := ⟨("rounds", none), "rounds", "rounds", defArgs s_rounds, defBody s_rounds, defScope s_rounds, [], []⟩
abbrev n_rounds : List Str := ["tie", "place", "low"]
theorem sc_rounds : FnScope n_rounds ["tie", "place", "low"] (defScope s_rounds) := ⟨rfl, rfl, rfl, by decide +kernel, rfl, by decide +kernel, by decide +kernel⟩
abbrev s_way_to : Stmt := top 55
def d_way_to : He.DefD := ⟨("way_to", none), "way_to", "way_to", defArgs s_way_to, defBody s_way_to, defScope s_way_to, [], []⟩
abbrev n_way_to : List Str := ["cutter", "place"]
theorem sc_way_to : FnScope n_way_to ["cutter", "place"] (defScope s_way_to) := ⟨rfl, rfl, rfl, by decide +kernel, rfl, by decide +kernel, by decide +kernel⟩
abbrev s_read_by_link : Stmt := top 57
def d_read_by_link : He.DefD := ⟨("read_by_link", none), "read_by_link", "read_by_link", defArgs s_read_by_link, defBody s_read_by_link, defScope s_read_by_link, [], []⟩
abbrev n_read_by_link : List Str := ["cutter", "link", "low", "way"]
theorem sc_read_by_link : FnScope n_read_by_link ["cutter", "link"] (defScope s_read_by_link) := ⟨rfl, rfl, rfl, by decide +kernel, rfl, by decide +kernel, by decide +kernel⟩
abbrev s_read_through : Stmt := top 58
def d_read_through : He.DefD := ⟨("read_through", none), "read_through", "read_through", defArgs s_read_through, defBody s_read_through, defScope s_read_through, [], []⟩
abbrev n_read_through : List Str := ["cutter", "link"]
theorem sc_read_through : FnScope n_read_through ["cutter", "link"] (defScope s_read_through) := ⟨rfl, rfl, rfl, by decide +kernel, rfl, by decide +kernel, by decide +kernel⟩
abbrev s_shortened : Stmt := top 59
def d_shortened : He.DefD := ⟨("shortened", none), "shortened", "shortened", defArgs s_shortened, defBody s_shortened, defScope s_shortened, [], []⟩
abbrev n_shortened : List Str := ["cutter", "low", "end", "many"]
theorem sc_shortened : FnScope n_shortened ["cutter", "low", "end"] (defScope s_shortened) := ⟨rfl, rfl, rfl, by decide +kernel, rfl, by decide +kernel, by decide +kernel⟩
abbrev s_all_evened : Stmt := top 60
def d_all_evened : He.DefD := ⟨("all_evened", none), "all_evened", "all_evened", defArgs s_all_evened, defBody s_all_evened, defScope s_all_evened, [], []⟩
abbrev n_all_evened : List Str := ["links", "found", "broken", "link", "one"]
theorem sc_all_evened : FnScope n_all_evened ["links"] (defScope s_all_evened) := ⟨rfl, rfl, rfl, by decide +kernel, rfl, by decide +kernel, by decide +kernel⟩
abbrev s_end_of : Stmt := top 61
def d_end_of : He.DefD := ⟨("end_of", none), "end_of", "end_of", defArgs s_end_of, defBody s_end_of, defScope s_end_of, [], []⟩
abbrev n_end_of : List Str := ["links", "link"]
theorem sc_end_of : FnScope n_end_of ["links"] (defScope s_end_of) := ⟨rfl, rfl, rfl, by decide +kernel, rfl, by decide +kernel, by decide +kernel⟩
abbrev s_cut_off : Stmt := top 62
def d_cut_off : He.DefD := ⟨("cut_off", none), "cut_off", "cut_off", defArgs s_cut_off, defBody s_cut_off, defScope s_cut_off, [], []⟩
abbrev n_cut_off : List Str := ["links", "end", "last", "at", "cutter", "left", "broken", "low", "link"]
theorem sc_cut_off : FnScope n_cut_off ["links", "end"] (defScope s_cut_off) := ⟨rfl, rfl, rfl, by decide +kernel, rfl, by decide +kernel, by decide +kernel⟩
abbrev s_rows_by : Stmt := top 63
def d_rows_by : He.DefD := ⟨("rows_by", none), "rows_by", "rows_by", defArgs s_rows_by, defBody s_rows_by, defScope s_rows_by, [], []⟩
abbrev n_rows_by : List Str := ["size", "links", "cuts", "parts", "left", "broken", "end", "low", "row"]
theorem sc_rows_by : FnScope n_rows_by ["size", "links"] (defScope s_rows_by) := ⟨rfl, rfl, rfl, by decide +kernel, rfl, by decide +kernel, by decide +kernel⟩
abbrev s_links_of : Stmt := top 65
def d_links_of : He.DefD := ⟨("links_of", none), "links_of", "links_of", defArgs s_links_of, defBody s_links_of, defScope s_links_of, [], []⟩
abbrev n_links_of : List Str := ["book", "found", "number", "place", "note", "tie"]
theorem sc_links_of : FnScope n_links_of ["book"] (defScope s_links_of) := ⟨rfl, rfl, rfl, by decide +kernel, rfl, by decide +kernel, by decide +kernel⟩
abbrev s_ladder_of : Stmt := top 66
def d_ladder_of : He.DefD := ⟨("ladder_of", none), "ladder_of", "ladder_of", defArgs s_ladder_of, defBody s_ladder_of, defScope s_ladder_of, [], []⟩
abbrev n_ladder_of : List Str := ["book"]
theorem sc_ladder_of : FnScope n_ladder_of ["book"] (defScope s_ladder_of) := ⟨rfl, rfl, rfl, by decide +kernel, rfl, by decide +kernel, by decide +kernel⟩
abbrev s_check_place : Stmt := top 67
def d_check_place : He.DefD := ⟨("check_place", none), "check_place", "check_place", defArgs s_check_place, defBody s_check_place, defScope s_check_place, [], []⟩
abbrev n_check_place : List Str := ["book", "value"]
theorem sc_check_place : FnScope n_check_place ["book", "value"] (defScope s_check_place) := ⟨rfl, rfl, rfl, by decide +kernel, rfl, by decide +kernel, by decide +kernel⟩
abbrev s_kept_ladder : Stmt := top 68
def d_kept_ladder : He.DefD := ⟨("kept_ladder", none), "kept_ladder", "kept_ladder", defArgs s_kept_ladder, defBody s_kept_ladder, defScope s_kept_ladder, [], []⟩
abbrev n_kept_ladder : List Str := ["book", "found"]
theorem sc_kept_ladder : FnScope n_kept_ladder ["book"] (defScope s_kept_ladder) := ⟨rfl, rfl, rfl, by decide +kernel, rfl, by decide +kernel, by decide +kernel⟩
abbrev s_hangs : Stmt := top 70
def d_hangs : He.DefD := ⟨("hangs", none), "hangs", "hangs", defArgs s_hangs, defBody s_hangs, defScope s_hangs, [], []⟩
abbrev n_hangs : List Str := ["book", "place"]
theorem sc_hangs : FnScope n_hangs ["book", "place"] (defScope s_hangs) := ⟨rfl, rfl, rfl, by decide +kernel, rfl, by decide +kernel, by decide +kernel⟩
abbrev s_free : Stmt := top 71
def d_free : He.DefD := ⟨("free", none), "free", "free", defArgs s_free, defBody s_free, defScope s_free, [], []⟩
abbrev n_free : List Str := ["book"]
theorem sc_free : FnScope n_free ["book"] (defScope s_free) := ⟨rfl, rfl, rfl, by decide +kernel, rfl, by decide +kernel, by decide +kernel⟩
abbrev s_free_parts : Stmt := top 72
def d_free_parts : He.DefD := ⟨("free_parts", none), "free_parts", "free_parts", defArgs s_free_parts, defBody s_free_parts, defScope s_free_parts, [], []⟩
abbrev n_free_parts : List Str := ["book"]
theorem sc_free_parts : FnScope n_free_parts ["book"] (defScope s_free_parts) := ⟨rfl, rfl, rfl, by decide +kernel, rfl, by decide +kernel, by decide +kernel⟩
abbrev s_size_told : Stmt := top 79
def d_size_told : He.DefD := ⟨("size_told", none), "size_told", "size_told", defArgs s_size_told, defBody s_size_told, defScope s_size_told, [], []⟩
abbrev n_size_told : List Str := ["line", "parts", "size"]
theorem sc_size_told : FnScope n_size_told ["line"] (defScope s_size_told) := ⟨rfl, rfl, rfl, by decide +kernel, rfl, by decide +kernel, by decide +kernel⟩
abbrev s_tie_in : Stmt := top 80
def d_tie_in : He.DefD := ⟨("tie_in", none), "tie_in", "tie_in", defArgs s_tie_in, defBody s_tie_in, defScope s_tie_in, [], []⟩
abbrev n_tie_in : List Str := ["line", "size", "found"]
theorem sc_tie_in : FnScope n_tie_in ["line", "size"] (defScope s_tie_in) := ⟨rfl, rfl, rfl, by decide +kernel, rfl, by decide +kernel, by decide +kernel⟩
abbrev s_note_in : Stmt := top 81
def d_note_in : He.DefD := ⟨("note_in", none), "note_in", "note_in", defArgs s_note_in, defBody s_note_in, defScope s_note_in, [], []⟩
abbrev n_note_in : List Str := ["line", "size", "parts", "numbers"]
theorem sc_note_in : FnScope n_note_in ["line", "size"] (defScope s_note_in) := ⟨rfl, rfl, rfl, by decide +kernel, rfl, by decide +kernel, by decide +kernel⟩
abbrev s_read_book : Stmt := top 82
def d_read_book : He.DefD := ⟨("read_book", none), "read_book", "read_book", defArgs s_read_book, defBody s_read_book, defScope s_read_book, [], []⟩
abbrev n_read_book : List Str := ["text", "lines", "size", "ties", "notes", "at", "line", "tie", "told", "place", "note"]
theorem sc_read_book : FnScope n_read_book ["text"] (defScope s_read_book) := ⟨rfl, rfl, rfl, by decide +kernel, rfl, by decide +kernel, by decide +kernel⟩
abbrev s__law_pot : Stmt := top 89
def d__law_pot : He.DefD := ⟨("_law_pot", none), "_law_pot", "_law_pot", defArgs s__law_pot, defBody s__law_pot, defScope s__law_pot, [], []⟩
abbrev n__law_pot : List Str := ["_law_script", "_law_number", "_law_cell", "_law_own", "_law_stirred"]
theorem sc__law_pot : FnScope n__law_pot ["_law_script", "_law_number"] (defScope s__law_pot) := ⟨rfl, rfl, rfl, by decide +kernel, rfl, by decide +kernel, by decide +kernel⟩
abbrev s__law_take : Stmt := top 90
def d__law_take : He.DefD := ⟨("_law_take", none), "_law_take", "_law_take", defArgs s__law_take, defBody s__law_take, defScope s__law_take, [], []⟩
abbrev n__law_take : List Str := ["_law_pot_here", "_law_upto", "_law_digit", "_law_prime", "_law_stirred"]
theorem sc__law_take : FnScope n__law_take ["_law_pot_here", "_law_upto"] (defScope s__law_take) := ⟨rfl, rfl, rfl, by decide +kernel, rfl, by decide +kernel, by decide +kernel⟩
abbrev s__law_far : Stmt := top 91
def d__law_far : He.DefD := ⟨("_law_far", none), "_law_far", "_law_far", defArgs s__law_far, defBody s__law_far, defScope s__law_far, [], []⟩
abbrev n__law_far : List Str := ["_law_pot_here", "_law_upto", "_law_found", "_law_lap"]
theorem sc__law_far : FnScope n__law_far ["_law_pot_here", "_law_upto"] (defScope s__law_far) := ⟨rfl, rfl, rfl, by decide +kernel, rfl, by decide +kernel, by decide +kernel⟩
abbrev s__law_of : Stmt := top 92
def d__law_of : He.DefD := ⟨("_law_of", none), "_law_of", "_law_of", defArgs s__law_of, defBody s__law_of, defScope s__law_of, [], []⟩
abbrev n__law_of : List Str := ["_law_pot_here", "_law_some"]
theorem sc__law_of : FnScope n__law_of ["_law_pot_here", "_law_some"] (defScope s__law_of) := ⟨rfl, rfl, rfl, by decide +kernel, rfl, by decide +kernel, by decide +kernel⟩
abbrev s__law_cells : Stmt := top 93
def d__law_cells : He.DefD := ⟨("_law_cells", none), "_law_cells", "_law_cells", defArgs s__law_cells, defBody s__law_cells, defScope s__law_cells, [], []⟩
abbrev n__law_cells : List Str := ["_law_script", "_law_most"]
theorem sc__law_cells : FnScope n__law_cells ["_law_script", "_law_most"] (defScope s__law_cells) := ⟨rfl, rfl, rfl, by decide +kernel, rfl, by decide +kernel, by decide +kernel⟩
abbrev s__law_tie_text : Stmt := top 94
def d__law_tie_text : He.DefD := ⟨("_law_tie_text", none), "_law_tie_text", "_law_tie_text", defArgs s__law_tie_text, defBody s__law_tie_text, defScope s__law_tie_text, [], []⟩
abbrev n__law_tie_text : List Str := ["_law_row", "_law_first", "_law_second", "_law_length", "_law_is_down", "_law_amount", "_law_is_back", "_law_words"]
theorem sc__law_tie_text : FnScope n__law_tie_text ["_law_row"] (defScope s__law_tie_text) := ⟨rfl, rfl, rfl, by decide +kernel, rfl, by decide +kernel, by decide +kernel⟩
abbrev s__law_book_text : Stmt := top 95
def d__law_book_text : He.DefD := ⟨("_law_book_text", none), "_law_book_text", "_law_book_text", defArgs s__law_book_text, defBody s__law_book_text, defScope s__law_book_text, [], []⟩
abbrev n__law_book_text : List Str := ["_law_lore", "_law_lines", "_law_row", "_law_place", "_law_note"]
theorem sc__law_book_text : FnScope n__law_book_text ["_law_lore"] (defScope s__law_book_text) := ⟨rfl, rfl, rfl, by decide +kernel, rfl, by decide +kernel, by decide +kernel⟩
abbrev s__law_met : Stmt := top 96
def d__law_met : He.DefD := ⟨("_law_met", none), "_law_met", "_law_met", defArgs s__law_met, defBody s__law_met, defScope s__law_met, [], []⟩
abbrev n__law_met : List Str := ["_law_ask", "_law_error"]
theorem sc__law_met : FnScope n__law_met ["_law_ask"] (defScope s__law_met) := ⟨rfl, rfl, rfl, by decide +kernel, rfl, by decide +kernel, by decide +kernel⟩
abbrev s__law_is_clash : Stmt := top 97
def d__law_is_clash : He.DefD := ⟨("_law_is_clash", none), "_law_is_clash", "_law_is_clash", defArgs s__law_is_clash, defBody s__law_is_clash, defScope s__law_is_clash, [], []⟩
abbrev n__law_is_clash : List Str := ["_law_ask", "_law_book", "_law_word", "_law_error"]
theorem sc__law_is_clash : FnScope n__law_is_clash ["_law_ask", "_law_book"] (defScope s__law_is_clash) := ⟨rfl, rfl, rfl, by decide +kernel, rfl, by decide +kernel, by decide +kernel⟩
abbrev s__law_divisor : Stmt := top 98
def d__law_divisor : He.DefD := ⟨("_law_divisor", none), "_law_divisor", "_law_divisor", defArgs s__law_divisor, defBody s__law_divisor, defScope s__law_divisor, [], []⟩
abbrev n__law_divisor : List Str := ["_law_one", "_law_other"]
theorem sc__law_divisor : FnScope n__law_divisor ["_law_one", "_law_other"] (defScope s__law_divisor) := ⟨rfl, rfl, rfl, by decide +kernel, rfl, by decide +kernel, by decide +kernel⟩
abbrev s__law_book_of : Stmt := top 99
def d__law_book_of : He.DefD := ⟨("_law_book_of", none), "_law_book_of", "_law_book_of", defArgs s__law_book_of, defBody s__law_book_of, defScope s__law_book_of, [], []⟩
abbrev n__law_book_of : List Str := ["_law_size", "_law_steps", "_law_amounts", "_law_rows", "_law_step", "_law_amount"]
theorem sc__law_book_of : FnScope n__law_book_of ["_law_size", "_law_steps", "_law_amounts"] (defScope s__law_book_of) := ⟨rfl, rfl, rfl, by decide +kernel, rfl, by decide +kernel, by decide +kernel⟩
abbrev s__law_right : Stmt := top 100
def d__law_right : He.DefD := ⟨("_law_right", none), "_law_right", "_law_right", defArgs s__law_right, defBody s__law_right, defScope s__law_right, [], []⟩
abbrev n__law_right : List Str := ["_law_pot_here", "_law_bound", "_law_scale", "_law_one", "_law_other", "_law_common", "_law_wide", "_law_edge", "_law_size", "_law_book", "_law_place", "_law_rest", "_law_more", "_law_long", "_law_short", "_law_lap"]
theorem sc__law_right : FnScope n__law_right ["_law_pot_here"] (defScope s__law_right) := ⟨rfl, rfl, rfl, by decide +kernel, rfl, by decide +kernel, by decide +kernel⟩
abbrev s_law : Stmt := top 101
def d_law : He.DefD := ⟨("law", none), "law", "law", defArgs s_law, defBody s_law, defScope s_law, [], []⟩
abbrev n_law : List Str := ["_law_script", "_law_number", "_law_pot_here", "_law_lap"]
theorem sc_law : FnScope n_law ["_law_script"] (defScope s_law) := ⟨rfl, rfl, rfl, by decide +kernel, rfl, by decide +kernel, by decide +kernel⟩
abbrev s_Tie___init__ : Stmt := inClass (top 35) 0
def d_Tie___init__ : He.DefD := ⟨("Tie", some "__init__"), "__init__", "Tie.__init__", defArgs s_Tie___init__, defBody s_Tie___init__, defScope s_Tie___init__, [.int 0], [("down", .bl false), ("backward", .bl false)]⟩
abbrev n_Tie___init__ : List Str := ["self", "first", "second", "length", "amount", "down", "backward", "place", "way"]
theorem sc_Tie___init__ : FnScope n_Tie___init__ ["self", "first", "second", "length", "amount", "down", "backward"] (defScope s_Tie___init__) := ⟨rfl, rfl, rfl, by decide +kernel, rfl, by decide +kernel, by decide +kernel⟩
abbrev s_Tie_partner : Stmt := inClass (top 35) 11
def d_Tie_partner : He.DefD := ⟨("Tie", some "partner"), "partner", "Tie.partner", defArgs s_Tie_partner, defBody s_Tie_partner, defScope s_Tie_partner, [], []⟩
abbrev n_Tie_partner : List Str := ["self", "place"]
theorem sc_Tie_partner : FnScope n_Tie_partner ["self", "place"] (defScope s_Tie_partner) := ⟨rfl, rfl, rfl, by decide +kernel, rfl, by decide +kernel, by decide +kernel⟩
abbrev s_Tie_led : Stmt := inClass (top 35) 13
def d_Tie_led : He.DefD := ⟨("Tie", some "led"), "led", "Tie.led", defArgs s_Tie_led, defBody s_Tie_led, defScope s_Tie_led, [], []⟩
abbrev n_Tie_led : List Str := ["self", "note"]
theorem sc_Tie_led : FnScope n_Tie_led ["self", "note"] (defScope s_Tie_led) := ⟨rfl, rfl, rfl, by decide +kernel, rfl, by decide +kernel, by decide +kernel⟩
abbrev s_Tie_between : Stmt := inClass (top 35) 14
def d_Tie_between : He.DefD := ⟨("Tie", some "between"), "between", "Tie.between", defArgs s_Tie_between, defBody s_Tie_between, defScope s_Tie_between, [], []⟩
abbrev n_Tie_between : List Str := ["self", "low", "high", "second"]
theorem sc_Tie_between : FnScope n_Tie_between ["self", "low", "high"] (defScope s_Tie_between) := ⟨rfl, rfl, rfl, by decide +kernel, rfl, by decide +kernel, by decide +kernel⟩
abbrev s_Tie_part : Stmt := inClass (top 35) 15
def d_Tie_part : He.DefD := ⟨("Tie", some "part"), "part", "Tie.part", defArgs s_Tie_part, defBody s_Tie_part, defScope s_Tie_part, [], []⟩
abbrev n_Tie_part : List Str := ["self", "start", "length"]
theorem sc_Tie_part : FnScope n_Tie_part ["self", "start", "length"] (defScope s_Tie_part) := ⟨rfl, rfl, rfl, by decide +kernel, rfl, by decide +kernel, by decide +kernel⟩
abbrev s_Tie___invert__ : Stmt := inClass (top 35) 16
def d_Tie___invert__ : He.DefD := ⟨("Tie", some "__invert__"), "__invert__", "Tie.__invert__", defArgs s_Tie___invert__, defBody s_Tie___invert__, defScope s_Tie___invert__, [], []⟩
abbrev n_Tie___invert__ : List Str := ["self", "amount"]
theorem sc_Tie___invert__ : FnScope n_Tie___invert__ ["self"] (defScope s_Tie___invert__) := ⟨rfl, rfl, rfl, by decide +kernel, rfl, by decide +kernel, by decide +kernel⟩
abbrev s_Tie_places_into : Stmt := inClass (top 35) 17
def d_Tie_places_into : He.DefD := ⟨("Tie", some "places_into"), "places_into", "Tie.places_into", defArgs s_Tie_places_into, defBody s_Tie_places_into, defScope s_Tie_places_into, [], []⟩
abbrev n_Tie_places_into : List Str := ["self", "first", "behind", "low", "high"]
theorem sc_Tie_places_into : FnScope n_Tie_places_into ["self", "first", "behind"] (defScope s_Tie_places_into) := ⟨rfl, rfl, rfl, by decide +kernel, rfl, by decide +kernel, by decide +kernel⟩
abbrev s_Tie___rshift__ : Stmt := inClass (top 35) 18
def d_Tie___rshift__ : He.DefD := ⟨("Tie", some "__rshift__"), "__rshift__", "Tie.__rshift__", defArgs s_Tie___rshift__, defBody s_Tie___rshift__, defScope s_Tie___rshift__, [], []⟩
abbrev n_Tie___rshift__ : List Str := ["self", "other", "low", "high", "ends", "second", "backward", "place", "end"]
theorem sc_Tie___rshift__ : FnScope n_Tie___rshift__ ["self", "other"] (defScope s_Tie___rshift__) := ⟨rfl, rfl, rfl, by decide +kernel, rfl, by decide +kernel, by decide +kernel⟩
abbrev s_Tie_led_often : Stmt := inClass (top 35) 19
def d_Tie_led_often : He.DefD := ⟨("Tie", some "led_often"), "led_often", "Tie.led_often", defArgs s_Tie_led_often, defBody s_Tie_led_often, defScope s_Tie_led_often, [], []⟩
abbrev n_Tie_led_often : List Str := ["self", "many"]
theorem sc_Tie_led_often : FnScope n_Tie_led_often ["self", "many"] (defScope s_Tie_led_often) := ⟨rfl, rfl, rfl, by decide +kernel, rfl, by decide +kernel, by decide +kernel⟩
abbrev s_Tie___mul__ : Stmt := inClass (top 35) 20
def d_Tie___mul__ : He.DefD := ⟨("Tie", some "__mul__"), "__mul__", "Tie.__mul__", defArgs s_Tie___mul__, defBody s_Tie___mul__, defScope s_Tie___mul__, [], []⟩
abbrev n_Tie___mul__ : List Str := ["self", "many", "low", "high", "step", "far", "amount", "down"]
theorem sc_Tie___mul__ : FnScope n_Tie___mul__ ["self", "many"] (defScope s_Tie___mul__) := ⟨rfl, rfl, rfl, by decide +kernel, rfl, by decide +kernel, by decide +kernel⟩
abbrev s_Link___init__ : Stmt := inClass (top 45) 1
def d_Link___init__ : He.DefD := ⟨("Link", some "__init__"), "__init__", "Link.__init__", defArgs s_Link___init__, defBody s_Link___init__, defScope s_Link___init__, [.adr (He.dflAt ("Link", some "__init__") 0)], []⟩
abbrev n_Link___init__ : List Str := ["self", "tie", "reason", "parents"]
theorem sc_Link___init__ : FnScope n_Link___init__ ["self", "tie", "reason", "parents"] (defScope s_Link___init__) := ⟨rfl, rfl, rfl, by decide +kernel, rfl, by decide +kernel, by decide +kernel⟩
abbrev s_Ladder___init__ : Stmt := inClass (top 64) 0
def d_Ladder___init__ : He.DefD := ⟨("Ladder", some "__init__"), "__init__", "Ladder.__init__", defArgs s_Ladder___init__, defBody s_Ladder___init__, defScope s_Ladder___init__, [], []⟩
abbrev n_Ladder___init__ : List Str := ["self", "size", "links"]
theorem sc_Ladder___init__ : FnScope n_Ladder___init__ ["self", "size", "links"] (defScope s_Ladder___init__) := ⟨rfl, rfl, rfl, by decide +kernel, rfl, by decide +kernel, by decide +kernel⟩
abbrev s_Ladder_walk : Stmt := inClass (top 64) 2
def d_Ladder_walk : He.DefD := ⟨("Ladder", some "walk"), "walk", "Ladder.walk", defArgs s_Ladder_walk, defBody s_Ladder_walk, defScope s_Ladder_walk, [], []⟩
abbrev n_Ladder_walk : List Str := ["self", "place", "found", "now", "low", "end", "link", "many"]
theorem sc_Ladder_walk : FnScope n_Ladder_walk ["self", "place"] (defScope s_Ladder_walk) := ⟨rfl, rfl, rfl, by decide +kernel, rfl, by decide +kernel, by decide +kernel⟩
abbrev s_Ladder_reading : Stmt := inClass (top 64) 3
def d_Ladder_reading : He.DefD := ⟨("Ladder", some "reading"), "reading", "Ladder.reading", defArgs s_Ladder_reading, defBody s_Ladder_reading, defScope s_Ladder_reading, [], []⟩
abbrev n_Ladder_reading : List Str := ["self", "place", "rows", "least", "amount", "down", "link", "many", "now", "note", "own", "is_down"]
theorem sc_Ladder_reading : FnScope n_Ladder_reading ["self", "place"] (defScope s_Ladder_reading) := ⟨rfl, rfl, rfl, by decide +kernel, rfl, by decide +kernel, by decide +kernel⟩
abbrev s_Book___init__ : Stmt := inClass (top 87) 0
def d_Book___init__ : He.DefD := ⟨("Book", some "__init__"), "__init__", "Book.__init__", defArgs s_Book___init__, defBody s_Book___init__, defScope s_Book___init__, [], []⟩
abbrev n_Book___init__ : List Str := ["self", "text"]
theorem sc_Book___init__ : FnScope n_Book___init__ ["self", "text"] (defScope s_Book___init__) := ⟨rfl, rfl, rfl, by decide +kernel, rfl, by decide +kernel, by decide +kernel⟩
abbrev s_Book___eq__ : Stmt := inClass (top 87) 16
def d_Book___eq__ : He.DefD := ⟨("Book", some "__eq__"), "__eq__", "Book.__eq__", defArgs s_Book___eq__, defBody s_Book___eq__, defScope s_Book___eq__, [], []⟩
abbrev n_Book___eq__ : List Str := ["self", "other"]
theorem sc_Book___eq__ : FnScope n_Book___eq__ ["self", "other"] (defScope s_Book___eq__) := ⟨rfl, rfl, rfl, by decide +kernel, rfl, by decide +kernel, by decide +kernel⟩
abbrev s_Tie_first : Stmt := inClass (top 35) 1
def d_Tie_first : He.DefD := ⟨("Tie", some "first"), "first", "Tie.first", defArgs s_Tie_first, defBody s_Tie_first, defScope s_Tie_first, [], []⟩
abbrev n_Tie_first : List Str := ["self"]
theorem sc_Tie_first : FnScope n_Tie_first ["self"] (defScope s_Tie_first) := ⟨rfl, rfl, rfl, by decide +kernel, rfl, by decide +kernel, by decide +kernel⟩
abbrev s_Tie_second : Stmt := inClass (top 35) 2
def d_Tie_second : He.DefD := ⟨("Tie", some "second"), "second", "Tie.second", defArgs s_Tie_second, defBody s_Tie_second, defScope s_Tie_second, [], []⟩
abbrev n_Tie_second : List Str := ["self"]
theorem sc_Tie_second : FnScope n_Tie_second ["self"] (defScope s_Tie_second) := ⟨rfl, rfl, rfl, by decide +kernel, rfl, by decide +kernel, by decide +kernel⟩
abbrev s_Tie_length : Stmt := inClass (top 35) 3
def d_Tie_length : He.DefD := ⟨("Tie", some "length"), "length", "Tie.length", defArgs s_Tie_length, defBody s_Tie_length, defScope s_Tie_length, [], []⟩
abbrev n_Tie_length : List Str := ["self"]
theorem sc_Tie_length : FnScope n_Tie_length ["self"] (defScope s_Tie_length) := ⟨rfl, rfl, rfl, by decide +kernel, rfl, by decide +kernel, by decide +kernel⟩
abbrev s_Tie_amount : Stmt := inClass (top 35) 4
def d_Tie_amount : He.DefD := ⟨("Tie", some "amount"), "amount", "Tie.amount", defArgs s_Tie_amount, defBody s_Tie_amount, defScope s_Tie_amount, [], []⟩
abbrev n_Tie_amount : List Str := ["self"]
theorem sc_Tie_amount : FnScope n_Tie_amount ["self"] (defScope s_Tie_amount) := ⟨rfl, rfl, rfl, by decide +kernel, rfl, by decide +kernel, by decide +kernel⟩
abbrev s_Tie_down : Stmt := inClass (top 35) 5
def d_Tie_down : He.DefD := ⟨("Tie", some "down"), "down", "Tie.down", defArgs s_Tie_down, defBody s_Tie_down, defScope s_Tie_down, [], []⟩
abbrev n_Tie_down : List Str := ["self"]
theorem sc_Tie_down : FnScope n_Tie_down ["self"] (defScope s_Tie_down) := ⟨rfl, rfl, rfl, by decide +kernel, rfl, by decide +kernel, by decide +kernel⟩
abbrev s_Tie_backward : Stmt := inClass (top 35) 6
def d_Tie_backward : He.DefD := ⟨("Tie", some "backward"), "backward", "Tie.backward", defArgs s_Tie_backward, defBody s_Tie_backward, defScope s_Tie_backward, [], []⟩
abbrev n_Tie_backward : List Str := ["self"]
theorem sc_Tie_backward : FnScope n_Tie_backward ["self"] (defScope s_Tie_backward) := ⟨rfl, rfl, rfl, by decide +kernel, rfl, by decide +kernel, by decide +kernel⟩
abbrev s_Tie_shift : Stmt := inClass (top 35) 9
def d_Tie_shift : He.DefD := ⟨("Tie", some "shift"), "shift", "Tie.shift", defArgs s_Tie_shift, defBody s_Tie_shift, defScope s_Tie_shift, [], []⟩
abbrev n_Tie_shift : List Str := ["self"]
theorem sc_Tie_shift : FnScope n_Tie_shift ["self"] (defScope s_Tie_shift) := ⟨rfl, rfl, rfl, by decide +kernel, rfl, by decide +kernel, by decide +kernel⟩
abbrev s_Link_behind : Stmt := inClass (top 45) 2
def d_Link_behind : He.DefD := ⟨("Link", some "behind"), "behind", "Link.behind", defArgs s_Link_behind, defBody s_Link_behind, defScope s_Link_behind, [], []⟩
abbrev n_Link_behind : List Str := ["self"]
theorem sc_Link_behind : FnScope n_Link_behind ["self"] (defScope s_Link_behind) := ⟨rfl, rfl, rfl, by decide +kernel, rfl, by decide +kernel, by decide +kernel⟩
abbrev s_Ladder_free : Stmt := inClass (top 64) 1
def d_Ladder_free : He.DefD := ⟨("Ladder", some "free"), "free", "Ladder.free", defArgs s_Ladder_free, defBody s_Ladder_free, defScope s_Ladder_free, [], []⟩
abbrev n_Ladder_free : List Str := ["self", "first", "length"]
theorem sc_Ladder_free : FnScope n_Ladder_free ["self"] (defScope s_Ladder_free) := ⟨rfl, rfl, rfl, by decide +kernel, rfl, by decide +kernel, by decide +kernel⟩
abbrev s_Book_size : Stmt := inClass (top 87) 2
def d_Book_size : He.DefD := ⟨("Book", some "size"), "size", "Book.size", defArgs s_Book_size, defBody s_Book_size, defScope s_Book_size, [], []⟩
abbrev n_Book_size : List Str := ["self"]
theorem sc_Book_size : FnScope n_Book_size ["self"] (defScope s_Book_size) := ⟨rfl, rfl, rfl, by decide +kernel, rfl, by decide +kernel, by decide +kernel⟩
abbrev s_Book_ties : Stmt := inClass (top 87) 3
def d_Book_ties : He.DefD := ⟨("Book", some "ties"), "ties", "Book.ties", defArgs s_Book_ties, defBody s_Book_ties, defScope s_Book_ties, [], []⟩
abbrev n_Book_ties : List Str := ["self"]
theorem sc_Book_ties : FnScope n_Book_ties ["self"] (defScope s_Book_ties) := ⟨rfl, rfl, rfl, by decide +kernel, rfl, by decide +kernel, by decide +kernel⟩
abbrev s_Book_notes : Stmt := inClass (top 87) 4
def d_Book_notes : He.DefD := ⟨("Book", some "notes"), "notes", "Book.notes", defArgs s_Book_notes, defBody s_Book_notes, defScope s_Book_notes, [], []⟩
abbrev n_Book_notes : List Str := ["self"]
theorem sc_Book_notes : FnScope n_Book_notes ["self"] (defScope s_Book_notes) := ⟨rfl, rfl, rfl, by decide +kernel, rfl, by decide +kernel, by decide +kernel⟩
def fn : List He.DefD := [d_is_integer, d_number_told, d_numbers_told, d_line_parts, d_tie_told, d_is_tie_within, d_back, d_joined, d_times, d_part, d_is_one_part, d_cannot_be, d_is_pin, d_evened, d_rounds, d_way_to, d_read_by_link, d_read_through, d_shortened, d_all_evened, d_end_of, d_cut_off, d_rows_by, d_links_of, d_ladder_of, d_check_place, d_kept_ladder, d_hangs, d_free, d_free_parts, d_size_told, d_tie_in, d_note_in, d_read_book, d__law_pot, d__law_take, d__law_far, d__law_of, d__law_cells, d__law_tie_text, d__law_book_text, d__law_met, d__law_is_clash, d__law_divisor, d__law_book_of, d__law_right, d_law, d_Tie___init__, d_Tie_partner, d_Tie_led, d_Tie_between, d_Tie_part, d_Tie___invert__, d_Tie_places_into, d_Tie___rshift__, d_Tie_led_often, d_Tie___mul__, d_Link___init__, d_Ladder___init__, d_Ladder_walk, d_Ladder_reading, d_Book___init__, d_Book___eq__]
def gs : List He.DefD := [d_Tie_first, d_Tie_second, d_Tie_length, d_Tie_amount, d_Tie_down, d_Tie_backward, d_Tie_shift, d_Link_behind, d_Ladder_free, d_Book_size, d_Book_ties, d_Book_notes]
def fa : List He.Fa := [.glo "is_integer", .glo "number_told", .glo "numbers_told", .glo "line_parts", .glo "tie_told", .glo "is_tie_within", .glo "back", .glo "joined", .glo "times", .glo "part", .glo "is_one_part", .glo "cannot_be", .glo "is_pin", .glo "evened", .glo "rounds", .glo "way_to", .glo "read_by_link", .glo "read_through", .glo "shortened", .glo "all_evened", .glo "end_of", .glo "cut_off", .glo "rows_by", .glo "links_of", .glo "ladder_of", .glo "check_place", .glo "kept_ladder", .glo "hangs", .glo "free", .glo "free_parts", .glo "size_told", .glo "tie_in", .glo "note_in", .glo "read_book", .glo "_law_pot", .glo "_law_take", .glo "_law_far", .glo "_law_of", .glo "_law_cells", .glo "_law_tie_text", .glo "_law_book_text", .glo "_law_met", .glo "_law_is_clash", .glo "_law_divisor", .glo "_law_book_of", .glo "_law_right", .glo "law", .glo "Tie", .glo "Link", .glo "Ladder", .glo "Book", .glo "TuneError", .glo "Clash", .free "isinstance", .free "int", .free "bool", .free "str", .free "all", .free "len", .free "max", .free "min", .free "sum", .free "sorted", .free "tuple", .free "enumerate", .free "range", .free "list", .free "zip", .free "repr", .free "abs", .free "super", .int "END" (10 ^ 30), .int "WORDS" 5, .int "MOST_WORDS" 6, .int "MOST" 12, .int "PAIR" 2, .str "FIGURES" "0123456789", .str "BLANK" " ", .str "FEED" "\n", .str "UP" "up", .str "DOWN" "down", .str "BACK_ties" "back", .str "TOLD" "told", .str "NOTE_ladder" "note", .str "BACK_ladder" "back", .str "JOINED" "joined", .str "TIMES" "times", .str "PART" "part", .str "SIZE" "size", .str "TIE" "tie", .str "NOTE_books" "note", .cls "Tie", .cls "Ladder", .cls "Book", .noat "Tie" "own_first", .noat "Tie" "own_second", .noat "Tie" "own_length", .noat "Tie" "own_amount", .noat "Tie" "own_down", .noat "Tie" "own_backward", .noat "Ladder" "cuts", .noat "Ladder" "parts", .noat "Ladder" "broken", .noat "Book" "own_size", .noat "Book" "own_ties", .noat "Book" "own_notes", .noat "Book" "own_text", .noat "Book" "own_ladder", .meth "Tie" "partner", .meth "Tie" "led", .meth "Tie" "between", .meth "Tie" "part", .meth "Tie" "places_into", .meth "Tie" "led_often", .meth "Tie" "__invert__", .meth "Tie" "__rshift__", .meth "Tie" "__mul__", .meth "Ladder" "walk", .meth "Ladder" "reading", .meth "Book" "__eq__", .mkr "Tie", .mkr "Link", .mkr "Ladder", .mkr "Book"]
/-- the getter of a property -/
def gAd (K : PySem.W.Frag) (p : Str × Option Str) : Addr := match PySem.W.recIn K (fAd K p) "property" with
  | some (.ref g :: _) => g
  | _ => 0
def fnG (K : PySem.W.Frag) (p : Str × Option Str) : He.FnW := match K.lookup (gAd K p) with
  | some ⟨_, _, .func fd, _⟩ => some (fd.name, fd.qualname, fd.params, fd.body, fd.scope, fd.globals, fd.closure, fd.builtins)
  | _ => none
def okG (K : PySem.W.Frag) (d : He.DefD) : Bool := PySem.W.keepIn K (.ref (gAd K d.at_)) && match K.lookup (gAd K d.at_) with
  | some ⟨_, _, .func fd, _⟩ => PySem.W.codeIn K fd.code d.qual && decide (fd.defaults = .none)
  | _ => false
theorem funG {K : PySem.W.Frag} {d : He.DefD} (e : fnG K d.at_ = d.val) (c : okG K d = true) : ∃ fd, FunD K d.name d.qual d.params d.body d.scope [] [] (gAd K d.at_) fd := by
  have c1 := (Bool.and_eq_true_iff.mp c).1
  have c2 := (Bool.and_eq_true_iff.mp c).2
  unfold fnG at e
  generalize hq : K.lookup (gAd K d.at_) = q at e c2
  match q, hq, e, c2 with
  | some ⟨oc, od, .func fd, osl⟩, hq, e, c2 =>
    cases fd with
    | mk m1 m2 m3 m4 m5 m6 m7 m8 m9 m10 m11 m12 m13 m14 m15 =>
      have e' : (m1, m2, m3, m4, m5, m6, m7, m15) = (d.name, d.qual, d.params, FuncBody.stmts d.body, d.scope, mainGlobals, ([] : List (Str × Addr)), builtinsNs) := Option.some.inj e
      injection e' with a1 r1
      injection r1 with a2 r2
      injection r2 with a3 r3
      injection r3 with a4 r4
      injection r4 with a5 r5
      injection r5 with a6 r6
      injection r6 with a7 a8
      subst a1 a2 a3 a4 a5 a6 a7 a8
      have k := Bool.and_eq_true_iff.mp c2
      have k2 : m8 = .none := of_decide_eq_true k.2
      subst k2
      exact ⟨_, ⟨oc, od, .none, m9, m10, m11, m12, m13, m14, osl, rfl, hq, k.1, .inl ⟨rfl, rfl⟩, .inl rfl⟩, c1⟩

def exL : List (PySem.W.Frag → Bool) := [
  fun K => decide (PySem.W.findIn K (.ref (ga K "Tie")) "__class__" = some (some (.builtin "object.__class__"))),
  fun K => decide (PySem.W.mroIn K (ga K "Tie") (.type "object") = some true),
  fun K => decide (PySem.W.findIn K (.ref (ga K "Book")) "__class__" = some (some (.builtin "object.__class__"))),
  fun K => decide (PySem.W.mroIn K (ga K "Book") (.type "object") = some true),
  fun K => decide (PySem.W.specialIn K (.builtin "object.__class__") "__get__" = some (some (.builtin "getset_descriptor.__get__"))),
  fun K => decide (PySem.W.takesIn K (.builtin "object.__class__") = some true),
  fun K => decide (PySem.W.selfFirst K (ga K "Tie") = true),
  fun K => decide (PySem.W.selfFirst K (ga K "Book") = true),
  fun K => decide (PySem.W.findIn K (.ref (ga K "Tie")) "__rmul__" = some none),
  fun K => decide ((PySem.W.findIn K (.type "int") "__mul__").isSome = true),
  fun K => decide ((PySem.W.findIn K (.type "int") "__rmul__").isSome = true),
  fun K => decide (PySem.W.subIn K (.type "int") (.ref (ga K "Tie")) = some false),
  fun K => decide (PySem.W.findIn K (.ref (ga K "Link")) "parents" = some (some (.ref (ma K (ga K "Link") "parents")))),
  fun K => decide (PySem.W.specialIn K (.ref (ma K (ga K "Link") "parents")) "__get__" = some (some (.builtin "member_descriptor.__get__"))),
  fun K => decide (PySem.W.takesIn K (.ref (ma K (ga K "Link") "parents")) = some true),
  fun K => decide (PySem.W.typeIn K (.ref (ma K (ga K "Link") "parents")) = some (.type "member_descriptor")),
  fun K => decide (PySem.W.slotIn K (ma K (ga K "Link") "parents") (ga K "Link") = some 0),
  fun K => decide (PySem.W.findIn K (.ref (ga K "Link")) "reason" = some (some (.ref (ma K (ga K "Link") "reason")))),
  fun K => decide (PySem.W.specialIn K (.ref (ma K (ga K "Link") "reason")) "__get__" = some (some (.builtin "member_descriptor.__get__"))),
  fun K => decide (PySem.W.takesIn K (.ref (ma K (ga K "Link") "reason")) = some true),
  fun K => decide (PySem.W.typeIn K (.ref (ma K (ga K "Link") "reason")) = some (.type "member_descriptor")),
  fun K => decide (PySem.W.slotIn K (ma K (ga K "Link") "reason") (ga K "Link") = some 1),
  fun K => decide (PySem.W.findIn K (.ref (ga K "Link")) "tie" = some (some (.ref (ma K (ga K "Link") "tie")))),
  fun K => decide (PySem.W.specialIn K (.ref (ma K (ga K "Link") "tie")) "__get__" = some (some (.builtin "member_descriptor.__get__"))),
  fun K => decide (PySem.W.takesIn K (.ref (ma K (ga K "Link") "tie")) = some true),
  fun K => decide (PySem.W.typeIn K (.ref (ma K (ga K "Link") "tie")) = some (.type "member_descriptor")),
  fun K => decide (PySem.W.slotIn K (ma K (ga K "Link") "tie") (ga K "Link") = some 2),
  fun K => decide (PySem.W.plainGet K (ga K "Link") Str.empty = true),
  fun K => decide (PySem.W.isClsIn K (ga K "Link") = true),
  fun K => decide (PySem.W.plainOver K (ga K "Link") = true),
  fun K => decide (PySem.W.findIn K (.ref (ga K "Link")) "__setattr__" = some (some (.builtin "object.__setattr__"))),
  fun K => decide (PySem.W.findIn K (.ref (ga K "Tie")) "first" = some (some (.ref (ma K (ga K "Tie") "first")))),
  fun K => decide (PySem.W.specialIn K (.ref (ma K (ga K "Tie") "first")) "__get__" = some (some (.builtin "property.__get__"))),
  fun K => decide (PySem.W.takesIn K (.ref (ma K (ga K "Tie") "first")) = some true),
  fun K => decide ((PySem.W.recIn K (ma K (ga K "Tie") "first") "property").map List.head? = some (some (.ref (gAd K d_Tie_first.at_)))),
  fun K => decide (PySem.W.findIn K (.ref (ga K "Tie")) "second" = some (some (.ref (ma K (ga K "Tie") "second")))),
  fun K => decide (PySem.W.specialIn K (.ref (ma K (ga K "Tie") "second")) "__get__" = some (some (.builtin "property.__get__"))),
  fun K => decide (PySem.W.takesIn K (.ref (ma K (ga K "Tie") "second")) = some true),
  fun K => decide ((PySem.W.recIn K (ma K (ga K "Tie") "second") "property").map List.head? = some (some (.ref (gAd K d_Tie_second.at_)))),
  fun K => decide (PySem.W.findIn K (.ref (ga K "Tie")) "length" = some (some (.ref (ma K (ga K "Tie") "length")))),
  fun K => decide (PySem.W.specialIn K (.ref (ma K (ga K "Tie") "length")) "__get__" = some (some (.builtin "property.__get__"))),
  fun K => decide (PySem.W.takesIn K (.ref (ma K (ga K "Tie") "length")) = some true),
  fun K => decide ((PySem.W.recIn K (ma K (ga K "Tie") "length") "property").map List.head? = some (some (.ref (gAd K d_Tie_length.at_)))),
  fun K => decide (PySem.W.findIn K (.ref (ga K "Tie")) "amount" = some (some (.ref (ma K (ga K "Tie") "amount")))),
  fun K => decide (PySem.W.specialIn K (.ref (ma K (ga K "Tie") "amount")) "__get__" = some (some (.builtin "property.__get__"))),
  fun K => decide (PySem.W.takesIn K (.ref (ma K (ga K "Tie") "amount")) = some true),
  fun K => decide ((PySem.W.recIn K (ma K (ga K "Tie") "amount") "property").map List.head? = some (some (.ref (gAd K d_Tie_amount.at_)))),
  fun K => decide (PySem.W.findIn K (.ref (ga K "Tie")) "down" = some (some (.ref (ma K (ga K "Tie") "down")))),
  fun K => decide (PySem.W.specialIn K (.ref (ma K (ga K "Tie") "down")) "__get__" = some (some (.builtin "property.__get__"))),
  fun K => decide (PySem.W.takesIn K (.ref (ma K (ga K "Tie") "down")) = some true),
  fun K => decide ((PySem.W.recIn K (ma K (ga K "Tie") "down") "property").map List.head? = some (some (.ref (gAd K d_Tie_down.at_)))),
  fun K => decide (PySem.W.findIn K (.ref (ga K "Tie")) "backward" = some (some (.ref (ma K (ga K "Tie") "backward")))),
  fun K => decide (PySem.W.specialIn K (.ref (ma K (ga K "Tie") "backward")) "__get__" = some (some (.builtin "property.__get__"))),
  fun K => decide (PySem.W.takesIn K (.ref (ma K (ga K "Tie") "backward")) = some true),
  fun K => decide ((PySem.W.recIn K (ma K (ga K "Tie") "backward") "property").map List.head? = some (some (.ref (gAd K d_Tie_backward.at_)))),
  fun K => decide (PySem.W.findIn K (.ref (ga K "Tie")) "shift" = some (some (.ref (ma K (ga K "Tie") "shift")))),
  fun K => decide (PySem.W.specialIn K (.ref (ma K (ga K "Tie") "shift")) "__get__" = some (some (.builtin "property.__get__"))),
  fun K => decide (PySem.W.takesIn K (.ref (ma K (ga K "Tie") "shift")) = some true),
  fun K => decide ((PySem.W.recIn K (ma K (ga K "Tie") "shift") "property").map List.head? = some (some (.ref (gAd K d_Tie_shift.at_)))),
  fun K => decide (PySem.W.findIn K (.ref (ga K "Link")) "behind" = some (some (.ref (ma K (ga K "Link") "behind")))),
  fun K => decide (PySem.W.specialIn K (.ref (ma K (ga K "Link") "behind")) "__get__" = some (some (.builtin "property.__get__"))),
  fun K => decide (PySem.W.takesIn K (.ref (ma K (ga K "Link") "behind")) = some true),
  fun K => decide ((PySem.W.recIn K (ma K (ga K "Link") "behind") "property").map List.head? = some (some (.ref (gAd K d_Link_behind.at_)))),
  fun K => decide (PySem.W.findIn K (.ref (ga K "Ladder")) "free" = some (some (.ref (ma K (ga K "Ladder") "free")))),
  fun K => decide (PySem.W.specialIn K (.ref (ma K (ga K "Ladder") "free")) "__get__" = some (some (.builtin "property.__get__"))),
  fun K => decide (PySem.W.takesIn K (.ref (ma K (ga K "Ladder") "free")) = some true),
  fun K => decide ((PySem.W.recIn K (ma K (ga K "Ladder") "free") "property").map List.head? = some (some (.ref (gAd K d_Ladder_free.at_)))),
  fun K => decide (PySem.W.findIn K (.ref (ga K "Book")) "size" = some (some (.ref (ma K (ga K "Book") "size")))),
  fun K => decide (PySem.W.specialIn K (.ref (ma K (ga K "Book") "size")) "__get__" = some (some (.builtin "property.__get__"))),
  fun K => decide (PySem.W.takesIn K (.ref (ma K (ga K "Book") "size")) = some true),
  fun K => decide ((PySem.W.recIn K (ma K (ga K "Book") "size") "property").map List.head? = some (some (.ref (gAd K d_Book_size.at_)))),
  fun K => decide (PySem.W.findIn K (.ref (ga K "Book")) "ties" = some (some (.ref (ma K (ga K "Book") "ties")))),
  fun K => decide (PySem.W.specialIn K (.ref (ma K (ga K "Book") "ties")) "__get__" = some (some (.builtin "property.__get__"))),
  fun K => decide (PySem.W.takesIn K (.ref (ma K (ga K "Book") "ties")) = some true),
  fun K => decide ((PySem.W.recIn K (ma K (ga K "Book") "ties") "property").map List.head? = some (some (.ref (gAd K d_Book_ties.at_)))),
  fun K => decide (PySem.W.findIn K (.ref (ga K "Book")) "notes" = some (some (.ref (ma K (ga K "Book") "notes")))),
  fun K => decide (PySem.W.specialIn K (.ref (ma K (ga K "Book") "notes")) "__get__" = some (some (.builtin "property.__get__"))),
  fun K => decide (PySem.W.takesIn K (.ref (ma K (ga K "Book") "notes")) = some true),
  fun K => decide ((PySem.W.recIn K (ma K (ga K "Book") "notes") "property").map List.head? = some (some (.ref (gAd K d_Book_notes.at_))))
]
def exB (K : PySem.W.Frag) : Bool := (exL.all fun b => b K) && gs.all fun d => okG K d
/-- all that is known of the written part -/
structure Tx (K : PySem.W.Frag) (mg : Str → Option Value) : Prop where
  d : ∀ (i : Nat) (d : He.DefD), fn[i]? = some d → ∃ fd, FunD K d.name d.qual d.params d.body d.scope (d.dvs K) (d.kws K) (fAd K d.at_) fd
  g : ∀ (i : Nat) (d : He.DefD), gs[i]? = some d → ∃ fd, FunD K d.name d.qual d.params d.body d.scope [] [] (gAd K d.at_) fd
  f : ∀ (i : Nat) (x : He.Fa), fa[i]? = some x → x.ok K = true
  x : ∀ (i : Nat) (b : PySem.W.Frag → Bool), exL[i]? = some b → b K = true
  glo : ∀ x : Str, (He.Fa.glo x).ok K = true → mg x = some (.ref (ga K x))
  free : ∀ x : Str, (He.Fa.free x).ok K = true → mg x = none
  int : ∀ (x : Str) (i : Int), (He.Fa.int x i).ok K = true → ∃ t, mg x = some (.int i t)
  str : ∀ (x z : Str), (He.Fa.str x z).ok K = true → ∃ t, mg x = some (.str z t)
theorem propOf {K : PySem.W.Frag} {C p g : Addr} {f : Str} (h1 : PySem.W.findIn K (.ref C) f = some (some (.ref p))) (h2 : PySem.W.specialIn K (.ref p) "__get__" = some (some (.builtin "property.__get__"))) (h3 : PySem.W.takesIn K (.ref p) = some true)
    (h4 : (PySem.W.recIn K p "property").map List.head? = some (some (.ref g))) : PropOf K C f p g := ⟨h1, h2, h3, by
  cases q : PySem.W.recIn K p "property" with
  | none => rw [q] at h4; cases h4
  | some l =>
    rw [q] at h4
    cases l with
    | nil => cases h4
    | cons x r =>
      have : x = .ref g := Option.some.inj (Option.some.inj h4)
      exact ⟨r, by rw [this]⟩⟩
section
variable {K : PySem.W.Frag} {mg : Str → Option Value}
theorem Tx.m_is_integer (T : Tx K mg) : mg "is_integer" = some (.ref (ga K "is_integer")) := T.glo _ (T.f 0 _ rfl)
theorem Tx.m_number_told (T : Tx K mg) : mg "number_told" = some (.ref (ga K "number_told")) := T.glo _ (T.f 1 _ rfl)
theorem Tx.m_numbers_told (T : Tx K mg) : mg "numbers_told" = some (.ref (ga K "numbers_told")) := T.glo _ (T.f 2 _ rfl)
theorem Tx.m_line_parts (T : Tx K mg) : mg "line_parts" = some (.ref (ga K "line_parts")) := T.glo _ (T.f 3 _ rfl)
theorem Tx.m_tie_told (T : Tx K mg) : mg "tie_told" = some (.ref (ga K "tie_told")) := T.glo _ (T.f 4 _ rfl)
theorem Tx.m_is_tie_within (T : Tx K mg) : mg "is_tie_within" = some (.ref (ga K "is_tie_within")) := T.glo _ (T.f 5 _ rfl)
theorem Tx.m_back (T : Tx K mg) : mg "back" = some (.ref (ga K "back")) := T.glo _ (T.f 6 _ rfl)
theorem Tx.m_joined (T : Tx K mg) : mg "joined" = some (.ref (ga K "joined")) := T.glo _ (T.f 7 _ rfl)
theorem Tx.m_times (T : Tx K mg) : mg "times" = some (.ref (ga K "times")) := T.glo _ (T.f 8 _ rfl)
theorem Tx.m_part (T : Tx K mg) : mg "part" = some (.ref (ga K "part")) := T.glo _ (T.f 9 _ rfl)
theorem Tx.m_is_one_part (T : Tx K mg) : mg "is_one_part" = some (.ref (ga K "is_one_part")) := T.glo _ (T.f 10 _ rfl)
theorem Tx.m_cannot_be (T : Tx K mg) : mg "cannot_be" = some (.ref (ga K "cannot_be")) := T.glo _ (T.f 11 _ rfl)
theorem Tx.m_is_pin (T : Tx K mg) : mg "is_pin" = some (.ref (ga K "is_pin")) := T.glo _ (T.f 12 _ rfl)
theorem Tx.m_evened (T : Tx K mg) : mg "evened" = some (.ref (ga K "evened")) := T.glo _ (T.f 13 _ rfl)
theorem Tx.m_rounds (T : Tx K mg) : mg "rounds" = some (.ref (ga K "rounds")) := T.glo _ (T.f 14 _ rfl)
theorem Tx.m_way_to (T : Tx K mg) : mg "way_to" = some (.ref (ga K "way_to")) := T.glo _ (T.f 15 _ rfl)
theorem Tx.m_read_by_link (T : Tx K mg) : mg "read_by_link" = some (.ref (ga K "read_by_link")) := T.glo _ (T.f 16 _ rfl)
theorem Tx.m_read_through (T : Tx K mg) : mg "read_through" = some (.ref (ga K "read_through")) := T.glo _ (T.f 17 _ rfl)
theorem Tx.m_shortened (T : Tx K mg) : mg "shortened" = some (.ref (ga K "shortened")) := T.glo _ (T.f 18 _ rfl)
theorem Tx.m_all_evened (T : Tx K mg) : mg "all_evened" = some (.ref (ga K "all_evened")) := T.glo _ (T.f 19 _ rfl)
theorem Tx.m_end_of (T : Tx K mg) : mg "end_of" = some (.ref (ga K "end_of")) := T.glo _ (T.f 20 _ rfl)
theorem Tx.m_cut_off (T : Tx K mg) : mg "cut_off" = some (.ref (ga K "cut_off")) := T.glo _ (T.f 21 _ rfl)
theorem Tx.m_rows_by (T : Tx K mg) : mg "rows_by" = some (.ref (ga K "rows_by")) := T.glo _ (T.f 22 _ rfl)
theorem Tx.m_links_of (T : Tx K mg) : mg "links_of" = some (.ref (ga K "links_of")) := T.glo _ (T.f 23 _ rfl)
theorem Tx.m_ladder_of (T : Tx K mg) : mg "ladder_of" = some (.ref (ga K "ladder_of")) := T.glo _ (T.f 24 _ rfl)
theorem Tx.m_check_place (T : Tx K mg) : mg "check_place" = some (.ref (ga K "check_place")) := T.glo _ (T.f 25 _ rfl)
theorem Tx.m_kept_ladder (T : Tx K mg) : mg "kept_ladder" = some (.ref (ga K "kept_ladder")) := T.glo _ (T.f 26 _ rfl)
theorem Tx.m_hangs (T : Tx K mg) : mg "hangs" = some (.ref (ga K "hangs")) := T.glo _ (T.f 27 _ rfl)
theorem Tx.m_free (T : Tx K mg) : mg "free" = some (.ref (ga K "free")) := T.glo _ (T.f 28 _ rfl)
theorem Tx.m_free_parts (T : Tx K mg) : mg "free_parts" = some (.ref (ga K "free_parts")) := T.glo _ (T.f 29 _ rfl)
theorem Tx.m_size_told (T : Tx K mg) : mg "size_told" = some (.ref (ga K "size_told")) := T.glo _ (T.f 30 _ rfl)
theorem Tx.m_tie_in (T : Tx K mg) : mg "tie_in" = some (.ref (ga K "tie_in")) := T.glo _ (T.f 31 _ rfl)
theorem Tx.m_note_in (T : Tx K mg) : mg "note_in" = some (.ref (ga K "note_in")) := T.glo _ (T.f 32 _ rfl)
theorem Tx.m_read_book (T : Tx K mg) : mg "read_book" = some (.ref (ga K "read_book")) := T.glo _ (T.f 33 _ rfl)
theorem Tx.m__law_pot (T : Tx K mg) : mg "_law_pot" = some (.ref (ga K "_law_pot")) := T.glo _ (T.f 34 _ rfl)
theorem Tx.m__law_take (T : Tx K mg) : mg "_law_take" = some (.ref (ga K "_law_take")) := T.glo _ (T.f 35 _ rfl)
theorem Tx.m__law_far (T : Tx K mg) : mg "_law_far" = some (.ref (ga K "_law_far")) := T.glo _ (T.f 36 _ rfl)
theorem Tx.m__law_of (T : Tx K mg) : mg "_law_of" = some (.ref (ga K "_law_of")) := T.glo _ (T.f 37 _ rfl)
theorem Tx.m__law_cells (T : Tx K mg) : mg "_law_cells" = some (.ref (ga K "_law_cells")) := T.glo _ (T.f 38 _ rfl)
theorem Tx.m__law_tie_text (T : Tx K mg) : mg "_law_tie_text" = some (.ref (ga K "_law_tie_text")) := T.glo _ (T.f 39 _ rfl)
theorem Tx.m__law_book_text (T : Tx K mg) : mg "_law_book_text" = some (.ref (ga K "_law_book_text")) := T.glo _ (T.f 40 _ rfl)
theorem Tx.m__law_met (T : Tx K mg) : mg "_law_met" = some (.ref (ga K "_law_met")) := T.glo _ (T.f 41 _ rfl)
theorem Tx.m__law_is_clash (T : Tx K mg) : mg "_law_is_clash" = some (.ref (ga K "_law_is_clash")) := T.glo _ (T.f 42 _ rfl)
theorem Tx.m__law_divisor (T : Tx K mg) : mg "_law_divisor" = some (.ref (ga K "_law_divisor")) := T.glo _ (T.f 43 _ rfl)
theorem Tx.m__law_book_of (T : Tx K mg) : mg "_law_book_of" = some (.ref (ga K "_law_book_of")) := T.glo _ (T.f 44 _ rfl)
theorem Tx.m__law_right (T : Tx K mg) : mg "_law_right" = some (.ref (ga K "_law_right")) := T.glo _ (T.f 45 _ rfl)
theorem Tx.m_law (T : Tx K mg) : mg "law" = some (.ref (ga K "law")) := T.glo _ (T.f 46 _ rfl)
theorem Tx.m_Tie (T : Tx K mg) : mg "Tie" = some (.ref (ga K "Tie")) := T.glo _ (T.f 47 _ rfl)
theorem Tx.m_Link (T : Tx K mg) : mg "Link" = some (.ref (ga K "Link")) := T.glo _ (T.f 48 _ rfl)
theorem Tx.m_Ladder (T : Tx K mg) : mg "Ladder" = some (.ref (ga K "Ladder")) := T.glo _ (T.f 49 _ rfl)
theorem Tx.m_Book (T : Tx K mg) : mg "Book" = some (.ref (ga K "Book")) := T.glo _ (T.f 50 _ rfl)
theorem Tx.m_TuneError (T : Tx K mg) : mg "TuneError" = some (.ref (ga K "TuneError")) := T.glo _ (T.f 51 _ rfl)
theorem Tx.m_Clash (T : Tx K mg) : mg "Clash" = some (.ref (ga K "Clash")) := T.glo _ (T.f 52 _ rfl)
theorem Tx.b_isinstance (T : Tx K mg) : mg "isinstance" = none := T.free _ (T.f 53 _ rfl)
theorem Tx.b_int (T : Tx K mg) : mg "int" = none := T.free _ (T.f 54 _ rfl)
theorem Tx.b_bool (T : Tx K mg) : mg "bool" = none := T.free _ (T.f 55 _ rfl)
theorem Tx.b_str (T : Tx K mg) : mg "str" = none := T.free _ (T.f 56 _ rfl)
theorem Tx.b_all (T : Tx K mg) : mg "all" = none := T.free _ (T.f 57 _ rfl)
theorem Tx.b_len (T : Tx K mg) : mg "len" = none := T.free _ (T.f 58 _ rfl)
theorem Tx.b_max (T : Tx K mg) : mg "max" = none := T.free _ (T.f 59 _ rfl)
theorem Tx.b_min (T : Tx K mg) : mg "min" = none := T.free _ (T.f 60 _ rfl)
theorem Tx.b_sum (T : Tx K mg) : mg "sum" = none := T.free _ (T.f 61 _ rfl)
theorem Tx.b_sorted (T : Tx K mg) : mg "sorted" = none := T.free _ (T.f 62 _ rfl)
theorem Tx.b_tuple (T : Tx K mg) : mg "tuple" = none := T.free _ (T.f 63 _ rfl)
theorem Tx.b_enumerate (T : Tx K mg) : mg "enumerate" = none := T.free _ (T.f 64 _ rfl)
theorem Tx.b_range (T : Tx K mg) : mg "range" = none := T.free _ (T.f 65 _ rfl)
theorem Tx.b_list (T : Tx K mg) : mg "list" = none := T.free _ (T.f 66 _ rfl)
theorem Tx.b_zip (T : Tx K mg) : mg "zip" = none := T.free _ (T.f 67 _ rfl)
theorem Tx.b_repr (T : Tx K mg) : mg "repr" = none := T.free _ (T.f 68 _ rfl)
theorem Tx.b_abs (T : Tx K mg) : mg "abs" = none := T.free _ (T.f 69 _ rfl)
theorem Tx.b_super (T : Tx K mg) : mg "super" = none := T.free _ (T.f 70 _ rfl)
theorem Tx.i_END (T : Tx K mg) : ∃ t, mg "END" = some (.int (10 ^ 30) t) := T.int _ _ (T.f 71 _ rfl)
theorem Tx.i_WORDS (T : Tx K mg) : ∃ t, mg "WORDS" = some (.int 5 t) := T.int _ _ (T.f 72 _ rfl)
theorem Tx.i_MOST_WORDS (T : Tx K mg) : ∃ t, mg "MOST_WORDS" = some (.int 6 t) := T.int _ _ (T.f 73 _ rfl)
theorem Tx.i_MOST (T : Tx K mg) : ∃ t, mg "MOST" = some (.int 12 t) := T.int _ _ (T.f 74 _ rfl)
theorem Tx.i_PAIR (T : Tx K mg) : ∃ t, mg "PAIR" = some (.int 2 t) := T.int _ _ (T.f 75 _ rfl)
theorem Tx.t_FIGURES (T : Tx K mg) : ∃ t, mg "FIGURES" = some (.str "0123456789" t) := T.str _ _ (T.f 76 _ rfl)
theorem Tx.t_BLANK (T : Tx K mg) : ∃ t, mg "BLANK" = some (.str " " t) := T.str _ _ (T.f 77 _ rfl)
theorem Tx.t_FEED (T : Tx K mg) : ∃ t, mg "FEED" = some (.str "\n" t) := T.str _ _ (T.f 78 _ rfl)
theorem Tx.t_UP (T : Tx K mg) : ∃ t, mg "UP" = some (.str "up" t) := T.str _ _ (T.f 79 _ rfl)
theorem Tx.t_DOWN (T : Tx K mg) : ∃ t, mg "DOWN" = some (.str "down" t) := T.str _ _ (T.f 80 _ rfl)
theorem Tx.t_BACK_ties (T : Tx K mg) : ∃ t, mg "BACK_ties" = some (.str "back" t) := T.str _ _ (T.f 81 _ rfl)
theorem Tx.t_TOLD (T : Tx K mg) : ∃ t, mg "TOLD" = some (.str "told" t) := T.str _ _ (T.f 82 _ rfl)
theorem Tx.t_NOTE_ladder (T : Tx K mg) : ∃ t, mg "NOTE_ladder" = some (.str "note" t) := T.str _ _ (T.f 83 _ rfl)
theorem Tx.t_BACK_ladder (T : Tx K mg) : ∃ t, mg "BACK_ladder" = some (.str "back" t) := T.str _ _ (T.f 84 _ rfl)
theorem Tx.t_JOINED (T : Tx K mg) : ∃ t, mg "JOINED" = some (.str "joined" t) := T.str _ _ (T.f 85 _ rfl)
theorem Tx.t_TIMES (T : Tx K mg) : ∃ t, mg "TIMES" = some (.str "times" t) := T.str _ _ (T.f 86 _ rfl)
theorem Tx.t_PART (T : Tx K mg) : ∃ t, mg "PART" = some (.str "part" t) := T.str _ _ (T.f 87 _ rfl)
theorem Tx.t_SIZE (T : Tx K mg) : ∃ t, mg "SIZE" = some (.str "size" t) := T.str _ _ (T.f 88 _ rfl)
theorem Tx.t_TIE (T : Tx K mg) : ∃ t, mg "TIE" = some (.str "tie" t) := T.str _ _ (T.f 89 _ rfl)
theorem Tx.t_NOTE_books (T : Tx K mg) : ∃ t, mg "NOTE_books" = some (.str "note" t) := T.str _ _ (T.f 90 _ rfl)
theorem Tx.c_Tie (T : Tx K mg) : Cls K (ga K "Tie") := He.cls_ok (T.f 91 _ rfl)
theorem Tx.c_Ladder (T : Tx K mg) : Cls K (ga K "Ladder") := He.cls_ok (T.f 92 _ rfl)
theorem Tx.c_Book (T : Tx K mg) : Cls K (ga K "Book") := He.cls_ok (T.f 93 _ rfl)
theorem Tx.a_Tie_own_first (T : Tx K mg) : NoAttr K (ga K "Tie") "own_first" := He.noat_ok (T.f 94 _ rfl)
theorem Tx.a_Tie_own_second (T : Tx K mg) : NoAttr K (ga K "Tie") "own_second" := He.noat_ok (T.f 95 _ rfl)
theorem Tx.a_Tie_own_length (T : Tx K mg) : NoAttr K (ga K "Tie") "own_length" := He.noat_ok (T.f 96 _ rfl)
theorem Tx.a_Tie_own_amount (T : Tx K mg) : NoAttr K (ga K "Tie") "own_amount" := He.noat_ok (T.f 97 _ rfl)
theorem Tx.a_Tie_own_down (T : Tx K mg) : NoAttr K (ga K "Tie") "own_down" := He.noat_ok (T.f 98 _ rfl)
theorem Tx.a_Tie_own_backward (T : Tx K mg) : NoAttr K (ga K "Tie") "own_backward" := He.noat_ok (T.f 99 _ rfl)
theorem Tx.a_Ladder_cuts (T : Tx K mg) : NoAttr K (ga K "Ladder") "cuts" := He.noat_ok (T.f 100 _ rfl)
theorem Tx.a_Ladder_parts (T : Tx K mg) : NoAttr K (ga K "Ladder") "parts" := He.noat_ok (T.f 101 _ rfl)
theorem Tx.a_Ladder_broken (T : Tx K mg) : NoAttr K (ga K "Ladder") "broken" := He.noat_ok (T.f 102 _ rfl)
theorem Tx.a_Book_own_size (T : Tx K mg) : NoAttr K (ga K "Book") "own_size" := He.noat_ok (T.f 103 _ rfl)
theorem Tx.a_Book_own_ties (T : Tx K mg) : NoAttr K (ga K "Book") "own_ties" := He.noat_ok (T.f 104 _ rfl)
theorem Tx.a_Book_own_notes (T : Tx K mg) : NoAttr K (ga K "Book") "own_notes" := He.noat_ok (T.f 105 _ rfl)
theorem Tx.a_Book_own_text (T : Tx K mg) : NoAttr K (ga K "Book") "own_text" := He.noat_ok (T.f 106 _ rfl)
theorem Tx.a_Book_own_ladder (T : Tx K mg) : NoAttr K (ga K "Book") "own_ladder" := He.noat_ok (T.f 107 _ rfl)
theorem Tx.h_Tie_partner (T : Tx K mg) : Meth K (ga K "Tie") "partner" (ma K (ga K "Tie") "partner") := He.meth_ok (T.f 108 _ rfl)
theorem Tx.h_Tie_led (T : Tx K mg) : Meth K (ga K "Tie") "led" (ma K (ga K "Tie") "led") := He.meth_ok (T.f 109 _ rfl)
theorem Tx.h_Tie_between (T : Tx K mg) : Meth K (ga K "Tie") "between" (ma K (ga K "Tie") "between") := He.meth_ok (T.f 110 _ rfl)
theorem Tx.h_Tie_part (T : Tx K mg) : Meth K (ga K "Tie") "part" (ma K (ga K "Tie") "part") := He.meth_ok (T.f 111 _ rfl)
theorem Tx.h_Tie_places_into (T : Tx K mg) : Meth K (ga K "Tie") "places_into" (ma K (ga K "Tie") "places_into") := He.meth_ok (T.f 112 _ rfl)
theorem Tx.h_Tie_led_often (T : Tx K mg) : Meth K (ga K "Tie") "led_often" (ma K (ga K "Tie") "led_often") := He.meth_ok (T.f 113 _ rfl)
theorem Tx.h_Tie___invert__ (T : Tx K mg) : Meth K (ga K "Tie") "__invert__" (ma K (ga K "Tie") "__invert__") := He.meth_ok (T.f 114 _ rfl)
theorem Tx.h_Tie___rshift__ (T : Tx K mg) : Meth K (ga K "Tie") "__rshift__" (ma K (ga K "Tie") "__rshift__") := He.meth_ok (T.f 115 _ rfl)
theorem Tx.h_Tie___mul__ (T : Tx K mg) : Meth K (ga K "Tie") "__mul__" (ma K (ga K "Tie") "__mul__") := He.meth_ok (T.f 116 _ rfl)
theorem Tx.h_Ladder_walk (T : Tx K mg) : Meth K (ga K "Ladder") "walk" (ma K (ga K "Ladder") "walk") := He.meth_ok (T.f 117 _ rfl)
theorem Tx.h_Ladder_reading (T : Tx K mg) : Meth K (ga K "Ladder") "reading" (ma K (ga K "Ladder") "reading") := He.meth_ok (T.f 118 _ rfl)
theorem Tx.h_Book___eq__ (T : Tx K mg) : Meth K (ga K "Book") "__eq__" (ma K (ga K "Book") "__eq__") := He.meth_ok (T.f 119 _ rfl)
theorem Tx.k_Tie (T : Tx K mg) : Mk K (ga K "Tie") (ma K (ga K "Tie") "__init__") := He.mkr_ok (T.f 120 _ rfl)
theorem Tx.k_Link (T : Tx K mg) : Mk K (ga K "Link") (ma K (ga K "Link") "__init__") := He.mkr_ok (T.f 121 _ rfl)
theorem Tx.k_Ladder (T : Tx K mg) : Mk K (ga K "Ladder") (ma K (ga K "Ladder") "__init__") := He.mkr_ok (T.f 122 _ rfl)
theorem Tx.k_Book (T : Tx K mg) : Mk K (ga K "Book") (ma K (ga K "Book") "__init__") := He.mkr_ok (T.f 123 _ rfl)
theorem Tx.x_Tie_ca (T : Tx K mg) : PySem.W.findIn K (.ref (ga K "Tie")) "__class__" = some (some (.builtin "object.__class__")) := of_decide_eq_true (T.x 0 _ rfl)
theorem Tx.x_Tie_cm (T : Tx K mg) : PySem.W.mroIn K (ga K "Tie") (.type "object") = some true := of_decide_eq_true (T.x 1 _ rfl)
theorem Tx.x_Book_ca (T : Tx K mg) : PySem.W.findIn K (.ref (ga K "Book")) "__class__" = some (some (.builtin "object.__class__")) := of_decide_eq_true (T.x 2 _ rfl)
theorem Tx.x_Book_cm (T : Tx K mg) : PySem.W.mroIn K (ga K "Book") (.type "object") = some true := of_decide_eq_true (T.x 3 _ rfl)
theorem Tx.x_cn (T : Tx K mg) : PySem.W.specialIn K (.builtin "object.__class__") "__get__" = some (some (.builtin "getset_descriptor.__get__")) := of_decide_eq_true (T.x 4 _ rfl)
theorem Tx.x_ct (T : Tx K mg) : PySem.W.takesIn K (.builtin "object.__class__") = some true := of_decide_eq_true (T.x 5 _ rfl)
theorem Tx.x_Tie_sf (T : Tx K mg) : PySem.W.selfFirst K (ga K "Tie") = true := of_decide_eq_true (T.x 6 _ rfl)
theorem Tx.x_Book_sf (T : Tx K mg) : PySem.W.selfFirst K (ga K "Book") = true := of_decide_eq_true (T.x 7 _ rfl)
theorem Tx.x_Tie_rm (T : Tx K mg) : PySem.W.findIn K (.ref (ga K "Tie")) "__rmul__" = some none := of_decide_eq_true (T.x 8 _ rfl)
theorem Tx.x_int_m (T : Tx K mg) : (PySem.W.findIn K (.type "int") "__mul__").isSome = true := of_decide_eq_true (T.x 9 _ rfl)
theorem Tx.x_int_r (T : Tx K mg) : (PySem.W.findIn K (.type "int") "__rmul__").isSome = true := of_decide_eq_true (T.x 10 _ rfl)
theorem Tx.x_int_s (T : Tx K mg) : PySem.W.subIn K (.type "int") (.ref (ga K "Tie")) = some false := of_decide_eq_true (T.x 11 _ rfl)
theorem Tx.x_sl_parents_at (T : Tx K mg) : PySem.W.findIn K (.ref (ga K "Link")) "parents" = some (some (.ref (ma K (ga K "Link") "parents"))) := of_decide_eq_true (T.x 12 _ rfl)
theorem Tx.x_sl_parents_get (T : Tx K mg) : PySem.W.specialIn K (.ref (ma K (ga K "Link") "parents")) "__get__" = some (some (.builtin "member_descriptor.__get__")) := of_decide_eq_true (T.x 13 _ rfl)
theorem Tx.x_sl_parents_tk (T : Tx K mg) : PySem.W.takesIn K (.ref (ma K (ga K "Link") "parents")) = some true := of_decide_eq_true (T.x 14 _ rfl)
theorem Tx.x_sl_parents_ty (T : Tx K mg) : PySem.W.typeIn K (.ref (ma K (ga K "Link") "parents")) = some (.type "member_descriptor") := of_decide_eq_true (T.x 15 _ rfl)
theorem Tx.x_sl_parents_ix (T : Tx K mg) : PySem.W.slotIn K (ma K (ga K "Link") "parents") (ga K "Link") = some 0 := of_decide_eq_true (T.x 16 _ rfl)
theorem Tx.x_sl_reason_at (T : Tx K mg) : PySem.W.findIn K (.ref (ga K "Link")) "reason" = some (some (.ref (ma K (ga K "Link") "reason"))) := of_decide_eq_true (T.x 17 _ rfl)
theorem Tx.x_sl_reason_get (T : Tx K mg) : PySem.W.specialIn K (.ref (ma K (ga K "Link") "reason")) "__get__" = some (some (.builtin "member_descriptor.__get__")) := of_decide_eq_true (T.x 18 _ rfl)
theorem Tx.x_sl_reason_tk (T : Tx K mg) : PySem.W.takesIn K (.ref (ma K (ga K "Link") "reason")) = some true := of_decide_eq_true (T.x 19 _ rfl)
theorem Tx.x_sl_reason_ty (T : Tx K mg) : PySem.W.typeIn K (.ref (ma K (ga K "Link") "reason")) = some (.type "member_descriptor") := of_decide_eq_true (T.x 20 _ rfl)
theorem Tx.x_sl_reason_ix (T : Tx K mg) : PySem.W.slotIn K (ma K (ga K "Link") "reason") (ga K "Link") = some 1 := of_decide_eq_true (T.x 21 _ rfl)
theorem Tx.x_sl_tie_at (T : Tx K mg) : PySem.W.findIn K (.ref (ga K "Link")) "tie" = some (some (.ref (ma K (ga K "Link") "tie"))) := of_decide_eq_true (T.x 22 _ rfl)
theorem Tx.x_sl_tie_get (T : Tx K mg) : PySem.W.specialIn K (.ref (ma K (ga K "Link") "tie")) "__get__" = some (some (.builtin "member_descriptor.__get__")) := of_decide_eq_true (T.x 23 _ rfl)
theorem Tx.x_sl_tie_tk (T : Tx K mg) : PySem.W.takesIn K (.ref (ma K (ga K "Link") "tie")) = some true := of_decide_eq_true (T.x 24 _ rfl)
theorem Tx.x_sl_tie_ty (T : Tx K mg) : PySem.W.typeIn K (.ref (ma K (ga K "Link") "tie")) = some (.type "member_descriptor") := of_decide_eq_true (T.x 25 _ rfl)
theorem Tx.x_sl_tie_ix (T : Tx K mg) : PySem.W.slotIn K (ma K (ga K "Link") "tie") (ga K "Link") = some 2 := of_decide_eq_true (T.x 26 _ rfl)
theorem Tx.x_Link_pg (T : Tx K mg) : PySem.W.plainGet K (ga K "Link") Str.empty = true := of_decide_eq_true (T.x 27 _ rfl)
theorem Tx.x_Link_ic (T : Tx K mg) : PySem.W.isClsIn K (ga K "Link") = true := of_decide_eq_true (T.x 28 _ rfl)
theorem Tx.x_Link_po (T : Tx K mg) : PySem.W.plainOver K (ga K "Link") = true := of_decide_eq_true (T.x 29 _ rfl)
theorem Tx.x_Link_sa (T : Tx K mg) : PySem.W.findIn K (.ref (ga K "Link")) "__setattr__" = some (some (.builtin "object.__setattr__")) := of_decide_eq_true (T.x 30 _ rfl)
theorem Tx.x_p_Tie_first_at (T : Tx K mg) : PySem.W.findIn K (.ref (ga K "Tie")) "first" = some (some (.ref (ma K (ga K "Tie") "first"))) := of_decide_eq_true (T.x 31 _ rfl)
theorem Tx.x_p_Tie_first_get (T : Tx K mg) : PySem.W.specialIn K (.ref (ma K (ga K "Tie") "first")) "__get__" = some (some (.builtin "property.__get__")) := of_decide_eq_true (T.x 32 _ rfl)
theorem Tx.x_p_Tie_first_tk (T : Tx K mg) : PySem.W.takesIn K (.ref (ma K (ga K "Tie") "first")) = some true := of_decide_eq_true (T.x 33 _ rfl)
theorem Tx.x_p_Tie_first_rc (T : Tx K mg) : (PySem.W.recIn K (ma K (ga K "Tie") "first") "property").map List.head? = some (some (.ref (gAd K d_Tie_first.at_))) := of_decide_eq_true (T.x 34 _ rfl)
theorem Tx.x_p_Tie_second_at (T : Tx K mg) : PySem.W.findIn K (.ref (ga K "Tie")) "second" = some (some (.ref (ma K (ga K "Tie") "second"))) := of_decide_eq_true (T.x 35 _ rfl)
theorem Tx.x_p_Tie_second_get (T : Tx K mg) : PySem.W.specialIn K (.ref (ma K (ga K "Tie") "second")) "__get__" = some (some (.builtin "property.__get__")) := of_decide_eq_true (T.x 36 _ rfl)
theorem Tx.x_p_Tie_second_tk (T : Tx K mg) : PySem.W.takesIn K (.ref (ma K (ga K "Tie") "second")) = some true := of_decide_eq_true (T.x 37 _ rfl)
theorem Tx.x_p_Tie_second_rc (T : Tx K mg) : (PySem.W.recIn K (ma K (ga K "Tie") "second") "property").map List.head? = some (some (.ref (gAd K d_Tie_second.at_))) := of_decide_eq_true (T.x 38 _ rfl)
theorem Tx.x_p_Tie_length_at (T : Tx K mg) : PySem.W.findIn K (.ref (ga K "Tie")) "length" = some (some (.ref (ma K (ga K "Tie") "length"))) := of_decide_eq_true (T.x 39 _ rfl)
theorem Tx.x_p_Tie_length_get (T : Tx K mg) : PySem.W.specialIn K (.ref (ma K (ga K "Tie") "length")) "__get__" = some (some (.builtin "property.__get__")) := of_decide_eq_true (T.x 40 _ rfl)
theorem Tx.x_p_Tie_length_tk (T : Tx K mg) : PySem.W.takesIn K (.ref (ma K (ga K "Tie") "length")) = some true := of_decide_eq_true (T.x 41 _ rfl)
theorem Tx.x_p_Tie_length_rc (T : Tx K mg) : (PySem.W.recIn K (ma K (ga K "Tie") "length") "property").map List.head? = some (some (.ref (gAd K d_Tie_length.at_))) := of_decide_eq_true (T.x 42 _ rfl)
theorem Tx.x_p_Tie_amount_at (T : Tx K mg) : PySem.W.findIn K (.ref (ga K "Tie")) "amount" = some (some (.ref (ma K (ga K "Tie") "amount"))) := of_decide_eq_true (T.x 43 _ rfl)
theorem Tx.x_p_Tie_amount_get (T : Tx K mg) : PySem.W.specialIn K (.ref (ma K (ga K "Tie") "amount")) "__get__" = some (some (.builtin "property.__get__")) := of_decide_eq_true (T.x 44 _ rfl)
theorem Tx.x_p_Tie_amount_tk (T : Tx K mg) : PySem.W.takesIn K (.ref (ma K (ga K "Tie") "amount")) = some true := of_decide_eq_true (T.x 45 _ rfl)
theorem Tx.x_p_Tie_amount_rc (T : Tx K mg) : (PySem.W.recIn K (ma K (ga K "Tie") "amount") "property").map List.head? = some (some (.ref (gAd K d_Tie_amount.at_))) := of_decide_eq_true (T.x 46 _ rfl)
theorem Tx.x_p_Tie_down_at (T : Tx K mg) : PySem.W.findIn K (.ref (ga K "Tie")) "down" = some (some (.ref (ma K (ga K "Tie") "down"))) := of_decide_eq_true (T.x 47 _ rfl)
theorem Tx.x_p_Tie_down_get (T : Tx K mg) : PySem.W.specialIn K (.ref (ma K (ga K "Tie") "down")) "__get__" = some (some (.builtin "property.__get__")) := of_decide_eq_true (T.x 48 _ rfl)
theorem Tx.x_p_Tie_down_tk (T : Tx K mg) : PySem.W.takesIn K (.ref (ma K (ga K "Tie") "down")) = some true := of_decide_eq_true (T.x 49 _ rfl)
theorem Tx.x_p_Tie_down_rc (T : Tx K mg) : (PySem.W.recIn K (ma K (ga K "Tie") "down") "property").map List.head? = some (some (.ref (gAd K d_Tie_down.at_))) := of_decide_eq_true (T.x 50 _ rfl)
theorem Tx.x_p_Tie_backward_at (T : Tx K mg) : PySem.W.findIn K (.ref (ga K "Tie")) "backward" = some (some (.ref (ma K (ga K "Tie") "backward"))) := of_decide_eq_true (T.x 51 _ rfl)
theorem Tx.x_p_Tie_backward_get (T : Tx K mg) : PySem.W.specialIn K (.ref (ma K (ga K "Tie") "backward")) "__get__" = some (some (.builtin "property.__get__")) := of_decide_eq_true (T.x 52 _ rfl)
theorem Tx.x_p_Tie_backward_tk (T : Tx K mg) : PySem.W.takesIn K (.ref (ma K (ga K "Tie") "backward")) = some true := of_decide_eq_true (T.x 53 _ rfl)
theorem Tx.x_p_Tie_backward_rc (T : Tx K mg) : (PySem.W.recIn K (ma K (ga K "Tie") "backward") "property").map List.head? = some (some (.ref (gAd K d_Tie_backward.at_))) := of_decide_eq_true (T.x 54 _ rfl)
theorem Tx.x_p_Tie_shift_at (T : Tx K mg) : PySem.W.findIn K (.ref (ga K "Tie")) "shift" = some (some (.ref (ma K (ga K "Tie") "shift"))) := of_decide_eq_true (T.x 55 _ rfl)
theorem Tx.x_p_Tie_shift_get (T : Tx K mg) : PySem.W.specialIn K (.ref (ma K (ga K "Tie") "shift")) "__get__" = some (some (.builtin "property.__get__")) := of_decide_eq_true (T.x 56 _ rfl)
theorem Tx.x_p_Tie_shift_tk (T : Tx K mg) : PySem.W.takesIn K (.ref (ma K (ga K "Tie") "shift")) = some true := of_decide_eq_true (T.x 57 _ rfl)
theorem Tx.x_p_Tie_shift_rc (T : Tx K mg) : (PySem.W.recIn K (ma K (ga K "Tie") "shift") "property").map List.head? = some (some (.ref (gAd K d_Tie_shift.at_))) := of_decide_eq_true (T.x 58 _ rfl)
theorem Tx.x_p_Link_behind_at (T : Tx K mg) : PySem.W.findIn K (.ref (ga K "Link")) "behind" = some (some (.ref (ma K (ga K "Link") "behind"))) := of_decide_eq_true (T.x 59 _ rfl)
theorem Tx.x_p_Link_behind_get (T : Tx K mg) : PySem.W.specialIn K (.ref (ma K (ga K "Link") "behind")) "__get__" = some (some (.builtin "property.__get__")) := of_decide_eq_true (T.x 60 _ rfl)
theorem Tx.x_p_Link_behind_tk (T : Tx K mg) : PySem.W.takesIn K (.ref (ma K (ga K "Link") "behind")) = some true := of_decide_eq_true (T.x 61 _ rfl)
theorem Tx.x_p_Link_behind_rc (T : Tx K mg) : (PySem.W.recIn K (ma K (ga K "Link") "behind") "property").map List.head? = some (some (.ref (gAd K d_Link_behind.at_))) := of_decide_eq_true (T.x 62 _ rfl)
theorem Tx.x_p_Ladder_free_at (T : Tx K mg) : PySem.W.findIn K (.ref (ga K "Ladder")) "free" = some (some (.ref (ma K (ga K "Ladder") "free"))) := of_decide_eq_true (T.x 63 _ rfl)
theorem Tx.x_p_Ladder_free_get (T : Tx K mg) : PySem.W.specialIn K (.ref (ma K (ga K "Ladder") "free")) "__get__" = some (some (.builtin "property.__get__")) := of_decide_eq_true (T.x 64 _ rfl)
theorem Tx.x_p_Ladder_free_tk (T : Tx K mg) : PySem.W.takesIn K (.ref (ma K (ga K "Ladder") "free")) = some true := of_decide_eq_true (T.x 65 _ rfl)
theorem Tx.x_p_Ladder_free_rc (T : Tx K mg) : (PySem.W.recIn K (ma K (ga K "Ladder") "free") "property").map List.head? = some (some (.ref (gAd K d_Ladder_free.at_))) := of_decide_eq_true (T.x 66 _ rfl)
theorem Tx.x_p_Book_size_at (T : Tx K mg) : PySem.W.findIn K (.ref (ga K "Book")) "size" = some (some (.ref (ma K (ga K "Book") "size"))) := of_decide_eq_true (T.x 67 _ rfl)
theorem Tx.x_p_Book_size_get (T : Tx K mg) : PySem.W.specialIn K (.ref (ma K (ga K "Book") "size")) "__get__" = some (some (.builtin "property.__get__")) := of_decide_eq_true (T.x 68 _ rfl)
theorem Tx.x_p_Book_size_tk (T : Tx K mg) : PySem.W.takesIn K (.ref (ma K (ga K "Book") "size")) = some true := of_decide_eq_true (T.x 69 _ rfl)
theorem Tx.x_p_Book_size_rc (T : Tx K mg) : (PySem.W.recIn K (ma K (ga K "Book") "size") "property").map List.head? = some (some (.ref (gAd K d_Book_size.at_))) := of_decide_eq_true (T.x 70 _ rfl)
theorem Tx.x_p_Book_ties_at (T : Tx K mg) : PySem.W.findIn K (.ref (ga K "Book")) "ties" = some (some (.ref (ma K (ga K "Book") "ties"))) := of_decide_eq_true (T.x 71 _ rfl)
theorem Tx.x_p_Book_ties_get (T : Tx K mg) : PySem.W.specialIn K (.ref (ma K (ga K "Book") "ties")) "__get__" = some (some (.builtin "property.__get__")) := of_decide_eq_true (T.x 72 _ rfl)
theorem Tx.x_p_Book_ties_tk (T : Tx K mg) : PySem.W.takesIn K (.ref (ma K (ga K "Book") "ties")) = some true := of_decide_eq_true (T.x 73 _ rfl)
theorem Tx.x_p_Book_ties_rc (T : Tx K mg) : (PySem.W.recIn K (ma K (ga K "Book") "ties") "property").map List.head? = some (some (.ref (gAd K d_Book_ties.at_))) := of_decide_eq_true (T.x 74 _ rfl)
theorem Tx.x_p_Book_notes_at (T : Tx K mg) : PySem.W.findIn K (.ref (ga K "Book")) "notes" = some (some (.ref (ma K (ga K "Book") "notes"))) := of_decide_eq_true (T.x 75 _ rfl)
theorem Tx.x_p_Book_notes_get (T : Tx K mg) : PySem.W.specialIn K (.ref (ma K (ga K "Book") "notes")) "__get__" = some (some (.builtin "property.__get__")) := of_decide_eq_true (T.x 76 _ rfl)
theorem Tx.x_p_Book_notes_tk (T : Tx K mg) : PySem.W.takesIn K (.ref (ma K (ga K "Book") "notes")) = some true := of_decide_eq_true (T.x 77 _ rfl)
theorem Tx.x_p_Book_notes_rc (T : Tx K mg) : (PySem.W.recIn K (ma K (ga K "Book") "notes") "property").map List.head? = some (some (.ref (gAd K d_Book_notes.at_))) := of_decide_eq_true (T.x 78 _ rfl)
theorem Tx.f_is_integer (T : Tx K mg) : ∃ fd, FunD K "is_integer" "is_integer" (defArgs s_is_integer) (defBody s_is_integer) (defScope s_is_integer) [.non, .non] [] (ga K "is_integer") fd := T.d 0 _ rfl
theorem Tx.f_number_told (T : Tx K mg) : ∃ fd, FunD K "number_told" "number_told" (defArgs s_number_told) (defBody s_number_told) (defScope s_number_told) [] [] (ga K "number_told") fd := T.d 1 _ rfl
theorem Tx.f_numbers_told (T : Tx K mg) : ∃ fd, FunD K "numbers_told" "numbers_told" (defArgs s_numbers_told) (defBody s_numbers_told) (defScope s_numbers_told) [] [] (ga K "numbers_told") fd := T.d 2 _ rfl
theorem Tx.f_line_parts (T : Tx K mg) : ∃ fd, FunD K "line_parts" "line_parts" (defArgs s_line_parts) (defBody s_line_parts) (defScope s_line_parts) [] [] (ga K "line_parts") fd := T.d 3 _ rfl
theorem Tx.f_tie_told (T : Tx K mg) : ∃ fd, FunD K "tie_told" "tie_told" (defArgs s_tie_told) (defBody s_tie_told) (defScope s_tie_told) [] [] (ga K "tie_told") fd := T.d 4 _ rfl
theorem Tx.f_is_tie_within (T : Tx K mg) : ∃ fd, FunD K "is_tie_within" "is_tie_within" (defArgs s_is_tie_within) (defBody s_is_tie_within) (defScope s_is_tie_within) [] [] (ga K "is_tie_within") fd := T.d 5 _ rfl
theorem Tx.f_back (T : Tx K mg) : ∃ fd, FunD K "back" "back" (defArgs s_back) (defBody s_back) (defScope s_back) [] [] (ga K "back") fd := T.d 6 _ rfl
theorem Tx.f_joined (T : Tx K mg) : ∃ fd, FunD K "joined" "joined" (defArgs s_joined) (defBody s_joined) (defScope s_joined) [] [] (ga K "joined") fd := T.d 7 _ rfl
theorem Tx.f_times (T : Tx K mg) : ∃ fd, FunD K "times" "times" (defArgs s_times) (defBody s_times) (defScope s_times) [] [] (ga K "times") fd := T.d 8 _ rfl
theorem Tx.f_part (T : Tx K mg) : ∃ fd, FunD K "part" "part" (defArgs s_part) (defBody s_part) (defScope s_part) [] [] (ga K "part") fd := T.d 9 _ rfl
theorem Tx.f_is_one_part (T : Tx K mg) : ∃ fd, FunD K "is_one_part" "is_one_part" (defArgs s_is_one_part) (defBody s_is_one_part) (defScope s_is_one_part) [] [] (ga K "is_one_part") fd := T.d 10 _ rfl
theorem Tx.f_cannot_be (T : Tx K mg) : ∃ fd, FunD K "cannot_be" "cannot_be" (defArgs s_cannot_be) (defBody s_cannot_be) (defScope s_cannot_be) [] [] (ga K "cannot_be") fd := T.d 11 _ rfl
theorem Tx.f_is_pin (T : Tx K mg) : ∃ fd, FunD K "is_pin" "is_pin" (defArgs s_is_pin) (defBody s_is_pin) (defScope s_is_pin) [] [] (ga K "is_pin") fd := T.d 12 _ rfl
theorem Tx.f_evened (T : Tx K mg) : ∃ fd, FunD K "evened" "evened" (defArgs s_evened) (defBody s_evened) (defScope s_evened) [] [] (ga K "evened") fd := T.d 13 _ rfl
theorem Tx.f_rounds (T : Tx K mg) : ∃ fd, FunD K "rounds" "rounds" (defArgs s_rounds) (defBody s_rounds) (defScope s_rounds) [] [] (ga K "rounds") fd := T.d 14 _ rfl
theorem Tx.f_way_to (T : Tx K mg) : ∃ fd, FunD K "way_to" "way_to" (defArgs s_way_to) (defBody s_way_to) (defScope s_way_to) [] [] (ga K "way_to") fd := T.d 15 _ rfl
theorem Tx.f_read_by_link (T : Tx K mg) : ∃ fd, FunD K "read_by_link" "read_by_link" (defArgs s_read_by_link) (defBody s_read_by_link) (defScope s_read_by_link) [] [] (ga K "read_by_link") fd := T.d 16 _ rfl
theorem Tx.f_read_through (T : Tx K mg) : ∃ fd, FunD K "read_through" "read_through" (defArgs s_read_through) (defBody s_read_through) (defScope s_read_through) [] [] (ga K "read_through") fd := T.d 17 _ rfl
theorem Tx.f_shortened (T : Tx K mg) : ∃ fd, FunD K "shortened" "shortened" (defArgs s_shortened) (defBody s_shortened) (defScope s_shortened) [] [] (ga K "shortened") fd := T.d 18 _ rfl
theorem Tx.f_all_evened (T : Tx K mg) : ∃ fd, FunD K "all_evened" "all_evened" (defArgs s_all_evened) (defBody s_all_evened) (defScope s_all_evened) [] [] (ga K "all_evened") fd := T.d 19 _ rfl
theorem Tx.f_end_of (T : Tx K mg) : ∃ fd, FunD K "end_of" "end_of" (defArgs s_end_of) (defBody s_end_of) (defScope s_end_of) [] [] (ga K "end_of") fd := T.d 20 _ rfl
theorem Tx.f_cut_off (T : Tx K mg) : ∃ fd, FunD K "cut_off" "cut_off" (defArgs s_cut_off) (defBody s_cut_off) (defScope s_cut_off) [] [] (ga K "cut_off") fd := T.d 21 _ rfl
theorem Tx.f_rows_by (T : Tx K mg) : ∃ fd, FunD K "rows_by" "rows_by" (defArgs s_rows_by) (defBody s_rows_by) (defScope s_rows_by) [] [] (ga K "rows_by") fd := T.d 22 _ rfl
theorem Tx.f_links_of (T : Tx K mg) : ∃ fd, FunD K "links_of" "links_of" (defArgs s_links_of) (defBody s_links_of) (defScope s_links_of) [] [] (ga K "links_of") fd := T.d 23 _ rfl
theorem Tx.f_ladder_of (T : Tx K mg) : ∃ fd, FunD K "ladder_of" "ladder_of" (defArgs s_ladder_of) (defBody s_ladder_of) (defScope s_ladder_of) [] [] (ga K "ladder_of") fd := T.d 24 _ rfl
theorem Tx.f_check_place (T : Tx K mg) : ∃ fd, FunD K "check_place" "check_place" (defArgs s_check_place) (defBody s_check_place) (defScope s_check_place) [] [] (ga K "check_place") fd := T.d 25 _ rfl
theorem Tx.f_kept_ladder (T : Tx K mg) : ∃ fd, FunD K "kept_ladder" "kept_ladder" (defArgs s_kept_ladder) (defBody s_kept_ladder) (defScope s_kept_ladder) [] [] (ga K "kept_ladder") fd := T.d 26 _ rfl
theorem Tx.f_hangs (T : Tx K mg) : ∃ fd, FunD K "hangs" "hangs" (defArgs s_hangs) (defBody s_hangs) (defScope s_hangs) [] [] (ga K "hangs") fd := T.d 27 _ rfl
theorem Tx.f_free (T : Tx K mg) : ∃ fd, FunD K "free" "free" (defArgs s_free) (defBody s_free) (defScope s_free) [] [] (ga K "free") fd := T.d 28 _ rfl
theorem Tx.f_free_parts (T : Tx K mg) : ∃ fd, FunD K "free_parts" "free_parts" (defArgs s_free_parts) (defBody s_free_parts) (defScope s_free_parts) [] [] (ga K "free_parts") fd := T.d 29 _ rfl
theorem Tx.f_size_told (T : Tx K mg) : ∃ fd, FunD K "size_told" "size_told" (defArgs s_size_told) (defBody s_size_told) (defScope s_size_told) [] [] (ga K "size_told") fd := T.d 30 _ rfl
theorem Tx.f_tie_in (T : Tx K mg) : ∃ fd, FunD K "tie_in" "tie_in" (defArgs s_tie_in) (defBody s_tie_in) (defScope s_tie_in) [] [] (ga K "tie_in") fd := T.d 31 _ rfl
theorem Tx.f_note_in (T : Tx K mg) : ∃ fd, FunD K "note_in" "note_in" (defArgs s_note_in) (defBody s_note_in) (defScope s_note_in) [] [] (ga K "note_in") fd := T.d 32 _ rfl
theorem Tx.f_read_book (T : Tx K mg) : ∃ fd, FunD K "read_book" "read_book" (defArgs s_read_book) (defBody s_read_book) (defScope s_read_book) [] [] (ga K "read_book") fd := T.d 33 _ rfl
theorem Tx.f__law_pot (T : Tx K mg) : ∃ fd, FunD K "_law_pot" "_law_pot" (defArgs s__law_pot) (defBody s__law_pot) (defScope s__law_pot) [] [] (ga K "_law_pot") fd := T.d 34 _ rfl
theorem Tx.f__law_take (T : Tx K mg) : ∃ fd, FunD K "_law_take" "_law_take" (defArgs s__law_take) (defBody s__law_take) (defScope s__law_take) [] [] (ga K "_law_take") fd := T.d 35 _ rfl
theorem Tx.f__law_far (T : Tx K mg) : ∃ fd, FunD K "_law_far" "_law_far" (defArgs s__law_far) (defBody s__law_far) (defScope s__law_far) [] [] (ga K "_law_far") fd := T.d 36 _ rfl
theorem Tx.f__law_of (T : Tx K mg) : ∃ fd, FunD K "_law_of" "_law_of" (defArgs s__law_of) (defBody s__law_of) (defScope s__law_of) [] [] (ga K "_law_of") fd := T.d 37 _ rfl
theorem Tx.f__law_cells (T : Tx K mg) : ∃ fd, FunD K "_law_cells" "_law_cells" (defArgs s__law_cells) (defBody s__law_cells) (defScope s__law_cells) [] [] (ga K "_law_cells") fd := T.d 38 _ rfl
theorem Tx.f__law_tie_text (T : Tx K mg) : ∃ fd, FunD K "_law_tie_text" "_law_tie_text" (defArgs s__law_tie_text) (defBody s__law_tie_text) (defScope s__law_tie_text) [] [] (ga K "_law_tie_text") fd := T.d 39 _ rfl
theorem Tx.f__law_book_text (T : Tx K mg) : ∃ fd, FunD K "_law_book_text" "_law_book_text" (defArgs s__law_book_text) (defBody s__law_book_text) (defScope s__law_book_text) [] [] (ga K "_law_book_text") fd := T.d 40 _ rfl
theorem Tx.f__law_met (T : Tx K mg) : ∃ fd, FunD K "_law_met" "_law_met" (defArgs s__law_met) (defBody s__law_met) (defScope s__law_met) [] [] (ga K "_law_met") fd := T.d 41 _ rfl
theorem Tx.f__law_is_clash (T : Tx K mg) : ∃ fd, FunD K "_law_is_clash" "_law_is_clash" (defArgs s__law_is_clash) (defBody s__law_is_clash) (defScope s__law_is_clash) [] [] (ga K "_law_is_clash") fd := T.d 42 _ rfl
theorem Tx.f__law_divisor (T : Tx K mg) : ∃ fd, FunD K "_law_divisor" "_law_divisor" (defArgs s__law_divisor) (defBody s__law_divisor) (defScope s__law_divisor) [] [] (ga K "_law_divisor") fd := T.d 43 _ rfl
theorem Tx.f__law_book_of (T : Tx K mg) : ∃ fd, FunD K "_law_book_of" "_law_book_of" (defArgs s__law_book_of) (defBody s__law_book_of) (defScope s__law_book_of) [] [] (ga K "_law_book_of") fd := T.d 44 _ rfl
theorem Tx.f__law_right (T : Tx K mg) : ∃ fd, FunD K "_law_right" "_law_right" (defArgs s__law_right) (defBody s__law_right) (defScope s__law_right) [] [] (ga K "_law_right") fd := T.d 45 _ rfl
theorem Tx.f_law (T : Tx K mg) : ∃ fd, FunD K "law" "law" (defArgs s_law) (defBody s_law) (defScope s_law) [] [] (ga K "law") fd := T.d 46 _ rfl
theorem Tx.f_Tie___init__ (T : Tx K mg) : ∃ fd, FunD K "__init__" "Tie.__init__" (defArgs s_Tie___init__) (defBody s_Tie___init__) (defScope s_Tie___init__) [.int 0] [("down", .bl false), ("backward", .bl false)] (ma K (ga K "Tie") "__init__") fd := T.d 47 _ rfl
theorem Tx.f_Tie_partner (T : Tx K mg) : ∃ fd, FunD K "partner" "Tie.partner" (defArgs s_Tie_partner) (defBody s_Tie_partner) (defScope s_Tie_partner) [] [] (ma K (ga K "Tie") "partner") fd := T.d 48 _ rfl
theorem Tx.f_Tie_led (T : Tx K mg) : ∃ fd, FunD K "led" "Tie.led" (defArgs s_Tie_led) (defBody s_Tie_led) (defScope s_Tie_led) [] [] (ma K (ga K "Tie") "led") fd := T.d 49 _ rfl
theorem Tx.f_Tie_between (T : Tx K mg) : ∃ fd, FunD K "between" "Tie.between" (defArgs s_Tie_between) (defBody s_Tie_between) (defScope s_Tie_between) [] [] (ma K (ga K "Tie") "between") fd := T.d 50 _ rfl
theorem Tx.f_Tie_part (T : Tx K mg) : ∃ fd, FunD K "part" "Tie.part" (defArgs s_Tie_part) (defBody s_Tie_part) (defScope s_Tie_part) [] [] (ma K (ga K "Tie") "part") fd := T.d 51 _ rfl
theorem Tx.f_Tie___invert__ (T : Tx K mg) : ∃ fd, FunD K "__invert__" "Tie.__invert__" (defArgs s_Tie___invert__) (defBody s_Tie___invert__) (defScope s_Tie___invert__) [] [] (ma K (ga K "Tie") "__invert__") fd := T.d 52 _ rfl
theorem Tx.f_Tie_places_into (T : Tx K mg) : ∃ fd, FunD K "places_into" "Tie.places_into" (defArgs s_Tie_places_into) (defBody s_Tie_places_into) (defScope s_Tie_places_into) [] [] (ma K (ga K "Tie") "places_into") fd := T.d 53 _ rfl
theorem Tx.f_Tie___rshift__ (T : Tx K mg) : ∃ fd, FunD K "__rshift__" "Tie.__rshift__" (defArgs s_Tie___rshift__) (defBody s_Tie___rshift__) (defScope s_Tie___rshift__) [] [] (ma K (ga K "Tie") "__rshift__") fd := T.d 54 _ rfl
theorem Tx.f_Tie_led_often (T : Tx K mg) : ∃ fd, FunD K "led_often" "Tie.led_often" (defArgs s_Tie_led_often) (defBody s_Tie_led_often) (defScope s_Tie_led_often) [] [] (ma K (ga K "Tie") "led_often") fd := T.d 55 _ rfl
theorem Tx.f_Tie___mul__ (T : Tx K mg) : ∃ fd, FunD K "__mul__" "Tie.__mul__" (defArgs s_Tie___mul__) (defBody s_Tie___mul__) (defScope s_Tie___mul__) [] [] (ma K (ga K "Tie") "__mul__") fd := T.d 56 _ rfl
theorem Tx.f_Link___init__ (T : Tx K mg) : ∃ fd, FunD K "__init__" "Link.__init__" (defArgs s_Link___init__) (defBody s_Link___init__) (defScope s_Link___init__) (d_Link___init__.dvs K) [] (ma K (ga K "Link") "__init__") fd := T.d 57 _ rfl
theorem Tx.f_Ladder___init__ (T : Tx K mg) : ∃ fd, FunD K "__init__" "Ladder.__init__" (defArgs s_Ladder___init__) (defBody s_Ladder___init__) (defScope s_Ladder___init__) [] [] (ma K (ga K "Ladder") "__init__") fd := T.d 58 _ rfl
theorem Tx.f_Ladder_walk (T : Tx K mg) : ∃ fd, FunD K "walk" "Ladder.walk" (defArgs s_Ladder_walk) (defBody s_Ladder_walk) (defScope s_Ladder_walk) [] [] (ma K (ga K "Ladder") "walk") fd := T.d 59 _ rfl
theorem Tx.f_Ladder_reading (T : Tx K mg) : ∃ fd, FunD K "reading" "Ladder.reading" (defArgs s_Ladder_reading) (defBody s_Ladder_reading) (defScope s_Ladder_reading) [] [] (ma K (ga K "Ladder") "reading") fd := T.d 60 _ rfl
theorem Tx.f_Book___init__ (T : Tx K mg) : ∃ fd, FunD K "__init__" "Book.__init__" (defArgs s_Book___init__) (defBody s_Book___init__) (defScope s_Book___init__) [] [] (ma K (ga K "Book") "__init__") fd := T.d 61 _ rfl
theorem Tx.f_Book___eq__ (T : Tx K mg) : ∃ fd, FunD K "__eq__" "Book.__eq__" (defArgs s_Book___eq__) (defBody s_Book___eq__) (defScope s_Book___eq__) [] [] (ma K (ga K "Book") "__eq__") fd := T.d 62 _ rfl
theorem Tx.kp_is_integer (T : Tx K mg) : PySem.W.keepIn K (.ref (ga K "is_integer")) = true := by obtain ⟨_, F⟩ := T.f_is_integer; exact F.kp
theorem Tx.kp_number_told (T : Tx K mg) : PySem.W.keepIn K (.ref (ga K "number_told")) = true := by obtain ⟨_, F⟩ := T.f_number_told; exact F.kp
theorem Tx.kp_numbers_told (T : Tx K mg) : PySem.W.keepIn K (.ref (ga K "numbers_told")) = true := by obtain ⟨_, F⟩ := T.f_numbers_told; exact F.kp
theorem Tx.kp_line_parts (T : Tx K mg) : PySem.W.keepIn K (.ref (ga K "line_parts")) = true := by obtain ⟨_, F⟩ := T.f_line_parts; exact F.kp
theorem Tx.kp_tie_told (T : Tx K mg) : PySem.W.keepIn K (.ref (ga K "tie_told")) = true := by obtain ⟨_, F⟩ := T.f_tie_told; exact F.kp
theorem Tx.kp_is_tie_within (T : Tx K mg) : PySem.W.keepIn K (.ref (ga K "is_tie_within")) = true := by obtain ⟨_, F⟩ := T.f_is_tie_within; exact F.kp
theorem Tx.kp_back (T : Tx K mg) : PySem.W.keepIn K (.ref (ga K "back")) = true := by obtain ⟨_, F⟩ := T.f_back; exact F.kp
theorem Tx.kp_joined (T : Tx K mg) : PySem.W.keepIn K (.ref (ga K "joined")) = true := by obtain ⟨_, F⟩ := T.f_joined; exact F.kp
theorem Tx.kp_times (T : Tx K mg) : PySem.W.keepIn K (.ref (ga K "times")) = true := by obtain ⟨_, F⟩ := T.f_times; exact F.kp
theorem Tx.kp_part (T : Tx K mg) : PySem.W.keepIn K (.ref (ga K "part")) = true := by obtain ⟨_, F⟩ := T.f_part; exact F.kp
theorem Tx.kp_is_one_part (T : Tx K mg) : PySem.W.keepIn K (.ref (ga K "is_one_part")) = true := by obtain ⟨_, F⟩ := T.f_is_one_part; exact F.kp
theorem Tx.kp_cannot_be (T : Tx K mg) : PySem.W.keepIn K (.ref (ga K "cannot_be")) = true := by obtain ⟨_, F⟩ := T.f_cannot_be; exact F.kp
theorem Tx.kp_is_pin (T : Tx K mg) : PySem.W.keepIn K (.ref (ga K "is_pin")) = true := by obtain ⟨_, F⟩ := T.f_is_pin; exact F.kp
theorem Tx.kp_evened (T : Tx K mg) : PySem.W.keepIn K (.ref (ga K "evened")) = true := by obtain ⟨_, F⟩ := T.f_evened; exact F.kp
theorem Tx.kp_rounds (T : Tx K mg) : PySem.W.keepIn K (.ref (ga K "rounds")) = true := by obtain ⟨_, F⟩ := T.f_rounds; exact F.kp
theorem Tx.kp_way_to (T : Tx K mg) : PySem.W.keepIn K (.ref (ga K "way_to")) = true := by obtain ⟨_, F⟩ := T.f_way_to; exact F.kp
theorem Tx.kp_read_by_link (T : Tx K mg) : PySem.W.keepIn K (.ref (ga K "read_by_link")) = true := by obtain ⟨_, F⟩ := T.f_read_by_link; exact F.kp
theorem Tx.kp_read_through (T : Tx K mg) : PySem.W.keepIn K (.ref (ga K "read_through")) = true := by obtain ⟨_, F⟩ := T.f_read_through; exact F.kp
theorem Tx.kp_shortened (T : Tx K mg) : PySem.W.keepIn K (.ref (ga K "shortened")) = true := by obtain ⟨_, F⟩ := T.f_shortened; exact F.kp
theorem Tx.kp_all_evened (T : Tx K mg) : PySem.W.keepIn K (.ref (ga K "all_evened")) = true := by obtain ⟨_, F⟩ := T.f_all_evened; exact F.kp
theorem Tx.kp_end_of (T : Tx K mg) : PySem.W.keepIn K (.ref (ga K "end_of")) = true := by obtain ⟨_, F⟩ := T.f_end_of; exact F.kp
theorem Tx.kp_cut_off (T : Tx K mg) : PySem.W.keepIn K (.ref (ga K "cut_off")) = true := by obtain ⟨_, F⟩ := T.f_cut_off; exact F.kp
theorem Tx.kp_rows_by (T : Tx K mg) : PySem.W.keepIn K (.ref (ga K "rows_by")) = true := by obtain ⟨_, F⟩ := T.f_rows_by; exact F.kp
theorem Tx.kp_links_of (T : Tx K mg) : PySem.W.keepIn K (.ref (ga K "links_of")) = true := by obtain ⟨_, F⟩ := T.f_links_of; exact F.kp
theorem Tx.kp_ladder_of (T : Tx K mg) : PySem.W.keepIn K (.ref (ga K "ladder_of")) = true := by obtain ⟨_, F⟩ := T.f_ladder_of; exact F.kp
theorem Tx.kp_check_place (T : Tx K mg) : PySem.W.keepIn K (.ref (ga K "check_place")) = true := by obtain ⟨_, F⟩ := T.f_check_place; exact F.kp
theorem Tx.kp_kept_ladder (T : Tx K mg) : PySem.W.keepIn K (.ref (ga K "kept_ladder")) = true := by obtain ⟨_, F⟩ := T.f_kept_ladder; exact F.kp
theorem Tx.kp_hangs (T : Tx K mg) : PySem.W.keepIn K (.ref (ga K "hangs")) = true := by obtain ⟨_, F⟩ := T.f_hangs; exact F.kp
theorem Tx.kp_free (T : Tx K mg) : PySem.W.keepIn K (.ref (ga K "free")) = true := by obtain ⟨_, F⟩ := T.f_free; exact F.kp
theorem Tx.kp_free_parts (T : Tx K mg) : PySem.W.keepIn K (.ref (ga K "free_parts")) = true := by obtain ⟨_, F⟩ := T.f_free_parts; exact F.kp
theorem Tx.kp_size_told (T : Tx K mg) : PySem.W.keepIn K (.ref (ga K "size_told")) = true := by obtain ⟨_, F⟩ := T.f_size_told; exact F.kp
theorem Tx.kp_tie_in (T : Tx K mg) : PySem.W.keepIn K (.ref (ga K "tie_in")) = true := by obtain ⟨_, F⟩ := T.f_tie_in; exact F.kp
theorem Tx.kp_note_in (T : Tx K mg) : PySem.W.keepIn K (.ref (ga K "note_in")) = true := by obtain ⟨_, F⟩ := T.f_note_in; exact F.kp
theorem Tx.kp_read_book (T : Tx K mg) : PySem.W.keepIn K (.ref (ga K "read_book")) = true := by obtain ⟨_, F⟩ := T.f_read_book; exact F.kp
theorem Tx.kp__law_pot (T : Tx K mg) : PySem.W.keepIn K (.ref (ga K "_law_pot")) = true := by obtain ⟨_, F⟩ := T.f__law_pot; exact F.kp
theorem Tx.kp__law_take (T : Tx K mg) : PySem.W.keepIn K (.ref (ga K "_law_take")) = true := by obtain ⟨_, F⟩ := T.f__law_take; exact F.kp
theorem Tx.kp__law_far (T : Tx K mg) : PySem.W.keepIn K (.ref (ga K "_law_far")) = true := by obtain ⟨_, F⟩ := T.f__law_far; exact F.kp
theorem Tx.kp__law_of (T : Tx K mg) : PySem.W.keepIn K (.ref (ga K "_law_of")) = true := by obtain ⟨_, F⟩ := T.f__law_of; exact F.kp
theorem Tx.kp__law_cells (T : Tx K mg) : PySem.W.keepIn K (.ref (ga K "_law_cells")) = true := by obtain ⟨_, F⟩ := T.f__law_cells; exact F.kp
theorem Tx.kp__law_tie_text (T : Tx K mg) : PySem.W.keepIn K (.ref (ga K "_law_tie_text")) = true := by obtain ⟨_, F⟩ := T.f__law_tie_text; exact F.kp
theorem Tx.kp__law_book_text (T : Tx K mg) : PySem.W.keepIn K (.ref (ga K "_law_book_text")) = true := by obtain ⟨_, F⟩ := T.f__law_book_text; exact F.kp
theorem Tx.kp__law_met (T : Tx K mg) : PySem.W.keepIn K (.ref (ga K "_law_met")) = true := by obtain ⟨_, F⟩ := T.f__law_met; exact F.kp
theorem Tx.kp__law_is_clash (T : Tx K mg) : PySem.W.keepIn K (.ref (ga K "_law_is_clash")) = true := by obtain ⟨_, F⟩ := T.f__law_is_clash; exact F.kp
theorem Tx.kp__law_divisor (T : Tx K mg) : PySem.W.keepIn K (.ref (ga K "_law_divisor")) = true := by obtain ⟨_, F⟩ := T.f__law_divisor; exact F.kp
theorem Tx.kp__law_book_of (T : Tx K mg) : PySem.W.keepIn K (.ref (ga K "_law_book_of")) = true := by obtain ⟨_, F⟩ := T.f__law_book_of; exact F.kp
theorem Tx.kp__law_right (T : Tx K mg) : PySem.W.keepIn K (.ref (ga K "_law_right")) = true := by obtain ⟨_, F⟩ := T.f__law_right; exact F.kp
theorem Tx.kp_law (T : Tx K mg) : PySem.W.keepIn K (.ref (ga K "law")) = true := by obtain ⟨_, F⟩ := T.f_law; exact F.kp
theorem Tx.SC (T : Tx K mg) : SlX.SCls K (ga K "Link") := ⟨T.x_Link_pg, T.x_Link_ic, T.x_Link_po, T.x_Link_sa⟩
theorem Tx.sl_parents (T : Tx K mg) : SlX.Slot1 K (ga K "Link") "parents" (ma K (ga K "Link") "parents") 0 := ⟨T.x_sl_parents_at, T.x_sl_parents_get, T.x_sl_parents_tk, T.x_sl_parents_ty, T.x_sl_parents_ix, by decide⟩
theorem Tx.sl_reason (T : Tx K mg) : SlX.Slot1 K (ga K "Link") "reason" (ma K (ga K "Link") "reason") 1 := ⟨T.x_sl_reason_at, T.x_sl_reason_get, T.x_sl_reason_tk, T.x_sl_reason_ty, T.x_sl_reason_ix, by decide⟩
theorem Tx.sl_tie (T : Tx K mg) : SlX.Slot1 K (ga K "Link") "tie" (ma K (ga K "Link") "tie") 2 := ⟨T.x_sl_tie_at, T.x_sl_tie_get, T.x_sl_tie_tk, T.x_sl_tie_ty, T.x_sl_tie_ix, by decide⟩
theorem Tx.f_Tie_first (T : Tx K mg) : ∃ fd, FunD K "first" "Tie.first" (defArgs s_Tie_first) (defBody s_Tie_first) (defScope s_Tie_first) [] [] (gAd K d_Tie_first.at_) fd := T.g 0 _ rfl
theorem Tx.p_Tie_first (T : Tx K mg) : PropOf K (ga K "Tie") "first" (ma K (ga K "Tie") "first") (gAd K d_Tie_first.at_) := propOf T.x_p_Tie_first_at T.x_p_Tie_first_get T.x_p_Tie_first_tk T.x_p_Tie_first_rc
theorem Tx.f_Tie_second (T : Tx K mg) : ∃ fd, FunD K "second" "Tie.second" (defArgs s_Tie_second) (defBody s_Tie_second) (defScope s_Tie_second) [] [] (gAd K d_Tie_second.at_) fd := T.g 1 _ rfl
theorem Tx.p_Tie_second (T : Tx K mg) : PropOf K (ga K "Tie") "second" (ma K (ga K "Tie") "second") (gAd K d_Tie_second.at_) := propOf T.x_p_Tie_second_at T.x_p_Tie_second_get T.x_p_Tie_second_tk T.x_p_Tie_second_rc
theorem Tx.f_Tie_length (T : Tx K mg) : ∃ fd, FunD K "length" "Tie.length" (defArgs s_Tie_length) (defBody s_Tie_length) (defScope s_Tie_length) [] [] (gAd K d_Tie_length.at_) fd := T.g 2 _ rfl
theorem Tx.p_Tie_length (T : Tx K mg) : PropOf K (ga K "Tie") "length" (ma K (ga K "Tie") "length") (gAd K d_Tie_length.at_) := propOf T.x_p_Tie_length_at T.x_p_Tie_length_get T.x_p_Tie_length_tk T.x_p_Tie_length_rc
theorem Tx.f_Tie_amount (T : Tx K mg) : ∃ fd, FunD K "amount" "Tie.amount" (defArgs s_Tie_amount) (defBody s_Tie_amount) (defScope s_Tie_amount) [] [] (gAd K d_Tie_amount.at_) fd := T.g 3 _ rfl
theorem Tx.p_Tie_amount (T : Tx K mg) : PropOf K (ga K "Tie") "amount" (ma K (ga K "Tie") "amount") (gAd K d_Tie_amount.at_) := propOf T.x_p_Tie_amount_at T.x_p_Tie_amount_get T.x_p_Tie_amount_tk T.x_p_Tie_amount_rc
theorem Tx.f_Tie_down (T : Tx K mg) : ∃ fd, FunD K "down" "Tie.down" (defArgs s_Tie_down) (defBody s_Tie_down) (defScope s_Tie_down) [] [] (gAd K d_Tie_down.at_) fd := T.g 4 _ rfl
theorem Tx.p_Tie_down (T : Tx K mg) : PropOf K (ga K "Tie") "down" (ma K (ga K "Tie") "down") (gAd K d_Tie_down.at_) := propOf T.x_p_Tie_down_at T.x_p_Tie_down_get T.x_p_Tie_down_tk T.x_p_Tie_down_rc
theorem Tx.f_Tie_backward (T : Tx K mg) : ∃ fd, FunD K "backward" "Tie.backward" (defArgs s_Tie_backward) (defBody s_Tie_backward) (defScope s_Tie_backward) [] [] (gAd K d_Tie_backward.at_) fd := T.g 5 _ rfl
theorem Tx.p_Tie_backward (T : Tx K mg) : PropOf K (ga K "Tie") "backward" (ma K (ga K "Tie") "backward") (gAd K d_Tie_backward.at_) := propOf T.x_p_Tie_backward_at T.x_p_Tie_backward_get T.x_p_Tie_backward_tk T.x_p_Tie_backward_rc
theorem Tx.f_Tie_shift (T : Tx K mg) : ∃ fd, FunD K "shift" "Tie.shift" (defArgs s_Tie_shift) (defBody s_Tie_shift) (defScope s_Tie_shift) [] [] (gAd K d_Tie_shift.at_) fd := T.g 6 _ rfl
theorem Tx.p_Tie_shift (T : Tx K mg) : PropOf K (ga K "Tie") "shift" (ma K (ga K "Tie") "shift") (gAd K d_Tie_shift.at_) := propOf T.x_p_Tie_shift_at T.x_p_Tie_shift_get T.x_p_Tie_shift_tk T.x_p_Tie_shift_rc
theorem Tx.f_Link_behind (T : Tx K mg) : ∃ fd, FunD K "behind" "Link.behind" (defArgs s_Link_behind) (defBody s_Link_behind) (defScope s_Link_behind) [] [] (gAd K d_Link_behind.at_) fd := T.g 7 _ rfl
theorem Tx.p_Link_behind (T : Tx K mg) : PropOf K (ga K "Link") "behind" (ma K (ga K "Link") "behind") (gAd K d_Link_behind.at_) := propOf T.x_p_Link_behind_at T.x_p_Link_behind_get T.x_p_Link_behind_tk T.x_p_Link_behind_rc
theorem Tx.f_Ladder_free (T : Tx K mg) : ∃ fd, FunD K "free" "Ladder.free" (defArgs s_Ladder_free) (defBody s_Ladder_free) (defScope s_Ladder_free) [] [] (gAd K d_Ladder_free.at_) fd := T.g 8 _ rfl
theorem Tx.p_Ladder_free (T : Tx K mg) : PropOf K (ga K "Ladder") "free" (ma K (ga K "Ladder") "free") (gAd K d_Ladder_free.at_) := propOf T.x_p_Ladder_free_at T.x_p_Ladder_free_get T.x_p_Ladder_free_tk T.x_p_Ladder_free_rc
theorem Tx.f_Book_size (T : Tx K mg) : ∃ fd, FunD K "size" "Book.size" (defArgs s_Book_size) (defBody s_Book_size) (defScope s_Book_size) [] [] (gAd K d_Book_size.at_) fd := T.g 9 _ rfl
theorem Tx.p_Book_size (T : Tx K mg) : PropOf K (ga K "Book") "size" (ma K (ga K "Book") "size") (gAd K d_Book_size.at_) := propOf T.x_p_Book_size_at T.x_p_Book_size_get T.x_p_Book_size_tk T.x_p_Book_size_rc
theorem Tx.f_Book_ties (T : Tx K mg) : ∃ fd, FunD K "ties" "Book.ties" (defArgs s_Book_ties) (defBody s_Book_ties) (defScope s_Book_ties) [] [] (gAd K d_Book_ties.at_) fd := T.g 10 _ rfl
theorem Tx.p_Book_ties (T : Tx K mg) : PropOf K (ga K "Book") "ties" (ma K (ga K "Book") "ties") (gAd K d_Book_ties.at_) := propOf T.x_p_Book_ties_at T.x_p_Book_ties_get T.x_p_Book_ties_tk T.x_p_Book_ties_rc
theorem Tx.f_Book_notes (T : Tx K mg) : ∃ fd, FunD K "notes" "Book.notes" (defArgs s_Book_notes) (defBody s_Book_notes) (defScope s_Book_notes) [] [] (gAd K d_Book_notes.at_) fd := T.g 11 _ rfl
theorem Tx.p_Book_notes (T : Tx K mg) : PropOf K (ga K "Book") "notes" (ma K (ga K "Book") "notes") (gAd K d_Book_notes.at_) := propOf T.x_p_Book_notes_at T.x_p_Book_notes_get T.x_p_Book_notes_tk T.x_p_Book_notes_rc
end
end K22
end

/-! # K22y -/
section
set_option Elab.async false
set_option linter.all false
set_option autoImplicit false
set_option maxRecDepth 100000
set_option maxHeartbeats 4000000
namespace K22
open PySem PySem.Spec PyProof.Rows PySem.W PySem.Calls
/-! ## TuneError.__init__, as it is written; what the head's facts speak of -/
def teA (p1 p2 : Pos) : Arguments := { posonlyargs := [], args := [{ arg := "self", annotation := none, pos := p1 }, { arg := "value", annotation := none, pos := p2 }], vararg := none, kwonlyargs := [], kw_defaults := [], kwarg := none, defaults := [] }
def teB : List Stmt := [.Expr (.Call (.Attribute (.Call (.Name "super" ⟨8, 8, 8, 13⟩) [] [] ⟨8, 8, 8, 15⟩) "__init__" ⟨8, 8, 8, 24⟩) [.Name "value" ⟨8, 25, 8, 30⟩] [] ⟨8, 8, 8, 31⟩) ⟨8, 8, 8, 31⟩, .Assign [.Attribute (.Name "self" ⟨9, 8, 9, 12⟩) "value" ⟨9, 8, 9, 18⟩] (.Name "value" ⟨9, 21, 9, 26⟩) ⟨9, 8, 9, 26⟩]
def teS : Scope := { kind := .function, names := [(PySem.Str.ofString "self", .local), (PySem.Str.ofString "value", .local), (PySem.Str.ofString "__class__", .free), (PySem.Str.ofString "super", .globalImplicit)], isGenerator := false, isCoroutine := false, more := [] }
/-- the code of the def at a -/
def codIn (K : PySem.W.Frag) (a : Addr) : Option Addr := match K.lookup a with
  | some o => match o.data with
    | .func fd => match fd.code with
      | .ref c => some c
      | _ => none
    | _ => none
  | none => none
end K22
end

/-! # K28a -/
section
set_option Elab.async false
set_option linter.all false
set_option autoImplicit false
set_option maxRecDepth 100000
set_option maxHeartbeats 4000000
namespace K22
open PySem PySem.Spec PyProof.Rows L2
open He (ga ma fAd)
/-! ## the facts of the errors, as tests -/
def iniA (K : PySem.W.Frag) : Addr := match PySem.W.findIn K (.ref (ga K "Clash")) "__init__" with
  | some (some (.ref f)) => f
  | _ => 0
def excB (K : PySem.W.Frag) (C : Addr) : Bool := match K.lookup C with
  | some ⟨.type "type", _, .cls cd, sl⟩ => (match cd.mro, sl.toList with
    | .ref C' :: bm, [_, _, _, _, some (.builtin n), _] => decide (C' = C) && decide (n = "ValueError.__new__") && !cd.hasDel && cd.hasDict && HandSPX.refsVE bm
    | _, _ => false)
  | _ => false
def teV (K : PySem.W.Frag) : Option (Str × Str × Arguments × FuncBody × Scope × Addr × Addr) := match K.lookup (iniA K) with
  | some ⟨_, _, .func fd, _⟩ => some (fd.name, fd.qualname, fd.params, fd.body, fd.scope, fd.globals, fd.builtins)
  | _ => none
def teVal : Option (Str × Str × Arguments × FuncBody × Scope × Addr × Addr) := some ("__init__", "TuneError.__init__", teA ⟨7, 17, 7, 21⟩ ⟨7, 23, 7, 28⟩, .stmts teB, teS, mainGlobals, builtinsNs)
def teC (K : PySem.W.Frag) (file : Str) : Bool := match K.lookup (iniA K) with
  | some ⟨_, _, .func fd, _⟩ => decide (fd.defaults = .none) && decide (fd.kwdefaults = .none) && (match fd.code, fd.closure with
    | .ref cda, [(x, cc)] => decide (x = "__class__") && PySem.W.codeIn K (.ref cda) "TuneError.__init__" && (match K.lookup cda with
      | some ⟨_, _, .fields vs, _⟩ => (match (vs[2]? : Option Value) with
        | some (.str f _) => decide (f = file)
        | _ => false)
      | _ => false) && (match K.lookup cc with
      | some ⟨_, _, .cell (some (.ref D)), _⟩ => decide (D = ga K "TuneError")
      | _ => false)
    | _, _ => false)
  | _ => false
def clL : List (PySem.W.Frag → Bool) := [
  fun K => excB K (ga K "Clash"),
  fun K => (PySem.W.clsIn K (ga K "TuneError")).isSome,
  fun K => decide (PySem.W.findIn K (.ref (ga K "Clash")) "__setattr__" = some (some (.builtin "object.__setattr__"))),
  fun K => decide (PySem.W.findIn K (.ref (ga K "Clash")) "__getattribute__" = some (some (.builtin "BaseException.__getattribute__"))),
  fun K => decide (PySem.W.findIn K (.ref (ga K "Clash")) "__getattr__" = some none),
  fun K => decide (PySem.W.findIn K (.ref (ga K "Clash")) "value" = some none),
  fun K => decide (PySem.W.findIn K (.ref (ga K "Clash")) "__init__" = some (some (.ref (iniA K)))),
  fun K => decide (PySem.W.typeIn K (.ref (iniA K)) = some (.type "function")),
  fun K => PySem.W.keepIn K (.ref (ga K "Clash")),
  fun K => decide (PySem.W.subIn K (.ref (ga K "Clash")) (.type "BaseException") = some true),
  fun K => decide (PySem.W.subIn K (.ref (ga K "Clash")) (.type "ValueError") = some true),
  fun K => decide (PySem.W.typeIn K (.ref (ga K "Clash")) = some (.type "type")),
  fun K => PySem.W.hasDictIn K (ga K "Clash"),
  fun K => decide (PySem.W.mroIn K (ga K "Clash") (.ref (ga K "TuneError")) = some true),
  fun K => decide (PySem.W.ks_superIn K (ga K "Clash") (ga K "TuneError") "__init__" = some (some (.builtin "ValueError.__init__"))),
  fun K => decide (PySem.W.exmOne K (.ref (ga K "Clash")) (.ref (ga K "TuneError")) = some true),
  fun K => decide (codIn K (ga K "_law_right") = some (He.cT K ("_law_right", none)).1)]
def tf : List He.Defn := [("_law_right", none)]
def pfile : Str := PySem.Challenge.pw_turnedtunes_k22_whole_two_climbs_as_one.main.file
def exY (K : PySem.W.Frag) : Bool := exB K && ((clL.all fun b => b K) && teC K pfile)
/-! ## the hook -/
/-- where the objects stand that the facts speak of -/
def as0 : List Addr := [3, 6, 4, 21, 40, 53, 65, 77, 89, 101, 113, 125, 137, 149, 161, 173, 185, 197, 209, 221, 233, 245, 255, 260, 265, 272, 456, 467, 474, 503, 515, 522, 529, 536, 543, 550, 557, 564, 571, 578]
def as1 : List Addr := [585, 592, 599, 606, 613, 618, 623, 630, 667, 676, 683, 690, 697, 704, 711, 718, 725, 732, 739, 744, 749, 754, 761, 768, 893, 904, 911, 918, 925, 932, 939, 944, 951, 958, 965, 970, 975, 980, 0, 20]
def as2 : List Addr := [39, 52, 64, 76, 88, 100, 112, 124, 136, 148, 160, 172, 184, 196, 208, 220, 232, 244, 254, 248, 259, 264, 271, 455, 466, 473, 502, 514, 521, 528, 535, 542, 549, 556, 563, 570, 577, 584, 591, 598]
def as3 : List Addr := [605, 612, 617, 622, 629, 666, 675, 682, 689, 696, 703, 710, 717, 724, 731, 738, 743, 748, 753, 760, 767, 892, 903, 910, 917, 924, 931, 938, 943, 950, 957, 964, 969, 974, 979, 15, 16, 17, 18, 19]
def as4 : List Addr := [37, 38, 41, 51, 63, 75, 87, 99, 111, 123, 135, 147, 159, 171, 183, 195, 207, 219, 231, 243, 249, 250, 251, 252, 253, 256, 257, 258, 261, 262, 263, 266, 267, 268, 269, 270, 288, 296, 304, 312]
def as5 : List Addr := [320, 328, 336, 344, 353, 362, 370, 377, 384, 391, 398, 405, 412, 419, 424, 431, 438, 445, 453, 454, 457, 458, 461, 462, 463, 464, 465, 468, 469, 470, 471, 472, 482, 491, 499, 500, 504, 505, 506, 509]
def as6 : List Addr := [510, 511, 512, 513, 516, 517, 518, 519, 520, 523, 524, 525, 526, 527, 530, 531, 532, 533, 534, 537, 538, 539, 540, 541, 544, 545, 546, 547, 548, 551, 552, 553, 554, 555, 558, 559, 560, 561, 562, 565]
def as7 : List Addr := [566, 567, 568, 569, 572, 573, 574, 575, 576, 579, 580, 581, 582, 583, 586, 587, 588, 589, 590, 593, 594, 595, 596, 597, 600, 601, 602, 603, 604, 607, 608, 609, 610, 611, 614, 615, 616, 619, 620, 621]
def as8 : List Addr := [624, 625, 626, 627, 628, 644, 650, 657, 664, 665, 668, 669, 672, 673, 674, 677, 678, 679, 680, 681, 684, 685, 686, 687, 688, 691, 692, 693, 694, 695, 698, 699, 700, 701, 702, 705, 706, 707, 708, 709]
def as9 : List Addr := [712, 713, 714, 715, 716, 719, 720, 721, 722, 723, 726, 727, 728, 729, 730, 733, 734, 735, 736, 737, 740, 741, 742, 745, 746, 747, 750, 751, 752, 755, 756, 757, 758, 759, 762, 763, 764, 765, 766, 782]
def as10 : List Addr := [790, 798, 806, 814, 821, 828, 835, 842, 849, 856, 863, 868, 873, 878, 883, 890, 891, 894, 895, 898, 899, 900, 901, 902, 905, 906, 907, 908, 909, 912, 913, 914, 915, 916, 919, 920, 921, 922, 923, 926]
def as11 : List Addr := [927, 928, 929, 930, 933, 934, 935, 936, 937, 940, 941, 942, 945, 946, 947, 948, 949, 952, 953, 954, 955, 956, 959, 960, 961, 962, 963, 966, 967, 968, 971, 972, 973, 976, 977, 978, 36, 25, 287, 280]
def as12 : List Addr := [281, 295, 303, 311, 319, 327, 335, 343, 351, 352, 361, 369, 376, 383, 390, 397, 404, 411, 418, 423, 430, 437, 444, 452, 490, 484, 498, 643, 649, 656, 663, 781, 789, 797, 805, 813, 820, 827, 834, 841]
def as13 : List Addr := [848, 855, 862, 867, 872, 877, 882, 889, 31, 32, 33, 34, 35, 282, 283, 284, 285, 286, 294, 302, 310, 318, 326, 334, 342, 350, 354, 360, 368, 371, 372, 373, 374, 375, 378, 379, 380, 381, 382, 385]
def as14 : List Addr := [386, 387, 388, 389, 392, 393, 394, 395, 396, 399, 400, 401, 402, 403, 406, 407, 408, 409, 410, 413, 414, 415, 416, 417, 420, 421, 422, 425, 426, 427, 428, 429, 432, 433, 434, 435, 436, 439, 440, 441]
def as15 : List Addr := [442, 443, 451, 485, 486, 487, 488, 489, 483, 497, 638, 639, 640, 641, 642, 648, 651, 652, 653, 654, 655, 658, 659, 660, 661, 662, 776, 777, 778, 779, 780, 788, 796, 804, 812, 815, 816, 817, 818, 819]
def as16 : List Addr := [822, 823, 824, 825, 826, 829, 830, 831, 832, 833, 836, 837, 838, 839, 840, 843, 844, 845, 846, 847, 850, 851, 852, 853, 854, 857, 858, 859, 860, 861, 864, 865, 866, 869, 870, 871, 874, 875, 876, 879]
def as17 : List Addr := [880, 881, 884, 885, 886, 887, 888, 289, 290, 291, 292, 293, 297, 298, 299, 300, 301, 305, 306, 307, 308, 309, 313, 314, 315, 316, 317, 321, 322, 323, 324, 325, 329, 330, 331, 332, 333, 337, 338, 339]
def as18 : List Addr := [340, 341, 345, 346, 347, 348, 349, 355, 356, 357, 358, 359, 363, 364, 365, 366, 367, 446, 447, 448, 449, 450, 492, 493, 494, 495, 496, 645, 646, 647, 783, 784, 785, 786, 787, 791, 792, 793, 794, 795]
def as19 : List Addr := [799, 800, 801, 802, 803, 807, 808, 809, 810, 811]
def asL : List Addr := as0 ++ (as1 ++ (as2 ++ (as3 ++ (as4 ++ (as5 ++ (as6 ++ (as7 ++ (as8 ++ (as9 ++ (as10 ++ (as11 ++ (as12 ++ (as13 ++ (as14 ++ (as15 ++ (as16 ++ (as17 ++ (as18 ++ (as19)))))))))))))))))))
/-! a fragment, forced: every item is written out before it is looked at -/
def fcO {a : Type} (o : Obj) (k : Obj → a) : a := match o with
  | ⟨c, d, t, sl⟩ => k ⟨c, d, t, sl⟩
theorem fcO_eq {a : Type} (o : Obj) (k : Obj → a) : fcO o k = k o := by cases o; rfl
def fcK {a : Type} : PySem.W.Frag → (PySem.W.Frag → a) → a
  | [], k => k []
  | (b, o) :: r, k => HandSHeadRun.frNat b fun b => fcO o fun o => fcK r fun r => k ((b, o) :: r)
theorem fcK_eq {a : Type} : ∀ (K : PySem.W.Frag) (k : PySem.W.Frag → a), fcK K k = k K
  | [], k => rfl
  | (b, o) :: r, k => by
    show HandSHeadRun.frNat b (fun b => fcO o fun o => fcK r fun r => k ((b, o) :: r)) = _
    rw [HandSHeadRun.frNat_eq, fcO_eq, fcK_eq r]
abbrev AlC : Type := Bool × List (Option (Str × Str × Arguments × FuncBody × Scope × Addr × List (Str × Addr) × Addr)) × Option (Str × Str × Arguments × FuncBody × Scope × Addr × Addr) × Bool
abbrev AlY : Type := He.AlT × AlC
/-- the fragment of the statics alone -/
def stB (K2 : PySem.W.Frag) : Bool := decide (PySem.W.nsIn K2 cStatics "thirdparty.any" = some none) && K2.all fun p => match p.2.data with
  | .dict _ _ => true
  | _ => false
def obsA (g : Addr → Option Obj) : He.AlT := fcK (He.frT g asL) fun K => He.obsT fa fn [] K
def obsC (g : Addr → Option Obj) (K : PySem.W.Frag) : AlC := (exY K && He.tabsB g tf K, gs.map (fun d => fnG K d.at_), teV K, stB (He.frT g [cStatics]))
def obsB (g : Addr → Option Obj) : AlC := fcK (He.frT g asL) (obsC g)
def valA (w : World) : He.AlT := He.valT fn [] w
def valB : AlC := (true, gs.map (fun d => d.val), teVal, true)
def obsY (g : Addr → Option Obj) : AlY := (obsA g, obsB g)
def valY (w : World) : AlY := (valA w, valB)
structure SaysY (w : World) (h : Heap) (K : PySem.W.Frag) : Prop where
  x : He.SaysX fa fn [] tf exY w h K
  g : gs.map (fun d => fnG K d.at_) = gs.map (fun d => d.val)
  te : teV K = teVal
  st : ∃ K2 : PySem.W.Frag, K2.In h ∧ stB K2 = true
theorem obsY_of {g : Addr → Option Obj} {w : World} (e : obsY g = valY w) : He.obsT fa fn [] (He.frT g asL) = He.valT fn [] w ∧ (exY (He.frT g asL) && He.tabsB g tf (He.frT g asL)) = true ∧ gs.map (fun d => fnG (He.frT g asL) d.at_) = gs.map (fun d => d.val) ∧ teV (He.frT g asL) = teVal ∧ stB (He.frT g [cStatics]) = true := by
  unfold obsY valY at e
  injection e with e1 e2
  unfold obsA at e1
  unfold obsB at e2
  rw [fcK_eq] at e1 e2
  unfold obsC valB at e2
  injection e2 with e2 e3
  injection e3 with e3 e4
  injection e4 with e4 e5
  exact ⟨e1, e2, e3, e4, e5⟩
theorem saysY_of {h : Heap} {w : World} (e : obsY h.get? = valY w) : ∃ K : PySem.W.Frag, K.In h ∧ SaysY w h K := by
  obtain ⟨e1, e2, e3, e4, e5⟩ := obsY_of e
  obtain ⟨q1, q2⟩ := Bool.and_eq_true_iff.mp e2
  have tab : ∀ p ∈ tf, PySem.W.codeHdIn (He.frT h.get? asL) (He.cT (He.frT h.get? asL) p).1 (He.cT (He.frT h.get? asL) p).2 = true ∧ ∃ o, h.get? (He.cT (He.frT h.get? asL) p).2 = some o ∧ He.emptyTab o = true := fun p hp => by
    obtain ⟨r1, r2⟩ := Bool.and_eq_true_iff.mp (List.all_eq_true.mp q2 p hp)
    refine ⟨r1, ?_⟩
    split at r2
    · rename_i o ho
      exact ⟨o, ho, r2⟩
    · cases r2
  refine ⟨_, He.frT_in, ⟨e1, q1, fun p hp => (tab p hp).1, fun p hp => ?_, fun p hp => ?_⟩, e3, e4, ⟨_, He.frT_in, e5⟩⟩
  · obtain ⟨_, o, z1, z2⟩ := tab p hp
    exact He.frT_none z1 z2
  · obtain ⟨_, o, z1, z2⟩ := tab p hp
    rw [z1, He.emptyTab_eq z2]
theorem saysY_keeps {w : World} {h h' : Heap} (s : ∃ K : PySem.W.Frag, K.In h ∧ SaysY w h K) (k : ∀ b o, h.get? b = some o → h'.get? b = some o) : ∃ K : PySem.W.Frag, K.In h' ∧ SaysY w h' K := by
  obtain ⟨K, hK, x, g, te, K2, X2, q⟩ := s
  exact ⟨K, PySem.W.Frag.In.keeps hK k, ⟨x.t, x.more, x.hd, x.out, fun p hp => k _ _ (x.empty p hp)⟩, g, te, K2, PySem.W.Frag.In.keeps X2 k, q⟩
def hookY : PySem.W.Hook where
  α := AlY
  obs := fun s => obsY s.heap.get?
  val := valY
  says := fun w h => ∃ K : PySem.W.Frag, K.In h ∧ SaysY w h K
  of := fun _ _ e => saysY_of e
  keeps := fun _ _ _ s k => saysY_keeps s k
theorem obsY_eq {g : Addr → Option Obj} {s : Shared} (h : ∀ a, g a = s.heap.get? a) : obsY g = hookY.obs s := by
  have e : g = s.heap.get? := funext h
  rw [e] <;> rfl
end K22
end

/-! # K28b -/
section
set_option Elab.async false
set_option linter.all false
set_option maxRecDepth 100000
set_option maxHeartbeats 0
namespace K22
open PySem PySem.Spec PyProof.Rows L2 HandSHeadRun
/-! ## the head, run: three times, each time with its own looks (one run with all of them wants 17 GB) -/
def nm0 : List Str := ["_wall", "TuneError", "BadPlace", "BadLength", "BadAmount", "BadWay", "BadText", "NoPlace", "BadNote", "BadPart", "NoJoint", "BadNumber", "BadBook", "NoTie", "Full", "OtherSize", "OtherNote", "BadSize", "Clash", "FIGURES", "BLANK", "FEED", "END", "is_integer", "number_told", "numbers_told", "line_parts", "UP", "DOWN", "BACK_ties"]
def nm1 : List Str := ["WORDS", "MOST_WORDS", "Tie", "tie_told", "is_tie_within", "TOLD", "NOTE_ladder", "BACK_ladder", "JOINED", "TIMES", "PART", "Link", "back", "joined", "times", "part", "is_one_part", "cannot_be", "is_pin", "evened", "rounds", "way_to", "read_by_pin", "read_by_link", "read_through", "shortened", "all_evened", "end_of", "cut_off", "rows_by"]
def nm2 : List Str := ["Ladder", "links_of", "ladder_of", "check_place", "kept_ladder", "hangs", "free", "free_parts", "SIZE", "TIE", "NOTE_books", "MOST", "PAIR", "size_told", "tie_in", "note_in", "read_book", "made_book", "turned_about", "moved", "turned_over", "Book", "_law_pot", "_law_take", "_law_far", "_law_of", "_law_cells", "_law_tie_text", "_law_book_text", "_law_met"]
def nm3 : List Str := ["_law_is_clash", "_law_divisor", "_law_book_of", "_law_right"]
def loose : List Str := nm0 ++ nm1 ++ nm2 ++ nm3
abbrev R : PySem.W.OpenRow := PySem.W.OpenLaw.row PySem.Challenge.rw_turnedtunes_k22_whole_two_climbs_as_one
abbrev vw : Program := PySem.W.view R.prog [101]
noncomputable abbrev endR (w : World) (os : OsState) : Option PySem.W.SharedT := endF (stepQ (denQ tabQ) R.prog w) 60000 R.prog w os
noncomputable def lkL (w : World) (s : PySem.W.SharedT) := looksF R.prog (PySem.W.boot_heap w.params) s.abs
noncomputable def lkS (s : PySem.W.SharedT) := seenQ vw loose (importedModules R.prog.main.body) (fun s => PySem.W.xlAt vw [] s && PySem.W.recOk R.toRowW.records s) s.abs
def ob (s : PySem.W.SharedT) : AlY := obsY (getT s)
theorem ob_eq (s : PySem.W.SharedT) : ob s = hookY.obs s.abs := obsY_eq (getT_eq s)
theorem runL (w : World) (os : OsState) : (endR w os).map (fun s => (lkL w s, lkS s)) = some (true, PySem.W.openGood vw loose) := by
  kernel_rfl
theorem runA (w : World) (os : OsState) : (endR w os).map (fun s => obsA (getT s)) = some (valA w) := by
  kernel_rfl
theorem runB (w : World) (os : OsState) : (endR w os).map (fun s => obsB (getT s)) = some valB := by
  kernel_rfl
theorem two {t a b : Type} {o : Option t} {f : t → a} {g : t → b} {x : a} {y : b} (h1 : o.map f = some x) (h2 : o.map g = some y) : o.map (fun s => (f s, g s)) = some (x, y) := by
  cases o with
  | none => cases h1
  | some s =>
    have e1 : f s = x := Option.some.inj h1
    have e2 : g s = y := Option.some.inj h2
    show some (f s, g s) = _
    rw [e1, e2]
theorem three {t a b c : Type} {o : Option t} {f : t → a} {g : t → b} {i : t → c} {x : a} {y : b} {z : c} (h1 : o.map (fun s => (f s, g s)) = some (x, y)) (h2 : o.map i = some z) : o.map (fun s => (f s, g s, i s)) = some (x, y, z) := by
  cases o with
  | none => cases h1
  | some s =>
    have e1 : (f s, g s) = (x, y) := Option.some.inj h1
    have e2 : i s = z := Option.some.inj h2
    injection e1 with e3 e4
    show some (f s, g s, i s) = _
    rw [e2, e3, e4]
theorem runO (w : World) (os : OsState) : (endR w os).map ob = some (valY w) := two (f := fun s => obsA (getT s)) (g := fun s => obsB (getT s)) (runA w os) (runB w os)
theorem run (w : World) : RunEq R vw hookY ob 60000 loose w := fun os => three (f := lkL w) (g := lkS) (i := ob) (runL w os) (runO w os)
end K22
end

/-! # K22g -/
section
set_option Elab.async false
set_option linter.all false
set_option maxRecDepth 100000
set_option maxHeartbeats 4000000
namespace K22
open PySem PySem.Spec PyProof.Rows L2
open He (ga ma fAd)
open Evl (Ex ex_l ex_t sq_of st_of fresh_back)
/-! ## a def's promise, its defaults filled -/
def FnB (P : Program) (w : World) (K : PySem.W.Frag) (mg : Str → Option Value) (base : Heap) (CX : CXT) (k : Nat) (f : Addr) (ps : List Str) (sp : Sp) (dvs : List V) : Prop :=
  ∃ fd ds, FnOk P w K mg base CX k f fd ps sp ∧ Vals dvs ds ∧ Binds K fd ps ds
section
variable {P : Program} {w : World} {K : PySem.W.Frag} {mg : Str → Option Value} {base : Heap}
theorem mkB {x qual : Str} {st : Stmt} {f : Addr} {N ps : List Str} {k : Nat} {sp : Sp} (hf : ∃ fd, FunD K x qual (defArgs st) (defBody st) (defScope st) [] [] f fd) (S : FnScope N ps (defScope st))
    (hb : ∀ (kV doc pm : Value) (an : Option Addr) (cdv ct : Value) (us : List Value), us.length = ps.length → bindArgs (PySem.W.fnOf x qual (defArgs st) (defBody st) (defScope st) .none kV doc pm an cdv ct) ⟨us, []⟩ = pure (ps.zip us))
    (len : ∀ vs H Q E, sp vs H Q E → vs.length = ps.length)
    (hbody : ∀ (cdv : Value) (A : Around) (outer : List Env) (s : Shared) (H : Hp) (vs : List V) (Q : VK) (E : XK), Room k (A.deeper (envOfC qual (defScope st) s.heap.objs.size f cdv)) → sp vs H Q E →
      ∃ t, PSs (cxOf CX0 P w K mg base N qual (defScope st) f cdv A outer s H E).nox (defBody st) t ∧ t { nx := fun _ H' => Q .non H', rt := Q } (start N vs) H) : FnB P w K mg base CX0 (k + 1) f ps sp [] := by
  obtain ⟨fd, F⟩ := hf
  refine ⟨fd, [], F.ok S len (fun cdv A outer s H vs Q E hr h => ?_), .nil, F.bindsN hb⟩
  obtain ⟨t, h1, h2⟩ := hbody cdv A outer s H vs Q E hr h
  exact ⟨t, PSs.nox h1, h2⟩
end
section
variable {X : Cx} {CX : CXT} {k : Nat} {f C g p : Addr} {ps : List Str} {sp : Sp} {dvs : List V} {E : XK} {x m : Str} {pp pos apos : Pos} {e o : Expr} {es : List Expr} {te ta : TE} {t : TA}
theorem c_fn (F : FnB X.prog X.w X.K X.mg X.base CX k f ps sp dvs) (hr : Room k X.A) (hm : X.mg x = some (.ref f)) (hk : PySem.W.keepIn X.K (.ref f) = true) (hx : Passes CX X E) (ha : PA X (e :: es) t) (hg : Gl X x := by rfl) (hdb : (x == ("__debug__" : Str)) = false := by decide)
    (he : starEach (e :: es) X.env = (false, eval e X.env) :: starEach es X.env := by rfl) (hpl : (backTo pos (starEach es X.env)).any (·.1) = false := by rfl) : PE X (.Call (.Name x pp) (e :: es) [] pos) (tCall sp dvs E t) := by
  obtain ⟨fd, ds, G, v, b⟩ := F
  exact pe_call G hr hg hm hk b v hx ha hdb he hpl
theorem c_meth {pl : Sem Bool} (F : FnB X.prog X.w X.K X.mg X.base CX k f ps sp dvs) (hr : Room k X.A) (c : Cls X.K C) (hm : Meth X.K C m f) (hx : Passes CX X E) (he : PE X o ta) (ha : PA X (e :: es) t)
    (hst : starEach (e :: es) X.env = (false, eval e X.env) :: starEach es X.env := by rfl) (hpl : (backTo pos (starEach es X.env)).any (·.1) = false := by rfl)
    (ht : eval (.Call (.Attribute o m apos) (e :: es) [] pos) X.env = (do
      let ov ← eval o X.env
      standAt apos.atName
      let (f, first) ← holding [ov] (getMethod ov m pl)
      callWith pos f first (backTo pos (starEach (e :: es) X.env)) (backToKw pos (keywordEach [] X.env))) := by rfl) : PE X (.Call (.Attribute o m apos) (e :: es) [] pos) (tMeth C m sp dvs E ta t) := by
  obtain ⟨fd, ds, G, v, b⟩ := F
  exact pe_meth he c hm G hr b v hx ha hst hpl ht
theorem c_prop (F : FnB X.prog X.w X.K X.mg X.base CX0 k g ps sp dvs) (hr : Room (k + 1) X.A) (c : Cls X.K C) (hp : PropOf X.K C x p g) (he : PE X e ta) (hab : attributeBase e x X.env (eval e X.env) = eval e X.env := by rfl) :
    PE X (.Attribute e x pos) (tProp C sp dvs E0 ta) := by
  obtain ⟨fd, ds, G, v, b⟩ := F
  exact pe_prop he c hp G hr b v pass0 hab
theorem c_make (F : FnB X.prog X.w X.K X.mg X.base CX k f ps sp dvs) (hr : Room (k + 1) X.A) (M : Mk X.K C f) (hm : X.mg x = some (.ref C)) (hx : Passes CX X E) (ha : PA X (e :: es) t) (hg : Gl X x := by rfl) (hdb : (x == ("__debug__" : Str)) = false := by decide)
    (he : starEach (e :: es) X.env = (false, eval e X.env) :: starEach es X.env := by rfl) (hpl : (backTo pos (starEach es X.env)).any (·.1) = false := by rfl) : PE X (.Call (.Name x pp) (e :: es) [] pos) (tMake C sp dvs E t) := by
  obtain ⟨fd, ds, G, v, b⟩ := F
  exact pe_make M G hr hg hm b v hx ha hdb he hpl
theorem o_inv (F : FnB X.prog X.w X.K X.mg X.base CX k f ps sp []) (hr : Room k X.A) (hm : Meth X.K C "__invert__" f) (hx : Passes CX X E) : UnR X (unaryOp .Invert) (rInvO C sp E) := by
  obtain ⟨fd, ds, G, v, b⟩ := F
  cases v
  exact un_invO hm.at_ hm.fn G hr b hx
theorem o_shr (F : FnB X.prog X.w X.K X.mg X.base CX k f ps sp []) (hr : Room k X.A) (hm : Meth X.K C "__rshift__" f) (hc : PySem.W.selfFirst X.K C = true) (hx : Passes CX X E) : OpR X (binaryOp .RShift) (rShrO C sp E) := by
  obtain ⟨fd, ds, G, v, b⟩ := F
  cases v
  exact op_shrO hc hm.at_ hm.fn G hr b hx
theorem o_mul (F : FnB X.prog X.w X.K X.mg X.base CX k f ps sp []) (hr : Room k X.A) (hm : Meth X.K C "__mul__" f) (hc : PySem.W.selfFirst X.K C = true) (hn : PySem.W.findIn X.K (.ref C) "__rmul__" = some none)
    (h1 : (PySem.W.findIn X.K (.type "int") "__mul__").isSome = true) (h2 : (PySem.W.findIn X.K (.type "int") "__rmul__").isSome = true) (hsub : PySem.W.subIn X.K (.type "int") (.ref C) = some false) (hx : Passes CX X E) : OpR X (binaryOp .Mult) (rMulO C sp E) := by
  obtain ⟨fd, ds, G, v, b⟩ := F
  cases v
  obtain ⟨fo, e1⟩ := Option.isSome_iff_exists.mp h1
  obtain ⟨ro, e2⟩ := Option.isSome_iff_exists.mp h2
  exact op_mulO hc hm.at_ hm.fn hn e1 e2 hsub G hr b hx
/-- what is never reached -/
def tNo : TE := fun _ _ _ => False
theorem pe_no : PE X e tNo := ⟨fun _ _ _ _ _ _ h => h.elim⟩
def tNoT : TT := fun _ _ _ => False
theorem pt_no : PT X e tNoT := ⟨fun _ _ _ _ _ _ h => h.elim⟩
end
/-! ## readings, from the left -/
section
variable {σ : L2.St} {H : Hp} {D : Ends} {Q : VK} {K : PySem.W.Frag} {ta tb tc te : TE} {t u : TS} {tt tu : TT} {g : TG} {v x y : V} {a : Addr} {C : Addr} {sp : Sp} {dvs : List V} {E : XK} {tA : TA}
theorem w_seq (h : t { D with nx := u D } σ H) : tSeq t u D σ H := h
theorem w_asg (h : te σ H fun x H1 => g x σ H1 D.nx) : tAsg te g D σ H := h
theorem w_name {i : Nat} {Q : L2.St → Hp → Prop} (h : Q (σ.set i (some v)) H) : gName i v σ H Q := h
theorem w_ret (h : te σ H D.rt) : tRet te D σ H := h
theorem w_retN (h : D.rt .non H) : tRetN D σ H := h
theorem w_drop (h : te σ H fun _ H1 => D.nx σ H1) : tDrop te D σ H := h
theorem w_ifS (h : tt σ H fun b H1 => if b = true then t D σ H1 else u D σ H1) : tIfS tt t u D σ H := h
theorem w_next (h : D.nx σ H) : tNext D σ H := h
theorem w_var {i : Nat} (e : σ[i]? = some (some v)) (h : Q v H) : tVar i σ H Q := ⟨v, e, h⟩
theorem w_c (h : Q v H) : tC v σ H Q := h
theorem w_op {r : R2} (h : ta σ H fun x H1 => tb σ H1 fun y H2 => r x y H2 Q) : tOp r ta tb σ H Q := h
theorem w_un {r : V → Hp → VK → Prop} (h : ta σ H fun x H1 => r x H1 Q) : tUn r ta σ H Q := h
def isB (Q : Bool → Hp → Prop) : VK := fun x H => ∃ k, x = .bl k ∧ Q k H
theorem w_isB {k : Bool} {Q : Bool → Hp → Prop} (h : Q k H) : isB Q (.bl k) H := ⟨k, rfl, h⟩
theorem w_test {Q : Bool → Hp → Prop} (h : ta σ H (isB Q)) : tTest ta σ H Q := h
theorem w_tB {Q : Bool → Hp → Prop} (h : ta σ H (isB Q)) : tB ta σ H Q := h
theorem w_and {Q : Bool → Hp → Prop} (h : tt σ H fun c H1 => if c = true then tu σ H1 Q else Q false H1) : tAnd tt tu σ H Q := h
theorem w_or {Q : Bool → Hp → Prop} (h : tt σ H fun c H1 => if c = true then Q true H1 else tu σ H1 Q) : tOr tt tu σ H Q := h
theorem w_not {Q : Bool → Hp → Prop} (h : tt σ H fun c H1 => Q (!c) H1) : tNot tt σ H Q := h
theorem w_andV (h : ta σ H (isB fun c H1 => if c = true then tb σ H1 Q else Q (.bl false) H1)) : tAndV ta tb σ H Q := h
theorem w_orV (h : ta σ H (isB fun c H1 => if c = true then Q (.bl true) H1 else tb σ H1 Q)) : tOrV ta tb σ H Q := h
theorem w_notV (h : ta σ H (isB fun c H1 => Q (.bl (!c)) H1)) : tNotV ta σ H Q := h
theorem w_if (h : tt σ H fun c H1 => if c = true then ta σ H1 Q else tb σ H1 Q) : tIf tt ta tb σ H Q := h
theorem w_iteT {A B : Prop} (h : A) : if true = true then A else B := h
theorem w_iteF {A B : Prop} (h : B) : if false = true then A else B := h
theorem w_iteNT {A B : Prop} (h : B) : if (!true) = true then A else B := h
theorem w_iteNF {A B : Prop} (h : A) : if (!false) = true then A else B := h
theorem w_iteP {c A B : Prop} [Decidable c] (hc : c) (h : A) : if decide c = true then A else B := by rw [decide_eq_true hc]; exact h
theorem w_iteN {c A B : Prop} [Decidable c] (hc : ¬c) (h : B) : if decide c = true then A else B := by rw [decide_eq_false hc]; exact h
theorem w_nil {Q : List V → Hp → Prop} (h : Q [] H) : tNil σ H Q := h
theorem w_cons {Q : List V → Hp → Prop} (h : ta σ H fun x H1 => tA σ H1 fun xs H2 => Q (x :: xs) H2) : tCons ta tA σ H Q := h
theorem w_call (h : tA σ H fun vs H1 => sp (vs ++ dvs) H1 Q E) : tCall sp dvs E tA σ H Q := h
theorem w_cb {r : List V → Hp → VK → Prop} (h : tA σ H fun vs H1 => r vs H1 Q) : tCB r tA σ H Q := h
def kTupl (Q : VK) : List V → Hp → Prop := fun xs H1 => xs.length ≤ sizeLine ∧ ∀ p, H1 p = none → Q (.ref p) (upd H1 p (.tup xs))
def kList (Q : VK) : List V → Hp → Prop := fun xs H1 => xs.length ≤ sizeLine ∧ ∀ p, H1 p = none → Q (.ref p) (upd H1 p (.lst xs))
theorem w_tup (h : tA σ H (kTupl Q)) : tTup tA σ H Q := h
theorem w_lst (h : tA σ H (kList Q)) : tLst tA σ H Q := h
theorem w_kT {xs : List V} (hl : xs.length ≤ 1000) (h : ∀ p H1, H p = none → Ex H H1 → H1 p = some (.tup xs) → Q (.ref p) H1) : kTupl Q xs H :=
  ⟨Evl.sz_of (Nat.le_trans hl (by decide)), fun p hp => h p _ hp (Ex.new hp) upd_same⟩
theorem w_kL {xs : List V} (hl : xs.length ≤ 1000) (h : ∀ p H1, H p = none → Ex H H1 → H1 p = some (.lst xs) → Q (.ref p) H1) : kList Q xs H :=
  ⟨Evl.sz_of (Nat.le_trans hl (by decide)), fun p hp => h p _ hp (Ex.new hp) upd_same⟩
def kPar (i j : Nat) (D : Ends) (σ : L2.St) : List V → Hp → Prop := fun vs H1 => ∃ v w, vs = [v, w] ∧ D.nx ((σ.set i (some v)).set j (some w)) H1
theorem w_par {i j : Nat} (h : tA σ H (kPar i j D σ)) : tPar i j tA D σ H := h
theorem w_kPar {i j : Nat} (h : D.nx ((σ.set i (some x)).set j (some y)) H) : kPar i j D σ [x, y] H := ⟨x, y, rfl, h⟩
/-! values -/
theorem w_I0 {f : Int → Int → V} {i j : Int} (h : Q (f i j) H) : rI0 f (.int i) (.int j) H Q := ⟨i, j, rfl, rfl, h⟩
theorem w_U {f : Int → V} {i : Int} (h : Q (f i) H) : rU f (.int i) H Q := ⟨i, rfl, h⟩
theorem w_eqI {i j : Int} (h : Q (.bl (decide (i = j))) H) : rEq (.int i) (.int j) H Q := ⟨rfl, by
  have e : decide (V.int i = V.int j) = decide (i = j) := by by_cases c : i = j <;> simp [c]
  rw [e]; exact h⟩
theorem w_neI {i j : Int} (h : Q (.bl (!decide (i = j))) H) : rNe (.int i) (.int j) H Q := ⟨rfl, by
  have e : decide (V.int i = V.int j) = decide (i = j) := by by_cases c : i = j <;> simp [c]
  rw [e]; exact h⟩
theorem w_eqS {i j : Str} (h : Q (.bl (decide (i = j))) H) : rEq (.str i) (.str j) H Q := ⟨rfl, by
  have e : decide (V.str i = V.str j) = decide (i = j) := by by_cases c : i = j <;> simp [c]
  rw [e]; exact h⟩
theorem w_neS {i j : Str} (h : Q (.bl (!decide (i = j))) H) : rNe (.str i) (.str j) H Q := ⟨rfl, by
  have e : decide (V.str i = V.str j) = decide (i = j) := by by_cases c : i = j <;> simp [c]
  rw [e]; exact h⟩
theorem w_eqB {i j : Bool} (h : Q (.bl (decide (i = j))) H) : rEq (.bl i) (.bl j) H Q := ⟨rfl, by
  have e : decide (V.bl i = V.bl j) = decide (i = j) := by by_cases c : i = j <;> simp [c]
  rw [e]; exact h⟩
theorem w_neB {i j : Bool} (h : Q (.bl (!decide (i = j))) H) : rNe (.bl i) (.bl j) H Q := ⟨rfl, by
  have e : decide (V.bl i = V.bl j) = decide (i = j) := by by_cases c : i = j <;> simp [c]
  rw [e]; exact h⟩
theorem w_isNn (h : Q (.bl true) H) : rIsN .non .non H Q := ⟨rfl, h⟩
theorem w_isNr {a : Addr} (h : Q (.bl false) H) : rIsN (.ref a) .non H Q := ⟨rfl, h⟩
theorem w_isNi {i : Int} (h : Q (.bl false) H) : rIsN (.int i) .non H Q := ⟨rfl, h⟩
theorem w_notNn (h : Q (.bl false) H) : rNotN .non .non H Q := ⟨rfl, h⟩
theorem w_notNr {a : Addr} (h : Q (.bl true) H) : rNotN (.ref a) .non H Q := ⟨rfl, h⟩
theorem w_notNi {i : Int} (h : Q (.bl true) H) : rNotN (.int i) .non H Q := ⟨rfl, h⟩
theorem w_xisN (h : ta σ H fun x H1 => rIsN x .non H1 Q) : tIsN ta σ H Q := by
  refine Eq.mp ?_ h
  have : (fun x H1 => rIsN x .non H1 Q) = fun x H1 => Q (.bl (decide (x = .non))) H1 := funext fun x => funext fun H1 => propext ⟨fun q => q.2, fun q => ⟨rfl, q⟩⟩
  rw [this]; rfl
/-- numbers that are multiplied, divided -/
def Sm (i : Int) : Prop := i.natAbs < 2 ^ 400
theorem w_mulW {f : Int → Int → V} {i j : Int} (hi : Sm i) (hj : Sm j) (h : Q (f i j) H) : rI CMulW f (.int i) (.int j) H Q := ⟨i, j, rfl, rfl, wide_mul hi hj (by decide) (by decide) (by decide), h⟩
theorem w_divW {f : Int → Int → V} {i j : Int} (hi : 0 < j) (hj : Sm j) (h : Q (f i j) H) : rI CDivW f (.int i) (.int j) H Q := ⟨i, j, rfl, rfl, wide_div hi hj (by decide) (by decide), h⟩
theorem w_mod {f : Int → Int → V} {i j : Int} (hi : 0 < j) (h : Q (f i j) H) : rI (fun _ j => 0 < j) f (.int i) (.int j) H Q := ⟨i, j, rfl, rfl, hi, h⟩
/-! fields, properties, methods, instances -/
def kFld (K : PySem.W.Frag) (f : Str) (Q : VK) : VK := fun x H1 => ∃ a C dx fs v, x = .ref a ∧ H1 a = some (.ins C dx fs) ∧ Cls K C ∧ NoAttr K C f ∧ fs.lookup f = some v ∧ Q v H1
theorem w_fld {f : Str} (h : ta σ H (kFld K f Q)) : tFld K ta f σ H Q := h
def kProp (C : Addr) (sp : Sp) (dvs : List V) (E : XK) (Q : VK) : VK := fun x H1 => ∃ a dx fs, x = .ref a ∧ H1 a = some (.ins C dx fs) ∧ sp (.ref a :: dvs) H1 Q E
theorem w_prop (h : ta σ H (kProp C sp dvs E Q)) : tProp C sp dvs E ta σ H Q := h
def kMeth (C : Addr) (m : Str) (sp : Sp) (dvs : List V) (E : XK) (tA : TA) (σ : L2.St) (Q : VK) : VK := fun x H1 => ∃ a dx fs, x = .ref a ∧ H1 a = some (.ins C dx fs) ∧ fs.lookup m = none ∧ tA σ H1 fun vs H2 => sp (x :: (vs ++ dvs)) H2 Q E
theorem w_meth {m : Str} (h : ta σ H (kMeth C m sp dvs E tA σ Q)) : tMeth C m sp dvs E ta tA σ H Q := h
end
end K22
end

/-! # K22h -/
section
set_option Elab.async false
set_option linter.all false
set_option autoImplicit false
set_option maxRecDepth 100000
set_option maxHeartbeats 4000000
namespace K22
open PySem PySem.Spec PyProof.Rows L2
open He (ga ma fAd)
open Evl (Ex ex_l ex_t sq_of st_of fresh_back)
/-! ## the ties that are looked at: straight, up -/
structure Ti where
  f : Int
  s : Int
  l : Int
  a : Int
def tieF (t : Ti) : List (Str × V) := [("own_first", .int t.f), ("own_second", .int t.s), ("own_length", .int t.l), ("own_amount", .int t.a), ("own_down", .bl false), ("own_backward", .bl false)]
def TieAt (K : PySem.W.Frag) (H : Hp) (a : Addr) (t : Ti) : Prop := ∃ dx, H a = some (.ins (ga K "Tie") dx (tieF t))
def LinkAt (K : PySem.W.Frag) (H : Hp) (a : Addr) (t : Ti) : Prop := ∃ dx vs b, SlX.Slt H a (ga K "Link") dx vs ∧ vs[2]? = some (some (.ref b)) ∧ TieAt K H b t
section
variable {K : PySem.W.Frag} {H H' : Hp} {a : Addr} {t : Ti} {o : HO}
theorem ex_at (e : Ex H H') (h : H a = some o) : H' a = some o := e a o h
theorem TieAt.ex (e : Ex H H') (h : TieAt K H a t) : TieAt K H' a t := let ⟨dx, h⟩ := h; ⟨dx, e _ _ h⟩
theorem slt_ex {C dx : Addr} {vs : List (Option V)} (e : Ex H H') (h : SlX.Slt H a C dx vs) : SlX.Slt H' a C dx vs := by
  rcases h with ⟨h1, h2⟩ | ⟨h1, h2⟩
  · exact .inl ⟨e _ _ h1, h2⟩
  · exact .inr ⟨e _ _ h1, e _ _ h2⟩
theorem LinkAt.ex (e : Ex H H') (h : LinkAt K H a t) : LinkAt K H' a t := let ⟨dx, vs, b, h1, h2, h3⟩ := h; ⟨dx, vs, b, slt_ex e h1, h2, h3.ex e⟩
end
/-! ## built-ins by names -/
def qInt1 : List V → Hp → VK → Prop := fun xs H Q => (∃ i, xs = [.int i] ∧ Q (.int i) H) ∨ ∃ k, xs = [.bl k] ∧ Q (.int (if k then 1 else 0)) H
def qMin2 : List V → Hp → VK → Prop := fun xs H Q => ∃ i j, xs = [.int i, .int j] ∧ Q (.int (if j < i then j else i)) H
def qMax2 : List V → Hp → VK → Prop := fun xs H Q => ∃ i j, xs = [.int i, .int j] ∧ Q (.int (if j > i then j else i)) H
def qAbs : List V → Hp → VK → Prop := fun xs H Q => ∃ i, xs = [.int i] ∧ Q (.int (if i < 0 then -i else i)) H
def qStrI : List V → Hp → VK → Prop := fun xs H Q => ∃ i, xs = [.int i] ∧ i.natAbs.log2 < 1920 ∧ Q (.str (toString i)) H
def qLen (K : PySem.W.Frag) : List V → Hp → VK → Prop := fun xs H Q => ∃ p ys, xs = [.ref p] ∧ (SqL K H p ys ∨ SqT K H p ys) ∧ Q (.int ys.length) H
section
variable {X : Cx} {C : Addr} {x : Str} {p pos : Pos} {v : V} {i : Int} {z : Str} {e : Expr} {te : TE}
theorem cl_int1 : CallR X (.type "int") qInt1 := call_int1
theorem cl_min2 (hc : X.calm = true) : CallR X (.builtin "min") qMin2 := call_min2 hc
theorem cl_max2 (hc : X.calm = true) : CallR X (.builtin "max") qMax2 := call_max2 hc
theorem cl_abs : CallR X (.builtin "abs") qAbs := call_abs
theorem cl_strI : CallR X (.type "str") qStrI := call_str_int
theorem cl_len : CallR X (.builtin "len") (qLen X.K) := call_len_seq
theorem g_int (hm : ∃ t, X.mg x = some (.int i t)) (hg : Gl X x := by rfl) (hd : (x == ("__debug__" : Str)) = false := by decide) : PE X (.Name x p) (tC (.int i)) := by
  obtain ⟨t, hm⟩ := hm
  exact pe_glob hg hm ⟨t, rfl⟩ hd
theorem g_str (hm : ∃ t, X.mg x = some (.str z t)) (hg : Gl X x := by rfl) (hd : (x == ("__debug__" : Str)) = false := by decide) : PE X (.Name x p) (tC (.str z)) := by
  obtain ⟨t, hm⟩ := hm
  exact pe_glob hg hm ⟨t, rfl⟩ hd
theorem g_ref (hm : X.mg x = some (.ref C)) (hg : Gl X x := by rfl) (hd : (x == ("__debug__" : Str)) = false := by decide) : PE X (.Name x p) (tC (.ref C)) := pe_glob hg hm rfl hd
theorem c_propSl {k : Nat} {g pa : Addr} {ps : List Str} {sp : Sp} {f : Str} (F : FnB X.prog X.w X.K X.mg X.base CX0 k g ps sp []) (hr : Room (k + 1) X.A) (c : SlX.SCls X.K C) (hp : PropOf X.K C f pa g) (he : PE X e te) (hb : attributeBase e f X.env (eval e X.env) = eval e X.env := by rfl) :
    PE X (.Attribute e f pos) (SlX.tPropSl C sp E0 te) := by
  obtain ⟨fd, ds, G, v, b⟩ := F
  cases v
  exact SlX.pe_propSl he c hp.at_ hp.get hp.tak hp.rec_ ((G.raw b .nil).imp fun vs H Q E h => by rw [List.append_nil]; exact h) hr (fun _ _ _ _ z => z) hb
end
section
variable {K : PySem.W.Frag} {mg : Str → Option Value} {σ : L2.St} {H : Hp} {Q : VK} {a : Addr} {t : Ti} {sp : Sp} {dvs : List V} {E : XK} {ta : TE}
theorem w_int1 {i : Int} (h : Q (.int i) H) : qInt1 [.int i] H Q := .inl ⟨i, rfl, h⟩
theorem w_intB {k : Bool} (h : Q (.int (if k then 1 else 0)) H) : qInt1 [.bl k] H Q := .inr ⟨k, rfl, h⟩
theorem w_min2 {i j : Int} (h : Q (.int (min i j)) H) : qMin2 [.int i, .int j] H Q := ⟨i, j, rfl, by
  have e : (if j < i then j else i) = min i j := by omega
  rw [e]; exact h⟩
theorem w_max2 {i j : Int} (h : Q (.int (max i j)) H) : qMax2 [.int i, .int j] H Q := ⟨i, j, rfl, by
  have e : (if j > i then j else i) = max i j := by omega
  rw [e]; exact h⟩
theorem w_abs {i : Int} (h : Q (.int (if i < 0 then -i else i)) H) : qAbs [.int i] H Q := ⟨i, rfl, h⟩
theorem w_len {xs : List V} (hl : SqL K H a xs) (h : Q (.int xs.length) H) : qLen K [.ref a] H Q := ⟨a, xs, rfl, .inl hl, h⟩
theorem w_isiI (h : Q (.bl true) H) {i : Int} : rIsi K [.int i, .ty "int"] H Q := ⟨_, _, _, _, true, rfl, .ty _, .base (.int i), kit_ty (by decide +kernel), h⟩
theorem w_isiNB (h : Q (.bl false) H) {i : Int} : rIsi K [.int i, .ty "bool"] H Q := ⟨_, _, _, _, false, rfl, .ty _, .base (.int i), kit_ty (by decide +kernel), h⟩
theorem w_isiB (h : Q (.bl true) H) {i : Bool} : rIsi K [.bl i, .ty "bool"] H Q := ⟨_, _, _, _, true, rfl, .ty _, .base (.bl i), kit_ty (by decide +kernel), h⟩
theorem w_isiS (h : Q (.bl true) H) {i : Str} : rIsi K [.str i, .ty "str"] H Q := ⟨_, _, _, _, true, rfl, .ty _, .base (.str i), kit_ty (by decide +kernel), h⟩
theorem w_isiT (T : Tx K mg) (hT : TieAt K H a t) (h : Q (.bl true) H) : rIsi K [.ref a, .ref (ga K "Tie")] H Q := by
  obtain ⟨dx, e⟩ := hT
  refine ⟨_, _, _, _, true, rfl, .own _, .base (.ins e T.c_Tie T.x_Tie_ca T.x_cn T.x_ct T.x_Tie_cm), ?_, h⟩
  unfold PySem.W.kitOne
  rw [if_pos (by simp)]
/-! ## a tie's fields -/
theorem w_fTd (T : Tx K mg) (hT : TieAt K H a t) (h : Q (.bl false) H) : kFld K "own_down" Q (.ref a) H := let ⟨dx, e⟩ := hT; ⟨a, _, dx, _, _, rfl, e, T.c_Tie, T.a_Tie_own_down, rfl, h⟩
theorem w_fTb (T : Tx K mg) (hT : TieAt K H a t) (h : Q (.bl false) H) : kFld K "own_backward" Q (.ref a) H := let ⟨dx, e⟩ := hT; ⟨a, _, dx, _, _, rfl, e, T.c_Tie, T.a_Tie_own_backward, rfl, h⟩
theorem w_fTf (T : Tx K mg) (hT : TieAt K H a t) (h : Q (.int t.f) H) : kFld K "own_first" Q (.ref a) H := let ⟨dx, e⟩ := hT; ⟨a, _, dx, _, _, rfl, e, T.c_Tie, T.a_Tie_own_first, rfl, h⟩
theorem w_fTs (T : Tx K mg) (hT : TieAt K H a t) (h : Q (.int t.s) H) : kFld K "own_second" Q (.ref a) H := let ⟨dx, e⟩ := hT; ⟨a, _, dx, _, _, rfl, e, T.c_Tie, T.a_Tie_own_second, rfl, h⟩
theorem w_fTl (T : Tx K mg) (hT : TieAt K H a t) (h : Q (.int t.l) H) : kFld K "own_length" Q (.ref a) H := let ⟨dx, e⟩ := hT; ⟨a, _, dx, _, _, rfl, e, T.c_Tie, T.a_Tie_own_length, rfl, h⟩
theorem w_fTa (T : Tx K mg) (hT : TieAt K H a t) (h : Q (.int t.a) H) : kFld K "own_amount" Q (.ref a) H := let ⟨dx, e⟩ := hT; ⟨a, _, dx, _, _, rfl, e, T.c_Tie, T.a_Tie_own_amount, rfl, h⟩
/-! the tie's properties, the link's field -/
def spT (K : PySem.W.Frag) (g : Ti → V) : Sp := fun vs H Q _ => ∃ a t, vs = [.ref a] ∧ TieAt K H a t ∧ Q (g t) H
theorem w_pT {g : Ti → V} (hT : TieAt K H a t) (h : Q (g t) H) : kProp (ga K "Tie") (spT K g) [] E Q (.ref a) H := let ⟨dx, e⟩ := hT; ⟨a, dx, _, rfl, e, a, t, rfl, ⟨dx, e⟩, h⟩
def kSl (K : PySem.W.Frag) (f : Str) (Q : VK) : VK := fun x H1 => ∃ a C dx p vs i v, x = .ref a ∧ SlX.Slt H1 a C dx vs ∧ SlX.SCls K C ∧ SlX.Slot1 K C f p i ∧ vs[i]? = some (some v) ∧ Q v H1
theorem w_sl {f : Str} (h : ta σ H (kSl K f Q)) : SlX.tSl K ta f σ H Q := h
theorem w_slT (T : Tx K mg) (hL : LinkAt K H a t) (h : ∀ b, TieAt K H b t → Q (.ref b) H) : kSl K "tie" Q (.ref a) H := by
  obtain ⟨dx, vs, b, h1, h2, h3⟩ := hL
  exact ⟨a, _, dx, _, vs, 2, _, rfl, h1, T.SC, T.sl_tie, h2, h b h3⟩
end
end K22
end

/-! # K22i -/
section
set_option Elab.async false
set_option linter.all false
set_option autoImplicit false
set_option maxRecDepth 100000
set_option maxHeartbeats 4000000
namespace K22
open PySem PySem.Spec PyProof.Rows L2
open He (ga ma fAd)
open Evl (Ex ex_l ex_t sq_of st_of fresh_back)
local macro_rules | `(tactic| walk_at "fx") => `(tactic| first
  | assumption
  | ((with_reducible apply TieAt.ex); (focus assumption); walk_at "fx")
  | ((with_reducible apply LinkAt.ex); (focus assumption); walk_at "fx")
  | ((with_reducible apply ex_l); (focus assumption); walk_at "fx")
  | ((with_reducible apply ex_t); (focus assumption); walk_at "fx")
  | ((with_reducible apply sq_of); walk_at "fx")
  | ((with_reducible apply st_of); walk_at "fx")
  | ((with_reducible apply ex_at); (focus assumption); walk_at "fx"))
local macro_rules | `(tactic| walk_at "s") => `(tactic| first
  | with_reducible refine w_seq ?_
  | ((with_reducible apply w_var); focus (exact rfl))
  | with_reducible refine w_c ?_
  | with_reducible refine w_op ?_
  | with_reducible refine w_cons ?_
  | with_reducible refine w_nil ?_
  | with_reducible refine w_asg ?_
  | with_reducible refine w_name ?_
  | with_reducible refine w_ret ?_
  | with_reducible refine w_retN ?_
  | with_reducible refine w_ifS ?_
  | with_reducible refine w_isB ?_
  | with_reducible refine w_test ?_
  | with_reducible refine w_tB ?_
  | with_reducible refine w_and ?_
  | with_reducible refine w_or ?_
  | with_reducible refine w_not ?_
  | with_reducible refine w_andV ?_
  | with_reducible refine w_orV ?_
  | with_reducible refine w_notV ?_
  | with_reducible refine w_if ?_
  | with_reducible refine w_iteT ?_
  | with_reducible refine w_iteF ?_
  | with_reducible refine w_iteNT ?_
  | with_reducible refine w_iteNF ?_
  | with_reducible refine w_un ?_
  | with_reducible refine w_call ?_
  | with_reducible refine w_cb ?_
  | with_reducible refine w_next ?_
  | with_reducible refine w_drop ?_
  | with_reducible refine w_for ?_
  | with_reducible refine w_dget0 ?_
  | with_reducible refine w_prsC ?_
  | with_reducible refine w_prsN ?_
  | with_reducible refine w_iZA ?_
  | with_reducible refine w_gSub ?_
  | with_reducible refine w_iR1 ?_
  | with_reducible refine w_p8 ?_
  | with_reducible refine w_p60 ?_
  | with_reducible refine w_p5 ?_
  | with_reducible refine w_p18 ?_
  | with_reducible refine w_p9 ?_
  | with_reducible refine w_p19 ?_
  | with_reducible refine w_p29 ?_
  | with_reducible refine w_m1 ?_
  | with_reducible refine w_kM1 ?_
  | with_reducible refine w_iStr ?_
  | with_reducible refine w_kStr ?_
  | with_reducible refine w_inS ?_
  | with_reducible refine w_sta ?_
  | with_reducible refine w_iEnumT ?_
  | with_reducible refine w_thn ?_
  | with_reducible refine w_chain ?_
  | with_reducible refine w_gAttr ?_
  | with_reducible refine w_isNr ?_
  | with_reducible refine w_iEnum ?_
  | ((with_reducible apply w_kEnum); focus (walk_at "fx"))
  | with_reducible refine w_sl3 ?_
  | with_reducible refine w_noPart ?_
  | with_reducible refine w_part ?_
  | with_reducible refine w_kPt ?_
  | with_reducible refine w_bm ?_
  | with_reducible refine w_ckw ?_
  | with_reducible refine w_tst ?_
  | with_reducible refine w_mk ?_
  | ((with_reducible apply w_psl); (focus (walk_at "fx")))
  | ((with_reducible apply w_mT); (focus (walk_at "fx")); (focus (exact rfl)))
  | ((with_reducible apply w_partner); (focus (walk_at "fx")))
  | ((with_reducible apply w_led); (focus (walk_at "fx")))
  | ((with_reducible apply w_spT); (focus (walk_at "fx")))
  | with_reducible refine w_lc ?_
  | with_reducible refine w_yes ?_
  | with_reducible refine w_gCons ?_
  | with_reducible refine w_gNil ?_
  | ((with_reducible apply w_gTup); (focus (walk_at "fx")); focus (exact rfl))
  | ((with_reducible apply w_minL2); focus (walk_at "fx"))
  | ((with_reducible apply w_slT); (focus assumption); (focus (walk_at "fx")))
  | ((with_reducible apply w_kIT); focus (walk_at "fx"))
  | ((with_reducible apply w_kIL); focus (walk_at "fx"))
  | with_reducible refine w_neg ?_
  | with_reducible refine w_tie ?_
  | with_reducible refine w_iT ?_
  | with_reducible refine w_iL ?_
  | with_reducible refine w_sFld ?_
  | with_reducible refine w_sSl ?_
  | with_reducible refine w_propSl ?_
  | with_reducible refine w_par ?_
  | with_reducible refine w_kPar ?_
  | with_reducible refine w_tup ?_
  | with_reducible refine w_lst ?_
  | with_reducible refine w_I0 ?_
  | with_reducible refine w_U ?_
  | with_reducible refine w_eqI ?_
  | with_reducible refine w_neI ?_
  | with_reducible refine w_eqS ?_
  | with_reducible refine w_neS ?_
  | with_reducible refine w_eqB ?_
  | with_reducible refine w_neB ?_
  | with_reducible refine w_isNn ?_
  | with_reducible refine w_isNr ?_
  | with_reducible refine w_isNi ?_
  | with_reducible refine w_notNn ?_
  | with_reducible refine w_notNr ?_
  | with_reducible refine w_notNi ?_
  | with_reducible refine w_xisN ?_
  | with_reducible refine w_fld ?_
  | with_reducible refine w_prop ?_
  | with_reducible refine w_meth ?_
  | ((with_reducible apply w_mod); focus assumption)
  | ((with_reducible apply w_mulW); (focus assumption); focus assumption)
  | ((with_reducible apply w_divW); (focus assumption); focus assumption)
  | with_reducible refine w_int1 ?_
  | with_reducible refine w_intB ?_
  | with_reducible refine w_min2 ?_
  | with_reducible refine w_max2 ?_
  | with_reducible refine w_abs ?_
  | with_reducible refine w_isiI ?_
  | with_reducible refine w_isiNB ?_
  | with_reducible refine w_isiB ?_
  | with_reducible refine w_isiS ?_
  | ((with_reducible apply w_isiT); (focus assumption); focus (walk_at "fx"))
  | ((with_reducible apply w_fTd); (focus assumption); focus (walk_at "fx"))
  | ((with_reducible apply w_fTb); (focus assumption); focus (walk_at "fx"))
  | ((with_reducible apply w_fTf); (focus assumption); focus (walk_at "fx"))
  | ((with_reducible apply w_fTs); (focus assumption); focus (walk_at "fx"))
  | ((with_reducible apply w_fTl); (focus assumption); focus (walk_at "fx"))
  | ((with_reducible apply w_fTa); (focus assumption); focus (walk_at "fx"))
  | ((with_reducible apply w_pT); focus (walk_at "fx"))
  | with_reducible refine w_sl ?_
  | ((with_reducible apply w_len); focus (walk_at "fx"))
  | ((with_reducible apply w_kT); focus (exact Nat.le_of_ble_eq_true rfl)))
local macro_rules | `(tactic| walk_at "ss") => `(tactic| repeat (walk_at "s"))
local macro_rules | `(tactic| walk_at "go") => `(tactic| ((try dsimp only [cxOf, Cx.nox, Cx.wish]); walk_at "ss"))
local macro_rules | `(tactic| walk_at "len") => `(tactic| (intro vs H Q E h; (repeat (obtain ⟨_, h⟩ := h)); all_goals (subst_vars; rfl)))
section
variable {P : Program} {w : World} {K : PySem.W.Frag} {mg : Str → Option Value} {base : Heap}
theorem ok_Tie_first (T : Tx K mg) : FnB P w K mg base CX0 1 (gAd K d_Tie_first.at_) ["self"] (spT K fun t => .int t.f) [] := by
  refine mkB (k := 0) T.f_Tie_first sc_Tie_first (fun _ _ _ _ _ _ us hl => match us, hl with | [_], _ => rfl) (by walk_at "len") fun cdv A outer s H vs Q E hr h => ?_
  obtain ⟨a, t, rfl, hT, k⟩ := h
  refine ⟨_, (pss_one (ps_ret (pe_fld (pv 0) rfl))), ?_⟩
  walk_at "go"
  exact k
theorem ok_Tie_second (T : Tx K mg) : FnB P w K mg base CX0 1 (gAd K d_Tie_second.at_) ["self"] (spT K fun t => .int t.s) [] := by
  refine mkB (k := 0) T.f_Tie_second sc_Tie_second (fun _ _ _ _ _ _ us hl => match us, hl with | [_], _ => rfl) (by walk_at "len") fun cdv A outer s H vs Q E hr h => ?_
  obtain ⟨a, t, rfl, hT, k⟩ := h
  refine ⟨_, (pss_one (ps_ret (pe_fld (pv 0) rfl))), ?_⟩
  walk_at "go"
  exact k
theorem ok_Tie_length (T : Tx K mg) : FnB P w K mg base CX0 1 (gAd K d_Tie_length.at_) ["self"] (spT K fun t => .int t.l) [] := by
  refine mkB (k := 0) T.f_Tie_length sc_Tie_length (fun _ _ _ _ _ _ us hl => match us, hl with | [_], _ => rfl) (by walk_at "len") fun cdv A outer s H vs Q E hr h => ?_
  obtain ⟨a, t, rfl, hT, k⟩ := h
  refine ⟨_, (pss_one (ps_ret (pe_fld (pv 0) rfl))), ?_⟩
  walk_at "go"
  exact k
theorem ok_Tie_amount (T : Tx K mg) : FnB P w K mg base CX0 1 (gAd K d_Tie_amount.at_) ["self"] (spT K fun t => .int t.a) [] := by
  refine mkB (k := 0) T.f_Tie_amount sc_Tie_amount (fun _ _ _ _ _ _ us hl => match us, hl with | [_], _ => rfl) (by walk_at "len") fun cdv A outer s H vs Q E hr h => ?_
  obtain ⟨a, t, rfl, hT, k⟩ := h
  refine ⟨_, (pss_one (ps_ret (pe_fld (pv 0) rfl))), ?_⟩
  walk_at "go"
  exact k
theorem ok_Tie_down (T : Tx K mg) : FnB P w K mg base CX0 1 (gAd K d_Tie_down.at_) ["self"] (spT K fun _ => .bl false) [] := by
  refine mkB (k := 0) T.f_Tie_down sc_Tie_down (fun _ _ _ _ _ _ us hl => match us, hl with | [_], _ => rfl) (by walk_at "len") fun cdv A outer s H vs Q E hr h => ?_
  obtain ⟨a, t, rfl, hT, k⟩ := h
  refine ⟨_, (pss_one (ps_ret (pe_fld (pv 0) rfl))), ?_⟩
  walk_at "go"
  exact k
theorem ok_Tie_backward (T : Tx K mg) : FnB P w K mg base CX0 1 (gAd K d_Tie_backward.at_) ["self"] (spT K fun _ => .bl false) [] := by
  refine mkB (k := 0) T.f_Tie_backward sc_Tie_backward (fun _ _ _ _ _ _ us hl => match us, hl with | [_], _ => rfl) (by walk_at "len") fun cdv A outer s H vs Q E hr h => ?_
  obtain ⟨a, t, rfl, hT, k⟩ := h
  refine ⟨_, (pss_one (ps_ret (pe_fld (pv 0) rfl))), ?_⟩
  walk_at "go"
  exact k
theorem ok_Tie_shift (T : Tx K mg) : FnB P w K mg base CX0 1 (gAd K d_Tie_shift.at_) ["self"] (spT K fun t => .int (t.s - t.f)) [] := by
  refine mkB (k := 0) T.f_Tie_shift sc_Tie_shift (fun _ _ _ _ _ _ us hl => match us, hl with | [_], _ => rfl) (by walk_at "len") fun cdv A outer s H vs Q E hr h => ?_
  obtain ⟨a, t, rfl, hT, k⟩ := h
  refine ⟨_, (pss_one (ps_ret (pe_op op_sub (pe_fld (pv 0) rfl) (pe_fld (pv 0) rfl)))), ?_⟩
  walk_at "go"
  exact k
end
end K22
end

/-! # K22j -/
section
set_option Elab.async false
set_option linter.all false
set_option autoImplicit false
set_option maxRecDepth 100000
set_option maxHeartbeats 4000000
namespace K22
open PySem PySem.Spec PyProof.Rows L2
open He (ga ma fAd)
open Evl (Ex ex_l ex_t sq_of st_of fresh_back)
local macro_rules | `(tactic| walk_at "fx") => `(tactic| first
  | assumption
  | ((with_reducible apply TieAt.ex); (focus assumption); walk_at "fx")
  | ((with_reducible apply LinkAt.ex); (focus assumption); walk_at "fx")
  | ((with_reducible apply ex_l); (focus assumption); walk_at "fx")
  | ((with_reducible apply ex_t); (focus assumption); walk_at "fx")
  | ((with_reducible apply sq_of); walk_at "fx")
  | ((with_reducible apply st_of); walk_at "fx")
  | ((with_reducible apply ex_at); (focus assumption); walk_at "fx"))
local macro_rules | `(tactic| walk_at "s") => `(tactic| first
  | with_reducible refine w_seq ?_
  | ((with_reducible apply w_var); focus (exact rfl))
  | with_reducible refine w_c ?_
  | with_reducible refine w_op ?_
  | with_reducible refine w_cons ?_
  | with_reducible refine w_nil ?_
  | with_reducible refine w_asg ?_
  | with_reducible refine w_name ?_
  | with_reducible refine w_ret ?_
  | with_reducible refine w_retN ?_
  | with_reducible refine w_ifS ?_
  | with_reducible refine w_isB ?_
  | with_reducible refine w_test ?_
  | with_reducible refine w_tB ?_
  | with_reducible refine w_and ?_
  | with_reducible refine w_or ?_
  | with_reducible refine w_not ?_
  | with_reducible refine w_andV ?_
  | with_reducible refine w_orV ?_
  | with_reducible refine w_notV ?_
  | with_reducible refine w_if ?_
  | with_reducible refine w_iteT ?_
  | with_reducible refine w_iteF ?_
  | with_reducible refine w_iteNT ?_
  | with_reducible refine w_iteNF ?_
  | with_reducible refine w_un ?_
  | with_reducible refine w_call ?_
  | with_reducible refine w_cb ?_
  | with_reducible refine w_next ?_
  | with_reducible refine w_drop ?_
  | with_reducible refine w_for ?_
  | with_reducible refine w_dget0 ?_
  | with_reducible refine w_prsC ?_
  | with_reducible refine w_prsN ?_
  | with_reducible refine w_iZA ?_
  | with_reducible refine w_gSub ?_
  | with_reducible refine w_iR1 ?_
  | with_reducible refine w_p8 ?_
  | with_reducible refine w_p60 ?_
  | with_reducible refine w_p5 ?_
  | with_reducible refine w_p18 ?_
  | with_reducible refine w_p9 ?_
  | with_reducible refine w_p19 ?_
  | with_reducible refine w_p29 ?_
  | with_reducible refine w_m1 ?_
  | with_reducible refine w_kM1 ?_
  | with_reducible refine w_iStr ?_
  | with_reducible refine w_kStr ?_
  | with_reducible refine w_inS ?_
  | with_reducible refine w_sta ?_
  | with_reducible refine w_iEnumT ?_
  | with_reducible refine w_thn ?_
  | with_reducible refine w_chain ?_
  | with_reducible refine w_gAttr ?_
  | with_reducible refine w_isNr ?_
  | with_reducible refine w_iEnum ?_
  | ((with_reducible apply w_kEnum); focus (walk_at "fx"))
  | with_reducible refine w_sl3 ?_
  | with_reducible refine w_noPart ?_
  | with_reducible refine w_part ?_
  | with_reducible refine w_kPt ?_
  | with_reducible refine w_bm ?_
  | with_reducible refine w_ckw ?_
  | with_reducible refine w_tst ?_
  | with_reducible refine w_mk ?_
  | ((with_reducible apply w_psl); (focus (walk_at "fx")))
  | ((with_reducible apply w_mT); (focus (walk_at "fx")); (focus (exact rfl)))
  | ((with_reducible apply w_partner); (focus (walk_at "fx")))
  | ((with_reducible apply w_led); (focus (walk_at "fx")))
  | ((with_reducible apply w_spT); (focus (walk_at "fx")))
  | with_reducible refine w_lc ?_
  | with_reducible refine w_yes ?_
  | with_reducible refine w_gCons ?_
  | with_reducible refine w_gNil ?_
  | ((with_reducible apply w_gTup); (focus (walk_at "fx")); focus (exact rfl))
  | ((with_reducible apply w_minL2); focus (walk_at "fx"))
  | ((with_reducible apply w_slT); (focus assumption); (focus (walk_at "fx")))
  | ((with_reducible apply w_kIT); focus (walk_at "fx"))
  | ((with_reducible apply w_kIL); focus (walk_at "fx"))
  | with_reducible refine w_neg ?_
  | with_reducible refine w_tie ?_
  | with_reducible refine w_iT ?_
  | with_reducible refine w_iL ?_
  | with_reducible refine w_sFld ?_
  | with_reducible refine w_sSl ?_
  | with_reducible refine w_propSl ?_
  | with_reducible refine w_par ?_
  | with_reducible refine w_kPar ?_
  | with_reducible refine w_tup ?_
  | with_reducible refine w_lst ?_
  | with_reducible refine w_I0 ?_
  | with_reducible refine w_U ?_
  | with_reducible refine w_eqI ?_
  | with_reducible refine w_neI ?_
  | with_reducible refine w_eqS ?_
  | with_reducible refine w_neS ?_
  | with_reducible refine w_eqB ?_
  | with_reducible refine w_neB ?_
  | with_reducible refine w_isNn ?_
  | with_reducible refine w_isNr ?_
  | with_reducible refine w_isNi ?_
  | with_reducible refine w_notNn ?_
  | with_reducible refine w_notNr ?_
  | with_reducible refine w_notNi ?_
  | with_reducible refine w_xisN ?_
  | with_reducible refine w_fld ?_
  | with_reducible refine w_prop ?_
  | with_reducible refine w_meth ?_
  | ((with_reducible apply w_mod); focus assumption)
  | ((with_reducible apply w_mulW); (focus assumption); focus assumption)
  | ((with_reducible apply w_divW); (focus assumption); focus assumption)
  | with_reducible refine w_int1 ?_
  | with_reducible refine w_intB ?_
  | with_reducible refine w_min2 ?_
  | with_reducible refine w_max2 ?_
  | with_reducible refine w_abs ?_
  | with_reducible refine w_isiI ?_
  | with_reducible refine w_isiNB ?_
  | with_reducible refine w_isiB ?_
  | with_reducible refine w_isiS ?_
  | ((with_reducible apply w_isiT); (focus assumption); focus (walk_at "fx"))
  | ((with_reducible apply w_fTd); (focus assumption); focus (walk_at "fx"))
  | ((with_reducible apply w_fTb); (focus assumption); focus (walk_at "fx"))
  | ((with_reducible apply w_fTf); (focus assumption); focus (walk_at "fx"))
  | ((with_reducible apply w_fTs); (focus assumption); focus (walk_at "fx"))
  | ((with_reducible apply w_fTl); (focus assumption); focus (walk_at "fx"))
  | ((with_reducible apply w_fTa); (focus assumption); focus (walk_at "fx"))
  | ((with_reducible apply w_pT); focus (walk_at "fx"))
  | with_reducible refine w_sl ?_
  | ((with_reducible apply w_len); focus (walk_at "fx"))
  | ((with_reducible apply w_kT); focus (exact Nat.le_of_ble_eq_true rfl)))
local macro_rules | `(tactic| walk_at "ss") => `(tactic| repeat (walk_at "s"))
local macro_rules | `(tactic| walk_at "go") => `(tactic| ((try dsimp only [cxOf, Cx.nox, Cx.wish]); walk_at "ss"))
local macro_rules | `(tactic| walk_at "len") => `(tactic| (intro vs H Q E h; (repeat (obtain ⟨_, h⟩ := h)); all_goals (subst_vars; rfl)))
theorem w_iteD {c A B : Prop} [Decidable c] (h1 : c → A) (h2 : ¬c → B) : if decide c = true then A else B := by
  by_cases hc : c
  · rw [decide_eq_true hc]; exact h1 hc
  · rw [decide_eq_false hc]; exact h2 hc
theorem bl_of {c d : Bool} {Q : VK} {H : Hp} (e : c = d) (h : Q (.bl d) H) : Q (.bl c) H := by rw [e]; exact h
/-! ## is_integer -/
def oV : Option Int → V
  | none => .non
  | some i => .int i
def isI (v : Int) (lo hi : Option Int) : Bool := (match lo with | none => true | some l => decide (l ≤ v)) && (match hi with | none => true | some h => decide (v ≤ h))
def spIsInt : Sp := fun vs H Q _ => ∃ v lo hi, vs = [.int v, oV lo, oV hi] ∧ Q (.bl (isI v lo hi)) H
section
variable {P : Program} {w : World} {K : PySem.W.Frag} {mg : Str → Option Value} {base : Heap}
theorem ok_is_integer (T : Tx K mg) {fd : FuncData} (F : FunD K "is_integer" "is_integer" (defArgs s_is_integer) (defBody s_is_integer) (defScope s_is_integer) [.non, .non] [] (ga K "is_integer") fd) : FnOk P w K mg base CX0 1 (ga K "is_integer") fd ["value", "least", "most"] spIsInt := by
  refine F.ok sc_is_integer (by walk_at "len") fun cdv A outer s H vs Q E hr h => ?_
  obtain ⟨v, lo, hi, rfl, k⟩ := h
  refine ⟨_, PSs.nox ((pss_cons (ps_if (PW.pt (pw_or (pt_not (pt_val (pe_callB call_isi (by rfl) T.b_isinstance (by decide +kernel) (pa_cons (pv 0) (pa_cons (pe_bltn (by rfl) T.b_int (by decide +kernel) (v := .ty "int") rfl) pa_nil))))) (pw_or1 (pt_val (pe_callB call_isi (by rfl) T.b_isinstance (by decide +kernel) (pa_cons (pv 0) (pa_cons (pe_bltn (by rfl) T.b_bool (by decide +kernel) (v := .ty "bool") rfl) pa_nil))))))) (pss_one (ps_ret pe_bl)) pss_nil)
      (pss_one (ps_ret (pe_and (pe_or (pe_cmpR op_isN1 (pv 1) pe_non (nomark _)) (pe_one (pe_cmpR op_ge (pv 0) (pv 1) (nomark _)))) (pe_one (pe_or (pe_cmpR op_isN1 (pv 2) pe_non (nomark _)) (pe_one (pe_cmpR op_le (pv 0) (pv 2) (nomark _)))))))))), ?_⟩
  cases lo with
  | none =>
    cases hi with
    | none => simp only [oV]; walk_at "ss"; exact k
    | some h => simp only [oV]; walk_at "ss"; exact k
  | some l =>
    cases hi with
    | none =>
      simp only [oV]; walk_at "ss"
      refine w_iteD (fun c => ?_) fun c => ?_
      · walk_at "ss"; exact bl_of (by simp only [isI]; rw [decide_eq_true c]; rfl) k
      · walk_at "ss"; exact bl_of (by simp only [isI]; rw [decide_eq_false c]; rfl) k
    | some h =>
      simp only [oV]; walk_at "ss"
      refine w_iteD (fun c => ?_) fun c => ?_
      · walk_at "ss"; exact bl_of (by simp only [isI]; rw [decide_eq_true c]; rfl) k
      · walk_at "ss"; exact bl_of (by simp only [isI]; rw [decide_eq_false c]; rfl) k
theorem ok_is_integer3 (T : Tx K mg) : FnB P w K mg base CX0 1 (ga K "is_integer") ["value", "least", "most"] spIsInt [] := by
  obtain ⟨fd, F⟩ := T.f_is_integer
  obtain ⟨ds, v, b⟩ := F.binds1 (ps := ["value", "least", "most"]) 3 2 (by simp) rfl fun T kV doc pm an cdv ct us its h1 h2 => match us, h1, its, h2 with | [_, _, _], _, [_, _], _ => ⟨_, rfl, rfl⟩
  exact ⟨fd, ds, ok_is_integer T F, v, b⟩
theorem ok_is_integer2 (T : Tx K mg) : FnB P w K mg base CX0 1 (ga K "is_integer") ["value", "least", "most"] spIsInt [.non] := by
  obtain ⟨fd, F⟩ := T.f_is_integer
  obtain ⟨ds, v, b⟩ := F.binds1 (ps := ["value", "least", "most"]) 2 1 (by simp) rfl fun T kV doc pm an cdv ct us its h1 h2 => match us, h1, its, h2 with | [_, _], _, [_, _], _ => ⟨_, rfl, rfl⟩
  exact ⟨fd, ds, ok_is_integer T F, v, b⟩
theorem ok_is_integer1 (T : Tx K mg) : FnB P w K mg base CX0 1 (ga K "is_integer") ["value", "least", "most"] spIsInt [.non, .non] := by
  obtain ⟨fd, F⟩ := T.f_is_integer
  obtain ⟨ds, v, b⟩ := F.binds1 (ps := ["value", "least", "most"]) 1 0 (by simp) rfl fun T kV doc pm an cdv ct us its h1 h2 => match us, h1, its, h2 with | [_], _, [_, _], _ => ⟨_, rfl, rfl⟩
  exact ⟨fd, ds, ok_is_integer T F, v, b⟩
theorem w_isI3 {v lo hi : Int} {E : XK} {Q : VK} {H : Hp} (h1 : lo ≤ v) (h2 : v ≤ hi) (h : Q (.bl true) H) : spIsInt ([.int v, .int lo, .int hi] ++ []) H Q E := ⟨v, some lo, some hi, rfl, bl_of (by simp [isI, h1, h2]) h⟩
theorem w_isI2 {v lo : Int} {E : XK} {Q : VK} {H : Hp} (h1 : lo ≤ v) (h : Q (.bl true) H) : spIsInt ([.int v, .int lo] ++ [.non]) H Q E := ⟨v, some lo, none, rfl, bl_of (by simp [isI, h1]) h⟩
theorem w_isI1 {v : Int} {E : XK} {Q : VK} {H : Hp} (h : Q (.bl true) H) : spIsInt ([.int v] ++ [.non, .non]) H Q E := ⟨v, none, none, rfl, h⟩
/-! ## of one tie -/
def spPartner (K : PySem.W.Frag) : Sp := fun vs H Q _ => ∃ a t x, vs = [.ref a, .int x] ∧ TieAt K H a t ∧ Q (.int (x + (t.s - t.f))) H
theorem ok_Tie_partner (T : Tx K mg) : FnB P w K mg base CX0 3 (ma K (ga K "Tie") "partner") ["self", "place"] (spPartner K) [] := by
  refine mkB (k := 2) T.f_Tie_partner sc_Tie_partner (fun _ _ _ _ _ _ us hl => match us, hl with | [_, _], _ => rfl) (by walk_at "len") fun cdv A outer s H vs Q E hr h => ?_
  obtain ⟨a, t, x, rfl, hT, k⟩ := h
  refine ⟨_, (pss_one (ps_ret (pe_ifExp (pt_val (pe_fld (pv 0) rfl)) pe_no (pe_op op_add (pv 1) (c_prop (ok_Tie_shift T) (hr.mono (by decide)) T.c_Tie T.p_Tie_shift (pv 0)))))), ?_⟩
  walk_at "go"
  exact k
def spLed (K : PySem.W.Frag) : Sp := fun vs H Q _ => ∃ a t x, vs = [.ref a, .int x] ∧ TieAt K H a t ∧ Q (.int (t.a + x)) H
theorem ok_Tie_led (T : Tx K mg) : FnB P w K mg base CX0 2 (ma K (ga K "Tie") "led") ["self", "note"] (spLed K) [] := by
  refine mkB (k := 1) T.f_Tie_led sc_Tie_led (fun _ _ _ _ _ _ us hl => match us, hl with | [_, _], _ => rfl) (by walk_at "len") fun cdv A outer s H vs Q E hr h => ?_
  obtain ⟨a, t, x, rfl, hT, k⟩ := h
  refine ⟨_, (pss_cons (ps_if (pt_not (pt_val (c_fn (ok_is_integer1 T) (hr.mono (by decide)) T.m_is_integer T.kp_is_integer pass0 (pa_cons (pv 1) pa_nil)))) (pss_one ps_never) pss_nil)
      (pss_one (ps_ret (pe_ifExp (pt_val (pe_fld (pv 0) rfl)) (pe_op op_sub (pe_fld (pv 0) rfl) (pv 1)) (pe_op op_add (pe_fld (pv 0) rfl) (pv 1)))))), ?_⟩
  walk_at "go"
  refine w_isI1 ?_
  walk_at "ss"
  exact k
theorem ok_is_one_part (T : Tx K mg) : FnB P w K mg base CX0 3 (ga K "is_one_part") ["tie"] (spT K fun t => .bl (decide (t.f = t.s))) [] := by
  refine mkB (k := 2) T.f_is_one_part sc_is_one_part (fun _ _ _ _ _ _ us hl => match us, hl with | [_], _ => rfl) (by walk_at "len") fun cdv A outer s H vs Q E hr h => ?_
  obtain ⟨a, t, rfl, hT, k⟩ := h
  refine ⟨_, (pss_one (ps_ret (pe_and (pe_cmpR op_eq (c_prop (ok_Tie_first T) (hr.mono (by decide)) T.c_Tie T.p_Tie_first (pv 0)) (c_prop (ok_Tie_second T) (hr.mono (by decide)) T.c_Tie T.p_Tie_second (pv 0)) (nomark _)) (pe_one (pe_not (c_prop (ok_Tie_backward T) (hr.mono (by decide)) T.c_Tie T.p_Tie_backward (pv 0))))))), ?_⟩
  walk_at "go"
  refine w_iteD (fun c => ?_) fun c => ?_
  · walk_at "ss"; exact bl_of (decide_eq_true c).symm k
  · exact bl_of (decide_eq_false c).symm k
theorem w_spT {g : Ti → V} {a : Addr} {t : Ti} {H : Hp} {Q : VK} {E : XK} (hT : TieAt K H a t) (h : Q (g t) H) : spT K g ([.ref a] ++ []) H Q E := ⟨a, t, rfl, hT, h⟩
theorem ok_is_pin (T : Tx K mg) : FnB P w K mg base CX0 4 (ga K "is_pin") ["tie"] (spT K fun t => .bl false) [] := by
  refine mkB (k := 3) T.f_is_pin sc_is_pin (fun _ _ _ _ _ _ us hl => match us, hl with | [_], _ => rfl) (by walk_at "len") fun cdv A outer s H vs Q E hr h => ?_
  obtain ⟨a, t, rfl, hT, k⟩ := h
  refine ⟨_, (pss_one (ps_ret (pe_and (c_prop (ok_Tie_down T) (hr.mono (by decide)) T.c_Tie T.p_Tie_down (pv 0)) (pe_one (c_fn (ok_is_one_part T) (hr.mono (by decide)) T.m_is_one_part T.kp_is_one_part pass0 (pa_cons (pv 0) pa_nil)))))), ?_⟩
  walk_at "go"
  exact k
def broken (t : Ti) : Bool := decide (t.f = t.s) && decide (t.a ≠ 0)
theorem ok_cannot_be (T : Tx K mg) : FnB P w K mg base CX0 4 (ga K "cannot_be") ["tie"] (spT K fun t => .bl (broken t)) [] := by
  refine mkB (k := 3) T.f_cannot_be sc_cannot_be (fun _ _ _ _ _ _ us hl => match us, hl with | [_], _ => rfl) (by walk_at "len") fun cdv A outer s H vs Q E hr h => ?_
  obtain ⟨a, t, rfl, hT, k⟩ := h
  refine ⟨_, (pss_cons (ps_if (pt_not (pt_val (c_fn (ok_is_one_part T) (hr.mono (by decide)) T.m_is_one_part T.kp_is_one_part pass0 (pa_cons (pv 0) pa_nil)))) (pss_one (ps_ret pe_bl)) pss_nil)
      (pss_one (ps_ret (pe_ifExp (pt_val (c_prop (ok_Tie_down T) (hr.mono (by decide)) T.c_Tie T.p_Tie_down (pv 0))) (pe_cmpR op_eq (pe_op op_mod (c_prop (ok_Tie_amount T) (hr.mono (by decide)) T.c_Tie T.p_Tie_amount (pv 0)) pe_int) pe_int (nomark _)) (pe_cmpR op_ne (c_prop (ok_Tie_amount T) (hr.mono (by decide)) T.c_Tie T.p_Tie_amount (pv 0)) pe_int (nomark _)))))), ?_⟩
  walk_at "go"
  refine w_spT hT ?_
  walk_at "ss"
  by_cases c : t.f = t.s
  · rw [decide_eq_true c]
    walk_at "ss"
    exact bl_of (d := broken t) (by simp [broken, c]) k
  · rw [decide_eq_false c]
    walk_at "ss"
    exact bl_of (d := broken t) (by simp [broken, c]) k
def spRounds (K : PySem.W.Frag) : Sp := fun vs H Q _ => ∃ a t x lo, vs = [.ref a, .int x, .int lo] ∧ TieAt K H a t ∧ t.f < t.s ∧ Sm (t.s - t.f) ∧ Q (.int ((x - lo) / (t.s - t.f) + 1)) H
theorem ok_rounds (T : Tx K mg) : FnB P w K mg base CX0 3 (ga K "rounds") ["tie", "place", "low"] (spRounds K) [] := by
  refine mkB (k := 2) T.f_rounds sc_rounds (fun _ _ _ _ _ _ us hl => match us, hl with | [_, _, _], _ => rfl) (by walk_at "len") fun cdv A outer s H vs Q E hr h => ?_
  obtain ⟨a, t, x, lo, rfl, hT, hlt, hS, k⟩ := h
  refine ⟨_, (pss_one (ps_ret (pe_ifExp (PW.pt (pw_or (pt_val (c_prop (ok_Tie_backward T) (hr.mono (by decide)) T.c_Tie T.p_Tie_backward (pv 0))) (pw_or1 (pt_cmpR op_eq (c_prop (ok_Tie_first T) (hr.mono (by decide)) T.c_Tie T.p_Tie_first (pv 0)) (c_prop (ok_Tie_second T) (hr.mono (by decide)) T.c_Tie T.p_Tie_second (pv 0)) (nomark _))))) pe_int (pe_op op_add (pe_op op_fdivW (pe_op op_sub (pv 1) (pv 2)) (pe_op op_sub (c_prop (ok_Tie_second T) (hr.mono (by decide)) T.c_Tie T.p_Tie_second (pv 0)) (c_prop (ok_Tie_first T) (hr.mono (by decide)) T.c_Tie T.p_Tie_first (pv 0)))) pe_int)))), ?_⟩
  have hp : 0 < t.s - t.f := by omega
  walk_at "go"
  refine w_iteN (by omega) ?_
  walk_at "ss"
  exact k
def spOften (K : PySem.W.Frag) : Sp := fun vs H Q _ => ∃ a t m, vs = [.ref a, .int m] ∧ TieAt K H a t ∧ Sm t.a ∧ Sm m ∧ ∀ p H', H p = none → Ex H H' → H' p = some (.tup [.int (t.a * m), .bl false]) → Q (.ref p) H'
theorem ok_Tie_led_often (T : Tx K mg) : FnB P w K mg base CX0 1 (ma K (ga K "Tie") "led_often") ["self", "many"] (spOften K) [] := by
  refine mkB (k := 0) T.f_Tie_led_often sc_Tie_led_often (fun _ _ _ _ _ _ us hl => match us, hl with | [_, _], _ => rfl) (by walk_at "len") fun cdv A outer s H vs Q E hr h => ?_
  obtain ⟨a, t, m, rfl, hT, h1, h2, k⟩ := h
  refine ⟨_, (pss_cons (ps_if (pt_val (pe_fld (pv 0) rfl)) (pss_one (ps_ret (pe_tup (pa_cons (pe_op op_mulW (pe_fld (pv 0) rfl) (pe_op op_mod (pv 1) pe_int)) (pa_cons (pe_cmpR op_eq (pe_op op_mod (pv 1) pe_int) pe_int (nomark _)) pa_nil))))) pss_nil)
      (pss_one (ps_ret (pe_tup (pa_cons (pe_op op_mulW (pe_fld (pv 0) rfl) (pv 1)) (pa_cons pe_bl pa_nil)))))), ?_⟩
  walk_at "go"
  exact fun p H1 hp e h => k p H1 hp e h
def spInto (K : PySem.W.Frag) : Sp := fun vs H Q _ => ∃ a t x y, vs = [.ref a, .int x, .int y] ∧ TieAt K H a t ∧ ∀ p H', H p = none → Ex H H' → H' p = some (.tup [.int (max (x - (t.s - t.f)) t.f), .int (min (y - (t.s - t.f)) (t.f + t.l))]) → Q (.ref p) H'
theorem ok_Tie_places_into (T : Tx K mg) : FnB P w K mg base CX0 3 (ma K (ga K "Tie") "places_into") ["self", "first", "behind"] (spInto K) [] := by
  refine mkB (k := 2) T.f_Tie_places_into sc_Tie_places_into (fun _ _ _ _ _ _ us hl => match us, hl with | [_, _, _], _ => rfl) (by walk_at "len") fun cdv A outer s H vs Q E hr h => ?_
  obtain ⟨a, t, x, y, rfl, hT, k⟩ := h
  refine ⟨_, (pss_cons (ps_if (pt_val (pe_fld (pv 0) rfl)) (pss_one ps_never) (pss_one (ps_par (i := 3) (j := 4) (by rfl) sc_Tie_places_into.nd rfl rfl (by decide) rfl rfl (pa_cons (pe_op op_sub (pv 1) (c_prop (ok_Tie_shift T) (hr.mono (by decide)) T.c_Tie T.p_Tie_shift (pv 0))) (pa_cons (pe_op op_sub (pv 2) (c_prop (ok_Tie_shift T) (hr.mono (by decide)) T.c_Tie T.p_Tie_shift (pv 0))) pa_nil)) (by rfl))))
      (pss_one (ps_ret (pe_tup (pa_cons (pe_callB (cl_max2 rfl) (by rfl) T.b_max (by decide +kernel) (pa_cons (pe_callTy cl_int1 (by rfl) T.b_int (by decide +kernel) (pa_cons (pv 3) pa_nil)) (pa_cons (pe_callTy cl_int1 (by rfl) T.b_int (by decide +kernel) (pa_cons (pe_fld (pv 0) rfl) pa_nil)) pa_nil))) (pa_cons (pe_callB (cl_min2 rfl) (by rfl) T.b_min (by decide +kernel) (pa_cons (pe_callTy cl_int1 (by rfl) T.b_int (by decide +kernel) (pa_cons (pv 4) pa_nil)) (pa_cons (pe_callTy cl_int1 (by rfl) T.b_int (by decide +kernel) (pa_cons (pe_op op_add (pe_fld (pv 0) rfl) (pe_fld (pv 0) rfl)) pa_nil)) pa_nil))) pa_nil)))))), ?_⟩
  walk_at "go"
  exact fun p H1 hp e h => k p H1 hp e h
end
end K22
end

/-! # K22k -/
section
set_option Elab.async false
set_option linter.all false
set_option autoImplicit false
set_option maxRecDepth 100000
set_option maxHeartbeats 4000000
namespace K22
open PySem PySem.Spec PyProof.Rows L2
open He (ga ma fAd)
open Evl (Ex ex_l ex_t sq_of st_of fresh_back)
/-! ## loops, comprehensions, stores -/
def kFor (g : TG) (tb : TS) (D : Ends) (σ : L2.St) : It → Hp → Prop := fun J H1 => ∃ W : Nat → Nat → L2.St → Hp → Prop, (∃ m, W 0 m σ H1) ∧ ∀ i m σ H, W i m σ H →
  (J.stop i H ∧ D.nx σ H) ∨ (J.go i H ∧ ∃ N : L2.St → Hp → Prop, (∀ σ' H', N σ' H' → ∃ m', m' < m ∧ W (i + 1) m' σ' H') ∧ ∀ x H', J.yld i H x H' → g x σ H' fun σ2 H2 => tb { D with nx := N, ct := N, bk := D.nx } σ2 H2)
def kLc (g : TG) (tt : TT) (te : TE) (vs : List Nat) (σ : L2.St) (Q : VK) : It → Hp → Prop := fun J H1 => ∀ D, H1 D = none → ∃ W : Nat → Nat → Hp → Prop, (∃ m, W 0 m (upd H1 D (.lst []))) ∧ ∀ i m H, W i m H →
  (J.stop i H ∧ Q (.ref D) H) ∨ (J.go i H ∧ ∃ Nx : Hp → Prop, (∀ H', Nx H' → ∃ m', m' < m ∧ W (i + 1) m' H') ∧ ∀ x H', J.yld i H x H' → g x (wipe σ vs) H' fun σ2 H2 => wipe σ2 vs = wipe σ vs ∧ tt σ2 H2 fun b H3 =>
    if b = true then te σ2 H3 fun y H4 => ∃ acc, H4 D = some (.lst acc) ∧ acc.length < sizeLine ∧ Nx (upd H4 D (.lst (acc ++ [y]))) else Nx H3)
def kIT (K : PySem.W.Frag) (R : It → Hp → Prop) : VK := fun x H1 => ∃ a, x = .ref a ∧ (∃ xs, SqT K H1 a xs) ∧ R (Itt K a) H1
def kIL (K : PySem.W.Frag) (R : It → Hp → Prop) : VK := fun x H1 => ∃ a, x = .ref a ∧ (∃ xs, SqL K H1 a xs) ∧ R (Itl K a) H1
def kFldS (K : PySem.W.Frag) (f : Str) (y : V) (D : Ends) (σ : L2.St) : VK := fun x H2 => ∃ a C dx fs, x = .ref a ∧ H2 a = some (.ins C dx fs) ∧ Cls K C ∧ NoAttr K C f ∧ fs.length < 1000 ∧ D.nx σ (upd H2 a (.ins C dx (putF f y fs)))
def kSlS (K : PySem.W.Frag) (f : Str) (y : V) (D : Ends) (σ : L2.St) : VK := fun x H2 => ∃ a C dx p vs i, x = .ref a ∧ SlX.Slt H2 a C dx vs ∧ SlX.SCls K C ∧ SlX.Slot1 K C f p i ∧ D.nx σ (SlX.slH H2 a C dx (SlX.putS i y vs))
def kPropSl (C : Addr) (sp : Sp) (E : XK) (Q : VK) : VK := fun x H1 => ∃ a dx vs, x = .ref a ∧ SlX.Slt H1 a C dx vs ∧ sp [.ref a] H1 Q E
section
variable {K : PySem.W.Frag} {σ : L2.St} {H : Hp} {D : Ends} {Q : VK} {g : TG} {tb : TS} {tt : TT} {te ta tv : TE} {wi : TI} {J : It} {n : Nat} {G : Hp → Prop} {Y : Nat → Hp → V → Hp → Prop} {R : It → Hp → Prop} {a : Addr} {xs : List V} {vs : List Nat}
theorem w_for (h : wi σ H (kFor g tb D σ)) : tFor wi g tb D σ H := h
theorem w_lc (h : wi σ H (kLc g tt te vs σ Q)) : tLc wi g tt te vs σ H Q := h
theorem w_iT (h : ta σ H (kIT K R)) : iTup K ta σ H R := h
theorem w_iL (h : ta σ H (kIL K R)) : iList K ta σ H R := h
theorem w_kIT (hx : SqT K H a xs) (h : R (Itt K a) H) : kIT K R (.ref a) H := ⟨a, rfl, ⟨xs, hx⟩, h⟩
theorem w_kIL (hx : SqL K H a xs) (h : R (Itl K a) H) : kIL K R (.ref a) H := ⟨a, rfl, ⟨xs, hx⟩, h⟩
theorem w_kFor (w : Walk J n G Y) (Pv : Nat → L2.St → Hp → Prop) (h0 : Pv 0 σ H) (hG : ∀ i σ H, i ≤ n → Pv i σ H → G H)
    (hs : ∀ i x σ H H', i < n → Pv i σ H → Y i H x H' → g x σ H' fun σ2 H2 => tb { D with nx := Pv (i + 1), ct := Pv (i + 1), bk := D.nx } σ2 H2) (hd : ∀ σ H, Pv n σ H → D.nx σ H) : kFor g tb D σ J H := for_it w Pv h0 hG hs hd
/-- over two items, nothing made: what is in the way at the place j -/
theorem for2 {x y : V} {j : Nat} (hT : SqT K H a [x, y]) (hx : tb { D with nx := fun σ' H' => σ' = σ.set j (some x) ∧ H' = H, ct := fun σ' H' => σ' = σ.set j (some x) ∧ H' = H, bk := D.nx } (σ.set j (some x)) H)
    (hy : tb { D with nx := fun σ' H' => σ' = (σ.set j (some x)).set j (some y) ∧ H' = H, ct := fun σ' H' => σ' = (σ.set j (some x)).set j (some y) ∧ H' = H, bk := D.nx } ((σ.set j (some x)).set j (some y)) H)
    (h : D.nx ((σ.set j (some x)).set j (some y)) H) : kFor (gName j) tb D σ (Itt K a) H := by
  refine w_kFor (walk_tup (xs := [x, y])) (fun i σ' H' => H' = H ∧ ((i = 0 ∧ σ' = σ) ∨ (i = 1 ∧ σ' = σ.set j (some x)) ∨ (i = 2 ∧ σ' = (σ.set j (some x)).set j (some y)))) ⟨rfl, .inl ⟨rfl, rfl⟩⟩ (fun i σ' H' _ p => by rw [p.1]; exact hT)
    (fun i v σ' H1 H' hi p q => ?_) (fun σ' H' p => ?_)
  · obtain ⟨rfl, p⟩ := p
    obtain ⟨rfl, q⟩ := q
    rcases p with ⟨rfl, rfl⟩ | ⟨rfl, rfl⟩ | ⟨rfl, _⟩
    · obtain rfl : x = v := by simpa using q
      have e : (fun (σ' : L2.St) (H'' : Hp) => H'' = H' ∧ ((0 + 1 = 0 ∧ σ' = σ') ∨ (0 + 1 = 1 ∧ σ' = σ'.set j (some x)) ∨ (0 + 1 = 2 ∧ σ' = σ'))) = (fun σ' H'' => H'' = H' ∧ ((0 + 1 = 0 ∧ σ' = σ') ∨ (0 + 1 = 1 ∧ σ' = σ'.set j (some x)) ∨ (0 + 1 = 2 ∧ σ' = σ'))) := rfl
      clear e
      have e2 : (fun (τ : L2.St) (H'' : Hp) => H'' = H' ∧ ((0 + 1 = 0 ∧ τ = σ') ∨ (0 + 1 = 1 ∧ τ = σ'.set j (some x)) ∨ (0 + 1 = 2 ∧ τ = (σ'.set j (some x)).set j (some y)))) = fun τ H'' => τ = σ'.set j (some x) ∧ H'' = H' := by
        funext τ H''; apply propext
        constructor
        · rintro ⟨rfl, h | h | h⟩
          · omega
          · exact ⟨h.2, rfl⟩
          · omega
        · rintro ⟨rfl, rfl⟩; exact ⟨rfl, .inr (.inl ⟨rfl, rfl⟩)⟩
      show tb _ _ _
      rw [e2]; exact hx
    · obtain rfl : y = v := by simpa using q
      have e2 : (fun (τ : L2.St) (H'' : Hp) => H'' = H' ∧ ((1 + 1 = 0 ∧ τ = σ) ∨ (1 + 1 = 1 ∧ τ = σ.set j (some x)) ∨ (1 + 1 = 2 ∧ τ = (σ.set j (some x)).set j (some y)))) = fun τ H'' => τ = (σ.set j (some x)).set j (some y) ∧ H'' = H' := by
        funext τ H''; apply propext
        constructor
        · rintro ⟨rfl, h | h | h⟩
          · omega
          · omega
          · exact ⟨h.2, rfl⟩
        · rintro ⟨rfl, rfl⟩; exact ⟨rfl, .inr (.inr ⟨rfl, rfl⟩)⟩
      show tb _ _ _
      rw [e2]; exact hy
    · exact absurd hi (by simp)
  · obtain ⟨rfl, ⟨h1, _⟩ | ⟨h1, _⟩ | ⟨_, rfl⟩⟩ := p
    · exact absurd h1 (by simp)
    · exact absurd h1 (by simp)
    · exact h
theorem w_same {σ' : L2.St} : (fun (τ : L2.St) (H' : Hp) => τ = σ' ∧ H' = H) σ' H := ⟨rfl, rfl⟩
theorem w_sFld {f : Str} (h : tv σ H fun y H1 => ta σ H1 (kFldS K f y D σ)) : sFld K ta tv f D σ H := h
theorem w_kFldS {f : Str} {y : V} {C dx : Addr} {fs : List (Str × V)} (e : H a = some (.ins C dx fs)) (c : Cls K C) (na : NoAttr K C f) (hl : fs.length < 1000) (h : D.nx σ (upd H a (.ins C dx (putF f y fs)))) : kFldS K f y D σ (.ref a) H := ⟨a, C, dx, fs, rfl, e, c, na, hl, h⟩
theorem w_sSl {f : Str} (h : tv σ H fun y H1 => ta σ H1 (kSlS K f y D σ)) : SlX.sSl K ta tv f D σ H := h
theorem w_kSlS {f : Str} {y : V} {C dx p : Addr} {vs : List (Option V)} {i : Nat} (e : SlX.Slt H a C dx vs) (c : SlX.SCls K C) (na : SlX.Slot1 K C f p i) (h : D.nx σ (SlX.slH H a C dx (SlX.putS i y vs))) : kSlS K f y D σ (.ref a) H := ⟨a, C, dx, p, vs, i, rfl, e, c, na, h⟩
theorem w_propSl {C : Addr} {sp : Sp} {E : XK} (h : ta σ H (kPropSl C sp E Q)) : SlX.tPropSl C sp E ta σ H Q := h
end
local macro_rules | `(tactic| walk_at "fx") => `(tactic| first
  | assumption
  | ((with_reducible apply TieAt.ex); (focus assumption); walk_at "fx")
  | ((with_reducible apply LinkAt.ex); (focus assumption); walk_at "fx")
  | ((with_reducible apply ex_l); (focus assumption); walk_at "fx")
  | ((with_reducible apply ex_t); (focus assumption); walk_at "fx")
  | ((with_reducible apply sq_of); walk_at "fx")
  | ((with_reducible apply st_of); walk_at "fx")
  | ((with_reducible apply ex_at); (focus assumption); walk_at "fx"))
local macro_rules | `(tactic| walk_at "s") => `(tactic| first
  | with_reducible refine w_seq ?_
  | ((with_reducible apply w_var); focus (exact rfl))
  | with_reducible refine w_c ?_
  | with_reducible refine w_op ?_
  | with_reducible refine w_cons ?_
  | with_reducible refine w_nil ?_
  | with_reducible refine w_asg ?_
  | with_reducible refine w_name ?_
  | with_reducible refine w_ret ?_
  | with_reducible refine w_retN ?_
  | with_reducible refine w_ifS ?_
  | with_reducible refine w_isB ?_
  | with_reducible refine w_test ?_
  | with_reducible refine w_tB ?_
  | with_reducible refine w_and ?_
  | with_reducible refine w_or ?_
  | with_reducible refine w_not ?_
  | with_reducible refine w_andV ?_
  | with_reducible refine w_orV ?_
  | with_reducible refine w_notV ?_
  | with_reducible refine w_if ?_
  | with_reducible refine w_iteT ?_
  | with_reducible refine w_iteF ?_
  | with_reducible refine w_iteNT ?_
  | with_reducible refine w_iteNF ?_
  | with_reducible refine w_un ?_
  | with_reducible refine w_call ?_
  | with_reducible refine w_cb ?_
  | with_reducible refine w_next ?_
  | with_reducible refine w_drop ?_
  | with_reducible refine w_for ?_
  | with_reducible refine w_dget0 ?_
  | with_reducible refine w_prsC ?_
  | with_reducible refine w_prsN ?_
  | with_reducible refine w_iZA ?_
  | with_reducible refine w_gSub ?_
  | with_reducible refine w_iR1 ?_
  | with_reducible refine w_p8 ?_
  | with_reducible refine w_p60 ?_
  | with_reducible refine w_p5 ?_
  | with_reducible refine w_p18 ?_
  | with_reducible refine w_p9 ?_
  | with_reducible refine w_p19 ?_
  | with_reducible refine w_p29 ?_
  | with_reducible refine w_m1 ?_
  | with_reducible refine w_kM1 ?_
  | with_reducible refine w_iStr ?_
  | with_reducible refine w_kStr ?_
  | with_reducible refine w_inS ?_
  | with_reducible refine w_sta ?_
  | with_reducible refine w_iEnumT ?_
  | with_reducible refine w_thn ?_
  | with_reducible refine w_chain ?_
  | with_reducible refine w_gAttr ?_
  | with_reducible refine w_isNr ?_
  | with_reducible refine w_iEnum ?_
  | ((with_reducible apply w_kEnum); focus (walk_at "fx"))
  | with_reducible refine w_sl3 ?_
  | with_reducible refine w_noPart ?_
  | with_reducible refine w_part ?_
  | with_reducible refine w_kPt ?_
  | with_reducible refine w_bm ?_
  | with_reducible refine w_ckw ?_
  | with_reducible refine w_tst ?_
  | with_reducible refine w_mk ?_
  | ((with_reducible apply w_psl); (focus (walk_at "fx")))
  | ((with_reducible apply w_mT); (focus (walk_at "fx")); (focus (exact rfl)))
  | ((with_reducible apply w_partner); (focus (walk_at "fx")))
  | ((with_reducible apply w_led); (focus (walk_at "fx")))
  | ((with_reducible apply w_spT); (focus (walk_at "fx")))
  | with_reducible refine w_lc ?_
  | with_reducible refine w_yes ?_
  | with_reducible refine w_gCons ?_
  | with_reducible refine w_gNil ?_
  | ((with_reducible apply w_gTup); (focus (walk_at "fx")); focus (exact rfl))
  | ((with_reducible apply w_minL2); focus (walk_at "fx"))
  | ((with_reducible apply w_slT); (focus assumption); (focus (walk_at "fx")))
  | ((with_reducible apply w_kIT); focus (walk_at "fx"))
  | ((with_reducible apply w_kIL); focus (walk_at "fx"))
  | with_reducible refine w_neg ?_
  | with_reducible refine w_tie ?_
  | with_reducible refine w_iT ?_
  | with_reducible refine w_iL ?_
  | with_reducible refine w_sFld ?_
  | with_reducible refine w_sSl ?_
  | with_reducible refine w_propSl ?_
  | with_reducible refine w_par ?_
  | with_reducible refine w_kPar ?_
  | with_reducible refine w_tup ?_
  | with_reducible refine w_lst ?_
  | with_reducible refine w_I0 ?_
  | with_reducible refine w_U ?_
  | with_reducible refine w_eqI ?_
  | with_reducible refine w_neI ?_
  | with_reducible refine w_eqS ?_
  | with_reducible refine w_neS ?_
  | with_reducible refine w_eqB ?_
  | with_reducible refine w_neB ?_
  | with_reducible refine w_isNn ?_
  | with_reducible refine w_isNr ?_
  | with_reducible refine w_isNi ?_
  | with_reducible refine w_notNn ?_
  | with_reducible refine w_notNr ?_
  | with_reducible refine w_notNi ?_
  | with_reducible refine w_xisN ?_
  | with_reducible refine w_fld ?_
  | with_reducible refine w_prop ?_
  | with_reducible refine w_meth ?_
  | ((with_reducible apply w_mod); focus assumption)
  | ((with_reducible apply w_mulW); (focus assumption); focus assumption)
  | ((with_reducible apply w_divW); (focus assumption); focus assumption)
  | with_reducible refine w_int1 ?_
  | with_reducible refine w_intB ?_
  | with_reducible refine w_min2 ?_
  | with_reducible refine w_max2 ?_
  | with_reducible refine w_abs ?_
  | with_reducible refine w_isiI ?_
  | with_reducible refine w_isiNB ?_
  | with_reducible refine w_isiB ?_
  | with_reducible refine w_isiS ?_
  | ((with_reducible apply w_isiT); (focus assumption); focus (walk_at "fx"))
  | ((with_reducible apply w_fTd); (focus assumption); focus (walk_at "fx"))
  | ((with_reducible apply w_fTb); (focus assumption); focus (walk_at "fx"))
  | ((with_reducible apply w_fTf); (focus assumption); focus (walk_at "fx"))
  | ((with_reducible apply w_fTs); (focus assumption); focus (walk_at "fx"))
  | ((with_reducible apply w_fTl); (focus assumption); focus (walk_at "fx"))
  | ((with_reducible apply w_fTa); (focus assumption); focus (walk_at "fx"))
  | ((with_reducible apply w_pT); focus (walk_at "fx"))
  | with_reducible refine w_sl ?_
  | ((with_reducible apply w_len); focus (walk_at "fx"))
  | ((with_reducible apply w_kT); focus (exact Nat.le_of_ble_eq_true rfl)))
local macro_rules | `(tactic| walk_at "ss") => `(tactic| repeat (walk_at "s"))
local macro_rules | `(tactic| walk_at "go") => `(tactic| ((try dsimp only [cxOf, Cx.nox, Cx.wish]); walk_at "ss"))
local macro_rules | `(tactic| walk_at "len") => `(tactic| (intro vs H Q E h; (repeat (obtain ⟨_, h⟩ := h)); all_goals (subst_vars; rfl)))
/-! ## Tie(..) -/
def END : Int := 10 ^ 30
/-- a tie that may be -/
structure Good (t : Ti) : Prop where
  f0 : 0 ≤ t.f
  s0 : 0 ≤ t.s
  l1 : 1 ≤ t.l
  fl : t.f + t.l ≤ 10 ^ 30
  sl : t.s + t.l ≤ 10 ^ 30
def spTie (K : PySem.W.Frag) : Sp := fun vs H Q _ => ∃ x dx t, vs = [.ref x, .int t.f, .int t.s, .int t.l, .int t.a, .bl false, .bl false] ∧ Good t ∧ H x = some (.ins (ga K "Tie") dx []) ∧
  ∀ H1, Ex H H1 → Q .non (upd H1 x (.ins (ga K "Tie") dx (tieF t)))
section
variable {P : Program} {w : World} {K : PySem.W.Frag} {mg : Str → Option Value} {base : Heap}
theorem ok_Tie___init__ (T : Tx K mg) {fd : FuncData} (F : FunD K "__init__" "Tie.__init__" (defArgs s_Tie___init__) (defBody s_Tie___init__) (defScope s_Tie___init__) [.int 0] [("down", .bl false), ("backward", .bl false)] (ma K (ga K "Tie") "__init__") fd) :
    FnOk P w K mg base CX0 2 (ma K (ga K "Tie") "__init__") fd ["self", "first", "second", "length", "amount", "down", "backward"] (spTie K) := by
  refine F.ok sc_Tie___init__ (by walk_at "len") fun cdv A outer s H vs Q E hr h => ?_
  obtain ⟨x, dx, t, rfl, hg, hx, k⟩ := h
  have h1 := hg.f0; have h2 := hg.s0; have h3 := hg.l1; have h4 := hg.fl; have h5 := hg.sl
  refine ⟨_, PSs.nox ((pss_cons (ps_for PassesOwn.never rfl (pi_tup (pe_tup (pa_cons (pv 1) (pa_cons (pv 2) pa_nil)))) (pg_name (i := 7) sc_Tie___init__.nd rfl (Or.inl rfl)) (pss_one (ps_if (pt_not (pt_val (c_fn (ok_is_integer2 T) (hr.mono (by decide)) T.m_is_integer T.kp_is_integer pass0 (pa_cons (pv 7) (pa_cons pe_int pa_nil))))) (pss_one ps_never) pss_nil)))
      (pss_cons (ps_if (pt_not (pt_val (c_fn (ok_is_integer3 T) (hr.mono (by decide)) T.m_is_integer T.kp_is_integer pass0 (pa_cons (pv 3) (pa_cons pe_int (pa_cons (pe_op op_sub (g_int T.i_END) (pe_callB (cl_max2 rfl) (by rfl) T.b_max (by decide +kernel) (pa_cons (pv 1) (pa_cons (pv 2) pa_nil)))) pa_nil)))))) (pss_one ps_never) pss_nil)
      (pss_cons (ps_if (pt_not (pt_val (c_fn (ok_is_integer1 T) (hr.mono (by decide)) T.m_is_integer T.kp_is_integer pass0 (pa_cons (pv 4) pa_nil)))) (pss_one ps_never) pss_nil)
      (pss_cons (ps_for PassesOwn.never rfl (pi_tup (pe_tup (pa_cons (pv 5) (pa_cons (pv 6) pa_nil)))) (pg_name (i := 8) sc_Tie___init__.nd rfl (Or.inl rfl)) (pss_one (ps_if (pt_not (pt_val (pe_callB call_isi (by rfl) T.b_isinstance (by decide +kernel) (pa_cons (pv 8) (pa_cons (pe_bltn (by rfl) T.b_bool (by decide +kernel) (v := .ty "bool") rfl) pa_nil))))) (pss_one ps_never) pss_nil)))
      (pss_cons (ps_fld (pv 0) (pv 1) rfl)
      (pss_cons (ps_fld (pv 0) (pv 2) rfl)
      (pss_cons (ps_fld (pv 0) (pv 3) rfl)
      (pss_cons (ps_fld (pv 0) (pv 4) rfl)
      (pss_cons (ps_fld (pv 0) (pv 5) rfl)
      (pss_one (ps_fld (pv 0) (pe_and (pv 6) (pe_one (pe_cmpR op_gt (pv 3) pe_int (nomark _)))) rfl)))))))))))), ?_⟩
  walk_at "go"
  intro p H1 hp e1 hT
  refine w_kIT (st_of hT) ?_
  refine for2 (st_of hT) ?_ ?_ ?_
  · walk_at "ss"
    refine w_isI2 h1 ?_
    walk_at "ss"
    exact w_same
  · walk_at "ss"
    refine w_isI2 h2 ?_
    walk_at "ss"
    exact w_same
  walk_at "ss"
  refine w_isI3 h3 (by omega) ?_
  walk_at "ss"
  refine w_isI1 ?_
  walk_at "ss"
  intro p2 H2 hp2 e2 hT2
  refine w_kIT (st_of hT2) ?_
  refine for2 (st_of hT2) ?_ ?_ ?_
  · walk_at "ss"
    exact w_same
  · walk_at "ss"
    exact w_same
  walk_at "ss"
  refine w_kFldS (e2 _ _ (e1 _ _ hx)) T.c_Tie T.a_Tie_own_first (Nat.le_of_ble_eq_true rfl) ?_
  walk_at "ss"
  refine w_kFldS upd_same T.c_Tie T.a_Tie_own_second (Nat.le_of_ble_eq_true rfl) ?_
  walk_at "ss"
  refine w_kFldS upd_same T.c_Tie T.a_Tie_own_length (Nat.le_of_ble_eq_true rfl) ?_
  walk_at "ss"
  refine w_kFldS upd_same T.c_Tie T.a_Tie_own_amount (Nat.le_of_ble_eq_true rfl) ?_
  walk_at "ss"
  refine w_kFldS upd_same T.c_Tie T.a_Tie_own_down (Nat.le_of_ble_eq_true rfl) ?_
  walk_at "ss"
  refine w_kFldS upd_same T.c_Tie T.a_Tie_own_backward (Nat.le_of_ble_eq_true rfl) ?_
  rw [upd_upd, upd_upd, upd_upd, upd_upd, upd_upd]
  exact k H2 (e1.trans e2)
end
end K22
end

/-! # K22l -/
section
set_option Elab.async false
set_option linter.all false
set_option autoImplicit false
set_option maxRecDepth 100000
set_option maxHeartbeats 4000000
namespace K22
open PySem PySem.Spec PyProof.Rows L2
open He (ga ma fAd)
open Evl (Ex ex_l ex_t sq_of st_of fresh_back)
section
variable {K : PySem.W.Frag} {σ : L2.St} {H : Hp} {D : Ends} {Q : VK} {g : TG} {gs : TGs} {tb : TS} {tt : TT} {te ta tv : TE} {wi : TI} {J : It} {n : Nat} {G : Hp → Prop} {Y : Nat → Hp → V → Hp → Prop} {a : Addr} {xs : List V} {vs : List Nat} {v : V}
theorem w_yes {Q : Bool → Hp → Prop} (h : Q true H) : tYes σ H Q := h
theorem w_gCons {vs : List V} {Q : L2.St → Hp → Prop} (h : g v σ H fun σ' H' => gs vs σ' H' Q) : gCons g gs (v :: vs) σ H Q := ⟨v, vs, rfl, h⟩
theorem w_gNil {Q : L2.St → Hp → Prop} (h : Q σ H) : gNil [] σ H Q := ⟨rfl, h⟩
theorem w_gTup {Q : L2.St → Hp → Prop} (hT : SqT K H a xs) (hl : xs.length = n) (h : gs xs σ H Q) : gTup K n gs (.ref a) σ H Q := ⟨a, xs, rfl, hT, hl, h⟩
theorem w_neg {i : Int} {f : Int → V} (h : Q (f i) H) : rU f (.int i) H Q := ⟨i, rfl, h⟩
theorem cl_minL {X : Cx} (hc : X.calm = true := by rfl) : CallR X (.builtin "min") (rMin X.K) := cr_min hc
theorem cl_sumL {X : Cx} (hc : X.calm = true := by rfl) : CallR X (.builtin "sum") (rSum X.K) := cr_sum hc
theorem w_minL2 {i j : Int} (hl : SqL K H a [.int i, .int j]) (h : Q (.int (min i j)) H) : rMin K [.ref a] H Q := ⟨a, [i, j], rfl, hl, by simp, fun m h1 h2 => by
  have e : m = min i j := by
    have a1 := h2 i (by simp); have a2 := h2 j (by simp)
    rcases List.mem_cons.mp h1 with e | e
    · omega
    · have : m = j := by simpa using e
      omega
  rw [e]; exact h⟩
/-- what a comprehension has made so far -/
def CPv (H : Hp) (D : Addr) (I : Nat → List V → Hp → Prop) (i : Nat) (H' : Hp) : Prop := Ex H H' ∧ ∃ acc, H' D = some (.lst acc) ∧ I i acc H'
def kApp (H : Hp) (D : Addr) (I : Nat → List V → Hp → Prop) (i : Nat) : VK := fun y H4 => ∃ acc, H4 D = some (.lst acc) ∧ acc.length < sizeLine ∧ CPv H D I (i + 1) (upd H4 D (.lst (acc ++ [y])))
theorem w_kApp {D : Addr} {I : Nat → List V → Hp → Prop} {i : Nat} {y : V} {H4 : Hp} {acc : List V} (hD : H D = none) (e : Ex H H4) (hA : H4 D = some (.lst acc)) (hz : acc.length ≤ 1000) (hI : I (i + 1) (acc ++ [y]) (upd H4 D (.lst (acc ++ [y])))) : kApp H D I i y H4 :=
  ⟨acc, hA, Evl.sz_lt (by omega), Ex.mut e hD, _, upd_same, hI⟩
theorem lcG (w : Walk J n G Y) (hG : ∀ H', Ex H H' → G H') (I : Nat → List V → Hp → Prop) (h0 : ∀ D, H D = none → I 0 [] (upd H D (.lst [])))
    (hs : ∀ D i x H0 H1 acc, H D = none → i < n → Ex H H0 → H0 D = some (.lst acc) → I i acc H0 → Y i H0 x H1 → g x (wipe σ vs) H1 fun σ2 H2 => wipe σ2 vs = wipe σ vs ∧ tt σ2 H2 fun b H3 =>
      if b = true then te σ2 H3 (kApp H D I i) else CPv H D I (i + 1) H3)
    (hd : ∀ p ys H', H p = none → Ex H H' → H' p = some (.lst ys) → I n ys H' → Q (.ref p) H') : kLc g tt te vs σ Q J H := by
  intro D hD
  refine lc_it w (CPv H D I) ⟨Ex.new hD, [], upd_same, h0 D hD⟩ (fun i H' _ p => hG _ p.1) (fun i x H0 H1 hi p hy => ?_) fun H' p => ?_
  · obtain ⟨e, acc, hA, hI⟩ := p
    exact hs D i x H0 H1 acc hD hi e hA hI hy
  · obtain ⟨e, acc, hA, hI⟩ := p
    exact hd D acc H' hD e hA hI
end
/-- facts that stay as the heap grows, and as lists change -/
structure Mo (P : Hp → Prop) : Prop where
  ex : ∀ H H', Ex H H' → P H → P H'
  up : ∀ H D l l', H D = some (.lst l) → P H → P (upd H D (.lst l'))
  ins : ∀ H x C dx (fs : List (Str × V)) o', H x = some (.ins C dx fs) → (fs.length = 0 ∨ fs.length = 5) → P H → P (upd H x o')
section
variable {K : PySem.W.Frag}
theorem upd_at {H : Hp} {D a : Addr} {l l' : List V} {o : HO} (h : H D = some (.lst l)) (ha : H a = some o) (hn : ∀ l, o ≠ .lst l) : upd H D (.lst l') a = some o := by
  rw [upd_ne]
  · exact ha
  · intro z; subst z; rw [h] at ha; exact hn l (Option.some.inj ha).symm
theorem upd_in {H : Hp} {x C dx a : Addr} {fs : List (Str × V)} {o o' : HO} (h : H x = some (.ins C dx fs)) (ha : H a = some o) (hn : o ≠ .ins C dx fs) : upd H x o' a = some o := by
  rw [upd_ne]
  · exact ha
  · intro z; subst z; rw [h] at ha; exact hn (Option.some.inj ha).symm
theorem mo_tie (a : Addr) (t : Ti) : Mo fun H => TieAt K H a t := ⟨fun _ _ e h => h.ex e, fun H D l l' h ⟨dx, q⟩ => ⟨dx, upd_at h q (fun _ z => nomatch z)⟩, fun H x C dx fs o' h hl ⟨dy, q⟩ => ⟨dy, upd_in h q fun z => by
  injection z with _ _ z3
  rw [← z3] at hl
  have h6 : (tieF t).length = 6 := rfl
  omega⟩⟩
theorem mo_link (a : Addr) (t : Ti) : Mo fun H => LinkAt K H a t := ⟨fun _ _ e h => h.ex e, fun H D l l' h ⟨dx, vs, b, h1, h2, h3⟩ => ⟨dx, vs, b, by
  rcases h1 with ⟨h1, h4⟩ | ⟨h1, h4⟩
  · exact .inl ⟨upd_at h h1 (fun _ z => nomatch z), h4⟩
  · exact .inr ⟨upd_at h h1 (fun _ z => by unfold SlX.SlO at z; cases z), upd_at h h4 (fun _ z => nomatch z)⟩, h2, (mo_tie b t).up H D l l' h h3⟩, fun H x C dx fs o' h hl ⟨dy, vs, b, h1, h2, h3⟩ => ⟨dy, vs, b, by
  rcases h1 with ⟨h1, h4⟩ | ⟨h1, h4⟩
  · subst h4; simp at h2
  · exact .inr ⟨upd_in h h1 (fun z => by unfold SlX.SlO at z; cases z), upd_in h h4 (fun z => nomatch z)⟩, h2, (mo_tie b t).ins H x C dx fs o' h hl h3⟩⟩
/-! ## Tie(..) made -/
def gTie : List V → List V → List V := fun vs zs => vs ++ zs
def kTie (K : PySem.W.Frag) (E : XK) (Q : VK) : List V → List V → Hp → Prop := fun vs zs H2 => vs.length = 4 ∧ zs.length = 2 ∧
  ∀ x dx, H2 x = none → H2 dx = none → dx ≠ x → spTie K (gTie (.ref x :: vs) zs) (upd (upd H2 dx (.own x)) x (.ins (ga K "Tie") dx [])) (fun v H3 => v = .non ∧ Q (.ref x) H3) E
def tTie (K : PySem.W.Frag) (E : XK) (t tk : TA) : TE := fun σ H Q => t σ H fun vs H1 => tk σ H1 fun zs H2 => kTie K E Q vs zs H2
theorem w_tie {E : XK} {t tk : TA} {σ : L2.St} {H : Hp} {Q : VK} (h : t σ H fun vs H1 => tk σ H1 fun zs H2 => kTie K E Q vs zs H2) : tTie K E t tk σ H Q := h
theorem w_kTie {E : XK} {Q : VK} {H : Hp} {f s l a : Int} (hg : Good ⟨f, s, l, a⟩) (h : ∀ p H', H p = none → Ex H H' → TieAt K H' p ⟨f, s, l, a⟩ → Q (.ref p) H') : kTie K E Q [.int f, .int s, .int l, .int a] [.bl false, .bl false] H :=
  ⟨rfl, rfl, fun x dx hx hdx hne => ⟨x, dx, ⟨f, s, l, a⟩, rfl, hg, upd_same, fun H1 e => ⟨rfl, h x _ hx (by
    have e0 : Ex H (upd (upd H dx (.own x)) x (.ins (ga K "Tie") dx [])) := (Ex.new hdx).trans (Ex.new (by rw [upd_ne (Ne.symm hne)]; exact hx))
    exact Ex.mut (e0.trans e) hx) ⟨dx, upd_same⟩⟩⟩⟩
section
variable {σ : L2.St} {H : Hp} {Q : VK} {a : Addr} {t : Ti} {m : Str} {sp : Sp} {dvs : List V} {E : XK} {tA : TA}
theorem w_mT (hT : TieAt K H a t) (hm : (tieF t).lookup m = none) (h : tA σ H fun vs H2 => sp (.ref a :: (vs ++ dvs)) H2 Q E) : kMeth (ga K "Tie") m sp dvs E tA σ Q (.ref a) H := let ⟨dx, e⟩ := hT; ⟨a, dx, _, rfl, e, hm, h⟩
theorem w_partner {x : Int} (hT : TieAt K H a t) (h : Q (.int (x + (t.s - t.f))) H) : spPartner K (.ref a :: ([.int x] ++ [])) H Q E := ⟨a, t, x, rfl, hT, h⟩
theorem w_led {x : Int} (hT : TieAt K H a t) (h : Q (.int (t.a + x)) H) : spLed K (.ref a :: ([.int x] ++ [])) H Q E := ⟨a, t, x, rfl, hT, h⟩
end
end
section
variable {X : Cx} {e : Expr} {es : List Expr} {kws : List Keyword} {t tk : TA} {p pos : Pos} {E : XK}
theorem c_tie4 (T : Tx X.K X.mg) (hr : Room (2 + 1) X.A) (hx : Passes CX0 X E) (ha : PA X (e :: es) t) (hkw : PK X kws tk) (hg : Gl X "Tie" := by rfl) (hall : (backToKw pos (keywordEach kws X.env)).all (·.1.isSome) = true := by rfl) (hks : (backToKw pos (keywordEach kws X.env)).filterMap (·.1) = (["down", "backward"] : List Str) := by rfl)
    (he : starEach (e :: es) X.env = (false, eval e X.env) :: starEach es X.env := by rfl)
    (hpl : ((backTo pos (starEach (e :: es) X.env)).any (·.1) || (backToKw pos (keywordEach kws X.env)).any (·.1.isNone)) = false := by rfl) : PE X (.Call (.Name "Tie" p) (e :: es) kws pos) (tTie X.K E t tk) := by
  obtain ⟨fd, F⟩ := T.f_Tie___init__
  obtain ⟨its, mv, b⟩ := F.kbinds (ps := ["self", "first", "second", "length", "amount", "down", "backward"]) 5 ["down", "backward"] [] (fun us its mv ws => us ++ ws) (by simp) (by simp) (by simp) (fun h1 _ _ h4 => h1.append h4)
    (fun T D doc pm an cdv ct us its mv ws h1 h2 h3 h4 => match us, h1, its, h2, mv, h3, ws, h4 with | [_, _, _, _, _], _, [_], _, [], _, [_, _], _ => ⟨_, rfl, rfl⟩)
  exact pe_makeN (n := 4) (M := T.k_Tie) (F := ok_Tie___init__ T F) (hr := hr) (hg := hg) (hm := T.m_Tie) (hb := b) (hx := hx) (ha := ha) (hkw := hkw) (hall := hall) (hks := hks) (he := he) (hpl := hpl) (p := p) (pos := pos)
end
end K22
end

/-! # K22m -/
section
set_option Elab.async false
set_option linter.all false
set_option autoImplicit false
set_option maxRecDepth 100000
set_option maxHeartbeats 4000000
namespace K22
open PySem PySem.Spec PyProof.Rows L2
open He (ga ma fAd)
open Evl (Ex ex_l ex_t sq_of st_of fresh_back)
local macro_rules | `(tactic| walk_at "fx") => `(tactic| first
  | assumption
  | ((with_reducible apply TieAt.ex); (focus assumption); walk_at "fx")
  | ((with_reducible apply LinkAt.ex); (focus assumption); walk_at "fx")
  | ((with_reducible apply ex_l); (focus assumption); walk_at "fx")
  | ((with_reducible apply ex_t); (focus assumption); walk_at "fx")
  | ((with_reducible apply sq_of); walk_at "fx")
  | ((with_reducible apply st_of); walk_at "fx")
  | ((with_reducible apply ex_at); (focus assumption); walk_at "fx"))
local macro_rules | `(tactic| walk_at "s") => `(tactic| first
  | with_reducible refine w_seq ?_
  | ((with_reducible apply w_var); focus (exact rfl))
  | with_reducible refine w_c ?_
  | with_reducible refine w_op ?_
  | with_reducible refine w_cons ?_
  | with_reducible refine w_nil ?_
  | with_reducible refine w_asg ?_
  | with_reducible refine w_name ?_
  | with_reducible refine w_ret ?_
  | with_reducible refine w_retN ?_
  | with_reducible refine w_ifS ?_
  | with_reducible refine w_isB ?_
  | with_reducible refine w_test ?_
  | with_reducible refine w_tB ?_
  | with_reducible refine w_and ?_
  | with_reducible refine w_or ?_
  | with_reducible refine w_not ?_
  | with_reducible refine w_andV ?_
  | with_reducible refine w_orV ?_
  | with_reducible refine w_notV ?_
  | with_reducible refine w_if ?_
  | with_reducible refine w_iteT ?_
  | with_reducible refine w_iteF ?_
  | with_reducible refine w_iteNT ?_
  | with_reducible refine w_iteNF ?_
  | with_reducible refine w_un ?_
  | with_reducible refine w_call ?_
  | with_reducible refine w_cb ?_
  | with_reducible refine w_next ?_
  | with_reducible refine w_drop ?_
  | with_reducible refine w_for ?_
  | with_reducible refine w_dget0 ?_
  | with_reducible refine w_prsC ?_
  | with_reducible refine w_prsN ?_
  | with_reducible refine w_iZA ?_
  | with_reducible refine w_gSub ?_
  | with_reducible refine w_iR1 ?_
  | with_reducible refine w_p8 ?_
  | with_reducible refine w_p60 ?_
  | with_reducible refine w_p5 ?_
  | with_reducible refine w_p18 ?_
  | with_reducible refine w_p9 ?_
  | with_reducible refine w_p19 ?_
  | with_reducible refine w_p29 ?_
  | with_reducible refine w_m1 ?_
  | with_reducible refine w_kM1 ?_
  | with_reducible refine w_iStr ?_
  | with_reducible refine w_kStr ?_
  | with_reducible refine w_inS ?_
  | with_reducible refine w_sta ?_
  | with_reducible refine w_iEnumT ?_
  | with_reducible refine w_thn ?_
  | with_reducible refine w_chain ?_
  | with_reducible refine w_gAttr ?_
  | with_reducible refine w_isNr ?_
  | with_reducible refine w_iEnum ?_
  | ((with_reducible apply w_kEnum); focus (walk_at "fx"))
  | with_reducible refine w_sl3 ?_
  | with_reducible refine w_noPart ?_
  | with_reducible refine w_part ?_
  | with_reducible refine w_kPt ?_
  | with_reducible refine w_bm ?_
  | with_reducible refine w_ckw ?_
  | with_reducible refine w_tst ?_
  | with_reducible refine w_mk ?_
  | ((with_reducible apply w_psl); (focus (walk_at "fx")))
  | ((with_reducible apply w_mT); (focus (walk_at "fx")); (focus (exact rfl)))
  | ((with_reducible apply w_partner); (focus (walk_at "fx")))
  | ((with_reducible apply w_led); (focus (walk_at "fx")))
  | ((with_reducible apply w_spT); (focus (walk_at "fx")))
  | with_reducible refine w_lc ?_
  | with_reducible refine w_yes ?_
  | with_reducible refine w_gCons ?_
  | with_reducible refine w_gNil ?_
  | ((with_reducible apply w_gTup); (focus (walk_at "fx")); focus (exact rfl))
  | ((with_reducible apply w_minL2); focus (walk_at "fx"))
  | ((with_reducible apply w_slT); (focus assumption); (focus (walk_at "fx")))
  | ((with_reducible apply w_kIT); focus (walk_at "fx"))
  | ((with_reducible apply w_kIL); focus (walk_at "fx"))
  | with_reducible refine w_neg ?_
  | with_reducible refine w_tie ?_
  | with_reducible refine w_iT ?_
  | with_reducible refine w_iL ?_
  | with_reducible refine w_sFld ?_
  | with_reducible refine w_sSl ?_
  | with_reducible refine w_propSl ?_
  | with_reducible refine w_par ?_
  | with_reducible refine w_kPar ?_
  | with_reducible refine w_tup ?_
  | with_reducible refine w_lst ?_
  | with_reducible refine w_I0 ?_
  | with_reducible refine w_U ?_
  | with_reducible refine w_eqI ?_
  | with_reducible refine w_neI ?_
  | with_reducible refine w_eqS ?_
  | with_reducible refine w_neS ?_
  | with_reducible refine w_eqB ?_
  | with_reducible refine w_neB ?_
  | with_reducible refine w_isNn ?_
  | with_reducible refine w_isNr ?_
  | with_reducible refine w_isNi ?_
  | with_reducible refine w_notNn ?_
  | with_reducible refine w_notNr ?_
  | with_reducible refine w_notNi ?_
  | with_reducible refine w_xisN ?_
  | with_reducible refine w_fld ?_
  | with_reducible refine w_prop ?_
  | with_reducible refine w_meth ?_
  | ((with_reducible apply w_mod); focus assumption)
  | ((with_reducible apply w_mulW); (focus assumption); focus assumption)
  | ((with_reducible apply w_divW); (focus assumption); focus assumption)
  | with_reducible refine w_int1 ?_
  | with_reducible refine w_intB ?_
  | with_reducible refine w_min2 ?_
  | with_reducible refine w_max2 ?_
  | with_reducible refine w_abs ?_
  | with_reducible refine w_isiI ?_
  | with_reducible refine w_isiNB ?_
  | with_reducible refine w_isiB ?_
  | with_reducible refine w_isiS ?_
  | ((with_reducible apply w_isiT); (focus assumption); focus (walk_at "fx"))
  | ((with_reducible apply w_fTd); (focus assumption); focus (walk_at "fx"))
  | ((with_reducible apply w_fTb); (focus assumption); focus (walk_at "fx"))
  | ((with_reducible apply w_fTf); (focus assumption); focus (walk_at "fx"))
  | ((with_reducible apply w_fTs); (focus assumption); focus (walk_at "fx"))
  | ((with_reducible apply w_fTl); (focus assumption); focus (walk_at "fx"))
  | ((with_reducible apply w_fTa); (focus assumption); focus (walk_at "fx"))
  | ((with_reducible apply w_pT); focus (walk_at "fx"))
  | with_reducible refine w_sl ?_
  | ((with_reducible apply w_len); focus (walk_at "fx"))
  | ((with_reducible apply w_kT); focus (exact Nat.le_of_ble_eq_true rfl)))
local macro_rules | `(tactic| walk_at "ss") => `(tactic| repeat (walk_at "s"))
local macro_rules | `(tactic| walk_at "go") => `(tactic| ((try dsimp only [cxOf, Cx.nox, Cx.wish]); walk_at "ss"))
local macro_rules | `(tactic| walk_at "len") => `(tactic| (intro vs H Q E h; (repeat (obtain ⟨_, h⟩ := h)); all_goals (subst_vars; rfl)))
section
variable {P : Program} {w : World} {K : PySem.W.Frag} {mg : Str → Option Value} {base : Heap}
/-- a new tie is given -/
def NewT (K : PySem.W.Frag) (H : Hp) (Q : VK) (t : Ti) : Prop := ∀ p H', Ex H H' → TieAt K H' p t → Q (.ref p) H'
theorem good_of {f s l a f' s' l' : Int} (h : Good ⟨f, s, l, a⟩) (e1 : f = f') (e2 : s = s') (e3 : l = l') {a' : Int} : Good ⟨f', s', l', a'⟩ := by subst e1 e2 e3; exact ⟨h.f0, h.s0, h.l1, h.fl, h.sl⟩
theorem w_newT {H H1 H2 : Hp} {Q : VK} {t t' : Ti} {p : Addr} (k : NewT K H Q t) (e1 : Ex H H1) (e2 : Ex H1 H2) (hT : TieAt K H2 p t') (e : t' = t) : Q (.ref p) H2 := by subst e; exact k p H2 (e1.trans e2) hT
def spBetween (K : PySem.W.Frag) : Sp := fun vs H Q _ => ∃ a t x y, vs = [.ref a, .int x, .int y] ∧ TieAt K H a t ∧ Good ⟨x, x + (t.s - t.f), y - x, t.a⟩ ∧ NewT K H Q ⟨x, x + (t.s - t.f), y - x, t.a⟩
theorem ok_Tie_between (T : Tx K mg) : FnB P w K mg base CX0 4 (ma K (ga K "Tie") "between") ["self", "low", "high"] (spBetween K) [] := by
  refine mkB (k := 3) T.f_Tie_between sc_Tie_between (fun _ _ _ _ _ _ us hl => match us, hl with | [_, _, _], _ => rfl) (by walk_at "len") fun cdv A outer s H vs Q E hr h => ?_
  obtain ⟨a, t, x, y, rfl, hT, hg, k⟩ := h
  refine ⟨_, (pss_cons (ps_set (i := 3) sc_Tie_between.nd rfl (Or.inl rfl) (pe_callB (cl_min2 rfl) (by rfl) T.b_min (by decide +kernel) (pa_cons (pe_callTy cl_int1 (by rfl) T.b_int (by decide +kernel) (pa_cons (c_meth (ok_Tie_partner T) (hr.mono (by decide)) T.c_Tie T.h_Tie_partner pass0 (pv 0) (pa_cons (pv 1) pa_nil)) pa_nil)) (pa_cons (pe_callTy cl_int1 (by rfl) T.b_int (by decide +kernel) (pa_cons (c_meth (ok_Tie_partner T) (hr.mono (by decide)) T.c_Tie T.h_Tie_partner pass0 (pv 0) (pa_cons (pe_op op_sub (pv 2) pe_int) pa_nil)) pa_nil)) pa_nil))))
      (pss_one (ps_ret (c_tie4 T (hr.mono (by decide)) pass0 (pa_cons (pv 1) (pa_cons (pv 3) (pa_cons (pe_op op_sub (pv 2) (pv 1)) (pa_cons (pe_fld (pv 0) rfl) pa_nil)))) (pk_cons (pe_fld (pv 0) rfl) (pk_cons (pe_fld (pv 0) rfl) pk_nil)))))), ?_⟩
  have h3 := hg.l1
  have e2 : min (x + (t.s - t.f)) (y - 1 + (t.s - t.f)) = x + (t.s - t.f) := by
    have : 1 ≤ y - x := h3
    omega
  walk_at "go"
  refine w_kTie (good_of hg rfl e2.symm rfl) fun p H1 hp e hT1 => ?_
  exact w_newT k (Ex.refl H) e hT1 (by rw [e2])
def spPart (K : PySem.W.Frag) : Sp := fun vs H Q _ => ∃ a t x y, vs = [.ref a, .int x, .int y] ∧ TieAt K H a t ∧ Good t ∧ 0 ≤ x ∧ 1 ≤ y ∧ x + y ≤ t.l ∧ NewT K H Q ⟨t.f + x, t.s + x, y, t.a⟩
theorem ok_Tie_part (T : Tx K mg) : FnB P w K mg base CX0 5 (ma K (ga K "Tie") "part") ["self", "start", "length"] (spPart K) [] := by
  refine mkB (k := 4) T.f_Tie_part sc_Tie_part (fun _ _ _ _ _ _ us hl => match us, hl with | [_, _, _], _ => rfl) (by walk_at "len") fun cdv A outer s H vs Q E hr h => ?_
  obtain ⟨a, t, x, y, rfl, hT, hg, hx, hy, hxy, k⟩ := h
  refine ⟨_, (pss_cons (ps_if (PW.pt (pw_or (pt_not (pt_val (c_fn (ok_is_integer2 T) (hr.mono (by decide)) T.m_is_integer T.kp_is_integer pass0 (pa_cons (pv 1) (pa_cons pe_int pa_nil))))) (pw_or1 (pt_not (pt_val (c_fn (ok_is_integer3 T) (hr.mono (by decide)) T.m_is_integer T.kp_is_integer pass0 (pa_cons (pv 2) (pa_cons pe_int (pa_cons (pe_op op_sub (pe_fld (pv 0) rfl) (pv 1)) pa_nil))))))))) (pss_one ps_never) pss_nil)
      (pss_one (ps_ret (c_meth (ok_Tie_between T) (hr.mono (by decide)) T.c_Tie T.h_Tie_between pass0 (pv 0) (pa_cons (pe_op op_add (pe_fld (pv 0) rfl) (pv 1)) (pa_cons (pe_op op_add (pe_op op_add (pe_fld (pv 0) rfl) (pv 1)) (pv 2)) pa_nil)))))), ?_⟩
  walk_at "go"
  refine w_isI2 hx ?_
  walk_at "ss"
  refine w_isI3 hy (by omega) ?_
  walk_at "ss"
  have h1 := hg.f0; have h2 := hg.s0; have h3 := hg.fl; have h4 := hg.sl
  refine ⟨a, t, _, _, rfl, hT, ⟨by show 0 ≤ t.f + x; omega, by show 0 ≤ t.f + x + (t.s - t.f); omega, by show 1 ≤ t.f + x + y - (t.f + x); omega, by show t.f + x + (t.f + x + y - (t.f + x)) ≤ _; omega, by show t.f + x + (t.s - t.f) + (t.f + x + y - (t.f + x)) ≤ _; omega⟩, fun p H1 e hT1 => ?_⟩
  refine w_newT k (Ex.refl H) e hT1 ?_
  have e1 : t.f + x + (t.s - t.f) = t.s + x := by omega
  have e2 : t.f + x + y - (t.f + x) = y := by omega
  rw [e1, e2]
def spInv (K : PySem.W.Frag) : Sp := fun vs H Q _ => ∃ a t, vs = [.ref a] ∧ TieAt K H a t ∧ Good t ∧ NewT K H Q ⟨t.s, t.f, t.l, -t.a⟩
theorem ok_Tie___invert__ (T : Tx K mg) : FnB P w K mg base CX0 4 (ma K (ga K "Tie") "__invert__") ["self"] (spInv K) [] := by
  refine mkB (k := 3) T.f_Tie___invert__ sc_Tie___invert__ (fun _ _ _ _ _ _ us hl => match us, hl with | [_], _ => rfl) (by walk_at "len") fun cdv A outer s H vs Q E hr h => ?_
  obtain ⟨a, t, rfl, hT, hg, k⟩ := h
  refine ⟨_, (pss_cons (ps_set (i := 1) sc_Tie___invert__.nd rfl (Or.inl rfl) (pe_ifExp (pt_val (pe_fld (pv 0) rfl)) (pe_fld (pv 0) rfl) (pe_un un_neg (pe_fld (pv 0) rfl))))
      (pss_one (ps_ret (c_tie4 T (hr.mono (by decide)) pass0 (pa_cons (c_prop (ok_Tie_second T) (hr.mono (by decide)) T.c_Tie T.p_Tie_second (pv 0)) (pa_cons (c_prop (ok_Tie_first T) (hr.mono (by decide)) T.c_Tie T.p_Tie_first (pv 0)) (pa_cons (c_prop (ok_Tie_length T) (hr.mono (by decide)) T.c_Tie T.p_Tie_length (pv 0)) (pa_cons (pv 1) pa_nil)))) (pk_cons (c_prop (ok_Tie_down T) (hr.mono (by decide)) T.c_Tie T.p_Tie_down (pv 0)) (pk_cons (c_prop (ok_Tie_backward T) (hr.mono (by decide)) T.c_Tie T.p_Tie_backward (pv 0)) pk_nil)))))), ?_⟩
  walk_at "go"
  refine w_kTie ⟨hg.s0, hg.f0, hg.l1, hg.sl, hg.fl⟩ fun p H1 hp e hT1 => ?_
  exact w_newT k (Ex.refl H) e hT1 rfl
/-- the tie, many times -/
def mulT (t : Ti) (m : Int) : Ti := ⟨max t.f (t.f - (m - 1) * (t.s - t.f)), max t.f (t.f - (m - 1) * (t.s - t.f)) + m * (t.s - t.f), min (t.f + t.l) (t.f + t.l - (m - 1) * (t.s - t.f)) - max t.f (t.f - (m - 1) * (t.s - t.f)), t.a * m⟩
def spMul (K : PySem.W.Frag) : Sp := fun vs H Q _ => ∃ a t m, vs = [.ref a, .int m] ∧ TieAt K H a t ∧ 1 ≤ m ∧ m ≤ 10 ^ 30 ∧ (m = 1 → Q (.ref a) H) ∧ (m ≠ 1 → Sm t.a ∧ Sm (t.s - t.f) ∧ Good (mulT t m) ∧ NewT K H Q (mulT t m))
theorem sm_of {i : Int} (h1 : -(10 ^ 40) ≤ i) (h2 : i ≤ 10 ^ 40) : Sm i := by
  have h3 : i.natAbs ≤ 10 ^ 40 := by omega
  exact Nat.lt_of_le_of_lt h3 (by decide)
theorem ok_Tie___mul__ (T : Tx K mg) : FnB P w K mg base CX0 4 (ma K (ga K "Tie") "__mul__") ["self", "many"] (spMul K) [] := by
  refine mkB (k := 3) T.f_Tie___mul__ sc_Tie___mul__ (fun _ _ _ _ _ _ us hl => match us, hl with | [_, _], _ => rfl) (by walk_at "len") fun cdv A outer s H vs Q E hr h => ?_
  obtain ⟨a, t, m, rfl, hT, h1, h2, k1, k2⟩ := h
  refine ⟨_, (pss_cons (ps_if (pt_not (pt_val (c_fn (ok_is_integer3 T) (hr.mono (by decide)) T.m_is_integer T.kp_is_integer pass0 (pa_cons (pv 1) (pa_cons pe_int (pa_cons (g_int T.i_END) pa_nil)))))) (pss_one ps_never) pss_nil)
      (pss_cons (ps_if (pt_cmpR op_eq (pv 1) pe_int (nomark _)) (pss_one (ps_ret (pv 0))) pss_nil)
      (pss_cons (ps_if (pt_val (pe_fld (pv 0) rfl)) (pss_cons ps_never
      (pss_one ps_never)) (pss_cons (ps_set (i := 4) sc_Tie___mul__.nd rfl (Or.inl rfl) (c_prop (ok_Tie_shift T) (hr.mono (by decide)) T.c_Tie T.p_Tie_shift (pv 0)))
      (pss_cons (ps_set (i := 5) sc_Tie___mul__.nd rfl (Or.inl rfl) (pe_op op_mulW (pe_op op_sub (pv 1) pe_int) (pv 4)))
      (pss_cons (ps_set (i := 2) sc_Tie___mul__.nd rfl (Or.inl rfl) (pe_callB (cl_max2 rfl) (by rfl) T.b_max (by decide +kernel) (pa_cons (c_prop (ok_Tie_first T) (hr.mono (by decide)) T.c_Tie T.p_Tie_first (pv 0)) (pa_cons (pe_callTy cl_int1 (by rfl) T.b_int (by decide +kernel) (pa_cons (pe_op op_sub (c_prop (ok_Tie_first T) (hr.mono (by decide)) T.c_Tie T.p_Tie_first (pv 0)) (pv 5)) pa_nil)) pa_nil))))
      (pss_one (ps_set (i := 3) sc_Tie___mul__.nd rfl (Or.inl rfl) (pe_callB (cl_min2 rfl) (by rfl) T.b_min (by decide +kernel) (pa_cons (pe_callTy cl_int1 (by rfl) T.b_int (by decide +kernel) (pa_cons (pe_op op_add (c_prop (ok_Tie_first T) (hr.mono (by decide)) T.c_Tie T.p_Tie_first (pv 0)) (c_prop (ok_Tie_length T) (hr.mono (by decide)) T.c_Tie T.p_Tie_length (pv 0))) pa_nil)) (pa_cons (pe_callTy cl_int1 (by rfl) T.b_int (by decide +kernel) (pa_cons (pe_op op_sub (pe_op op_add (c_prop (ok_Tie_first T) (hr.mono (by decide)) T.c_Tie T.p_Tie_first (pv 0)) (c_prop (ok_Tie_length T) (hr.mono (by decide)) T.c_Tie T.p_Tie_length (pv 0))) (pv 5)) pa_nil)) pa_nil)))))))))
      (pss_cons (ps_if (pt_cmpR op_ge (pv 2) (pv 3) (nomark _)) (pss_one ps_never) pss_nil)
      (pss_cons (ps_asg (c_meth (ok_Tie_led_often T) (hr.mono (by decide)) T.c_Tie T.h_Tie_led_often pass0 (pv 0) (pa_cons (pv 1) pa_nil)) (pg_tup (n := 2) (by rfl) (pgs_cons (pg_name (i := 6) sc_Tie___mul__.nd rfl (Or.inl rfl)) (pgs_cons (pg_name (i := 7) sc_Tie___mul__.nd rfl (Or.inl rfl)) pgs_nil))))
      (pss_one (ps_ret (c_tie4 T (hr.mono (by decide)) pass0 (pa_cons (pv 2) (pa_cons (pe_op op_add (pv 2) (pe_op op_mulW (pv 1) (pv 4))) (pa_cons (pe_op op_sub (pv 3) (pv 2)) (pa_cons (pv 6) pa_nil)))) (pk_cons (pv 7) (pk_cons (pe_and (c_prop (ok_Tie_backward T) (hr.mono (by decide)) T.c_Tie T.p_Tie_backward (pv 0)) (pe_one (pe_cmpR op_eq (pe_op op_mod (pv 1) pe_int) pe_int (nomark _)))) pk_nil)))))))))), ?_⟩
  walk_at "go"
  refine w_isI3 h1 h2 ?_
  walk_at "ss"
  refine w_iteD (fun c => ?_) fun c => ?_
  · walk_at "ss"
    exact k1 c
  obtain ⟨ha, hs, hg, k⟩ := k2 c
  have hm : Sm (m - 1) := sm_of (by omega) (by omega)
  have hm2 : Sm m := sm_of (by omega) (by omega)
  walk_at "ss"
  refine w_iteN ?_ ?_
  · have := hg.l1
    have z : 1 ≤ min (t.f + t.l) (t.f + t.l - (m - 1) * (t.s - t.f)) - max t.f (t.f - (m - 1) * (t.s - t.f)) := this
    omega
  walk_at "ss"
  refine ⟨a, t, m, rfl, hT, ha, hm2, fun p H1 hp e hP => ?_⟩
  walk_at "ss"
  refine w_kTie (good_of hg rfl rfl rfl) fun p H2 hp2 e2 hT2 => ?_
  exact w_newT k e e2 hT2 rfl
end
end K22
end

/-! # K22n -/
section
set_option Elab.async false
set_option linter.all false
set_option autoImplicit false
set_option maxRecDepth 100000
set_option maxHeartbeats 4000000
namespace K22
open PySem PySem.Spec PyProof.Rows L2
open He (ga ma fAd)
open Evl (Ex ex_l ex_t sq_of st_of fresh_back)
section
variable {K : PySem.W.Frag} {σ : L2.St} {H : Hp} {Q : VK} {g : TG} {te : TE} {J : It} {n : Nat} {G : Hp → Prop} {Y : Nat → Hp → V → Hp → Prop} {vs : List Nat}
/-- a comprehension whose items are told by Pf -/
theorem lcN (w : Walk J n G Y) (hG : ∀ H', Ex H H' → G H') (Pf : Nat → V → Hp → Prop) (mo : ∀ i v, Mo (Pf i v)) (hn : n ≤ 1000)
    (hs : ∀ i x H0 H1, i < n → Ex H H0 → Y i H0 x H1 → ∀ Q' : VK, (∀ v H4, Ex H0 H4 → Pf i v H4 → Q' v H4) → g x (wipe σ vs) H1 fun σ2 H2 => wipe σ2 vs = wipe σ vs ∧ te σ2 H2 Q')
    (hd : ∀ p ys H', H p = none → Ex H H' → H' p = some (.lst ys) → ys.length = n → (∀ (i : Nat) v, ys[i]? = some v → Pf i v H') → Q (.ref p) H') : kLc g tYes te vs σ Q J H := by
  refine lcG w hG (fun i acc H' => acc.length = i ∧ ∀ (j : Nat) v, acc[j]? = some v → Pf j v H') (fun D hD => ⟨rfl, fun j v h => by simp at h⟩) (fun D i x H0 H1 acc hD hi e hA hI hy => ?_) (fun p ys H' hp e h hI => hd p ys H' hp e h hI.1 hI.2)
  refine hs i x H0 H1 hi e hy (kApp H D _ i) fun v H4 e4 hv => ?_
  have hA4 := e4 _ _ hA
  refine w_kApp hD (e.trans e4) hA4 (by omega) ⟨by simp [hI.1], fun j u hj => ?_⟩
  refine (mo j u).up _ _ _ _ hA4 ?_
  by_cases hlt : j < acc.length
  · rw [List.getElem?_append_left hlt] at hj
    exact (mo j u).ex _ _ e4 (hI.2 j u hj)
  · rw [List.getElem?_append_right (by omega)] at hj
    have : j - acc.length = 0 := by
      cases q : j - acc.length with
      | zero => rfl
      | succ m => rw [q] at hj; simp at hj
    rw [this] at hj
    have e1 : v = u := by simpa using hj
    have e2 : j = i := by omega
    subst e1 e2
    exact hv
theorem mo_const (P : Prop) : Mo fun _ => P := ⟨fun _ _ _ h => h, fun _ _ _ _ _ h => h, fun _ _ _ _ _ _ _ _ h => h⟩
/-- pure items: the list ys -/
theorem lcP {xs ys : List V} {j : Nat} {G : Hp → Prop} (w : Walk J xs.length G (YAt xs)) (hG : ∀ H', Ex H H' → G H') (hl : ys.length = xs.length) (hn : xs.length ≤ 1000) (hw : ∀ x, wipe ((wipe σ vs).set j (some x)) vs = wipe σ vs)
    (hs : ∀ (i : Nat) x y H0, xs[i]? = some x → ys[i]? = some y → Ex H H0 → ∀ Q' : VK, Q' y H0 → te ((wipe σ vs).set j (some x)) H0 Q')
    (hd : ∀ p H', H p = none → Ex H H' → H' p = some (.lst ys) → Q (.ref p) H') : kLc (gName j) tYes te vs σ Q J H := by
  refine lcN w hG (fun i v _ => ys[i]? = some v) (fun i v => mo_const _) hn (fun i x H0 H1 hi e hy Q' hQ => ?_) fun p zs H' hp e h hz hv => ?_
  · obtain ⟨rfl, hx⟩ := hy
    obtain ⟨y, hy⟩ : ∃ y, ys[i]? = some y := ⟨_, List.getElem?_eq_getElem (by omega)⟩
    exact ⟨hw x, hs i x y H1 hx hy e Q' (hQ y H1 (Ex.refl _) hy)⟩
  · have : zs = ys := by
      apply List.ext_getElem?
      intro i
      cases q : zs[i]? with
      | none =>
        have : zs.length ≤ i := List.getElem?_eq_none_iff.mp q
        exact (List.getElem?_eq_none_iff.mpr (by omega)).symm
      | some v => exact (hv i v q).symm
    subst this
    exact hd p H' hp e h
end
local macro_rules | `(tactic| walk_at "fx") => `(tactic| first
  | assumption
  | ((with_reducible apply TieAt.ex); (focus assumption); walk_at "fx")
  | ((with_reducible apply LinkAt.ex); (focus assumption); walk_at "fx")
  | ((with_reducible apply ex_l); (focus assumption); walk_at "fx")
  | ((with_reducible apply ex_t); (focus assumption); walk_at "fx")
  | ((with_reducible apply sq_of); walk_at "fx")
  | ((with_reducible apply st_of); walk_at "fx")
  | ((with_reducible apply ex_at); (focus assumption); walk_at "fx"))
local macro_rules | `(tactic| walk_at "s") => `(tactic| first
  | with_reducible refine w_seq ?_
  | ((with_reducible apply w_var); focus (exact rfl))
  | with_reducible refine w_c ?_
  | with_reducible refine w_op ?_
  | with_reducible refine w_cons ?_
  | with_reducible refine w_nil ?_
  | with_reducible refine w_asg ?_
  | with_reducible refine w_name ?_
  | with_reducible refine w_ret ?_
  | with_reducible refine w_retN ?_
  | with_reducible refine w_ifS ?_
  | with_reducible refine w_isB ?_
  | with_reducible refine w_test ?_
  | with_reducible refine w_tB ?_
  | with_reducible refine w_and ?_
  | with_reducible refine w_or ?_
  | with_reducible refine w_not ?_
  | with_reducible refine w_andV ?_
  | with_reducible refine w_orV ?_
  | with_reducible refine w_notV ?_
  | with_reducible refine w_if ?_
  | with_reducible refine w_iteT ?_
  | with_reducible refine w_iteF ?_
  | with_reducible refine w_iteNT ?_
  | with_reducible refine w_iteNF ?_
  | with_reducible refine w_un ?_
  | with_reducible refine w_call ?_
  | with_reducible refine w_cb ?_
  | with_reducible refine w_next ?_
  | with_reducible refine w_drop ?_
  | with_reducible refine w_for ?_
  | with_reducible refine w_dget0 ?_
  | with_reducible refine w_prsC ?_
  | with_reducible refine w_prsN ?_
  | with_reducible refine w_iZA ?_
  | with_reducible refine w_gSub ?_
  | with_reducible refine w_iR1 ?_
  | with_reducible refine w_p8 ?_
  | with_reducible refine w_p60 ?_
  | with_reducible refine w_p5 ?_
  | with_reducible refine w_p18 ?_
  | with_reducible refine w_p9 ?_
  | with_reducible refine w_p19 ?_
  | with_reducible refine w_p29 ?_
  | with_reducible refine w_m1 ?_
  | with_reducible refine w_kM1 ?_
  | with_reducible refine w_iStr ?_
  | with_reducible refine w_kStr ?_
  | with_reducible refine w_inS ?_
  | with_reducible refine w_sta ?_
  | with_reducible refine w_iEnumT ?_
  | with_reducible refine w_thn ?_
  | with_reducible refine w_chain ?_
  | with_reducible refine w_gAttr ?_
  | with_reducible refine w_isNr ?_
  | with_reducible refine w_iEnum ?_
  | ((with_reducible apply w_kEnum); focus (walk_at "fx"))
  | with_reducible refine w_sl3 ?_
  | with_reducible refine w_noPart ?_
  | with_reducible refine w_part ?_
  | with_reducible refine w_kPt ?_
  | with_reducible refine w_bm ?_
  | with_reducible refine w_ckw ?_
  | with_reducible refine w_tst ?_
  | with_reducible refine w_mk ?_
  | ((with_reducible apply w_psl); (focus (walk_at "fx")))
  | ((with_reducible apply w_mT); (focus (walk_at "fx")); (focus (exact rfl)))
  | ((with_reducible apply w_partner); (focus (walk_at "fx")))
  | ((with_reducible apply w_led); (focus (walk_at "fx")))
  | ((with_reducible apply w_spT); (focus (walk_at "fx")))
  | with_reducible refine w_lc ?_
  | with_reducible refine w_yes ?_
  | with_reducible refine w_gCons ?_
  | with_reducible refine w_gNil ?_
  | ((with_reducible apply w_gTup); (focus (walk_at "fx")); focus (exact rfl))
  | ((with_reducible apply w_minL2); focus (walk_at "fx"))
  | ((with_reducible apply w_slT); (focus assumption); (focus (walk_at "fx")))
  | ((with_reducible apply w_kIT); focus (walk_at "fx"))
  | ((with_reducible apply w_kIL); focus (walk_at "fx"))
  | with_reducible refine w_neg ?_
  | with_reducible refine w_tie ?_
  | with_reducible refine w_iT ?_
  | with_reducible refine w_iL ?_
  | with_reducible refine w_sFld ?_
  | with_reducible refine w_sSl ?_
  | with_reducible refine w_propSl ?_
  | with_reducible refine w_par ?_
  | with_reducible refine w_kPar ?_
  | with_reducible refine w_tup ?_
  | with_reducible refine w_lst ?_
  | with_reducible refine w_I0 ?_
  | with_reducible refine w_U ?_
  | with_reducible refine w_eqI ?_
  | with_reducible refine w_neI ?_
  | with_reducible refine w_eqS ?_
  | with_reducible refine w_neS ?_
  | with_reducible refine w_eqB ?_
  | with_reducible refine w_neB ?_
  | with_reducible refine w_isNn ?_
  | with_reducible refine w_isNr ?_
  | with_reducible refine w_isNi ?_
  | with_reducible refine w_notNn ?_
  | with_reducible refine w_notNr ?_
  | with_reducible refine w_notNi ?_
  | with_reducible refine w_xisN ?_
  | with_reducible refine w_fld ?_
  | with_reducible refine w_prop ?_
  | with_reducible refine w_meth ?_
  | ((with_reducible apply w_mod); focus assumption)
  | ((with_reducible apply w_mulW); (focus assumption); focus assumption)
  | ((with_reducible apply w_divW); (focus assumption); focus assumption)
  | with_reducible refine w_int1 ?_
  | with_reducible refine w_intB ?_
  | with_reducible refine w_min2 ?_
  | with_reducible refine w_max2 ?_
  | with_reducible refine w_abs ?_
  | with_reducible refine w_isiI ?_
  | with_reducible refine w_isiNB ?_
  | with_reducible refine w_isiB ?_
  | with_reducible refine w_isiS ?_
  | ((with_reducible apply w_isiT); (focus assumption); focus (walk_at "fx"))
  | ((with_reducible apply w_fTd); (focus assumption); focus (walk_at "fx"))
  | ((with_reducible apply w_fTb); (focus assumption); focus (walk_at "fx"))
  | ((with_reducible apply w_fTf); (focus assumption); focus (walk_at "fx"))
  | ((with_reducible apply w_fTs); (focus assumption); focus (walk_at "fx"))
  | ((with_reducible apply w_fTl); (focus assumption); focus (walk_at "fx"))
  | ((with_reducible apply w_fTa); (focus assumption); focus (walk_at "fx"))
  | ((with_reducible apply w_pT); focus (walk_at "fx"))
  | with_reducible refine w_sl ?_
  | ((with_reducible apply w_len); focus (walk_at "fx"))
  | ((with_reducible apply w_kT); focus (exact Nat.le_of_ble_eq_true rfl)))
local macro_rules | `(tactic| walk_at "ss") => `(tactic| repeat (walk_at "s"))
local macro_rules | `(tactic| walk_at "go") => `(tactic| ((try dsimp only [cxOf, Cx.nox, Cx.wish]); walk_at "ss"))
local macro_rules | `(tactic| walk_at "len") => `(tactic| (intro vs H Q E h; (repeat (obtain ⟨_, h⟩ := h)); all_goals (subst_vars; rfl)))
theorem get2 {α : Type} {x y z : α} {i : Nat} (h : [x, y][i]? = some z) : (i = 0 ∧ z = x) ∨ (i = 1 ∧ z = y) := by
  match i, h with
  | 0, h => exact .inl ⟨rfl, by simpa using h.symm⟩
  | 1, h => exact .inr ⟨rfl, by simpa using h.symm⟩
  | n + 2, h => simp at h
def joinT (t u : Ti) : Ti := ⟨max (u.f - (t.s - t.f)) t.f, max (u.f - (t.s - t.f)) t.f + (t.s - t.f) + (u.s - u.f), min (u.f + u.l - (t.s - t.f)) (t.f + t.l) - max (u.f - (t.s - t.f)) t.f, u.a + t.a⟩
def spShr (K : PySem.W.Frag) : Sp := fun vs H Q _ => ∃ a b t u, vs = [.ref a, .ref b] ∧ TieAt K H a t ∧ TieAt K H b u ∧ Good (joinT t u) ∧ NewT K H Q (joinT t u)
section
variable {P : Program} {w : World} {K : PySem.W.Frag} {mg : Str → Option Value} {base : Heap}
theorem ok_Tie___rshift__ (T : Tx K mg) : FnB P w K mg base CX0 4 (ma K (ga K "Tie") "__rshift__") ["self", "other"] (spShr K) [] := by
  refine mkB (k := 3) T.f_Tie___rshift__ sc_Tie___rshift__ (fun _ _ _ _ _ _ us hl => match us, hl with | [_, _], _ => rfl) (by walk_at "len") fun cdv A outer s H vs Q E hr h => ?_
  obtain ⟨a, b, t, u, rfl, hT, hU, hg, k⟩ := h
  have hl := hg.l1
  refine ⟨_, (pss_cons (ps_if (pt_not (pt_val (pe_callB call_isi (by rfl) T.b_isinstance (by decide +kernel) (pa_cons (pv 1) (pa_cons (g_ref T.m_Tie) pa_nil))))) (pss_one ps_never) pss_nil)
      (pss_cons (ps_asg (c_meth (ok_Tie_places_into T) (hr.mono (by decide)) T.c_Tie T.h_Tie_places_into pass0 (pv 0) (pa_cons (c_prop (ok_Tie_first T) (hr.mono (by decide)) T.c_Tie T.p_Tie_first (pv 1)) (pa_cons (pe_op op_add (c_prop (ok_Tie_first T) (hr.mono (by decide)) T.c_Tie T.p_Tie_first (pv 1)) (c_prop (ok_Tie_length T) (hr.mono (by decide)) T.c_Tie T.p_Tie_length (pv 1))) pa_nil))) (pg_tup (n := 2) (by rfl) (pgs_cons (pg_name (i := 2) sc_Tie___rshift__.nd rfl (Or.inl rfl)) (pgs_cons (pg_name (i := 3) sc_Tie___rshift__.nd rfl (Or.inl rfl)) pgs_nil))))
      (pss_cons (ps_if (pt_cmpR op_ge (pv 2) (pv 3) (nomark _)) (pss_one ps_never) pss_nil)
      (pss_cons (ps_setLc (i := 4) (own := [("place", 7)]) (g := (gName 7)) rfl sc_Tie___rshift__.nd rfl rfl (sw_true rfl rfl rfl (by decide +kernel)) (pi_tup (pe_tup (pa_cons (pv 2) (pa_cons (pe_op op_sub (pv 3) pe_int) pa_nil)))) (blkOk_by (N := n_Tie___rshift__) (sc := defScope s_Tie___rshift__) (by decide +kernel)) (fun _ _ _ _ _ => (pg_name (i := 7) sc_Tie___rshift__.nd rfl (Or.inl rfl))) (fun _ _ _ _ _ => pts_nil) (fun _ _ _ _ _ => (c_meth (ok_Tie_partner T) (hr.mono (by decide)) T.c_Tie T.h_Tie_partner pass0 (pv 1) (pa_cons (c_meth (ok_Tie_partner T) (hr.mono (by decide)) T.c_Tie T.h_Tie_partner pass0 (pv 0) (pa_cons (pv 7) pa_nil)) pa_nil))))
      (pss_cons (ps_par (i := 5) (j := 6) (by rfl) sc_Tie___rshift__.nd rfl rfl (by decide) rfl rfl (pa_cons (pe_callB cl_minL (by rfl) T.b_min (by decide +kernel) (pa_cons (pe_lc (own := [("end", 8)]) (g := (gName 8)) rfl sc_Tie___rshift__.nd (pi_list (pv 4)) (blkOk_by (N := n_Tie___rshift__) (sc := defScope s_Tie___rshift__) (by decide +kernel)) (fun _ _ _ _ _ => (pg_name (i := 8) sc_Tie___rshift__.nd rfl (Or.inl rfl))) (fun _ _ _ _ _ => pts_nil) (fun _ _ _ _ _ => (pe_callTy cl_int1 (by rfl) T.b_int (by decide +kernel) (pa_cons (pv 8) pa_nil)))) pa_nil)) (pa_cons (pe_cmpR op_ne (c_prop (ok_Tie_backward T) (hr.mono (by decide)) T.c_Tie T.p_Tie_backward (pv 0)) (c_prop (ok_Tie_backward T) (hr.mono (by decide)) T.c_Tie T.p_Tie_backward (pv 1)) (nomark _)) pa_nil)) (by rfl))
      (pss_one (ps_ret (c_tie4 T (hr.mono (by decide)) pass0 (pa_cons (pv 2) (pa_cons (pv 5) (pa_cons (pe_op op_sub (pv 3) (pv 2)) (pa_cons (c_meth (ok_Tie_led T) (hr.mono (by decide)) T.c_Tie T.h_Tie_led pass0 (pv 1) (pa_cons (c_prop (ok_Tie_amount T) (hr.mono (by decide)) T.c_Tie T.p_Tie_amount (pv 0)) pa_nil)) pa_nil)))) (pk_cons (pe_cmpR op_ne (c_prop (ok_Tie_down T) (hr.mono (by decide)) T.c_Tie T.p_Tie_down (pv 0)) (c_prop (ok_Tie_down T) (hr.mono (by decide)) T.c_Tie T.p_Tie_down (pv 1)) (nomark _)) (pk_cons (pv 6) pk_nil)))))))))), ?_⟩
  walk_at "go"
  refine ⟨a, t, _, _, rfl, hT, fun p H1 hp e1 hP => ?_⟩
  walk_at "ss"
  refine w_iteN ?_ ?_
  · have z : 1 ≤ min (u.f + u.l - (t.s - t.f)) (t.f + t.l) - max (u.f - (t.s - t.f)) t.f := hl
    omega
  walk_at "ss"
  intro p2 H2 hp2 e2 hP2
  walk_at "ss"
  generalize hlo : max (u.f - (t.s - t.f)) t.f = lo at *
  generalize hhi : min (u.f + u.l - (t.s - t.f)) (t.f + t.l) = hi at *
  refine lcP (xs := [.int lo, .int (hi - 1)]) (ys := [.int (lo + (t.s - t.f) + (u.s - u.f)), .int (hi - 1 + (t.s - t.f) + (u.s - u.f))]) walk_tup (fun H' e => ex_t e (st_of hP2)) rfl (Nat.le_of_ble_eq_true rfl) (fun x => rfl) (fun i x y H0 hx hy e Q' hQ => ?_) fun p3 H3 hp3 e3 hP3 => ?_
  · rcases get2 hx with ⟨rfl, rfl⟩ | ⟨rfl, rfl⟩
    · obtain rfl : V.int (lo + (t.s - t.f) + (u.s - u.f)) = y := by simpa using hy
      walk_at "ss"
      exact hQ
    · obtain rfl : V.int (hi - 1 + (t.s - t.f) + (u.s - u.f)) = y := by simpa using hy
      walk_at "ss"
      exact hQ
  walk_at "ss"
  refine lcP (xs := [.int (lo + (t.s - t.f) + (u.s - u.f)), .int (hi - 1 + (t.s - t.f) + (u.s - u.f))]) (ys := [.int (lo + (t.s - t.f) + (u.s - u.f)), .int (hi - 1 + (t.s - t.f) + (u.s - u.f))]) walk_list (fun H' e => ex_l e (sq_of hP3)) rfl (Nat.le_of_ble_eq_true rfl) (fun x => rfl) (fun i x y H0 hx hy e Q' hQ => ?_) fun p4 H4 hp4 e4 hP4 => ?_
  · rcases get2 hx with ⟨rfl, rfl⟩ | ⟨rfl, rfl⟩
    · obtain rfl : V.int (lo + (t.s - t.f) + (u.s - u.f)) = y := by simpa using hy
      walk_at "ss"
      exact hQ
    · obtain rfl : V.int (hi - 1 + (t.s - t.f) + (u.s - u.f)) = y := by simpa using hy
      walk_at "ss"
      exact hQ
  walk_at "ss"
  have e5 : min (lo + (t.s - t.f) + (u.s - u.f)) (hi - 1 + (t.s - t.f) + (u.s - u.f)) = lo + (t.s - t.f) + (u.s - u.f) := by
    have z : 1 ≤ min (u.f + u.l - (t.s - t.f)) (t.f + t.l) - max (u.f - (t.s - t.f)) t.f := hl
    omega
  rw [e5]
  refine w_kTie (good_of hg hlo (by show _ = _; rw [← hlo]) (by rw [← hlo, ← hhi])) fun p H1 hp e hT1 => ?_
  exact w_newT k (((e1.trans e2).trans e3).trans e4) e hT1 (by subst hlo hhi; rfl)
end
end K22
end

/-! # K22o -/
section
set_option Elab.async false
set_option linter.all false
set_option autoImplicit false
set_option maxRecDepth 100000
set_option maxHeartbeats 4000000
namespace K22
open PySem PySem.Spec PyProof.Rows L2
open He (ga ma fAd)
open Evl (Ex ex_l ex_t sq_of st_of fresh_back)
/-! ## links -/
def kMk (C : Addr) (sp : Sp) (dvs : List V) (E : XK) (Q : VK) : List V → Hp → Prop := fun vs H1 => ∀ x dx, H1 x = none → H1 dx = none → dx ≠ x →
  sp (.ref x :: (vs ++ dvs)) (upd (upd H1 dx (.own x)) x (.ins C dx [])) (fun v H2 => v = .non ∧ Q (.ref x) H2) E
theorem w_mk {C : Addr} {sp : Sp} {dvs : List V} {E : XK} {Q : VK} {t : TA} {σ : L2.St} {H : Hp} (h : t σ H (kMk C sp dvs E Q)) : tMake C sp dvs E t σ H Q := h
def spLink (K : PySem.W.Frag) : Sp := fun vs H Q _ => ∃ x dx b r ps, vs = [.ref x, b, r, ps] ∧ dx ≠ x ∧ H x = some (.ins (ga K "Link") dx []) ∧ Q .non (SlX.slH H x (ga K "Link") dx (SlX.putS 0 ps (SlX.putS 1 r (SlX.putS 2 b []))))
def NewL (K : PySem.W.Frag) (H : Hp) (Q : VK) (t : Ti) : Prop := ∀ p H', Ex H H' → LinkAt K H' p t → Q (.ref p) H'
theorem slH_ex {H : Hp} {x C dx : Addr} {vs : List (Option V)} (h1 : H x = none) (h2 : H dx = none) : Ex H (SlX.slH (upd (upd H dx (.own x)) x (.ins C dx [])) x C dx vs) := fun a o e => by
  have n1 : a ≠ x := ne_of_none e h1
  have n2 : a ≠ dx := ne_of_none e h2
  rw [SlX.slH_ne n1 n2, upd_ne n1, upd_ne n2]; exact e
theorem w_kLink {K : PySem.W.Frag} {dvs : List V} {E : XK} {Q : VK} {H : Hp} {b : Addr} {r ps : V} {t : Ti} {l : List V} (hT : TieAt K H b t) (hl : l ++ dvs = [.ref b, r, ps]) (k : NewL K H Q t) : kMk (ga K "Link") (spLink K) dvs E Q l H := fun x dx hx hdx hne => by
  refine ⟨x, dx, .ref b, r, ps, by rw [hl], hne, upd_same, rfl, k x _ (slH_ex hx hdx) ?_⟩
  exact ⟨dx, _, b, SlX.slH_slt hne, rfl, hT.ex (slH_ex hx hdx)⟩
theorem w_kLink3 {K : PySem.W.Frag} {E : XK} {Q : VK} {H : Hp} {b : Addr} {r ps : V} {t : Ti} (hT : TieAt K H b t) (k : NewL K H Q t) : kMk (ga K "Link") (spLink K) [] E Q [.ref b, r, ps] H := w_kLink hT rfl k
theorem w_kLink2 {K : PySem.W.Frag} {E : XK} {Q : VK} {H : Hp} {b : Addr} {r : V} {d : V} {dvs : List V} {t : Ti} (hd : dvs = [d]) (hT : TieAt K H b t) (k : NewL K H Q t) : kMk (ga K "Link") (spLink K) dvs E Q [.ref b, r] H := w_kLink (ps := d) hT (by rw [hd]; rfl) k
def spL (K : PySem.W.Frag) (g : Ti → V) : Sp := fun vs H Q _ => ∃ a t, vs = [.ref a] ∧ LinkAt K H a t ∧ Q (g t) H
theorem w_psl {K : PySem.W.Frag} {g : Ti → V} {E : XK} {Q : VK} {H : Hp} {a : Addr} {t : Ti} (hL : LinkAt K H a t) (h : Q (g t) H) : kPropSl (ga K "Link") (spL K g) E Q (.ref a) H := by
  obtain ⟨dx, vs, b, h1, h2, h3⟩ := id hL
  exact ⟨a, dx, vs, rfl, h1, a, t, rfl, hL, h⟩
local macro_rules | `(tactic| walk_at "fx") => `(tactic| first
  | assumption
  | ((with_reducible apply TieAt.ex); (focus assumption); walk_at "fx")
  | ((with_reducible apply LinkAt.ex); (focus assumption); walk_at "fx")
  | ((with_reducible apply ex_l); (focus assumption); walk_at "fx")
  | ((with_reducible apply ex_t); (focus assumption); walk_at "fx")
  | ((with_reducible apply sq_of); walk_at "fx")
  | ((with_reducible apply st_of); walk_at "fx")
  | ((with_reducible apply ex_at); (focus assumption); walk_at "fx"))
local macro_rules | `(tactic| walk_at "s") => `(tactic| first
  | with_reducible refine w_seq ?_
  | ((with_reducible apply w_var); focus (exact rfl))
  | with_reducible refine w_c ?_
  | with_reducible refine w_op ?_
  | with_reducible refine w_cons ?_
  | with_reducible refine w_nil ?_
  | with_reducible refine w_asg ?_
  | with_reducible refine w_name ?_
  | with_reducible refine w_ret ?_
  | with_reducible refine w_retN ?_
  | with_reducible refine w_ifS ?_
  | with_reducible refine w_isB ?_
  | with_reducible refine w_test ?_
  | with_reducible refine w_tB ?_
  | with_reducible refine w_and ?_
  | with_reducible refine w_or ?_
  | with_reducible refine w_not ?_
  | with_reducible refine w_andV ?_
  | with_reducible refine w_orV ?_
  | with_reducible refine w_notV ?_
  | with_reducible refine w_if ?_
  | with_reducible refine w_iteT ?_
  | with_reducible refine w_iteF ?_
  | with_reducible refine w_iteNT ?_
  | with_reducible refine w_iteNF ?_
  | with_reducible refine w_un ?_
  | with_reducible refine w_call ?_
  | with_reducible refine w_cb ?_
  | with_reducible refine w_next ?_
  | with_reducible refine w_drop ?_
  | with_reducible refine w_for ?_
  | with_reducible refine w_dget0 ?_
  | with_reducible refine w_prsC ?_
  | with_reducible refine w_prsN ?_
  | with_reducible refine w_iZA ?_
  | with_reducible refine w_gSub ?_
  | with_reducible refine w_iR1 ?_
  | with_reducible refine w_p8 ?_
  | with_reducible refine w_p60 ?_
  | with_reducible refine w_p5 ?_
  | with_reducible refine w_p18 ?_
  | with_reducible refine w_p9 ?_
  | with_reducible refine w_p19 ?_
  | with_reducible refine w_p29 ?_
  | with_reducible refine w_m1 ?_
  | with_reducible refine w_kM1 ?_
  | with_reducible refine w_iStr ?_
  | with_reducible refine w_kStr ?_
  | with_reducible refine w_inS ?_
  | with_reducible refine w_sta ?_
  | with_reducible refine w_iEnumT ?_
  | with_reducible refine w_thn ?_
  | with_reducible refine w_chain ?_
  | with_reducible refine w_gAttr ?_
  | with_reducible refine w_isNr ?_
  | with_reducible refine w_iEnum ?_
  | ((with_reducible apply w_kEnum); focus (walk_at "fx"))
  | with_reducible refine w_sl3 ?_
  | with_reducible refine w_noPart ?_
  | with_reducible refine w_part ?_
  | with_reducible refine w_kPt ?_
  | with_reducible refine w_bm ?_
  | with_reducible refine w_ckw ?_
  | with_reducible refine w_tst ?_
  | with_reducible refine w_mk ?_
  | ((with_reducible apply w_psl); (focus (walk_at "fx")))
  | ((with_reducible apply w_mT); (focus (walk_at "fx")); (focus (exact rfl)))
  | ((with_reducible apply w_partner); (focus (walk_at "fx")))
  | ((with_reducible apply w_led); (focus (walk_at "fx")))
  | ((with_reducible apply w_spT); (focus (walk_at "fx")))
  | with_reducible refine w_lc ?_
  | with_reducible refine w_yes ?_
  | with_reducible refine w_gCons ?_
  | with_reducible refine w_gNil ?_
  | ((with_reducible apply w_gTup); (focus (walk_at "fx")); focus (exact rfl))
  | ((with_reducible apply w_minL2); focus (walk_at "fx"))
  | ((with_reducible apply w_slT); (focus assumption); (focus (walk_at "fx")))
  | ((with_reducible apply w_kIT); focus (walk_at "fx"))
  | ((with_reducible apply w_kIL); focus (walk_at "fx"))
  | with_reducible refine w_neg ?_
  | with_reducible refine w_tie ?_
  | with_reducible refine w_iT ?_
  | with_reducible refine w_iL ?_
  | with_reducible refine w_sFld ?_
  | with_reducible refine w_sSl ?_
  | with_reducible refine w_propSl ?_
  | with_reducible refine w_par ?_
  | with_reducible refine w_kPar ?_
  | with_reducible refine w_tup ?_
  | with_reducible refine w_lst ?_
  | with_reducible refine w_I0 ?_
  | with_reducible refine w_U ?_
  | with_reducible refine w_eqI ?_
  | with_reducible refine w_neI ?_
  | with_reducible refine w_eqS ?_
  | with_reducible refine w_neS ?_
  | with_reducible refine w_eqB ?_
  | with_reducible refine w_neB ?_
  | with_reducible refine w_isNn ?_
  | with_reducible refine w_isNr ?_
  | with_reducible refine w_isNi ?_
  | with_reducible refine w_notNn ?_
  | with_reducible refine w_notNr ?_
  | with_reducible refine w_notNi ?_
  | with_reducible refine w_xisN ?_
  | with_reducible refine w_fld ?_
  | with_reducible refine w_prop ?_
  | with_reducible refine w_meth ?_
  | ((with_reducible apply w_mod); focus assumption)
  | ((with_reducible apply w_mulW); (focus assumption); focus assumption)
  | ((with_reducible apply w_divW); (focus assumption); focus assumption)
  | with_reducible refine w_int1 ?_
  | with_reducible refine w_intB ?_
  | with_reducible refine w_min2 ?_
  | with_reducible refine w_max2 ?_
  | with_reducible refine w_abs ?_
  | with_reducible refine w_isiI ?_
  | with_reducible refine w_isiNB ?_
  | with_reducible refine w_isiB ?_
  | with_reducible refine w_isiS ?_
  | ((with_reducible apply w_isiT); (focus assumption); focus (walk_at "fx"))
  | ((with_reducible apply w_fTd); (focus assumption); focus (walk_at "fx"))
  | ((with_reducible apply w_fTb); (focus assumption); focus (walk_at "fx"))
  | ((with_reducible apply w_fTf); (focus assumption); focus (walk_at "fx"))
  | ((with_reducible apply w_fTs); (focus assumption); focus (walk_at "fx"))
  | ((with_reducible apply w_fTl); (focus assumption); focus (walk_at "fx"))
  | ((with_reducible apply w_fTa); (focus assumption); focus (walk_at "fx"))
  | ((with_reducible apply w_pT); focus (walk_at "fx"))
  | with_reducible refine w_sl ?_
  | ((with_reducible apply w_len); focus (walk_at "fx"))
  | ((with_reducible apply w_kT); focus (exact Nat.le_of_ble_eq_true rfl)))
local macro_rules | `(tactic| walk_at "ss") => `(tactic| repeat (walk_at "s"))
local macro_rules | `(tactic| walk_at "go") => `(tactic| ((try dsimp only [cxOf, Cx.nox, Cx.wish]); walk_at "ss"))
local macro_rules | `(tactic| walk_at "len") => `(tactic| (intro vs H Q E h; (repeat (obtain ⟨_, h⟩ := h)); all_goals (subst_vars; rfl)))
section
variable {P : Program} {w : World} {K : PySem.W.Frag} {mg : Str → Option Value} {base : Heap}
theorem ok_Link (T : Tx K mg) {fd : FuncData} (F : FunD K "__init__" "Link.__init__" (defArgs s_Link___init__) (defBody s_Link___init__) (defScope s_Link___init__) (d_Link___init__.dvs K) [] (ma K (ga K "Link") "__init__") fd) :
    FnOk P w K mg base CX0 1 (ma K (ga K "Link") "__init__") fd ["self", "tie", "reason", "parents"] (spLink K) := by
  refine F.ok sc_Link___init__ (by walk_at "len") fun cdv A outer s H vs Q E hr h => ?_
  obtain ⟨x, dx, b, r, ps, rfl, hne, hx, k⟩ := h
  refine ⟨_, PSs.nox ((pss_cons (SlX.ps_sl (pv 0) (pv 1))
      (pss_cons (SlX.ps_sl (pv 0) (pv 2))
      (pss_one (SlX.ps_sl (pv 0) (pv 3)))))), ?_⟩
  walk_at "go"
  refine w_kSlS (.inl ⟨hx, rfl⟩) T.SC T.sl_tie ?_
  walk_at "ss"
  refine w_kSlS (SlX.slH_slt hne) T.SC T.sl_reason ?_
  walk_at "ss"
  refine w_kSlS (SlX.slH_slt hne) T.SC T.sl_parents ?_
  rw [SlX.slH_twice hne, SlX.slH_twice hne]
  exact k
theorem ok_Link3 (T : Tx K mg) : FnB P w K mg base CX0 1 (ma K (ga K "Link") "__init__") ["self", "tie", "reason", "parents"] (spLink K) [] := by
  obtain ⟨fd, F⟩ := T.f_Link___init__
  obtain ⟨ds, v, b⟩ := F.binds1 (ps := ["self", "tie", "reason", "parents"]) 4 1 (by simp [He.DefD.dvs, d_Link___init__]) rfl fun T kV doc pm an cdv ct us its h1 h2 => match us, h1, its, h2 with | [_, _, _, _], _, [_], _ => ⟨_, rfl, rfl⟩
  exact ⟨fd, ds, ok_Link T F, v, b⟩
theorem ok_Link2 (T : Tx K mg) : FnB P w K mg base CX0 1 (ma K (ga K "Link") "__init__") ["self", "tie", "reason", "parents"] (spLink K) (d_Link___init__.dvs K) := by
  obtain ⟨fd, F⟩ := T.f_Link___init__
  obtain ⟨ds, v, b⟩ := F.binds1 (ps := ["self", "tie", "reason", "parents"]) 3 0 (by simp [He.DefD.dvs, d_Link___init__]) rfl fun T kV doc pm an cdv ct us its h1 h2 => match us, h1, its, h2 with | [_, _, _], _, [_], _ => ⟨_, rfl, rfl⟩
  exact ⟨fd, ds, ok_Link T F, v, b⟩
theorem ok_Link_behind (T : Tx K mg) : FnB P w K mg base CX0 3 (gAd K d_Link_behind.at_) ["self"] (spL K fun t => .int (t.s + t.l)) [] := by
  refine mkB (k := 2) T.f_Link_behind sc_Link_behind (fun _ _ _ _ _ _ us hl => match us, hl with | [_], _ => rfl) (by walk_at "len") fun cdv A outer s H vs Q E hr h => ?_
  obtain ⟨a, t, rfl, hL, k⟩ := h
  refine ⟨_, (pss_one (ps_ret (pe_op op_add (c_prop (ok_Tie_second T) (hr.mono (by decide)) T.c_Tie T.p_Tie_second (SlX.pe_sl (pv 0))) (c_prop (ok_Tie_length T) (hr.mono (by decide)) T.c_Tie T.p_Tie_length (SlX.pe_sl (pv 0)))))), ?_⟩
  walk_at "go"
  intro b hT
  walk_at "ss"
  intro b' hT'
  walk_at "ss"
  exact k
theorem w_newL {H H1 H2 : Hp} {Q : VK} {t t' : Ti} {p : Addr} (k : NewL K H Q t) (e1 : Ex H H1) (e2 : Ex H1 H2) (hT : LinkAt K H2 p t') (e : t' = t) : Q (.ref p) H2 := by subst e; exact k p H2 (e1.trans e2) hT
theorem w_shr {H : Hp} {Q : VK} {E : XK} {a b : Addr} {t u : Ti} (hT : TieAt K H a t) (hU : TieAt K H b u) (hg : Good (joinT t u)) (k : NewT K H Q (joinT t u)) : rShrO (ga K "Tie") (spShr K) E (.ref a) (.ref b) H Q := by
  obtain ⟨dx, e⟩ := id hT
  obtain ⟨dy, e2⟩ := id hU
  exact ⟨a, dx, _, b, dy, _, rfl, rfl, e, e2, a, b, t, u, rfl, hT, hU, hg, fun p H' e h => ⟨p, rfl, k p H' e h⟩⟩
theorem w_mulO {H : Hp} {Q : VK} {E : XK} {a : Addr} {t : Ti} {m : Int} (hT : TieAt K H a t) (h1 : 1 ≤ m) (h2 : m ≤ 10 ^ 30) (k1 : m = 1 → Q (.ref a) H) (k2 : m ≠ 1 → Sm t.a ∧ Sm (t.s - t.f) ∧ Good (mulT t m) ∧ NewT K H Q (mulT t m)) : rMulO (ga K "Tie") (spMul K) E (.ref a) (.int m) H Q := by
  obtain ⟨dx, e⟩ := id hT
  refine ⟨a, dx, _, m, rfl, rfl, e, a, t, m, rfl, hT, h1, h2, fun z => ⟨a, rfl, k1 z⟩, fun z => ?_⟩
  obtain ⟨a1, a2, a3, a4⟩ := k2 z
  exact ⟨a1, a2, a3, fun p H' e h => ⟨p, rfl, a4 p H' e h⟩⟩
theorem w_invO {H : Hp} {Q : VK} {E : XK} {a : Addr} {t : Ti} (hT : TieAt K H a t) (hg : Good t) (k : NewT K H Q ⟨t.s, t.f, t.l, -t.a⟩) : rInvO (ga K "Tie") (spInv K) E (.ref a) H Q := by
  obtain ⟨dx, e⟩ := id hT
  exact ⟨a, dx, _, rfl, e, a, t, rfl, hT, hg, k⟩
def spBack (K : PySem.W.Frag) : Sp := fun vs H Q _ => ∃ a t, vs = [.ref a] ∧ LinkAt K H a t ∧ Good t ∧ NewL K H Q ⟨t.s, t.f, t.l, -t.a⟩
theorem ok_back (T : Tx K mg) : FnB P w K mg base CX0 5 (ga K "back") ["link"] (spBack K) [] := by
  refine mkB (k := 4) T.f_back sc_back (fun _ _ _ _ _ _ us hl => match us, hl with | [_], _ => rfl) (by walk_at "len") fun cdv A outer s H vs Q E hr h => ?_
  obtain ⟨a, t, rfl, hL, hg, k⟩ := h
  refine ⟨_, (pss_one (ps_ret (c_make (ok_Link3 T) (hr.mono (by decide)) T.k_Link T.m_Link pass0 (pa_cons (pe_un (o_inv (ok_Tie___invert__ T) (hr.mono (by decide)) T.h_Tie___invert__ pass0) (SlX.pe_sl (pv 0))) (pa_cons (pe_tup (pa_cons (g_str T.t_BACK_ladder) pa_nil)) (pa_cons (pe_tup (pa_cons (pv 0) pa_nil)) pa_nil)))))), ?_⟩
  walk_at "go"
  intro b hT
  refine w_invO hT hg fun p H1 e1 hP => ?_
  walk_at "ss"
  intro p2 H2 hp2 e2 _
  walk_at "ss"
  intro p3 H3 hp3 e3 _
  walk_at "ss"
  refine w_kLink3 (hP.ex (e2.trans e3)) fun q H4 e4 hQ => ?_
  exact w_newL k ((e1.trans e2).trans e3) e4 hQ rfl
def spJoined (K : PySem.W.Frag) : Sp := fun vs H Q _ => ∃ a b t u, vs = [.ref a, .ref b] ∧ LinkAt K H a t ∧ LinkAt K H b u ∧ Good (joinT t u) ∧ NewL K H Q (joinT t u)
theorem ok_joined (T : Tx K mg) : FnB P w K mg base CX0 5 (ga K "joined") ["one", "other"] (spJoined K) [] := by
  refine mkB (k := 4) T.f_joined sc_joined (fun _ _ _ _ _ _ us hl => match us, hl with | [_, _], _ => rfl) (by walk_at "len") fun cdv A outer s H vs Q E hr h => ?_
  obtain ⟨a, b, t, u, rfl, hL, hM, hg, k⟩ := h
  refine ⟨_, (pss_one (ps_ret (c_make (ok_Link3 T) (hr.mono (by decide)) T.k_Link T.m_Link pass0 (pa_cons (pe_op (o_shr (ok_Tie___rshift__ T) (hr.mono (by decide)) T.h_Tie___rshift__ T.x_Tie_sf pass0) (SlX.pe_sl (pv 0)) (SlX.pe_sl (pv 1))) (pa_cons (pe_tup (pa_cons (g_str T.t_JOINED) pa_nil)) (pa_cons (pe_tup (pa_cons (pv 0) (pa_cons (pv 1) pa_nil))) pa_nil)))))), ?_⟩
  walk_at "go"
  intro b1 hT
  walk_at "ss"
  intro b2 hU
  refine w_shr hT hU hg fun p H1 e1 hP => ?_
  walk_at "ss"
  intro p2 H2 hp2 e2 _
  walk_at "ss"
  intro p3 H3 hp3 e3 _
  walk_at "ss"
  refine w_kLink3 (hP.ex (e2.trans e3)) fun q H4 e4 hQ => ?_
  exact w_newL k ((e1.trans e2).trans e3) e4 hQ rfl
theorem mulT_one (t : Ti) : mulT t 1 = t := by
  obtain ⟨f, s, l, a⟩ := t
  simp only [mulT, Ti.mk.injEq]
  refine ⟨?_, ?_, ?_, ?_⟩ <;> omega
def spTimes (K : PySem.W.Frag) : Sp := fun vs H Q _ => ∃ a t m, vs = [.ref a, .int m] ∧ LinkAt K H a t ∧ 1 ≤ m ∧ m ≤ 10 ^ 30 ∧ Sm t.a ∧ Sm (t.s - t.f) ∧ Good (mulT t m) ∧ NewL K H Q (mulT t m)
theorem ok_times (T : Tx K mg) : FnB P w K mg base CX0 5 (ga K "times") ["link", "many"] (spTimes K) [] := by
  refine mkB (k := 4) T.f_times sc_times (fun _ _ _ _ _ _ us hl => match us, hl with | [_, _], _ => rfl) (by walk_at "len") fun cdv A outer s H vs Q E hr h => ?_
  obtain ⟨a, t, m, rfl, hL, h1, h2, h3, h4, hg, k⟩ := h
  refine ⟨_, (pss_one (ps_ret (pe_ifExp (pt_cmpR op_eq (pv 1) pe_int (nomark _)) (pv 0) (c_make (ok_Link3 T) (hr.mono (by decide)) T.k_Link T.m_Link pass0 (pa_cons (pe_op (o_mul (ok_Tie___mul__ T) (hr.mono (by decide)) T.h_Tie___mul__ T.x_Tie_sf T.x_Tie_rm T.x_int_m T.x_int_r T.x_int_s pass0) (SlX.pe_sl (pv 0)) (pv 1)) (pa_cons (pe_tup (pa_cons (g_str T.t_TIMES) (pa_cons (pv 1) pa_nil))) (pa_cons (pe_tup (pa_cons (pv 0) pa_nil)) pa_nil))))))), ?_⟩
  walk_at "go"
  refine w_iteD (fun c => ?_) fun c => ?_
  · walk_at "ss"
    exact w_newL k (Ex.refl H) (Ex.refl H) hL (by rw [c, mulT_one])
  walk_at "ss"
  intro b hT
  walk_at "ss"
  refine w_mulO hT h1 h2 (fun z => absurd z c) fun _ => ⟨h3, h4, hg, fun p H1 e1 hP => ?_⟩
  walk_at "ss"
  intro p2 H2 hp2 e2 _
  walk_at "ss"
  intro p3 H3 hp3 e3 _
  walk_at "ss"
  refine w_kLink3 (hP.ex (e2.trans e3)) fun q H4 e4 hQ => ?_
  exact w_newL k ((e1.trans e2).trans e3) e4 hQ rfl
def spPartL (K : PySem.W.Frag) : Sp := fun vs H Q _ => ∃ a t x y, vs = [.ref a, .int x, .int y] ∧ LinkAt K H a t ∧ Good t ∧ 0 ≤ x ∧ 1 ≤ y ∧ x + y ≤ t.l ∧ NewL K H Q ⟨t.f + x, t.s + x, y, t.a⟩
theorem ok_part (T : Tx K mg) : FnB P w K mg base CX0 6 (ga K "part") ["link", "start", "length"] (spPartL K) [] := by
  refine mkB (k := 5) T.f_part sc_part (fun _ _ _ _ _ _ us hl => match us, hl with | [_, _, _], _ => rfl) (by walk_at "len") fun cdv A outer s H vs Q E hr h => ?_
  obtain ⟨a, t, x, y, rfl, hL, hg, hx, hy, hxy, k⟩ := h
  refine ⟨_, (pss_cons (ps_if (PW.pt (pw_and (pt_cmpR op_eq (pv 1) pe_int (nomark _)) (pw_and1 (pt_cmpR op_eq (pv 2) (c_prop (ok_Tie_length T) (hr.mono (by decide)) T.c_Tie T.p_Tie_length (SlX.pe_sl (pv 0))) (nomark _))))) (pss_one (ps_ret (pv 0))) pss_nil)
      (pss_one (ps_ret (c_make (ok_Link3 T) (hr.mono (by decide)) T.k_Link T.m_Link pass0 (pa_cons (c_meth (ok_Tie_part T) (hr.mono (by decide)) T.c_Tie T.h_Tie_part pass0 (SlX.pe_sl (pv 0)) (pa_cons (pv 1) (pa_cons (pv 2) pa_nil))) (pa_cons (pe_tup (pa_cons (g_str T.t_PART) (pa_cons (pv 1) (pa_cons (pv 2) pa_nil)))) (pa_cons (pe_tup (pa_cons (pv 0) pa_nil)) pa_nil))))))), ?_⟩
  walk_at "go"
  refine w_iteD (fun c => ?_) fun c => ?_
  · walk_at "ss"
    intro b hT
    walk_at "ss"
    refine w_iteD (fun c2 => ?_) fun c2 => ?_
    · walk_at "ss"
      exact w_newL k (Ex.refl H) (Ex.refl H) hL (by obtain ⟨f, s, l, a⟩ := t; simp only at c2; rw [c, c2, Int.add_zero, Int.add_zero])
    · walk_at "ss"
      intro b hT2
      walk_at "ss"
      refine ⟨b, t, x, y, rfl, hT2, hg, hx, hy, hxy, fun p H1 e1 hP => ?_⟩
      walk_at "ss"
      intro p2 H2 hp2 e2 _
      walk_at "ss"
      intro p3 H3 hp3 e3 _
      walk_at "ss"
      refine w_kLink3 (hP.ex (e2.trans e3)) fun q H4 e4 hQ => ?_
      exact w_newL k ((e1.trans e2).trans e3) e4 hQ rfl
  · walk_at "ss"
    intro b hT2
    walk_at "ss"
    refine ⟨b, t, x, y, rfl, hT2, hg, hx, hy, hxy, fun p H1 e1 hP => ?_⟩
    walk_at "ss"
    intro p2 H2 hp2 e2 _
    walk_at "ss"
    intro p3 H3 hp3 e3 _
    walk_at "ss"
    refine w_kLink3 (hP.ex (e2.trans e3)) fun q H4 e4 hQ => ?_
    exact w_newL k ((e1.trans e2).trans e3) e4 hQ rfl
def ev1 (a : Addr) (t : Ti) : List V := if t.f = t.s ∧ t.a = 0 then [] else [.ref a]
def spEvened (K : PySem.W.Frag) : Sp := fun vs H Q _ => ∃ a t, vs = [.ref a] ∧ LinkAt K H a t ∧ t.f ≤ t.s ∧ ∀ p H', H p = none → Ex H H' → H' p = some (.lst (ev1 a t)) → Q (.ref p) H'
theorem ok_evened (T : Tx K mg) : FnB P w K mg base CX0 4 (ga K "evened") ["link"] (spEvened K) [] := by
  refine mkB (k := 3) T.f_evened sc_evened (fun _ _ _ _ _ _ us hl => match us, hl with | [_], _ => rfl) (by walk_at "len") fun cdv A outer s H vs Q E hr h => ?_
  obtain ⟨a, t, rfl, hL, hle, k⟩ := h
  refine ⟨_, (pss_cons (ps_set (i := 1) sc_evened.nd rfl (Or.inl rfl) (SlX.pe_sl (pv 0)))
      (pss_cons (ps_if (pt_cmpR op_gt (c_prop (ok_Tie_first T) (hr.mono (by decide)) T.c_Tie T.p_Tie_first (pv 1)) (c_prop (ok_Tie_second T) (hr.mono (by decide)) T.c_Tie T.p_Tie_second (pv 1)) (nomark _)) (pss_one ps_never) pss_nil)
      (pss_cons (ps_if (pt_val (c_fn (ok_is_one_part T) (hr.mono (by decide)) T.m_is_one_part T.kp_is_one_part pass0 (pa_cons (pv 1) pa_nil))) (pss_one (ps_ret (pe_ifExp (PW.pt (pw_or (pt_val (c_prop (ok_Tie_down T) (hr.mono (by decide)) T.c_Tie T.p_Tie_down (pv 1))) (pw_or1 (pt_cmpR op_ne (c_prop (ok_Tie_amount T) (hr.mono (by decide)) T.c_Tie T.p_Tie_amount (pv 1)) pe_int (nomark _))))) (pe_lst (pa_cons (pv 0) pa_nil)) (pe_lst pa_nil)))) pss_nil)
      (pss_cons (ps_set (i := 2) sc_evened.nd rfl (Or.inl rfl) (pe_op op_sub (pe_op op_add (c_prop (ok_Tie_first T) (hr.mono (by decide)) T.c_Tie T.p_Tie_first (pv 1)) (c_prop (ok_Tie_length T) (hr.mono (by decide)) T.c_Tie T.p_Tie_length (pv 1))) (c_prop (ok_Tie_second T) (hr.mono (by decide)) T.c_Tie T.p_Tie_second (pv 1))))
      (pss_cons (ps_if (PW.pt (pw_or (pt_not (pt_val (c_prop (ok_Tie_backward T) (hr.mono (by decide)) T.c_Tie T.p_Tie_backward (pv 1)))) (pw_or1 (pt_cmpR op_le (pv 2) pe_int (nomark _))))) (pss_one (ps_ret (pe_lst (pa_cons (pv 0) pa_nil)))) pss_nil)
      (pss_cons ps_never
      (pss_cons ps_never
      (pss_cons ps_never
      (pss_one ps_never))))))))), ?_⟩
  walk_at "go"
  intro b hT
  walk_at "ss"
  refine w_iteN (by omega) ?_
  walk_at "ss"
  refine w_iteD (fun c => ?_) fun c => ?_
  · walk_at "ss"
    by_cases c2 : t.a = 0
    · rw [decide_eq_true c2]
      walk_at "ss"
      refine w_kL (by decide) fun p H1 hp e h1 => k p H1 hp e ?_
      rw [h1, ev1, if_pos ⟨c, c2⟩]
    · rw [decide_eq_false c2]
      walk_at "ss"
      refine w_kL (Nat.le_of_ble_eq_true rfl) fun p H1 hp e h1 => k p H1 hp e ?_
      rw [h1, ev1, if_neg (fun z => c2 z.2)]
  · walk_at "ss"
    refine w_kL (Nat.le_of_ble_eq_true rfl) fun p H1 hp e h1 => k p H1 hp e ?_
    rw [h1, ev1, if_neg (fun z => c z.1)]
end
end K22
end

/-! # K22p -/
section
set_option Elab.async false
set_option linter.all false
set_option autoImplicit false
set_option maxRecDepth 100000
set_option maxHeartbeats 4000000
namespace K22
open PySem PySem.Spec PyProof.Rows L2
open He (ga ma fAd)
open Evl (Ex ex_l ex_t sq_of st_of fresh_back)
def kBM (K : PySem.W.Frag) (T : String) (r : V → List V → Hp → VK → Prop) (t : TA) (σ : L2.St) (Q : VK) : VK := fun x H1 => tyV K T x H1 ∧ t σ H1 fun xs H2 => r x xs H2 Q
theorem w_bm {K : PySem.W.Frag} {T : String} {r : V → List V → Hp → VK → Prop} {t : TA} {ta : TE} {σ : L2.St} {H : Hp} {Q : VK} (h : ta σ H (kBM K T r t σ Q)) : tBM K T r ta t σ H Q := h
theorem w_kBMl {K : PySem.W.Frag} {r : V → List V → Hp → VK → Prop} {t : TA} {σ : L2.St} {H : Hp} {Q : VK} {l : Addr} {xs : List V} (e : H l = some (.lst xs)) (h : t σ H fun ys H2 => r (.ref l) ys H2 Q) : kBM K "list" r t σ Q (.ref l) H := ⟨Or.inl ⟨rfl, _, Or.inl (Or.inl e)⟩, h⟩
theorem w_ckw {r : List V → List V → Hp → VK → Prop} {t tk : TA} {σ : L2.St} {H : Hp} {Q : VK} (h : t σ H fun vs H1 => tk σ H1 fun zs H2 => r vs zs H2 Q) : tCKw r t tk σ H Q := h
def kStar (K : PySem.W.Frag) (t : TA) (σ : L2.St) (Q : List V → Hp → Prop) : VK := fun x H1 => ∃ p xs, x = V.ref p ∧ (SqT K H1 p xs ∨ SqL K H1 p xs) ∧ t σ H1 fun ys H2 => Q (xs ++ ys) H2
theorem w_tst {K : PySem.W.Frag} {te : TE} {t : TA} {σ : L2.St} {H : Hp} {Q : List V → Hp → Prop} (h : te σ H (kStar K t σ Q)) : StX.tStar K te t σ H Q := h
theorem w_kStar {K : PySem.W.Frag} {t : TA} {σ : L2.St} {H : Hp} {Q : List V → Hp → Prop} {p : Addr} {xs : List V} (e : SqL K H p xs) (h : t σ H fun ys H2 => Q (xs ++ ys) H2) : kStar K t σ Q (.ref p) H := ⟨p, xs, rfl, .inr e, h⟩
theorem w_app {H : Hp} {Q : VK} {l : Addr} {xs : List V} {y : V} (e : H l = some (.lst xs)) (hz : xs.length < 100000) (h : Q .non (upd H l (.lst (xs ++ [y])))) : rAppend (.ref l) [y] H Q := ⟨l, xs, y, rfl, rfl, e, Evl.sz_lt hz, h⟩
local macro_rules | `(tactic| walk_at "fx") => `(tactic| first
  | assumption
  | ((with_reducible apply TieAt.ex); (focus assumption); walk_at "fx")
  | ((with_reducible apply LinkAt.ex); (focus assumption); walk_at "fx")
  | ((with_reducible apply ex_l); (focus assumption); walk_at "fx")
  | ((with_reducible apply ex_t); (focus assumption); walk_at "fx")
  | ((with_reducible apply sq_of); walk_at "fx")
  | ((with_reducible apply st_of); walk_at "fx")
  | ((with_reducible apply ex_at); (focus assumption); walk_at "fx"))
local macro_rules | `(tactic| walk_at "s") => `(tactic| first
  | with_reducible refine w_seq ?_
  | ((with_reducible apply w_var); focus (exact rfl))
  | with_reducible refine w_c ?_
  | with_reducible refine w_op ?_
  | with_reducible refine w_cons ?_
  | with_reducible refine w_nil ?_
  | with_reducible refine w_asg ?_
  | with_reducible refine w_name ?_
  | with_reducible refine w_ret ?_
  | with_reducible refine w_retN ?_
  | with_reducible refine w_ifS ?_
  | with_reducible refine w_isB ?_
  | with_reducible refine w_test ?_
  | with_reducible refine w_tB ?_
  | with_reducible refine w_and ?_
  | with_reducible refine w_or ?_
  | with_reducible refine w_not ?_
  | with_reducible refine w_andV ?_
  | with_reducible refine w_orV ?_
  | with_reducible refine w_notV ?_
  | with_reducible refine w_if ?_
  | with_reducible refine w_iteT ?_
  | with_reducible refine w_iteF ?_
  | with_reducible refine w_iteNT ?_
  | with_reducible refine w_iteNF ?_
  | with_reducible refine w_un ?_
  | with_reducible refine w_call ?_
  | with_reducible refine w_cb ?_
  | with_reducible refine w_next ?_
  | with_reducible refine w_drop ?_
  | with_reducible refine w_for ?_
  | with_reducible refine w_dget0 ?_
  | with_reducible refine w_prsC ?_
  | with_reducible refine w_prsN ?_
  | with_reducible refine w_iZA ?_
  | with_reducible refine w_gSub ?_
  | with_reducible refine w_iR1 ?_
  | with_reducible refine w_p8 ?_
  | with_reducible refine w_p60 ?_
  | with_reducible refine w_p5 ?_
  | with_reducible refine w_p18 ?_
  | with_reducible refine w_p9 ?_
  | with_reducible refine w_p19 ?_
  | with_reducible refine w_p29 ?_
  | with_reducible refine w_m1 ?_
  | with_reducible refine w_kM1 ?_
  | with_reducible refine w_iStr ?_
  | with_reducible refine w_kStr ?_
  | with_reducible refine w_inS ?_
  | with_reducible refine w_sta ?_
  | with_reducible refine w_iEnumT ?_
  | with_reducible refine w_thn ?_
  | with_reducible refine w_chain ?_
  | with_reducible refine w_gAttr ?_
  | with_reducible refine w_isNr ?_
  | with_reducible refine w_iEnum ?_
  | ((with_reducible apply w_kEnum); focus (walk_at "fx"))
  | with_reducible refine w_sl3 ?_
  | with_reducible refine w_noPart ?_
  | with_reducible refine w_part ?_
  | with_reducible refine w_kPt ?_
  | with_reducible refine w_bm ?_
  | with_reducible refine w_ckw ?_
  | with_reducible refine w_tst ?_
  | with_reducible refine w_mk ?_
  | ((with_reducible apply w_psl); (focus (walk_at "fx")))
  | ((with_reducible apply w_mT); (focus (walk_at "fx")); (focus (exact rfl)))
  | ((with_reducible apply w_partner); (focus (walk_at "fx")))
  | ((with_reducible apply w_led); (focus (walk_at "fx")))
  | ((with_reducible apply w_spT); (focus (walk_at "fx")))
  | with_reducible refine w_lc ?_
  | with_reducible refine w_yes ?_
  | with_reducible refine w_gCons ?_
  | with_reducible refine w_gNil ?_
  | ((with_reducible apply w_gTup); (focus (walk_at "fx")); focus (exact rfl))
  | ((with_reducible apply w_minL2); focus (walk_at "fx"))
  | ((with_reducible apply w_slT); (focus assumption); (focus (walk_at "fx")))
  | ((with_reducible apply w_kIT); focus (walk_at "fx"))
  | ((with_reducible apply w_kIL); focus (walk_at "fx"))
  | with_reducible refine w_neg ?_
  | with_reducible refine w_tie ?_
  | with_reducible refine w_iT ?_
  | with_reducible refine w_iL ?_
  | with_reducible refine w_sFld ?_
  | with_reducible refine w_sSl ?_
  | with_reducible refine w_propSl ?_
  | with_reducible refine w_par ?_
  | with_reducible refine w_kPar ?_
  | with_reducible refine w_tup ?_
  | with_reducible refine w_lst ?_
  | with_reducible refine w_I0 ?_
  | with_reducible refine w_U ?_
  | with_reducible refine w_eqI ?_
  | with_reducible refine w_neI ?_
  | with_reducible refine w_eqS ?_
  | with_reducible refine w_neS ?_
  | with_reducible refine w_eqB ?_
  | with_reducible refine w_neB ?_
  | with_reducible refine w_isNn ?_
  | with_reducible refine w_isNr ?_
  | with_reducible refine w_isNi ?_
  | with_reducible refine w_notNn ?_
  | with_reducible refine w_notNr ?_
  | with_reducible refine w_notNi ?_
  | with_reducible refine w_xisN ?_
  | with_reducible refine w_fld ?_
  | with_reducible refine w_prop ?_
  | with_reducible refine w_meth ?_
  | ((with_reducible apply w_mod); focus assumption)
  | ((with_reducible apply w_mulW); (focus assumption); focus assumption)
  | ((with_reducible apply w_divW); (focus assumption); focus assumption)
  | with_reducible refine w_int1 ?_
  | with_reducible refine w_intB ?_
  | with_reducible refine w_min2 ?_
  | with_reducible refine w_max2 ?_
  | with_reducible refine w_abs ?_
  | with_reducible refine w_isiI ?_
  | with_reducible refine w_isiNB ?_
  | with_reducible refine w_isiB ?_
  | with_reducible refine w_isiS ?_
  | ((with_reducible apply w_isiT); (focus assumption); focus (walk_at "fx"))
  | ((with_reducible apply w_fTd); (focus assumption); focus (walk_at "fx"))
  | ((with_reducible apply w_fTb); (focus assumption); focus (walk_at "fx"))
  | ((with_reducible apply w_fTf); (focus assumption); focus (walk_at "fx"))
  | ((with_reducible apply w_fTs); (focus assumption); focus (walk_at "fx"))
  | ((with_reducible apply w_fTl); (focus assumption); focus (walk_at "fx"))
  | ((with_reducible apply w_fTa); (focus assumption); focus (walk_at "fx"))
  | ((with_reducible apply w_pT); focus (walk_at "fx"))
  | with_reducible refine w_sl ?_
  | ((with_reducible apply w_len); focus (walk_at "fx"))
  | ((with_reducible apply w_kT); focus (exact Nat.le_of_ble_eq_true rfl)))
local macro_rules | `(tactic| walk_at "ss") => `(tactic| repeat (walk_at "s"))
local macro_rules | `(tactic| walk_at "go") => `(tactic| ((try dsimp only [cxOf, Cx.nox, Cx.wish]); walk_at "ss"))
local macro_rules | `(tactic| walk_at "len") => `(tactic| (intro vs H Q E h; (repeat (obtain ⟨_, h⟩ := h)); all_goals (subst_vars; rfl)))
section
variable {P : Program} {w : World} {K : PySem.W.Frag} {mg : Str → Option Value} {base : Heap}
def spWay (K : PySem.W.Frag) : Sp := fun vs H Q _ => ∃ a t x, vs = [.ref a, .int x] ∧ LinkAt K H a t ∧ t.f < t.s ∧ Sm t.a ∧ Sm (t.s - t.f) ∧ 1 ≤ (x - t.s) / (t.s - t.f) + 1 ∧ (x - t.s) / (t.s - t.f) + 1 ≤ 10 ^ 30 ∧ Good (mulT t ((x - t.s) / (t.s - t.f) + 1)) ∧ NewL K H Q (mulT t ((x - t.s) / (t.s - t.f) + 1))
theorem ok_way_to (T : Tx K mg) : FnB P w K mg base CX0 6 (ga K "way_to") ["cutter", "place"] (spWay K) [] := by
  refine mkB (k := 5) T.f_way_to sc_way_to (fun _ _ _ _ _ _ us hl => match us, hl with | [_, _], _ => rfl) (by walk_at "len") fun cdv A outer s H vs Q E hr h => ?_
  obtain ⟨a, t, x, rfl, hL, h0, h1, h2, h3, h4, hg, k⟩ := h
  refine ⟨_, (pss_one (ps_ret (c_fn (ok_times T) (hr.mono (by decide)) T.m_times T.kp_times pass0 (pa_cons (pv 0) (pa_cons (c_fn (ok_rounds T) (hr.mono (by decide)) T.m_rounds T.kp_rounds pass0 (pa_cons (SlX.pe_sl (pv 0)) (pa_cons (pv 1) (pa_cons (c_prop (ok_Tie_second T) (hr.mono (by decide)) T.c_Tie T.p_Tie_second (SlX.pe_sl (pv 0))) pa_nil)))) pa_nil))))), ?_⟩
  walk_at "go"
  intro b hT
  walk_at "ss"
  intro b' hT'
  walk_at "ss"
  refine ⟨b, t, x, _, rfl, hT, h0, h2, ?_⟩
  walk_at "ss"
  exact ⟨a, t, _, rfl, hL, h3, h4, h1, h2, hg, k⟩
/-! the arithmetic of one reading -/
theorem sm_le {i : Int} (h1 : 0 ≤ i) (h2 : i ≤ 10 ^ 30) : Sm i := sm_of (by omega) (by omega)
theorem mul_way {p lp ap m : Int} (hp : 0 < p) (hm : 1 ≤ m) : mulT ⟨0, p, lp, ap⟩ m = ⟨0, m * p, lp - (m - 1) * p, ap * m⟩ := by
  have h : 0 ≤ (m - 1) * p := Int.mul_nonneg (by omega) (by omega)
  have e : (m - 1) * (p - 0) = (m - 1) * p := by rw [Int.sub_zero]
  have e2 : m * (p - 0) = m * p := by rw [Int.sub_zero]
  simp only [mulT, Ti.mk.injEq]
  rw [e, e2]
  refine ⟨by omega, by omega, by omega, trivial⟩
structure RdOk (p lp ap q lq aq : Int) : Prop where
  p0 : 0 < p
  pq : p ≤ q
  l1 : 1 ≤ lq
  same : p + lp = q + lq
  top : p + lp ≤ 10 ^ 30
  sm : Sm ap
section
variable {p lp ap q lq aq : Int}
theorem RdOk.m1 (h : RdOk p lp ap q lq aq) : (q - p) / (p - 0) + 1 = q / p := by
  have h0 := h.p0
  rw [Int.sub_zero]
  have e : q - p = q + (-1) * p := by omega
  rw [e, Int.add_mul_ediv_right _ _ (by omega)]
  omega
theorem RdOk.m2 (h : RdOk p lp ap q lq aq) : 1 ≤ q / p ∧ q / p ≤ 10 ^ 30 ∧ q / p * p ≤ q ∧ q - q / p * p = q % p ∧ 0 ≤ q % p ∧ q % p < p := by
  have h0 := h.p0; have h1 := h.pq; have h2 := h.top; have h3 := h.l1; have h4 := h.same
  have e := Int.emod_add_mul_ediv q p
  have e2 := Int.emod_nonneg q (show p ≠ 0 by omega)
  have e3 := Int.emod_lt_of_pos q h0
  have e4 : p * (q / p) = q / p * p := Int.mul_comm _ _
  rw [e4] at e
  have e5 : 1 ≤ q / p := Int.le_ediv_of_mul_le h0 (by omega)
  have e6 : q / p ≤ q := Int.ediv_le_self _ (by omega)
  refine ⟨e5, by omega, by omega, by omega, e2, e3⟩
theorem RdOk.join (h : RdOk p lp ap q lq aq) : joinT ⟨0, q, lq, aq⟩ ⟨q / p * p, 0, lp - (q / p - 1) * p, -(ap * (q / p))⟩ = ⟨0, q % p, lq, aq - ap * (q / p)⟩ := by
  obtain ⟨h1, h2, h3, h4, h5, h6⟩ := h.m2
  have h0 := h.p0; have h7 := h.same; have h8 := h.l1
  have e : (q / p - 1) * p = q / p * p - p := by rw [Int.sub_mul, Int.one_mul]
  simp only [joinT, Ti.mk.injEq]
  rw [e]
  generalize ap * (q / p) = z
  generalize q / p * p = d at *
  refine ⟨by omega, by omega, by omega, by omega⟩
end
def spRead (K : PySem.W.Frag) : Sp := fun vs H Q _ => ∃ a b p lp ap q lq aq, vs = [.ref a, .ref b] ∧ LinkAt K H a ⟨0, p, lp, ap⟩ ∧ LinkAt K H b ⟨0, q, lq, aq⟩ ∧ RdOk p lp ap q lq aq ∧ NewL K H Q ⟨0, q % p, lq, aq - ap * (q / p)⟩
theorem ok_read_by_link (T : Tx K mg) : FnB P w K mg base CX0 7 (ga K "read_by_link") ["cutter", "link"] (spRead K) [] := by
  refine mkB (k := 6) T.f_read_by_link sc_read_by_link (fun _ _ _ _ _ _ us hl => match us, hl with | [_, _], _ => rfl) (by walk_at "len") fun cdv A outer s H vs Q E hr h => ?_
  obtain ⟨a, b, p, lp, ap, q, lq, aq, rfl, hL, hM, hR, k⟩ := h
  obtain ⟨h1, h2, h3, h4, h5, h6⟩ := hR.m2
  have h0 := hR.p0; have h7 := hR.same; have h8 := hR.l1; have h9 := hR.top; have h10 := hR.pq
  have e : (q / p - 1) * p = q / p * p - p := by rw [Int.sub_mul, Int.one_mul]
  refine ⟨_, (pss_cons (ps_set (i := 2) sc_read_by_link.nd rfl (Or.inl rfl) (c_prop (ok_Tie_second T) (hr.mono (by decide)) T.c_Tie T.p_Tie_second (SlX.pe_sl (pv 0))))
      (pss_cons (ps_if (pt_val (c_fn (ok_is_pin T) (hr.mono (by decide)) T.m_is_pin T.kp_is_pin pass0 (pa_cons (SlX.pe_sl (pv 1)) pa_nil))) (pss_cons ps_never
      (pss_cons ps_never
      (pss_one ps_never))) pss_nil)
      (pss_cons (ps_if (pt_cmpR op_ge (c_prop (ok_Tie_second T) (hr.mono (by decide)) T.c_Tie T.p_Tie_second (SlX.pe_sl (pv 1))) (pv 2) (nomark _)) (pss_one (ps_set (i := 1) sc_read_by_link.nd rfl (Or.inl rfl) (c_fn (ok_joined T) (hr.mono (by decide)) T.m_joined T.kp_joined pass0 (pa_cons (pv 1) (pa_cons (c_fn (ok_back T) (hr.mono (by decide)) T.m_back T.kp_back pass0 (pa_cons (c_fn (ok_way_to T) (hr.mono (by decide)) T.m_way_to T.kp_way_to pass0 (pa_cons (pv 0) (pa_cons (c_prop (ok_Tie_second T) (hr.mono (by decide)) T.c_Tie T.p_Tie_second (SlX.pe_sl (pv 1))) pa_nil))) pa_nil)) pa_nil))))) pss_nil)
      (pss_cons (ps_if (pt_cmpR op_ge (c_prop (ok_Tie_first T) (hr.mono (by decide)) T.c_Tie T.p_Tie_first (SlX.pe_sl (pv 1))) (pv 2) (nomark _)) (pss_one ps_never) pss_nil)
      (pss_one (ps_ret (pv 1))))))), ?_⟩
  walk_at "go"
  intro a1 hT1
  walk_at "ss"
  intro b1 hU1
  walk_at "ss"
  intro b2 hU2
  walk_at "ss"
  refine w_iteP hR.pq ?_
  walk_at "ss"
  intro b3 hU3
  walk_at "ss"
  refine ⟨a, _, _, rfl, hL, by show 0 < p; exact h0, hR.sm, sm_le (by show 0 ≤ p - 0; omega) (by show p - 0 ≤ _; omega), by show 1 ≤ (q - p) / (p - 0) + 1; rw [hR.m1]; exact h1, by show (q - p) / (p - 0) + 1 ≤ _; rw [hR.m1]; exact h2, ?_, fun x H1 e1 hX => ?_⟩
  · show Good (mulT _ ((q - p) / (p - 0) + 1))
    rw [hR.m1, mul_way h0 h1, e]
    refine ⟨?_, ?_, ?_, ?_, ?_⟩ <;> (simp only; generalize q / p * p = d at *; omega)
  have hX2 : LinkAt K H1 x ⟨0, q / p * p, lp - (q / p - 1) * p, ap * (q / p)⟩ := by
    have z : mulT ⟨0, p, lp, ap⟩ ((q - p) / (p - 0) + 1) = ⟨0, q / p * p, lp - (q / p - 1) * p, ap * (q / p)⟩ := by rw [hR.m1, mul_way h0 h1]
    rw [← z]; exact hX
  walk_at "ss"
  refine ⟨x, _, rfl, hX2, ?_, fun y H2 e2 hY => ?_⟩
  · rw [e]
    refine ⟨?_, ?_, ?_, ?_, ?_⟩ <;> (simp only; generalize q / p * p = d at *; omega)
  walk_at "ss"
  refine ⟨b, y, _, _, rfl, (hM.ex e1).ex e2, hY, ?_, fun z H3 e3 hZ => ?_⟩
  · rw [hR.join]
    refine ⟨?_, ?_, ?_, ?_, ?_⟩ <;> (simp only; omega)
  rw [hR.join] at hZ
  walk_at "ss"
  intro z1 hZ1
  walk_at "ss"
  refine w_iteN (by show ¬ p ≤ 0; omega) ?_
  walk_at "ss"
  exact w_newL k (e1.trans e2) e3 hZ rfl
theorem ok_read_through (T : Tx K mg) : FnB P w K mg base CX0 8 (ga K "read_through") ["cutter", "link"] (spRead K) [] := by
  refine mkB (k := 7) T.f_read_through sc_read_through (fun _ _ _ _ _ _ us hl => match us, hl with | [_, _], _ => rfl) (by walk_at "len") fun cdv A outer s H vs Q E hr h => ?_
  obtain ⟨a, b, p, lp, ap, q, lq, aq, rfl, hL, hM, hR, k⟩ := h
  refine ⟨_, (pss_one (ps_ret (pe_ifExp (pt_val (c_fn (ok_is_pin T) (hr.mono (by decide)) T.m_is_pin T.kp_is_pin pass0 (pa_cons (SlX.pe_sl (pv 0)) pa_nil))) pe_no (c_fn (ok_read_by_link T) (hr.mono (by decide)) T.m_read_by_link T.kp_read_by_link pass0 (pa_cons (pv 0) (pa_cons (pv 1) pa_nil)))))), ?_⟩
  walk_at "go"
  intro a1 hT1
  walk_at "ss"
  exact ⟨a, b, p, lp, ap, q, lq, aq, rfl, hL, hM, hR, k⟩
def spShort (K : PySem.W.Frag) : Sp := fun vs H Q _ => ∃ a t lo e, vs = [.ref a, .int lo, .int e] ∧ LinkAt K H a t ∧ Good t ∧ t.s ≤ lo ∧ lo - t.s ≤ t.l ∧
  ∀ q H' xs, Ex H H' → H' q = some (.lst xs) → ((lo = t.s ∧ xs = []) ∨ (lo ≠ t.s ∧ ∃ p, xs = [.ref p] ∧ LinkAt K H' p ⟨t.f, t.s, lo - t.s, t.a⟩)) → Q (.ref q) H'
theorem ok_shortened (T : Tx K mg) : FnB P w K mg base CX0 7 (ga K "shortened") ["cutter", "low", "end"] (spShort K) [] := by
  refine mkB (k := 6) T.f_shortened sc_shortened (fun _ _ _ _ _ _ us hl => match us, hl with | [_, _, _], _ => rfl) (by walk_at "len") fun cdv A outer s H vs Q E hr h => ?_
  obtain ⟨a, t, lo, e, rfl, hL, hg, h1, h2, k⟩ := h
  refine ⟨_, (pss_cons (ps_set (i := 3) sc_shortened.nd rfl (Or.inl rfl) (pe_op op_sub (pv 1) (c_prop (ok_Tie_second T) (hr.mono (by decide)) T.c_Tie T.p_Tie_second (SlX.pe_sl (pv 0)))))
      (pss_cons (ps_if (pt_cmpR op_eq (pv 3) pe_int (nomark _)) (pss_one (ps_ret (pe_lst pa_nil))) pss_nil)
      (pss_one (ps_ret (pe_lst (pa_cons (c_fn (ok_part T) (hr.mono (by decide)) T.m_part T.kp_part pass0 (pa_cons (pv 0) (pa_cons (pe_ifExp (pt_val (c_prop (ok_Tie_backward T) (hr.mono (by decide)) T.c_Tie T.p_Tie_backward (SlX.pe_sl (pv 0)))) pe_no pe_int) (pa_cons (pv 3) pa_nil)))) pa_nil)))))), ?_⟩
  walk_at "go"
  intro a1 hT1
  walk_at "ss"
  refine w_iteD (fun c => ?_) fun c => ?_
  · walk_at "ss"
    refine w_kL (by decide) fun q H1 hq e1 hQ => k q H1 [] e1 hQ (.inl ⟨by omega, rfl⟩)
  · walk_at "ss"
    intro a2 hT2
    walk_at "ss"
    refine ⟨a, t, _, _, rfl, hL, hg, Int.le_refl 0, by omega, by omega, fun p H1 e1 hP => ?_⟩
    walk_at "ss"
    refine w_kL (Nat.le_of_ble_eq_true rfl) fun q H2 hq e2 hQ => k q H2 _ (e1.trans e2) hQ (.inr ⟨by omega, p, rfl, ?_⟩)
    have z := hP.ex e2
    rw [Int.add_zero, Int.add_zero] at z
    exact z
end
end K22
end

/-! # K22q -/
section
set_option Elab.async false
set_option linter.all false
set_option autoImplicit false
set_option maxRecDepth 100000
set_option maxHeartbeats 4000000
namespace K22
open PySem PySem.Spec PyProof.Rows L2
open He (ga ma fAd)
open Evl (Ex ex_l ex_t sq_of st_of fresh_back)
/-! ## xs != [] -/
def rNeNil (K : PySem.W.Frag) : R2 := fun x y H Q => ∃ a b xs, x = .ref a ∧ y = .ref b ∧ SqL K H a xs ∧ SqL K H b [] ∧ Q (.bl (!xs.isEmpty)) H
theorem op_neNil {X : Cx} (hu : X.A.units + 64 < cLine) : OpR X (compareOp .NotEq) (rNeNil X.K) := by
  intro pins s σ H x y v u Q I rx ry h
  obtain ⟨a, b, xs, rfl, rfl, ha, hb, q⟩ := h
  cases xs with
  | nil =>
    refine op_neD hu pins s σ H _ _ v u Q I rx ry ⟨.list [], .list [], .lst ha .nil, .lst hb .nil, rfl, rfl, ?_⟩
    have e : (!PyData.eqv (.list []) (.list [])) = (!([] : List V).isEmpty) := by rw [SeqAt.eqv_refl _ (by simp [PyData.canLay0, PyData.canLayAll0])]; rfl
    rw [e]; exact q
  | cons z r =>
    obtain ⟨its, rv, hl, _⟩ := I.list ha
    obtain ⟨its2, rv2, hl2, _⟩ := I.list hb
    obtain rfl : v = Value.ref a := rx
    obtain rfl : u = Value.ref b := ry
    have l1 := rv.length
    have l2 := rv2.length
    refine PySem.SeqAt.RcNeAt.lists_lengths (A := X.A) hl.isList hl2.isList ?_ (by omega) X.prog X.w _ _ ⟨.bl true, H, I, rfl, q⟩
    simp only [List.size_toArray]
    rw [← l1, ← l2]
    simp
section
variable {K : PySem.W.Frag} {σ : L2.St} {H : Hp} {D : Ends} {Q : VK} {g : TG} {tb : TS} {tt : TT} {te : TE} {J : It} {n : Nat} {G : Hp → Prop} {Y : Nat → Hp → V → Hp → Prop} {vs : List Nat} {a b : Addr} {xs : List V}
theorem w_neNil (ha : SqL K H a xs) (hb : SqL K H b []) (h : Q (.bl (!xs.isEmpty)) H) : rNeNil K (.ref a) (.ref b) H Q := ⟨a, b, xs, rfl, rfl, ha, hb, h⟩
/-- a for over an empty list, over one item -/
theorem forL0 (hx : SqL K H a []) (h : D.nx σ H) : kFor g tb D σ (Itl K a) H :=
  w_kFor (walk_list (xs := [])) (fun _ σ' H' => σ' = σ ∧ H' = H) ⟨rfl, rfl⟩ (fun _ _ H' _ p => by rw [p.2]; exact hx) (fun i v σ' H1 H' hi p q => absurd hi (by simp)) (fun σ' H' p => by rw [p.1, p.2]; exact h)
theorem forL1 {x : V} (hx : SqL K H a [x]) (h : g x σ H fun σ2 H2 => tb { D with nx := fun σ' H' => SqL K H' a [x] ∧ D.nx σ' H', ct := fun σ' H' => SqL K H' a [x] ∧ D.nx σ' H', bk := D.nx } σ2 H2) : kFor g tb D σ (Itl K a) H := by
  refine w_kFor (walk_list (xs := [x])) (fun i σ' H' => SqL K H' a [x] ∧ ((i = 0 ∧ σ' = σ ∧ H' = H) ∨ (i = 1 ∧ D.nx σ' H'))) ⟨hx, .inl ⟨rfl, rfl, rfl⟩⟩ (fun i σ' H' _ p => p.1) (fun i v σ' H1 H' hi p q => ?_) (fun σ' H' p => ?_)
  · obtain ⟨rfl, q⟩ := q
    obtain ⟨_, ⟨rfl, rfl, rfl⟩ | ⟨rfl, _⟩⟩ := p
    · obtain rfl : x = v := by simpa using q
      have e2 : (fun (τ : L2.St) (H'' : Hp) => SqL K H'' a [x] ∧ ((0 + 1 = 0 ∧ τ = σ' ∧ H'' = H') ∨ (0 + 1 = 1 ∧ D.nx τ H''))) = fun τ H'' => SqL K H'' a [x] ∧ D.nx τ H'' := by
        funext τ H''; apply propext
        constructor
        · rintro ⟨h1, h | h⟩
          · exact absurd h.1 (by omega)
          · exact ⟨h1, h.2⟩
        · rintro ⟨h1, h2⟩; exact ⟨h1, .inr ⟨rfl, h2⟩⟩
      rw [e2]; exact h
    · exact absurd hi (by simp)
  · obtain ⟨_, ⟨h1, _⟩ | ⟨_, h2⟩⟩ := p
    · exact absurd h1 (by simp)
    · exact h2
/-- a comprehension whose test holds each time -/
theorem lcN' (w : Walk J n G Y) (hG : ∀ H', Ex H H' → G H') (Pf : Nat → V → Hp → Prop) (mo : ∀ i v, Mo (Pf i v)) (hn : n ≤ 1000)
    (hs : ∀ i x H0 H1, i < n → Ex H H0 → Y i H0 x H1 → ∀ (Q' : VK) (R : Hp → Prop), (∀ v H4, Ex H0 H4 → Pf i v H4 → Q' v H4) → g x (wipe σ vs) H1 fun σ2 H2 => wipe σ2 vs = wipe σ vs ∧ tt σ2 H2 fun b H3 => if b = true then te σ2 H3 Q' else R H3)
    (hd : ∀ p ys H', H p = none → Ex H H' → H' p = some (.lst ys) → ys.length = n → (∀ (i : Nat) v, ys[i]? = some v → Pf i v H') → Q (.ref p) H') : kLc g tt te vs σ Q J H := by
  refine lcG w hG (fun i acc H' => acc.length = i ∧ ∀ (j : Nat) v, acc[j]? = some v → Pf j v H') (fun D hD => ⟨rfl, fun j v h => by simp at h⟩) (fun D i x H0 H1 acc hD hi e hA hI hy => ?_) (fun p ys H' hp e h hI => hd p ys H' hp e h hI.1 hI.2)
  refine hs i x H0 H1 hi e hy (kApp H D _ i) _ fun v H4 e4 hv => ?_
  have hA4 := e4 _ _ hA
  refine w_kApp hD (e.trans e4) hA4 (by omega) ⟨by simp [hI.1], fun j u hj => ?_⟩
  refine (mo j u).up _ _ _ _ hA4 ?_
  by_cases hlt : j < acc.length
  · rw [List.getElem?_append_left hlt] at hj
    exact (mo j u).ex _ _ e4 (hI.2 j u hj)
  · rw [List.getElem?_append_right (by omega)] at hj
    have : j - acc.length = 0 := by
      cases q : j - acc.length with
      | zero => rfl
      | succ m => rw [q] at hj; simp at hj
    rw [this] at hj
    have e1 : v = u := by simpa using hj
    have e2 : j = i := by omega
    subst e1 e2
    exact hv
def kEnum (K : PySem.W.Frag) (R : It → Hp → Prop) : List V → Hp → Prop := fun vs H1 => ∃ a xs, vs = [.ref a] ∧ SqL K H1 a xs ∧ R (Ite K a) H1
theorem w_iEnum {ta : TA} {R : It → Hp → Prop} (h : ta σ H (kEnum K R)) : iEnum K ta σ H R := h
theorem w_kEnum {R : It → Hp → Prop} (hx : SqL K H a xs) (h : R (Ite K a) H) : kEnum K R [.ref a] H := ⟨a, xs, rfl, hx, h⟩
theorem w_sl3 {r : V → Option Int → Option Int → Hp → VK → Prop} {tl th : TO} (h : te σ H fun x H1 => tl σ H1 fun l H2 => th σ H2 fun u H3 => r x l u H3 Q) : tSl r te tl th σ H Q := h
theorem w_noPart {Q : Option Int → Hp → Prop} (h : Q none H) : tNoPart σ H Q := h
def kPt (Q : Option Int → Hp → Prop) : VK := fun x H1 => ∃ i, x = .int i ∧ Q (some i) H1
theorem w_part {Q : Option Int → Hp → Prop} (h : te σ H (kPt Q)) : tPart te σ H Q := h
theorem w_kPt {Q : Option Int → Hp → Prop} {i : Int} (h : Q (some i) H) : kPt Q (.int i) H := ⟨i, rfl, h⟩
theorem w_slL {lo hi : Option Int} (hx : SqL K H a xs) (h : ∀ p H', H p = none → Ex H H' → H' p = some (.lst (cutV xs lo hi)) → Q (.ref p) H') : rSlL K (.ref a) lo hi H Q := ⟨a, xs, rfl, hx, fun p hp => h p _ hp (Ex.new hp) upd_same⟩
theorem w_ixL {i : Int} {v : V} (hx : SqL K H a xs) (hi : atI xs i = some v) (h : Q v H) : rIxL K (.ref a) (.int i) H Q := ⟨a, xs, i, v, rfl, rfl, hx, hi, h⟩
theorem w_ixT {i : Int} {v : V} (hx : SqT K H a xs) (hi : atI xs i = some v) (h : Q v H) : rIxT K (.ref a) (.int i) H Q := ⟨a, xs, i, v, rfl, rfl, hx, hi, h⟩
end
/-! ## the links as a row -/
abbrev LK := List (Addr × Ti)
def refs (ls : LK) : List V := ls.map fun p => V.ref p.1
def Links (K : PySem.W.Frag) (H : Hp) (ls : LK) : Prop := ∀ p ∈ ls, LinkAt K H p.1 p.2
theorem Links.ex {K : PySem.W.Frag} {H H' : Hp} {ls : LK} (e : Ex H H') (h : Links K H ls) : Links K H' ls := fun p hp => (h p hp).ex e
def keep1 (t : Ti) : Bool := !(decide (t.f = t.s) && decide (t.a = 0))
def evM (ls : LK) : LK := ls.filter fun p => keep1 p.2
def brV : LK → V → V
  | [], b => b
  | p :: r, b => brV r (if broken p.2 then .ref p.1 else b)
theorem keep_iff (t : Ti) : keep1 t = true ↔ ¬(t.f = t.s ∧ t.a = 0) := by
  unfold keep1
  by_cases h1 : t.f = t.s <;> by_cases h2 : t.a = 0 <;> simp [h1, h2]
theorem ev1_eq (a : Addr) (t : Ti) : ev1 a t = refs (evM [(a, t)]) := by
  unfold ev1
  by_cases h : t.f = t.s ∧ t.a = 0
  · have hk : keep1 t = false := by
      cases q : keep1 t with
      | false => rfl
      | true => exact absurd h ((keep_iff t).mp q)
    rw [if_pos h]
    simp [evM, hk, refs]
  · have hk : keep1 t = true := (keep_iff t).mpr h
    rw [if_neg h]
    simp [evM, hk, refs]
theorem brV_append (l m : LK) (b : V) : brV (l ++ m) b = brV m (brV l b) := by
  induction l generalizing b with
  | nil => rfl
  | cons p r ih => exact ih _
theorem broken_keep {t : Ti} (h : broken t = true) : keep1 t = true := by
  unfold broken at h; unfold keep1
  by_cases h1 : t.f = t.s <;> by_cases h2 : t.a = 0 <;> simp_all
local macro_rules | `(tactic| walk_at "fx") => `(tactic| first
  | assumption
  | ((with_reducible apply TieAt.ex); (focus assumption); walk_at "fx")
  | ((with_reducible apply LinkAt.ex); (focus assumption); walk_at "fx")
  | ((with_reducible apply ex_l); (focus assumption); walk_at "fx")
  | ((with_reducible apply ex_t); (focus assumption); walk_at "fx")
  | ((with_reducible apply sq_of); walk_at "fx")
  | ((with_reducible apply st_of); walk_at "fx")
  | ((with_reducible apply ex_at); (focus assumption); walk_at "fx"))
local macro_rules | `(tactic| walk_at "s") => `(tactic| first
  | with_reducible refine w_seq ?_
  | ((with_reducible apply w_var); focus (exact rfl))
  | with_reducible refine w_c ?_
  | with_reducible refine w_op ?_
  | with_reducible refine w_cons ?_
  | with_reducible refine w_nil ?_
  | with_reducible refine w_asg ?_
  | with_reducible refine w_name ?_
  | with_reducible refine w_ret ?_
  | with_reducible refine w_retN ?_
  | with_reducible refine w_ifS ?_
  | with_reducible refine w_isB ?_
  | with_reducible refine w_test ?_
  | with_reducible refine w_tB ?_
  | with_reducible refine w_and ?_
  | with_reducible refine w_or ?_
  | with_reducible refine w_not ?_
  | with_reducible refine w_andV ?_
  | with_reducible refine w_orV ?_
  | with_reducible refine w_notV ?_
  | with_reducible refine w_if ?_
  | with_reducible refine w_iteT ?_
  | with_reducible refine w_iteF ?_
  | with_reducible refine w_iteNT ?_
  | with_reducible refine w_iteNF ?_
  | with_reducible refine w_un ?_
  | with_reducible refine w_call ?_
  | with_reducible refine w_cb ?_
  | with_reducible refine w_next ?_
  | with_reducible refine w_drop ?_
  | with_reducible refine w_for ?_
  | with_reducible refine w_dget0 ?_
  | with_reducible refine w_prsC ?_
  | with_reducible refine w_prsN ?_
  | with_reducible refine w_iZA ?_
  | with_reducible refine w_gSub ?_
  | with_reducible refine w_iR1 ?_
  | with_reducible refine w_p8 ?_
  | with_reducible refine w_p60 ?_
  | with_reducible refine w_p5 ?_
  | with_reducible refine w_p18 ?_
  | with_reducible refine w_p9 ?_
  | with_reducible refine w_p19 ?_
  | with_reducible refine w_p29 ?_
  | with_reducible refine w_m1 ?_
  | with_reducible refine w_kM1 ?_
  | with_reducible refine w_iStr ?_
  | with_reducible refine w_kStr ?_
  | with_reducible refine w_inS ?_
  | with_reducible refine w_sta ?_
  | with_reducible refine w_iEnumT ?_
  | with_reducible refine w_thn ?_
  | with_reducible refine w_chain ?_
  | with_reducible refine w_gAttr ?_
  | with_reducible refine w_isNr ?_
  | with_reducible refine w_iEnum ?_
  | ((with_reducible apply w_kEnum); focus (walk_at "fx"))
  | with_reducible refine w_sl3 ?_
  | with_reducible refine w_noPart ?_
  | with_reducible refine w_part ?_
  | with_reducible refine w_kPt ?_
  | with_reducible refine w_bm ?_
  | with_reducible refine w_ckw ?_
  | with_reducible refine w_tst ?_
  | with_reducible refine w_mk ?_
  | ((with_reducible apply w_psl); (focus (walk_at "fx")))
  | ((with_reducible apply w_mT); (focus (walk_at "fx")); (focus (exact rfl)))
  | ((with_reducible apply w_partner); (focus (walk_at "fx")))
  | ((with_reducible apply w_led); (focus (walk_at "fx")))
  | ((with_reducible apply w_spT); (focus (walk_at "fx")))
  | with_reducible refine w_lc ?_
  | with_reducible refine w_yes ?_
  | with_reducible refine w_gCons ?_
  | with_reducible refine w_gNil ?_
  | ((with_reducible apply w_gTup); (focus (walk_at "fx")); focus (exact rfl))
  | ((with_reducible apply w_minL2); focus (walk_at "fx"))
  | ((with_reducible apply w_slT); (focus assumption); (focus (walk_at "fx")))
  | ((with_reducible apply w_kIT); focus (walk_at "fx"))
  | ((with_reducible apply w_kIL); focus (walk_at "fx"))
  | with_reducible refine w_neg ?_
  | with_reducible refine w_tie ?_
  | with_reducible refine w_iT ?_
  | with_reducible refine w_iL ?_
  | with_reducible refine w_sFld ?_
  | with_reducible refine w_sSl ?_
  | with_reducible refine w_propSl ?_
  | with_reducible refine w_par ?_
  | with_reducible refine w_kPar ?_
  | with_reducible refine w_tup ?_
  | with_reducible refine w_lst ?_
  | with_reducible refine w_I0 ?_
  | with_reducible refine w_U ?_
  | with_reducible refine w_eqI ?_
  | with_reducible refine w_neI ?_
  | with_reducible refine w_eqS ?_
  | with_reducible refine w_neS ?_
  | with_reducible refine w_eqB ?_
  | with_reducible refine w_neB ?_
  | with_reducible refine w_isNn ?_
  | with_reducible refine w_isNr ?_
  | with_reducible refine w_isNi ?_
  | with_reducible refine w_notNn ?_
  | with_reducible refine w_notNr ?_
  | with_reducible refine w_notNi ?_
  | with_reducible refine w_xisN ?_
  | with_reducible refine w_fld ?_
  | with_reducible refine w_prop ?_
  | with_reducible refine w_meth ?_
  | ((with_reducible apply w_mod); focus assumption)
  | ((with_reducible apply w_mulW); (focus assumption); focus assumption)
  | ((with_reducible apply w_divW); (focus assumption); focus assumption)
  | with_reducible refine w_int1 ?_
  | with_reducible refine w_intB ?_
  | with_reducible refine w_min2 ?_
  | with_reducible refine w_max2 ?_
  | with_reducible refine w_abs ?_
  | with_reducible refine w_isiI ?_
  | with_reducible refine w_isiNB ?_
  | with_reducible refine w_isiB ?_
  | with_reducible refine w_isiS ?_
  | ((with_reducible apply w_isiT); (focus assumption); focus (walk_at "fx"))
  | ((with_reducible apply w_fTd); (focus assumption); focus (walk_at "fx"))
  | ((with_reducible apply w_fTb); (focus assumption); focus (walk_at "fx"))
  | ((with_reducible apply w_fTf); (focus assumption); focus (walk_at "fx"))
  | ((with_reducible apply w_fTs); (focus assumption); focus (walk_at "fx"))
  | ((with_reducible apply w_fTl); (focus assumption); focus (walk_at "fx"))
  | ((with_reducible apply w_fTa); (focus assumption); focus (walk_at "fx"))
  | ((with_reducible apply w_pT); focus (walk_at "fx"))
  | with_reducible refine w_sl ?_
  | ((with_reducible apply w_len); focus (walk_at "fx"))
  | ((with_reducible apply w_kT); focus (exact Nat.le_of_ble_eq_true rfl)))
local macro_rules | `(tactic| walk_at "ss") => `(tactic| repeat (walk_at "s"))
local macro_rules | `(tactic| walk_at "go") => `(tactic| ((try dsimp only [cxOf, Cx.nox, Cx.wish]); walk_at "ss"))
local macro_rules | `(tactic| walk_at "len") => `(tactic| (intro vs H Q E h; (repeat (obtain ⟨_, h⟩ := h)); all_goals (subst_vars; rfl)))
section
variable {P : Program} {w : World} {K : PySem.W.Frag} {mg : Str → Option Value} {base : Heap}
def spAll (K : PySem.W.Frag) : Sp := fun vs H Q _ => ∃ L ls, vs = [.ref L] ∧ SqL K H L (refs ls) ∧ Links K H ls ∧ (∀ p ∈ ls, p.2.f ≤ p.2.s) ∧ ls.length ≤ 100 ∧
  ∀ q F H', H F = none → Ex H H' → H' q = some (.tup [.ref F, brV ls .non]) → H' F = some (.lst (refs (evM ls))) → Q (.ref q) H'
theorem ok_all_evened (T : Tx K mg) : FnB P w K mg base CX0 5 (ga K "all_evened") ["links"] (spAll K) [] := by
  refine mkB (k := 4) T.f_all_evened sc_all_evened (fun _ _ _ _ _ _ us hl => match us, hl with | [_], _ => rfl) (by walk_at "len") fun cdv A outer s H vs Q E hr h => ?_
  obtain ⟨L, ls, rfl, hL, hLs, hle, hlen, k⟩ := h
  refine ⟨_, (pss_cons (ps_set (i := 1) sc_all_evened.nd rfl (Or.inl rfl) (pe_lst pa_nil))
      (pss_cons (ps_set (i := 2) sc_all_evened.nd rfl (Or.inl rfl) pe_non)
      (pss_cons (ps_for PassesOwn.never rfl (pi_list (pv 0)) (pg_name (i := 3) sc_all_evened.nd rfl (Or.inl rfl)) (pss_one (ps_for PassesOwn.never rfl (pi_list (c_fn (ok_evened T) (hr.mono (by decide)) T.m_evened T.kp_evened pass0 (pa_cons (pv 3) pa_nil))) (pg_name (i := 4) sc_all_evened.nd rfl (Or.inl rfl)) (pss_cons (ps_if (pt_val (c_fn (ok_cannot_be T) (hr.mono (by decide)) T.m_cannot_be T.kp_cannot_be pass0 (pa_cons (SlX.pe_sl (pv 4)) pa_nil))) (pss_one (ps_set (i := 2) sc_all_evened.nd rfl (Or.inl rfl) (pv 4))) pss_nil)
      (pss_one (ps_expr (pe_bm PySem.F.plainAttrs_list PySem.F.slot_list_append PySem.F.type_list_append mt_append (pv 1) (pa_cons (pv 4) pa_nil))))))))
      (pss_one (ps_ret (pe_tup (pa_cons (pv 1) (pa_cons (pv 2) pa_nil)))))))), ?_⟩
  walk_at "go"
  refine w_kL (by decide) fun F H1 hF e1 hF1 => ?_
  walk_at "ss"
  refine w_kFor (walk_list (xs := refs ls)) (fun i σ' H' => ∃ x y, σ' = [some (.ref L), some (.ref F), some (brV (ls.take i) .non), x, y] ∧ Ex H H' ∧ H' F = some (.lst (refs (evM (ls.take i))))) ⟨none, none, rfl, e1, hF1⟩
    (fun i σ' H' _ p => ex_l p.choose_spec.choose_spec.2.1 hL) (fun i v σ' H2 H2' hi p q => ?_) (fun σ' H' p => ?_)
  · obtain ⟨x, y, rfl, e2, hF2⟩ := p
    obtain ⟨rfl, q⟩ := q
    have hi' : i < ls.length := by simpa [refs] using hi
    have ev : v = .ref ls[i].1 := by
      have : (refs ls)[i]? = some (.ref ls[i].1) := by simp [refs, List.getElem?_map, List.getElem?_eq_getElem hi']
      rw [this] at q; exact (Option.some.inj q).symm
    subst ev
    have hT := hLs ls[i] (List.getElem_mem hi')
    have htk : ls.take (i + 1) = ls.take i ++ [ls[i]] := by rw [List.take_succ, List.getElem?_eq_getElem hi']; rfl
    have hz : (refs (evM (ls.take i))).length < 100000 := by
      have : (evM (ls.take i)).length ≤ (ls.take i).length := List.length_filter_le _ _
      have h2 : (ls.take i).length ≤ ls.length := by rw [List.length_take]; omega
      simp only [refs, List.length_map]; omega
    walk_at "ss"
    refine ⟨_, _, rfl, hT.ex e2, hle _ (List.getElem_mem hi'), fun p H3 hp e3 hP => ?_⟩
    rw [ev1_eq] at hP
    refine w_kIL (sq_of hP) ?_
    have hF3 := e3 _ _ hF2
    cases hk : keep1 ls[i].2 with
    | false =>
      have e5 : evM [(ls[i].1, ls[i].2)] = [] := by simp [evM, hk]
      have e7 : evM [ls[i]] = [] := by simp [evM, hk]
      have e6 : broken ls[i].2 = false := by
        cases hb : broken ls[i].2 with
        | false => rfl
        | true => rw [broken_keep hb] at hk; cases hk
      rw [e5] at hP
      refine forL0 (sq_of hP) ?_
      refine ⟨some (.ref ls[i].1), y, ?_, e2.trans e3, ?_⟩
      · have eb : brV (ls.take (i + 1)) .non = brV (ls.take i) .non := by
          rw [htk, brV_append]
          show (if broken ls[i].2 = true then _ else _) = _
          rw [e6]; rfl
        rw [eb]; rfl
      · rw [hF3, htk]
        unfold evM at *
        rw [List.filter_append, e7, List.append_nil]
    | true =>
      have e5 : evM [(ls[i].1, ls[i].2)] = [ls[i]] := by simp [evM, hk]
      have e7 : evM [ls[i]] = [ls[i]] := by simp [evM, hk]
      rw [e5] at hP
      have hpF : p ≠ F := fun z => by subst z; rw [hF2] at hp; cases hp
      refine forL1 (sq_of hP) ?_
      have fin : ∀ (b : V) x y, b = brV (ls.take (i + 1)) .non → (fun σ' H' => ∃ x y, σ' = [some (.ref L), some (.ref F), some (brV (ls.take (i + 1)) .non), x, y] ∧ Ex H H' ∧ H' F = some (.lst (refs (evM (ls.take (i + 1)))))) [some (.ref L), some (.ref F), some b, x, y] (upd H3 F (.lst (refs (evM (ls.take i)) ++ [.ref ls[i].1]))) := fun b x y hb => by
        refine ⟨x, y, by rw [hb], Ex.mut (e2.trans e3) hF, ?_⟩
        rw [upd_same, htk]
        unfold evM at *
        rw [List.filter_append, e7]
        simp [refs]
      walk_at "ss"
      intro b1 hb1
      walk_at "ss"
      cases hb : broken ls[i].2 with
      | true =>
        walk_at "ss"
        refine w_kBMl hF3 ?_
        walk_at "ss"
        refine w_app hF3 hz ?_
        refine ⟨?_, ?_⟩
        · refine sq_of ?_
          rw [upd_ne hpF]; exact hP
        refine fin (.ref ls[i].1) _ _ ?_
        rw [htk, brV_append]
        show _ = (if broken ls[i].2 = true then _ else _)
        rw [hb]; rfl
      | false =>
        walk_at "ss"
        refine w_kBMl hF3 ?_
        walk_at "ss"
        refine w_app hF3 hz ?_
        refine ⟨?_, ?_⟩
        · refine sq_of ?_
          rw [upd_ne hpF]; exact hP
        refine fin (brV (ls.take i) .non) _ _ ?_
        rw [htk, brV_append]
        show _ = (if broken ls[i].2 = true then _ else _)
        rw [hb]; rfl
  · obtain ⟨x, y, rfl, e2, hF2⟩ := p
    have e : (refs ls).length = ls.length := by simp [refs]
    rw [e, List.take_length] at hF2
    walk_at "ss"
    intro q H3 hq e3 hQ
    rw [e, List.take_length] at hQ
    exact k q F H3 hF (e2.trans e3) hQ (e3 _ _ hF2)
end
end K22
end

/-! # K22r -/
section
set_option Elab.async false
set_option linter.all false
set_option autoImplicit false
set_option maxRecDepth 100000
set_option maxHeartbeats 4000000
namespace K22
open PySem PySem.Spec PyProof.Rows L2
open He (ga ma fAd)
open Evl (Ex ex_l ex_t sq_of st_of fresh_back)
theorem mo_tup (a : Addr) (xs : List V) : Mo fun H => H a = some (.tup xs) := ⟨fun _ _ e h => e _ _ h, fun H D l l' h q => upd_at h q (fun _ z => nomatch z), fun H x C dx fs o' h _ q => upd_in h q (fun z => nomatch z)⟩
theorem mo_and {P R : Hp → Prop} (h : Mo P) (h' : Mo R) : Mo fun H => P H ∧ R H := ⟨fun H H' e q => ⟨h.ex H H' e q.1, h'.ex H H' e q.2⟩, fun H D l l' e q => ⟨h.up H D l l' e q.1, h'.up H D l l' e q.2⟩, fun H x C dx fs o' e l q => ⟨h.ins H x C dx fs o' e l q.1, h'.ins H x C dx fs o' e l q.2⟩⟩
theorem mo_ex {α : Type} {P : α → Hp → Prop} (h : ∀ x, Mo (P x)) : Mo fun H => ∃ x, P x H := ⟨fun H H' e ⟨x, q⟩ => ⟨x, (h x).ex H H' e q⟩, fun H D l l' e ⟨x, q⟩ => ⟨x, (h x).up H D l l' e q⟩, fun H y C dx fs o' e l ⟨x, q⟩ => ⟨x, (h x).ins H y C dx fs o' e l q⟩⟩
/-! ## the end of the links -/
def endT (ts : List Ti) : Int := mxL 0 (ts.map fun t => t.s + t.l)
def tis (ls : LK) : List Ti := ls.map fun p => p.2
def evT (ts : List Ti) : List Ti := ts.filter keep1
def brT (ts : List Ti) : Bool := ts.any broken
theorem tis_evM (ls : LK) : tis (evM ls) = evT (tis ls) := by
  unfold tis evM evT
  rw [List.filter_map]
  rfl
theorem brV_of (ls : LK) : ∀ b : V, (brT (tis ls) = false ∧ brV ls b = b) ∨ (brT (tis ls) = true ∧ ∃ a, brV ls b = .ref a) := by
  induction ls with
  | nil => intro b; exact .inl ⟨rfl, rfl⟩
  | cons p r ih =>
    intro b
    cases h : broken p.2 with
    | false =>
      have e1 : brT (tis (p :: r)) = brT (tis r) := by simp [brT, tis, h]
      have e2 : brV (p :: r) b = brV r b := by simp [brV, h]
      rw [e1, e2]; exact ih b
    | true =>
      have e1 : brT (tis (p :: r)) = true := by simp [brT, tis, h]
      have e2 : brV (p :: r) b = brV r (.ref p.1) := by simp [brV, h]
      rw [e1, e2]
      rcases ih (.ref p.1) with ⟨_, q⟩ | ⟨_, q⟩
      · exact .inr ⟨rfl, _, q⟩
      · exact .inr ⟨rfl, q⟩
local macro_rules | `(tactic| walk_at "fx") => `(tactic| first
  | assumption
  | ((with_reducible apply TieAt.ex); (focus assumption); walk_at "fx")
  | ((with_reducible apply LinkAt.ex); (focus assumption); walk_at "fx")
  | ((with_reducible apply ex_l); (focus assumption); walk_at "fx")
  | ((with_reducible apply ex_t); (focus assumption); walk_at "fx")
  | ((with_reducible apply sq_of); walk_at "fx")
  | ((with_reducible apply st_of); walk_at "fx")
  | ((with_reducible apply ex_at); (focus assumption); walk_at "fx"))
local macro_rules | `(tactic| walk_at "s") => `(tactic| first
  | with_reducible refine w_seq ?_
  | ((with_reducible apply w_var); focus (exact rfl))
  | with_reducible refine w_c ?_
  | with_reducible refine w_op ?_
  | with_reducible refine w_cons ?_
  | with_reducible refine w_nil ?_
  | with_reducible refine w_asg ?_
  | with_reducible refine w_name ?_
  | with_reducible refine w_ret ?_
  | with_reducible refine w_retN ?_
  | with_reducible refine w_ifS ?_
  | with_reducible refine w_isB ?_
  | with_reducible refine w_test ?_
  | with_reducible refine w_tB ?_
  | with_reducible refine w_and ?_
  | with_reducible refine w_or ?_
  | with_reducible refine w_not ?_
  | with_reducible refine w_andV ?_
  | with_reducible refine w_orV ?_
  | with_reducible refine w_notV ?_
  | with_reducible refine w_if ?_
  | with_reducible refine w_iteT ?_
  | with_reducible refine w_iteF ?_
  | with_reducible refine w_iteNT ?_
  | with_reducible refine w_iteNF ?_
  | with_reducible refine w_un ?_
  | with_reducible refine w_call ?_
  | with_reducible refine w_cb ?_
  | with_reducible refine w_next ?_
  | with_reducible refine w_drop ?_
  | with_reducible refine w_for ?_
  | with_reducible refine w_dget0 ?_
  | with_reducible refine w_prsC ?_
  | with_reducible refine w_prsN ?_
  | with_reducible refine w_iZA ?_
  | with_reducible refine w_gSub ?_
  | with_reducible refine w_iR1 ?_
  | with_reducible refine w_p8 ?_
  | with_reducible refine w_p60 ?_
  | with_reducible refine w_p5 ?_
  | with_reducible refine w_p18 ?_
  | with_reducible refine w_p9 ?_
  | with_reducible refine w_p19 ?_
  | with_reducible refine w_p29 ?_
  | with_reducible refine w_m1 ?_
  | with_reducible refine w_kM1 ?_
  | with_reducible refine w_iStr ?_
  | with_reducible refine w_kStr ?_
  | with_reducible refine w_inS ?_
  | with_reducible refine w_sta ?_
  | with_reducible refine w_iEnumT ?_
  | with_reducible refine w_thn ?_
  | with_reducible refine w_chain ?_
  | with_reducible refine w_gAttr ?_
  | with_reducible refine w_isNr ?_
  | with_reducible refine w_iEnum ?_
  | ((with_reducible apply w_kEnum); focus (walk_at "fx"))
  | with_reducible refine w_sl3 ?_
  | with_reducible refine w_noPart ?_
  | with_reducible refine w_part ?_
  | with_reducible refine w_kPt ?_
  | with_reducible refine w_bm ?_
  | with_reducible refine w_ckw ?_
  | with_reducible refine w_tst ?_
  | with_reducible refine w_mk ?_
  | ((with_reducible apply w_psl); (focus (walk_at "fx")))
  | ((with_reducible apply w_mT); (focus (walk_at "fx")); (focus (exact rfl)))
  | ((with_reducible apply w_partner); (focus (walk_at "fx")))
  | ((with_reducible apply w_led); (focus (walk_at "fx")))
  | ((with_reducible apply w_spT); (focus (walk_at "fx")))
  | with_reducible refine w_lc ?_
  | with_reducible refine w_yes ?_
  | with_reducible refine w_gCons ?_
  | with_reducible refine w_gNil ?_
  | ((with_reducible apply w_gTup); (focus (walk_at "fx")); focus (exact rfl))
  | ((with_reducible apply w_minL2); focus (walk_at "fx"))
  | ((with_reducible apply w_slT); (focus assumption); (focus (walk_at "fx")))
  | ((with_reducible apply w_kIT); focus (walk_at "fx"))
  | ((with_reducible apply w_kIL); focus (walk_at "fx"))
  | with_reducible refine w_neg ?_
  | with_reducible refine w_tie ?_
  | with_reducible refine w_iT ?_
  | with_reducible refine w_iL ?_
  | with_reducible refine w_sFld ?_
  | with_reducible refine w_sSl ?_
  | with_reducible refine w_propSl ?_
  | with_reducible refine w_par ?_
  | with_reducible refine w_kPar ?_
  | with_reducible refine w_tup ?_
  | with_reducible refine w_lst ?_
  | with_reducible refine w_I0 ?_
  | with_reducible refine w_U ?_
  | with_reducible refine w_eqI ?_
  | with_reducible refine w_neI ?_
  | with_reducible refine w_eqS ?_
  | with_reducible refine w_neS ?_
  | with_reducible refine w_eqB ?_
  | with_reducible refine w_neB ?_
  | with_reducible refine w_isNn ?_
  | with_reducible refine w_isNr ?_
  | with_reducible refine w_isNi ?_
  | with_reducible refine w_notNn ?_
  | with_reducible refine w_notNr ?_
  | with_reducible refine w_notNi ?_
  | with_reducible refine w_xisN ?_
  | with_reducible refine w_fld ?_
  | with_reducible refine w_prop ?_
  | with_reducible refine w_meth ?_
  | ((with_reducible apply w_mod); focus assumption)
  | ((with_reducible apply w_mulW); (focus assumption); focus assumption)
  | ((with_reducible apply w_divW); (focus assumption); focus assumption)
  | with_reducible refine w_int1 ?_
  | with_reducible refine w_intB ?_
  | with_reducible refine w_min2 ?_
  | with_reducible refine w_max2 ?_
  | with_reducible refine w_abs ?_
  | with_reducible refine w_isiI ?_
  | with_reducible refine w_isiNB ?_
  | with_reducible refine w_isiB ?_
  | with_reducible refine w_isiS ?_
  | ((with_reducible apply w_isiT); (focus assumption); focus (walk_at "fx"))
  | ((with_reducible apply w_fTd); (focus assumption); focus (walk_at "fx"))
  | ((with_reducible apply w_fTb); (focus assumption); focus (walk_at "fx"))
  | ((with_reducible apply w_fTf); (focus assumption); focus (walk_at "fx"))
  | ((with_reducible apply w_fTs); (focus assumption); focus (walk_at "fx"))
  | ((with_reducible apply w_fTl); (focus assumption); focus (walk_at "fx"))
  | ((with_reducible apply w_fTa); (focus assumption); focus (walk_at "fx"))
  | ((with_reducible apply w_pT); focus (walk_at "fx"))
  | with_reducible refine w_sl ?_
  | ((with_reducible apply w_len); focus (walk_at "fx"))
  | ((with_reducible apply w_kT); focus (exact Nat.le_of_ble_eq_true rfl)))
local macro_rules | `(tactic| walk_at "ss") => `(tactic| repeat (walk_at "s"))
local macro_rules | `(tactic| walk_at "go") => `(tactic| ((try dsimp only [cxOf, Cx.nox, Cx.wish]); walk_at "ss"))
local macro_rules | `(tactic| walk_at "len") => `(tactic| (intro vs H Q E h; (repeat (obtain ⟨_, h⟩ := h)); all_goals (subst_vars; rfl)))
section
variable {P : Program} {w : World} {K : PySem.W.Frag} {mg : Str → Option Value} {base : Heap}
def spEnd (K : PySem.W.Frag) : Sp := fun vs H Q _ => ∃ L ls, vs = [.ref L] ∧ SqL K H L (refs ls) ∧ Links K H ls ∧ ls.length ≤ 100 ∧ ∀ H', Ex H H' → Q (.int (endT (tis ls))) H'
theorem ok_end_of (T : Tx K mg) : FnB P w K mg base CX0 5 (ga K "end_of") ["links"] (spEnd K) [] := by
  refine mkB (k := 4) T.f_end_of sc_end_of (fun _ _ _ _ _ _ us hl => match us, hl with | [_], _ => rfl) (by walk_at "len") fun cdv A outer s H vs Q E hr h => ?_
  obtain ⟨L, ls, rfl, hL, hLs, hlen, k⟩ := h
  refine ⟨_, (pss_one (ps_ret (pe_callBK (cr_maxDf rfl hr) (by rfl) T.b_max (by decide +kernel) (pa_cons (pe_lc (own := [("link", 1)]) (g := (gName 1)) rfl sc_end_of.nd (pi_list (pv 0)) (blkOk_by (N := n_end_of) (sc := defScope s_end_of) (by decide +kernel)) (fun _ _ _ _ _ => (pg_name (i := 1) sc_end_of.nd rfl (Or.inl rfl))) (fun _ _ _ _ _ => pts_nil) (fun _ _ _ _ _ => (c_propSl (ok_Link_behind T) (hr.mono (by decide)) T.SC T.p_Link_behind (pv 1)))) pa_nil) (pk_cons pe_int pk_nil)))), ?_⟩
  walk_at "go"
  refine lcP (xs := refs ls) (ys := (ls.map fun p => p.2.s + p.2.l).map V.int) walk_list (fun H' e => ex_l e hL) (by simp [refs]) (by simp [refs]; omega) (fun x => rfl) (fun i x y H0 hx hy e Q' hQ => ?_) fun p H1 hp e1 hP => ?_
  · have hi : i < ls.length := by
      have := (List.getElem?_eq_some_iff.mp hx).1
      simpa [refs] using this
    have e1 : x = .ref ls[i].1 := by simp [refs, List.getElem?_map, List.getElem?_eq_getElem hi] at hx; exact hx.symm
    have e2 : y = .int (ls[i].2.s + ls[i].2.l) := by simp [List.getElem?_map, List.getElem?_eq_getElem hi] at hy; exact hy.symm
    subst e1 e2
    have hT := (hLs ls[i] (List.getElem_mem hi)).ex e
    walk_at "ss"
    exact hQ
  walk_at "ss"
  refine ⟨p, ls.map (fun p => p.2.s + p.2.l), 0, rfl, rfl, sq_of hP, ?_⟩
  have e : mxL 0 (ls.map fun p => p.2.s + p.2.l) = endT (tis ls) := by unfold endT tis; rw [List.map_map]; rfl
  rw [e]
  exact k H1 e1
end
/-! ## the greatest of the last -/
def Pick (ls : LK) (k : Nat) : Prop := (∃ x, ls = [x] ∧ k = 0) ∨ (∃ x y, ls = [x, y] ∧ ((y.2.l < x.2.l ∧ k = 0) ∨ (x.2.l < y.2.l ∧ k = 1)))
def d3 (l : Int) (k : Nat) : PyData := .tuple [.int l, .bool false, .int k]
theorem lt3 {a b : Int} {i j : Nat} (h : a ≠ b) : PySem.W.dataLt (d3 a i) (d3 b j) = decide (a < b) := by
  unfold d3
  rw [PySem.W.dataLt_tuple, PySem.W.dataLt_all_no (by simp [PySem.W.alike]) (by simp [PyData.eqv, h]), PySem.W.dataLt_int]
theorem alike3 (l : List (Int × Nat)) : PySem.W.AlikeAll (l.map fun p => d3 p.1 p.2) := by
  refine ⟨fun x hx y hy => ?_, fun x hx => ?_⟩
  · obtain ⟨p, _, rfl⟩ := List.mem_map.mp hx
    obtain ⟨q, _, rfl⟩ := List.mem_map.mp hy
    simp [d3, PySem.W.alike, PySem.W.alikeAll]
  · obtain ⟨p, _, rfl⟩ := List.mem_map.mp hx
    exact fun z => nomatch z
section
variable {K : PySem.W.Frag} {H : Hp} {Q : VK} {p : Addr} {ys : List V} {ls : LK} {k : Nat}
def Pf3 (ls : LK) (i : Nat) (v : V) (H' : Hp) : Prop := ∃ T : Addr, ∃ q : Addr × Ti, ls[i]? = some q ∧ v = .ref T ∧ H' T = some (.tup [.int q.2.l, .bl false, .int (i : Nat)])
theorem mo_3 (ls : LK) (i : Nat) (v : V) : Mo (Pf3 ls i v) := mo_ex fun T => mo_ex fun q => mo_and (mo_const _) (mo_and (mo_const _) (mo_tup T _))
theorem dp3 {T : Addr} {l : Int} {i : Nat} (h : H T = some (.tup [.int l, .bl false, .int i])) : Dp K H (.ref T) (d3 l i) := .tup (st_of h) (.cons (.int _) (.cons (.bl _) (.cons (.int _) .nil)))
theorem w_maxPick (hp : SqL K H p ys) (hl : ys.length = ls.length) (hy : ∀ (i : Nat) v, ys[i]? = some v → Pf3 ls i v H) (hk : Pick ls k)
    (h : ∀ T l, H T = some (.tup [.int l, .bl false, .int (k : Nat)]) → Q (.ref T) H) : rMaxA K [.ref p] H Q := by
  rcases hk with ⟨x, rfl, rfl⟩ | ⟨x, y, rfl, hxy⟩
  · match ys, hl with
    | [v], _ =>
      obtain ⟨T, q, e1, rfl, e3⟩ := hy 0 v rfl
      obtain rfl : x = q := by simpa using e1
      refine ⟨p, [.ref T], d3 x.2.l 0, [], rfl, hp, .cons (dp3 e3) .nil, alike3 [(x.2.l, 0)], by simp [d3, PyData.depthAll, PyData.depth], fun i v h1 h2 => ?_⟩
      match i, h1 with
      | 0, h1 =>
        obtain rfl : V.ref T = v := by simpa using h1
        exact h T _ e3
      | n + 1, h1 => simp at h1
  · match ys, hl with
    | [v, v'], _ =>
      obtain ⟨T, q, e1, rfl, e3⟩ := hy 0 v rfl
      obtain rfl : x = q := by simpa using e1
      obtain ⟨T', q, e1', rfl, e3'⟩ := hy 1 v' rfl
      obtain rfl : y = q := by simpa using e1'
      have hne : x.2.l ≠ y.2.l := by omega
      have hm : PySem.W.maxD (d3 x.2.l 0) [d3 y.2.l 1] = if x.2.l < y.2.l then d3 y.2.l 1 else d3 x.2.l 0 := by
        unfold PySem.W.maxD
        rw [List.foldl_cons, List.foldl_nil, lt3 hne]
        by_cases c : x.2.l < y.2.l <;> simp [c]
      refine ⟨p, [.ref T, .ref T'], d3 x.2.l 0, [d3 y.2.l 1], rfl, hp, .cons (dp3 e3) (.cons (dp3 e3') .nil), alike3 [(x.2.l, 0), (y.2.l, 1)], by simp [d3, PyData.depthAll, PyData.depth], fun i v h1 h2 => ?_⟩
      rw [hm] at h2
      rcases hxy with ⟨c, rfl⟩ | ⟨c, rfl⟩
      · rw [if_neg (by omega)] at h2
        rcases get2 h1 with ⟨rfl, rfl⟩ | ⟨rfl, rfl⟩
        · exact h T _ e3
        · have : d3 y.2.l 1 = d3 x.2.l 0 := by simpa using h2
          simp [d3] at this
      · rw [if_pos c] at h2
        rcases get2 h1 with ⟨rfl, rfl⟩ | ⟨rfl, rfl⟩
        · have : d3 x.2.l 0 = d3 y.2.l 1 := by simpa using h2
          simp [d3] at this
        · exact h T' _ e3'
end
theorem cut_take (ls : LK) (k : Nat) : cutV (refs ls) none (some (k : Int)) = refs (ls.take k) := by
  unfold cutV
  rw [HT.sIx_none, HT.sIx_nat, List.drop_zero, Nat.sub_zero]
  unfold refs
  rw [List.map_take, List.length_map]
  by_cases h : k ≤ ls.length
  · rw [Nat.min_eq_left h]
  · rw [Nat.min_eq_right (by omega), List.take_of_length_le (by simp), List.take_of_length_le (by simp; omega)]
theorem cut_drop (ls : LK) (k : Nat) : cutV (refs ls) (some ((k : Int) + 1)) none = refs (ls.drop (k + 1)) := by
  unfold cutV
  have e : ((k : Int) + 1) = ((k + 1 : Nat) : Int) := by omega
  rw [e, HT.sIx_none, HT.sIx_nat]
  unfold refs
  rw [List.map_drop, List.length_map]
  by_cases h : k + 1 ≤ ls.length
  · rw [Nat.min_eq_left h, List.take_of_length_le (by simp)]
  · rw [Nat.min_eq_right (by omega), List.drop_of_length_le (by simp), List.drop_of_length_le (by simp; omega), List.take_nil]
/-- what the others become -/
def rdT (c t : Ti) : Ti := ⟨0, t.s % c.s, t.l, t.a - c.a * (t.s / c.s)⟩
theorem links_of_items {K : PySem.W.Frag} {H : Hp} {f : Ti → Ti} : ∀ {os : LK} {ys : List V}, ys.length = os.length → (∀ (i : Nat) v, ys[i]? = some v → ∃ p q, os[i]? = some q ∧ v = .ref p ∧ LinkAt K H p (f q.2)) →
    ∃ nl : LK, refs nl = ys ∧ tis nl = (tis os).map f ∧ Links K H nl
  | [], [], _, _ => ⟨[], rfl, rfl, fun p hp => nomatch hp⟩
  | o :: os, v :: ys, hl, h => by
    obtain ⟨p, q, e1, rfl, hL⟩ := h 0 v rfl
    obtain rfl : o = q := by simpa using e1
    obtain ⟨nl, e2, e3, e4⟩ := links_of_items (os := os) (ys := ys) (by simpa using hl) (fun i v hi => by
      obtain ⟨p, q, a1, a2, a3⟩ := h (i + 1) v (by simpa using hi)
      exact ⟨p, q, by simpa using a1, a2, a3⟩)
    refine ⟨(p, f o.2) :: nl, by rw [← e2]; rfl, by simp only [tis, List.map_cons] at *; rw [e3], fun r hr => ?_⟩
    rcases List.mem_cons.mp hr with rfl | hr
    · exact hL
    · exact e4 r hr
  | [], _ :: _, hl, _ => by simp at hl
  | _ :: _, [], hl, _ => by simp at hl
end K22
end

/-! # K22s -/
section
set_option Elab.async false
set_option linter.all false
set_option autoImplicit false
set_option maxRecDepth 100000
set_option maxHeartbeats 4000000
namespace K22
open PySem PySem.Spec PyProof.Rows L2
open He (ga ma fAd)
open Evl (Ex ex_l ex_t sq_of st_of fresh_back)
local macro_rules | `(tactic| walk_at "fx") => `(tactic| first
  | assumption
  | ((with_reducible apply TieAt.ex); (focus assumption); walk_at "fx")
  | ((with_reducible apply LinkAt.ex); (focus assumption); walk_at "fx")
  | ((with_reducible apply ex_l); (focus assumption); walk_at "fx")
  | ((with_reducible apply ex_t); (focus assumption); walk_at "fx")
  | ((with_reducible apply sq_of); walk_at "fx")
  | ((with_reducible apply st_of); walk_at "fx")
  | ((with_reducible apply ex_at); (focus assumption); walk_at "fx"))
local macro_rules | `(tactic| walk_at "s") => `(tactic| first
  | with_reducible refine w_seq ?_
  | ((with_reducible apply w_var); focus (exact rfl))
  | with_reducible refine w_c ?_
  | with_reducible refine w_op ?_
  | with_reducible refine w_cons ?_
  | with_reducible refine w_nil ?_
  | with_reducible refine w_asg ?_
  | with_reducible refine w_name ?_
  | with_reducible refine w_ret ?_
  | with_reducible refine w_retN ?_
  | with_reducible refine w_ifS ?_
  | with_reducible refine w_isB ?_
  | with_reducible refine w_test ?_
  | with_reducible refine w_tB ?_
  | with_reducible refine w_and ?_
  | with_reducible refine w_or ?_
  | with_reducible refine w_not ?_
  | with_reducible refine w_andV ?_
  | with_reducible refine w_orV ?_
  | with_reducible refine w_notV ?_
  | with_reducible refine w_if ?_
  | with_reducible refine w_iteT ?_
  | with_reducible refine w_iteF ?_
  | with_reducible refine w_iteNT ?_
  | with_reducible refine w_iteNF ?_
  | with_reducible refine w_un ?_
  | with_reducible refine w_call ?_
  | with_reducible refine w_cb ?_
  | with_reducible refine w_next ?_
  | with_reducible refine w_drop ?_
  | with_reducible refine w_for ?_
  | with_reducible refine w_dget0 ?_
  | with_reducible refine w_prsC ?_
  | with_reducible refine w_prsN ?_
  | with_reducible refine w_iZA ?_
  | with_reducible refine w_gSub ?_
  | with_reducible refine w_iR1 ?_
  | with_reducible refine w_p8 ?_
  | with_reducible refine w_p60 ?_
  | with_reducible refine w_p5 ?_
  | with_reducible refine w_p18 ?_
  | with_reducible refine w_p9 ?_
  | with_reducible refine w_p19 ?_
  | with_reducible refine w_p29 ?_
  | with_reducible refine w_m1 ?_
  | with_reducible refine w_kM1 ?_
  | with_reducible refine w_iStr ?_
  | with_reducible refine w_kStr ?_
  | with_reducible refine w_inS ?_
  | with_reducible refine w_sta ?_
  | with_reducible refine w_iEnumT ?_
  | with_reducible refine w_thn ?_
  | with_reducible refine w_chain ?_
  | with_reducible refine w_gAttr ?_
  | with_reducible refine w_isNr ?_
  | with_reducible refine w_iEnum ?_
  | ((with_reducible apply w_kEnum); focus (walk_at "fx"))
  | with_reducible refine w_sl3 ?_
  | with_reducible refine w_noPart ?_
  | with_reducible refine w_part ?_
  | with_reducible refine w_kPt ?_
  | with_reducible refine w_bm ?_
  | with_reducible refine w_ckw ?_
  | with_reducible refine w_tst ?_
  | with_reducible refine w_mk ?_
  | ((with_reducible apply w_psl); (focus (walk_at "fx")))
  | ((with_reducible apply w_mT); (focus (walk_at "fx")); (focus (exact rfl)))
  | ((with_reducible apply w_partner); (focus (walk_at "fx")))
  | ((with_reducible apply w_led); (focus (walk_at "fx")))
  | ((with_reducible apply w_spT); (focus (walk_at "fx")))
  | with_reducible refine w_lc ?_
  | with_reducible refine w_yes ?_
  | with_reducible refine w_gCons ?_
  | with_reducible refine w_gNil ?_
  | ((with_reducible apply w_gTup); (focus (walk_at "fx")); focus (exact rfl))
  | ((with_reducible apply w_minL2); focus (walk_at "fx"))
  | ((with_reducible apply w_slT); (focus assumption); (focus (walk_at "fx")))
  | ((with_reducible apply w_kIT); focus (walk_at "fx"))
  | ((with_reducible apply w_kIL); focus (walk_at "fx"))
  | with_reducible refine w_neg ?_
  | with_reducible refine w_tie ?_
  | with_reducible refine w_iT ?_
  | with_reducible refine w_iL ?_
  | with_reducible refine w_sFld ?_
  | with_reducible refine w_sSl ?_
  | with_reducible refine w_propSl ?_
  | with_reducible refine w_par ?_
  | with_reducible refine w_kPar ?_
  | with_reducible refine w_tup ?_
  | with_reducible refine w_lst ?_
  | with_reducible refine w_I0 ?_
  | with_reducible refine w_U ?_
  | with_reducible refine w_eqI ?_
  | with_reducible refine w_neI ?_
  | with_reducible refine w_eqS ?_
  | with_reducible refine w_neS ?_
  | with_reducible refine w_eqB ?_
  | with_reducible refine w_neB ?_
  | with_reducible refine w_isNn ?_
  | with_reducible refine w_isNr ?_
  | with_reducible refine w_isNi ?_
  | with_reducible refine w_notNn ?_
  | with_reducible refine w_notNr ?_
  | with_reducible refine w_notNi ?_
  | with_reducible refine w_xisN ?_
  | with_reducible refine w_fld ?_
  | with_reducible refine w_prop ?_
  | with_reducible refine w_meth ?_
  | ((with_reducible apply w_mod); focus assumption)
  | ((with_reducible apply w_mulW); (focus assumption); focus assumption)
  | ((with_reducible apply w_divW); (focus assumption); focus assumption)
  | with_reducible refine w_int1 ?_
  | with_reducible refine w_intB ?_
  | with_reducible refine w_min2 ?_
  | with_reducible refine w_max2 ?_
  | with_reducible refine w_abs ?_
  | with_reducible refine w_isiI ?_
  | with_reducible refine w_isiNB ?_
  | with_reducible refine w_isiB ?_
  | with_reducible refine w_isiS ?_
  | ((with_reducible apply w_isiT); (focus assumption); focus (walk_at "fx"))
  | ((with_reducible apply w_fTd); (focus assumption); focus (walk_at "fx"))
  | ((with_reducible apply w_fTb); (focus assumption); focus (walk_at "fx"))
  | ((with_reducible apply w_fTf); (focus assumption); focus (walk_at "fx"))
  | ((with_reducible apply w_fTs); (focus assumption); focus (walk_at "fx"))
  | ((with_reducible apply w_fTl); (focus assumption); focus (walk_at "fx"))
  | ((with_reducible apply w_fTa); (focus assumption); focus (walk_at "fx"))
  | ((with_reducible apply w_pT); focus (walk_at "fx"))
  | with_reducible refine w_sl ?_
  | ((with_reducible apply w_len); focus (walk_at "fx"))
  | ((with_reducible apply w_kT); focus (exact Nat.le_of_ble_eq_true rfl)))
local macro_rules | `(tactic| walk_at "ss") => `(tactic| repeat (walk_at "s"))
local macro_rules | `(tactic| walk_at "go") => `(tactic| ((try dsimp only [cxOf, Cx.nox, Cx.wish]); walk_at "ss"))
local macro_rules | `(tactic| walk_at "len") => `(tactic| (intro vs H Q E h; (repeat (obtain ⟨_, h⟩ := h)); all_goals (subst_vars; rfl)))
/-- a cut: the cutter c, the others, the end -/
structure CutOk (ls : LK) (k : Nat) (ca : Addr) (c : Ti) (e lo : Int) (ts : List Ti) (br : Bool) : Prop where
  pick : Pick ls k
  at_ : ls[k]? = some (ca, c)
  len : ls.length ≤ 100
  ends : ∀ p ∈ ls, p.2.s + p.2.l = e
  good : Good c
  oth : ∀ p ∈ ls.take k ++ ls.drop (k + 1), p.2.f = 0 ∧ RdOk c.s c.l c.a p.2.s p.2.l p.2.a
  cf : c.f = 0
  low : lo = max (endT (evT ((tis (ls.take k ++ ls.drop (k + 1))).map (rdT c)))) c.s
  inl : lo - c.s ≤ c.l
  nts : ts = evT ((tis (ls.take k ++ ls.drop (k + 1))).map (rdT c)) ++ (if lo = c.s then [] else [⟨0, c.s, lo - c.s, c.a⟩])
  brk : br = brT ((tis (ls.take k ++ ls.drop (k + 1))).map (rdT c))
def brOf (br : Bool) (v : V) : Prop := (br = false ∧ v = .non) ∨ (br = true ∧ ∃ a, v = .ref a)
def spCut (K : PySem.W.Frag) : Sp := fun vs H Q _ => ∃ L ls k ca c e lo ts br, vs = [.ref L, .int e] ∧ SqL K H L (refs ls) ∧ Links K H ls ∧ CutOk ls k ca c e lo ts br ∧
  ∀ q ro L' b ls' H', H L' = none → Ex H H' → H' q = some (.tup [.ref ro, .ref L', b]) → H' ro = some (.tup [.int lo, .int e, .ref ca]) → H' L' = some (.lst (refs ls')) → Links K H' ls' → tis ls' = ts → brOf br b → Q (.ref q) H'
theorem refs_append (a b : LK) : refs (a ++ b) = refs a ++ refs b := List.map_append
theorem tis_append (a b : LK) : tis (a ++ b) = tis a ++ tis b := List.map_append
section
variable {P : Program} {w : World} {K : PySem.W.Frag} {mg : Str → Option Value} {base : Heap}
theorem ok_cut_off (T : Tx K mg) : FnB P w K mg base CX0 9 (ga K "cut_off") ["links", "end"] (spCut K) [] := by
  refine mkB (k := 8) T.f_cut_off sc_cut_off (fun _ _ _ _ _ _ us hl => match us, hl with | [_, _], _ => rfl) (by walk_at "len") fun cdv A outer s H vs Q E hr h => ?_
  obtain ⟨L, ls, n, ca, c, e, lo, ts, br, rfl, hL, hLs, hc, k⟩ := h
  have hn : n < ls.length := (List.getElem?_eq_some_iff.mp hc.at_).1
  have hcm : (ca, c) ∈ ls := List.mem_of_getElem? hc.at_
  have hlen := hc.len
  refine ⟨_, (pss_cons (ps_setLc (i := 2) (own := [("at", 3), ("link", 8)]) (g := (gTup K 2 (gCons (gName 3) (gCons (gName 8) gNil)))) (tt := tTest (tOp rEq (SlX.tPropSl (ga K "Link") (spL K fun t => .int (t.s + t.l)) E0 (tVar 8)) (tVar 1))) (te := tTup (tCons (tProp (ga K "Tie") (spT K fun t => .int t.l) [] E0 (SlX.tSl K (tVar 8) "tie")) (tCons (tCall (spT K fun _ => .bl false) [] E0 (tCons (SlX.tSl K (tVar 8) "tie") tNil)) (tCons (tVar 3) tNil)))) rfl sc_cut_off.nd rfl rfl (sw_true rfl rfl rfl (by decide +kernel)) (pi_enum (by rfl) T.b_enumerate (pa_cons (pv 0) pa_nil)) (blkOk_by (N := n_cut_off) (sc := defScope s_cut_off) (by decide +kernel)) (fun _ _ _ _ _ => (pg_tup (n := 2) (by rfl) (pgs_cons (pg_name (i := 3) sc_cut_off.nd rfl (Or.inl rfl)) (pgs_cons (pg_name (i := 8) sc_cut_off.nd rfl (Or.inl rfl)) pgs_nil)))) (fun _ _ _ _ _ => (pts_one (pt_cmpR op_eq (c_propSl (ok_Link_behind T) (hr.mono (by decide)) T.SC T.p_Link_behind (pv 8)) (pv 1) (nomark _)))) (fun _ _ _ _ _ => (pe_tup (pa_cons (c_prop (ok_Tie_length T) (hr.mono (by decide)) T.c_Tie T.p_Tie_length (SlX.pe_sl (pv 8))) (pa_cons (c_fn (ok_is_pin T) (hr.mono (by decide)) T.m_is_pin T.kp_is_pin pass0 (pa_cons (SlX.pe_sl (pv 8)) pa_nil)) (pa_cons (pv 3) pa_nil))))))
      (pss_cons (ps_set (i := 3) sc_cut_off.nd rfl (Or.inl rfl) (pe_ix ix_tup (pe_callB (cr_maxA rfl hr) (by rfl) T.b_max (by decide +kernel) (pa_cons (pv 2) pa_nil)) (pe_un un_neg pe_int) (fun _ _ => rfl)))
      (pss_cons (ps_set (i := 4) sc_cut_off.nd rfl (Or.inr rfl) (pe_ix ix_list (pv 0) (pv 3) (fun _ _ => rfl)))
      (pss_cons (ps_asg (c_fn (ok_all_evened T) (hr.mono (by decide)) T.m_all_evened T.kp_all_evened pass0 (pa_cons (pe_lc (own := [("link", 8)]) (g := (gName 8)) rfl sc_cut_off.nd (pi_list (pe_lst (StX.pa_star (pe_slice sl_list (pv 0) po_none (po_some (pv 3))) (StX.pa_star (pe_slice sl_list (pv 0) (po_some (pe_op op_add (pv 3) pe_int)) po_none) pa_nil)))) (blkOk_by (N := n_cut_off) (sc := defScope s_cut_off) (by decide +kernel)) (fun _ _ _ _ _ => (pg_name (i := 8) sc_cut_off.nd rfl (Or.inl rfl))) (fun _ _ _ _ _ => pts_nil) (fun _ _ _ _ _ => (c_fn (ok_read_through T) (hr.mono (by decide)) T.m_read_through T.kp_read_through pass0 (pa_cons (pv 4) (pa_cons (pv 8) pa_nil))))) pa_nil)) (pg_tup (n := 2) (by rfl) (pgs_cons (pg_name (i := 5) sc_cut_off.nd rfl (Or.inl rfl)) (pgs_cons (pg_name (i := 6) sc_cut_off.nd rfl (Or.inl rfl)) pgs_nil))))
      (pss_cons (ps_set (i := 7) sc_cut_off.nd rfl (Or.inl rfl) (pe_callB (cl_max2 rfl) (by rfl) T.b_max (by decide +kernel) (pa_cons (c_fn (ok_end_of T) (hr.mono (by decide)) T.m_end_of T.kp_end_of pass0 (pa_cons (pv 5) pa_nil)) (pa_cons (pe_callTy cl_int1 (by rfl) T.b_int (by decide +kernel) (pa_cons (c_prop (ok_Tie_second T) (hr.mono (by decide)) T.c_Tie T.p_Tie_second (SlX.pe_sl (pv 4))) pa_nil)) pa_nil))))
      (pss_one (ps_ret (pe_tup (pa_cons (pe_tup (pa_cons (pv 7) (pa_cons (pv 1) (pa_cons (pv 4) pa_nil)))) (pa_cons (pe_lst (StX.pa_star (pv 5) (StX.pa_star (c_fn (ok_shortened T) (hr.mono (by decide)) T.m_shortened T.kp_shortened pass0 (pa_cons (pv 4) (pa_cons (pv 7) (pa_cons (pv 1) pa_nil)))) pa_nil))) (pa_cons (pv 6) pa_nil))))))))))), ?_⟩
  walk_at "go"
  refine lcN' (walk_enum (xs := refs ls)) (fun H' e => ex_l e hL) (Pf3 ls) (mo_3 ls) (by simp [refs]; omega) (fun i x H0 H1 hi e0 hy Q' R hQ => ?_) fun p ys H1 hp e1 hP hl hy => ?_
  · obtain ⟨T1, x1, y1, rfl, hT1, rfl, hx1, hy1⟩ := hy
    have hi' : i < ls.length := by simpa [refs] using hi
    obtain rfl : V.int (i : Nat) = x1 := by simpa using hx1
    have ey : y1 = .ref ls[i].1 := by simp [refs, List.getElem?_map, List.getElem?_eq_getElem hi'] at hy1; exact hy1.symm
    subst ey
    have e2 : Ex H0 (upd H0 T1 (.tup [.int (i : Nat), .ref ls[i].1])) := Ex.new hT1
    have hTp : upd H0 T1 (.tup [.int (i : Nat), .ref ls[i].1]) T1 = some (.tup [.int (i : Nat), .ref ls[i].1]) := upd_same
    generalize upd H0 T1 (.tup [.int (i : Nat), .ref ls[i].1]) = H2 at *
    have hT := (hLs ls[i] (List.getElem_mem hi')).ex (e0.trans e2)
    refine w_gTup (st_of hTp) rfl ?_
    walk_at "ss"
    refine ⟨rfl, ?_⟩
    walk_at "ss"
    rw [hc.ends _ (List.getElem_mem hi'), decide_eq_true rfl]
    walk_at "ss"
    intro b hb
    walk_at "ss"
    intro b2 hb2
    walk_at "ss"
    intro q H3 hq e3 hQ3
    exact hQ _ H3 (e2.trans e3) ⟨q, ls[i], List.getElem?_eq_getElem hi', rfl, hQ3⟩
  have hl' : ys.length = ls.length := by rw [hl]; simp [refs]
  walk_at "ss"
  refine w_maxPick (sq_of hP) hl' hy hc.pick fun T1 l1 hT1 => ?_
  walk_at "ss"
  refine w_ixT (st_of hT1) (v := .int (n : Nat)) rfl ?_
  walk_at "ss"
  refine w_ixL (ex_l e1 hL) (v := .ref ca) (atI_nat (by simp [refs, List.getElem?_map, hc.at_])) ?_
  walk_at "ss"
  refine w_slL (ex_l e1 hL) fun p2 H2 hp2 e2 hP2 => ?_
  rw [cut_take] at hP2
  refine w_kStar (sq_of hP2) ?_
  walk_at "ss"
  refine w_slL (ex_l e2 (ex_l e1 hL)) fun p3 H3 hp3 e3 hP3 => ?_
  rw [cut_drop] at hP3
  refine w_kStar (sq_of hP3) ?_
  walk_at "ss"
  have ho : refs (ls.take n) ++ (refs (ls.drop (n + 1)) ++ []) = refs (ls.take n ++ ls.drop (n + 1)) := by rw [List.append_nil, refs_append]
  rw [ho]
  have hc3 := hc.oth; have hc4 := hc.low; have hc5 := hc.nts; have hc6 := hc.brk
  have hos : Links K H3 (ls.take n ++ ls.drop (n + 1)) := fun p hp => by
    rcases List.mem_append.mp hp with h | h
    · exact (hLs p (List.mem_of_mem_take h)).ex ((e1.trans e2).trans e3)
    · exact (hLs p (List.mem_of_mem_drop h)).ex ((e1.trans e2).trans e3)
  have hol : (ls.take n ++ ls.drop (n + 1)).length ≤ 100 := by rw [List.length_append, List.length_take, List.length_drop]; omega
  generalize ls.take n ++ ls.drop (n + 1) = os at *
  refine w_kL (by simp [refs]; omega) fun p4 H4 hp4 e4 hP4 => ?_
  have hos4 := hos.ex e4
  have hca : LinkAt K H4 ca c := (hLs _ hcm).ex (((e1.trans e2).trans e3).trans e4)
  refine w_kIL (sq_of hP4) ?_
  refine lcN walk_list (fun H' e => ex_l e (sq_of hP4)) (fun i v H' => ∃ p : Addr, ∃ q : Addr × Ti, os[i]? = some q ∧ v = .ref p ∧ LinkAt K H' p (rdT c q.2)) (fun i v => mo_ex fun p => mo_ex fun q => mo_and (mo_const _) (mo_and (mo_const _) (mo_link _ _))) (by simp [refs]; omega)
    (fun i x H0 H1 hi e0 hy Q' hQ => ?_) fun p5 ys2 H5 hp5 e5 hP5 hl5 hy5 => ?_
  · obtain ⟨rfl, hx⟩ := hy
    have hi' : i < os.length := by simpa [refs] using hi
    have ex : x = .ref os[i].1 := by simp [refs, List.getElem?_map, List.getElem?_eq_getElem hi'] at hx; exact hx.symm
    subst ex
    obtain ⟨hf, hR⟩ := hc3 os[i] (List.getElem_mem hi')
    have hO := (hos4 os[i] (List.getElem_mem hi')).ex e0
    refine ⟨rfl, ?_⟩
    walk_at "ss"
    refine ⟨ca, os[i].1, c.s, c.l, c.a, os[i].2.s, os[i].2.l, os[i].2.a, rfl, ?_, ?_, hR, fun p H' e' hp' => hQ _ H' e' ⟨p, os[i], List.getElem?_eq_getElem hi', rfl, hp'⟩⟩
    · have z := hca.ex e0
      have ec : c = ⟨0, c.s, c.l, c.a⟩ := by have := hc.cf; cases c; simp only at this; subst this; rfl
      rw [ec] at z; exact z
    · have ec : os[i].2 = ⟨0, os[i].2.s, os[i].2.l, os[i].2.a⟩ := by generalize os[i].2 = t at *; cases t; simp only at hf; subst hf; rfl
      rw [ec] at hO; exact hO
  obtain ⟨nl, rfl, hn2, hn3⟩ := links_of_items (f := rdT c) (by rw [hl5]; simp [refs]) hy5
  have hnl : nl.length ≤ 100 := by
    have : (tis nl).length = (tis os).length := by rw [hn2, List.length_map]
    simp [tis] at this; omega
  have hle : ∀ p ∈ nl, p.2.f ≤ p.2.s := fun p hp => by
    have : p.2 ∈ (tis os).map (rdT c) := by rw [← hn2]; exact List.mem_map.mpr ⟨p, hp, rfl⟩
    obtain ⟨t, ht, e⟩ := List.mem_map.mp this
    obtain ⟨o, ho, rfl⟩ := List.mem_map.mp ht
    rw [← e]
    exact (hc3 o ho).2.m2.2.2.2.2.1
  walk_at "ss"
  refine ⟨p5, nl, rfl, sq_of hP5, hn3, hle, hnl, fun q6 F H6 _ e6 hQ6 hF6 => ?_⟩
  refine w_gTup (st_of hQ6) rfl ?_
  walk_at "ss"
  have hev : Links K H6 (evM nl) := fun p hp => (hn3 p (List.mem_filter.mp hp).1).ex e6
  have hevl : (evM nl).length ≤ 100 := Nat.le_trans (List.length_filter_le _ _) hnl
  refine ⟨F, evM nl, rfl, sq_of hF6, hev, hevl, fun H7 e7 => ?_⟩
  have e47 := (e5.trans e6).trans e7
  have hca7 := hca.ex e47
  walk_at "ss"
  intro b1 hb1
  walk_at "ss"
  rw [tis_evM, hn2, ← hc4]
  have hF7 := e7 _ _ hF6
  walk_at "ss"
  intro q8 H8 hq8 e8 hQ8
  walk_at "ss"
  refine w_kStar (sq_of (e8 _ _ hF7)) ?_
  walk_at "ss"
  refine ⟨ca, c, lo, e, rfl, hca7.ex e8, hc.good, by rw [hc4]; exact Int.le_max_right _ _, hc.inl, fun q9 H9 xs e9 hQ9 hxs => ?_⟩
  refine w_kStar (sq_of hQ9) ?_
  walk_at "ss"
  have hs : ∃ sl : LK, xs = refs sl ∧ Links K H9 sl ∧ tis sl = (if lo = c.s then [] else [⟨0, c.s, lo - c.s, c.a⟩]) := by
    rcases hxs with ⟨h1, rfl⟩ | ⟨h1, p, rfl, h2⟩
    · exact ⟨[], rfl, (fun p hp => by cases hp), by rw [if_pos h1]; rfl⟩
    · refine ⟨[(p, ⟨c.f, c.s, lo - c.s, c.a⟩)], rfl, fun r hr => ?_, by rw [if_neg h1, hc.cf]; rfl⟩
      obtain rfl : r = (p, ⟨c.f, c.s, lo - c.s, c.a⟩) := by simpa using hr
      exact h2
  obtain ⟨sl, rfl, hs1, hs2⟩ := hs
  have hsl : sl.length ≤ 1 := by
    have : (tis sl).length ≤ 1 := by rw [hs2]; split <;> simp
    simpa [tis] using this
  have hz : refs (evM nl) ++ (refs sl ++ []) = refs (evM nl ++ sl) := by rw [List.append_nil, refs_append]
  rw [hz]
  refine w_kL (by simp [refs]; omega) fun q10 H10 hq10 e10 hQ10 => ?_
  walk_at "ss"
  intro q11 H11 hq11 e11 hQ11
  refine k q11 q8 q10 (brV nl .non) (evM nl ++ sl) H11 (fresh_back ((((((e1.trans e2).trans e3).trans e4).trans e47).trans e8).trans e9) hq10) ((((((((e1.trans e2).trans e3).trans e4).trans e47).trans e8).trans e9).trans e10).trans e11) hQ11 (e11 _ _ (e10 _ _ (e9 _ _ hQ8))) (e11 _ _ hQ10) (fun p hp => ?_) ?_ ?_
  · rcases List.mem_append.mp hp with h | h
    · exact (hev p h).ex ((((e7.trans e8).trans e9).trans e10).trans e11)
    · exact (hs1 p h).ex (e10.trans e11)
  · rw [tis_append, tis_evM, hn2, hs2, hc5]
  · rcases brV_of nl .non with ⟨h1, h2⟩ | ⟨h1, h2⟩
    · refine .inl ⟨?_, h2⟩; rw [hc6, ← hn2]; exact h1
    · refine .inr ⟨?_, h2⟩; rw [hc6, ← hn2]; exact h1
end
end K22
end

/-! # K22t -/
section
set_option Elab.async false
set_option linter.all false
set_option autoImplicit false
set_option maxRecDepth 100000
set_option maxHeartbeats 4000000
namespace K22
open PySem PySem.Spec PyProof.Rows L2
open He (ga ma fAd)
open Evl (Ex ex_l ex_t sq_of st_of fresh_back)
/-! ## o.f as a target -/
def kAttr (K : PySem.W.Frag) (f : Str) (v : V) (σ : L2.St) (Q : L2.St → Hp → Prop) : VK := fun x H2 => ∃ a C dx fs, x = .ref a ∧ H2 a = some (.ins C dx fs) ∧ Cls K C ∧ NoAttr K C f ∧ fs.length < 1000 ∧ Q σ (upd H2 a (.ins C dx (putF f v fs)))
def gAttr (K : PySem.W.Frag) (to : TE) (f : Str) : TG := fun v σ H Q => to σ H (kAttr K f v σ Q)
theorem pg_attr {X : Cx} {o : Expr} {to : TE} {f : Str} {pos : Pos} (ho : PE X o to) : PG X (.Attribute o f pos) (gAttr X.K to f) := by
  refine ⟨fun pins s σ H v u Q I r h => ?_⟩
  refine PySem.W.kas_attr (thn (ho.run pins s σ H _ I h) fun ov s1 ⟨x, H1, I1, rx, a, C, dx, fs, ex, ea, c, n, l, q⟩ => ?_)
  subst ex
  obtain rfl : ov = Value.ref a := rx
  exact setattr_ok I1 ea c n l r fun s3 I3 => ⟨σ, _, I3, q⟩
section
variable {K : PySem.W.Frag} {σ : L2.St} {H : Hp} {D : Ends} {v : V} {to : TE} {f : Str} {Q : L2.St → Hp → Prop} {a C dx : Addr} {fs : List (Str × V)}
theorem w_gAttr (h : to σ H (kAttr K f v σ Q)) : gAttr K to f v σ H Q := h
theorem w_kAttr (e : H a = some (.ins C dx fs)) (c : Cls K C) (n : NoAttr K C f) (l : fs.length < 1000) (h : Q σ (upd H a (.ins C dx (putF f v fs)))) : kAttr K f v σ Q (.ref a) H := ⟨a, C, dx, fs, rfl, e, c, n, l, h⟩
def kWh (W : Nat → L2.St → Hp → Prop) (m : Nat) (tb : TS) (D : Ends) (σ : L2.St) (H1 : Hp) : Prop := ∃ N : L2.St → Hp → Prop, (∀ σ' H', N σ' H' → ∃ m', m' < m ∧ W m' σ' H') ∧ tb { D with nx := N, ct := N, bk := D.nx } σ H1
theorem w_while {c : TT} {tb : TS} (W : Nat → L2.St → Hp → Prop) (m : Nat) (h0 : W m σ H)
    (hs : ∀ m σ H, W m σ H → c σ H fun b H1 => if b = true then kWh W m tb D σ H1 else D.nx σ H1) : tWhile c tb D σ H := ⟨W, ⟨m, h0⟩, hs⟩
theorem w_kWh {tb : TS} {W : Nat → L2.St → Hp → Prop} {m : Nat} (h : tb { D with nx := fun σ' H' => ∃ m', m' < m ∧ W m' σ' H', ct := fun σ' H' => ∃ m', m' < m ∧ W m' σ' H', bk := D.nx } σ H) : kWh W m tb D σ H := ⟨_, fun _ _ z => z, h⟩
end
/-! ## the run over the links -/
def PickT (ts : List Ti) (k : Nat) : Prop := (∃ x, ts = [x] ∧ k = 0) ∨ (∃ x y, ts = [x, y] ∧ ((y.l < x.l ∧ k = 0) ∨ (x.l < y.l ∧ k = 1)))
structure CutT (ts : List Ti) (k : Nat) (c : Ti) (e lo : Int) (ts' : List Ti) (br : Bool) : Prop where
  pick : PickT ts k
  at_ : ts[k]? = some c
  ends : ∀ t ∈ ts, t.s + t.l = e
  good : Good c
  oth : ∀ t ∈ ts.take k ++ ts.drop (k + 1), t.f = 0 ∧ RdOk c.s c.l c.a t.s t.l t.a
  cf : c.f = 0
  low : lo = max (endT (evT ((ts.take k ++ ts.drop (k + 1)).map (rdT c)))) c.s
  inl : lo - c.s ≤ c.l
  nts : ts' = evT ((ts.take k ++ ts.drop (k + 1)).map (rdT c)) ++ (if lo = c.s then [] else [⟨0, c.s, lo - c.s, c.a⟩])
  brk : br = brT ((ts.take k ++ ts.drop (k + 1)).map (rdT c))
theorem CutT.up {ls : LK} {k : Nat} {c : Ti} {e lo : Int} {ts' : List Ti} {br : Bool} (h : CutT (tis ls) k c e lo ts' br) : ∃ ca, CutOk ls k ca c e lo ts' br := by
  have ho : tis (ls.take k ++ ls.drop (k + 1)) = (tis ls).take k ++ (tis ls).drop (k + 1) := by
    unfold tis; rw [List.map_append, List.map_take, List.map_drop]
  have hp : Pick ls k := by
    rcases h.pick with ⟨x, e, rfl⟩ | ⟨x, y, e, hq⟩
    · match ls, e with
      | [p], e => exact .inl ⟨p, rfl, rfl⟩
    · match ls, e with
      | [p, q], e =>
        have e1 : p.2 = x := by simp [tis] at e; exact e.1
        have e2 : q.2 = y := by simp [tis] at e; exact e.2
        exact .inr ⟨p, q, rfl, by rw [e1, e2]; exact hq⟩
  have hl : ls.length ≤ 100 := by
    rcases hp with ⟨x, rfl, _⟩ | ⟨x, y, rfl, _⟩ <;> simp
  have ha := h.at_
  unfold tis at ha
  rw [List.getElem?_map] at ha
  obtain ⟨p, hp1, hp2⟩ := Option.map_eq_some_iff.mp ha
  refine ⟨p.1, hp, by rw [hp1]; cases p; simp only at hp2; rw [hp2], hl, fun q hq => h.ends q.2 (List.mem_map.mpr ⟨q, hq, rfl⟩), h.good, fun q hq => ?_, h.cf, by rw [ho]; exact h.low, h.inl, by rw [ho]; exact h.nts, by rw [ho]; exact h.brk⟩
  refine h.oth q.2 ?_
  rw [← ho]
  exact List.mem_map.mpr ⟨q, hq, rfl⟩
abbrev Rw := Int × Int × Ti
inductive Run : Nat → List Ti → Int → Bool → List Rw → List (Int × Int) → Bool → Prop
  | brk {n : Nat} {ts : List Ti} {e : Int} : Run n ts e true [] [] true
  | stop {n : Nat} {ts : List Ti} : Run n ts 0 false [] [] false
  | nil {n : Nat} {e : Int} : 0 < e → Run (n + 1) [] e false [] [(0, e)] false
  | cut {n k : Nat} {ts ts' : List Ti} {c : Ti} {e lo : Int} {br b : Bool} {rows : List Rw} {parts : List (Int × Int)} : 0 < e → endT ts = e → CutT ts k c e lo ts' br → Run n ts' lo br rows parts b → Run (n + 1) ts e false ((lo, e, c) :: rows) parts b
def RowAt (K : PySem.W.Frag) (H : Hp) (x : V) (r : Rw) : Prop := ∃ a ca, x = .ref a ∧ H a = some (.tup [.int r.1, .int r.2.1, .ref ca]) ∧ LinkAt K H ca r.2.2
def PartAt (H : Hp) (x : V) (r : Int × Int) : Prop := ∃ a, x = .ref a ∧ H a = some (.tup [.int r.1, .int r.2])
theorem mo_row (K : PySem.W.Frag) (x : V) (r : Rw) : Mo fun H => RowAt K H x r := mo_ex fun a => mo_ex fun ca => mo_and (mo_const _) (mo_and (mo_tup _ _) (mo_link _ _))
theorem mo_part (x : V) (r : Int × Int) : Mo fun H => PartAt H x r := mo_ex fun a => mo_and (mo_const _) (mo_tup _ _)
def RowsAt (K : PySem.W.Frag) (H : Hp) : List V → List Rw → Prop := Paired fun x r => RowAt K H x r
def PartsAt (H : Hp) : List V → List (Int × Int) → Prop := Paired fun x r => PartAt H x r
theorem paired_mo {α : Type} {F : Hp → V → α → Prop} (m : ∀ x r, Mo fun H => F H x r) (xs : List V) (rs : List α) : Mo fun H => Paired (F H) xs rs :=
  ⟨fun H H' e h => L2.Paired.mapP h fun x r q => (m x r).ex H H' e q, fun H D l l' e h => L2.Paired.mapP h fun x r q => (m x r).up H D l l' e q, fun H y C dx fs o' e hl h => L2.Paired.mapP h fun x r q => (m x r).ins H y C dx fs o' e hl q⟩
theorem paired_snoc {α β : Type} {F : α → β → Prop} : ∀ {xs : List α} {ys : List β} {x : α} {y : β}, Paired F xs ys → F x y → Paired F (xs ++ [x]) (ys ++ [y])
  | _, _, _, _, .nil, h => .cons h .nil
  | _, _, _, _, .cons a r, h => .cons a (paired_snoc r h)
local macro_rules | `(tactic| walk_at "fx") => `(tactic| first
  | assumption
  | ((with_reducible apply TieAt.ex); (focus assumption); walk_at "fx")
  | ((with_reducible apply LinkAt.ex); (focus assumption); walk_at "fx")
  | ((with_reducible apply ex_l); (focus assumption); walk_at "fx")
  | ((with_reducible apply ex_t); (focus assumption); walk_at "fx")
  | ((with_reducible apply sq_of); walk_at "fx")
  | ((with_reducible apply st_of); walk_at "fx")
  | ((with_reducible apply ex_at); (focus assumption); walk_at "fx"))
local macro_rules | `(tactic| walk_at "s") => `(tactic| first
  | with_reducible refine w_seq ?_
  | ((with_reducible apply w_var); focus (exact rfl))
  | with_reducible refine w_c ?_
  | with_reducible refine w_op ?_
  | with_reducible refine w_cons ?_
  | with_reducible refine w_nil ?_
  | with_reducible refine w_asg ?_
  | with_reducible refine w_name ?_
  | with_reducible refine w_ret ?_
  | with_reducible refine w_retN ?_
  | with_reducible refine w_ifS ?_
  | with_reducible refine w_isB ?_
  | with_reducible refine w_test ?_
  | with_reducible refine w_tB ?_
  | with_reducible refine w_and ?_
  | with_reducible refine w_or ?_
  | with_reducible refine w_not ?_
  | with_reducible refine w_andV ?_
  | with_reducible refine w_orV ?_
  | with_reducible refine w_notV ?_
  | with_reducible refine w_if ?_
  | with_reducible refine w_iteT ?_
  | with_reducible refine w_iteF ?_
  | with_reducible refine w_iteNT ?_
  | with_reducible refine w_iteNF ?_
  | with_reducible refine w_un ?_
  | with_reducible refine w_call ?_
  | with_reducible refine w_cb ?_
  | with_reducible refine w_next ?_
  | with_reducible refine w_drop ?_
  | with_reducible refine w_for ?_
  | with_reducible refine w_dget0 ?_
  | with_reducible refine w_prsC ?_
  | with_reducible refine w_prsN ?_
  | with_reducible refine w_iZA ?_
  | with_reducible refine w_gSub ?_
  | with_reducible refine w_iR1 ?_
  | with_reducible refine w_p8 ?_
  | with_reducible refine w_p60 ?_
  | with_reducible refine w_p5 ?_
  | with_reducible refine w_p18 ?_
  | with_reducible refine w_p9 ?_
  | with_reducible refine w_p19 ?_
  | with_reducible refine w_p29 ?_
  | with_reducible refine w_m1 ?_
  | with_reducible refine w_kM1 ?_
  | with_reducible refine w_iStr ?_
  | with_reducible refine w_kStr ?_
  | with_reducible refine w_inS ?_
  | with_reducible refine w_sta ?_
  | with_reducible refine w_iEnumT ?_
  | with_reducible refine w_thn ?_
  | with_reducible refine w_chain ?_
  | with_reducible refine w_gAttr ?_
  | with_reducible refine w_isNr ?_
  | with_reducible refine w_iEnum ?_
  | ((with_reducible apply w_kEnum); focus (walk_at "fx"))
  | with_reducible refine w_sl3 ?_
  | with_reducible refine w_noPart ?_
  | with_reducible refine w_part ?_
  | with_reducible refine w_kPt ?_
  | with_reducible refine w_bm ?_
  | with_reducible refine w_ckw ?_
  | with_reducible refine w_tst ?_
  | with_reducible refine w_mk ?_
  | ((with_reducible apply w_psl); (focus (walk_at "fx")))
  | ((with_reducible apply w_mT); (focus (walk_at "fx")); (focus (exact rfl)))
  | ((with_reducible apply w_partner); (focus (walk_at "fx")))
  | ((with_reducible apply w_led); (focus (walk_at "fx")))
  | ((with_reducible apply w_spT); (focus (walk_at "fx")))
  | with_reducible refine w_lc ?_
  | with_reducible refine w_yes ?_
  | with_reducible refine w_gCons ?_
  | with_reducible refine w_gNil ?_
  | ((with_reducible apply w_gTup); (focus (walk_at "fx")); focus (exact rfl))
  | ((with_reducible apply w_minL2); focus (walk_at "fx"))
  | ((with_reducible apply w_slT); (focus assumption); (focus (walk_at "fx")))
  | ((with_reducible apply w_kIT); focus (walk_at "fx"))
  | ((with_reducible apply w_kIL); focus (walk_at "fx"))
  | with_reducible refine w_neg ?_
  | with_reducible refine w_tie ?_
  | with_reducible refine w_iT ?_
  | with_reducible refine w_iL ?_
  | with_reducible refine w_sFld ?_
  | with_reducible refine w_sSl ?_
  | with_reducible refine w_propSl ?_
  | with_reducible refine w_par ?_
  | with_reducible refine w_kPar ?_
  | with_reducible refine w_tup ?_
  | with_reducible refine w_lst ?_
  | with_reducible refine w_I0 ?_
  | with_reducible refine w_U ?_
  | with_reducible refine w_eqI ?_
  | with_reducible refine w_neI ?_
  | with_reducible refine w_eqS ?_
  | with_reducible refine w_neS ?_
  | with_reducible refine w_eqB ?_
  | with_reducible refine w_neB ?_
  | with_reducible refine w_isNn ?_
  | with_reducible refine w_isNr ?_
  | with_reducible refine w_isNi ?_
  | with_reducible refine w_notNn ?_
  | with_reducible refine w_notNr ?_
  | with_reducible refine w_notNi ?_
  | with_reducible refine w_xisN ?_
  | with_reducible refine w_fld ?_
  | with_reducible refine w_prop ?_
  | with_reducible refine w_meth ?_
  | ((with_reducible apply w_mod); focus assumption)
  | ((with_reducible apply w_mulW); (focus assumption); focus assumption)
  | ((with_reducible apply w_divW); (focus assumption); focus assumption)
  | with_reducible refine w_int1 ?_
  | with_reducible refine w_intB ?_
  | with_reducible refine w_min2 ?_
  | with_reducible refine w_max2 ?_
  | with_reducible refine w_abs ?_
  | with_reducible refine w_isiI ?_
  | with_reducible refine w_isiNB ?_
  | with_reducible refine w_isiB ?_
  | with_reducible refine w_isiS ?_
  | ((with_reducible apply w_isiT); (focus assumption); focus (walk_at "fx"))
  | ((with_reducible apply w_fTd); (focus assumption); focus (walk_at "fx"))
  | ((with_reducible apply w_fTb); (focus assumption); focus (walk_at "fx"))
  | ((with_reducible apply w_fTf); (focus assumption); focus (walk_at "fx"))
  | ((with_reducible apply w_fTs); (focus assumption); focus (walk_at "fx"))
  | ((with_reducible apply w_fTl); (focus assumption); focus (walk_at "fx"))
  | ((with_reducible apply w_fTa); (focus assumption); focus (walk_at "fx"))
  | ((with_reducible apply w_pT); focus (walk_at "fx"))
  | with_reducible refine w_sl ?_
  | ((with_reducible apply w_len); focus (walk_at "fx"))
  | ((with_reducible apply w_kT); focus (exact Nat.le_of_ble_eq_true rfl)))
local macro_rules | `(tactic| walk_at "ss") => `(tactic| repeat (walk_at "s"))
local macro_rules | `(tactic| walk_at "go") => `(tactic| ((try dsimp only [cxOf, Cx.nox, Cx.wish]); walk_at "ss"))
local macro_rules | `(tactic| walk_at "len") => `(tactic| (intro vs H Q E h; (repeat (obtain ⟨_, h⟩ := h)); all_goals (subst_vars; rfl)))
def spRows (K : PySem.W.Frag) : Sp := fun vs H Q _ => ∃ L ls n rows parts b e, vs = [.int e, .ref L] ∧ SqL K H L (refs ls) ∧ Links K H ls ∧ (∀ p ∈ ls, p.2.f ≤ p.2.s) ∧ ls.length ≤ 100 ∧ n ≤ 1000 ∧ Run n (evT (tis ls)) e (brT (tis ls)) rows parts b ∧
  ∀ q C Pp bv xs ys H', Ex H H' → H' q = some (.tup [.ref C, .ref Pp, bv]) → H' C = some (.lst xs) → RowsAt K H' xs rows → H' Pp = some (.lst ys) → PartsAt H' ys parts → brOf b bv → Q (.ref q) H'
structure RSt (K : PySem.W.Frag) (H : Hp) (size : Int) (L C Pp : Addr) (rows : List Rw) (parts : List (Int × Int)) (b : Bool) (m : Nat) (σ : L2.St) (H' : Hp) : Prop where
  ex : Ex H H'
  st : ∃ Lf ls bv e brk rows1 rows2 parts1 parts2 xs ys x y, σ = [some (.int size), some (.ref L), some (.ref C), some (.ref Pp), some (.ref Lf), some bv, some (.int e), x, y] ∧
    H' C = some (.lst xs) ∧ RowsAt K H' xs rows1 ∧ H' Pp = some (.lst ys) ∧ PartsAt H' ys parts1 ∧ Lf ≠ C ∧ Lf ≠ Pp ∧ H' Lf = some (.lst (refs ls)) ∧ Links K H' ls ∧ ls.length ≤ 1000 ∧ Run m (tis ls) e brk rows2 parts2 b ∧ brOf brk bv ∧ rows = rows1 ++ rows2 ∧ parts = parts1 ++ parts2 ∧ m + xs.length ≤ 1000 ∧ m + ys.length ≤ 1000
theorem paired_len {α β : Type} {F : α → β → Prop} {xs : List α} {ys : List β} (h : Paired F xs ys) : xs.length = ys.length := Paired.length h
section
variable {P : Program} {w : World} {K : PySem.W.Frag} {mg : Str → Option Value} {base : Heap}
theorem ok_rows_by (T : Tx K mg) : FnB P w K mg base CX0 10 (ga K "rows_by") ["size", "links"] (spRows K) [] := by
  refine mkB (k := 9) T.f_rows_by sc_rows_by (fun _ _ _ _ _ _ us hl => match us, hl with | [_, _], _ => rfl) (by walk_at "len") fun cdv A outer s H vs Q E hr h => ?_
  obtain ⟨L, ls, n, rows, parts, b, e, rfl, hL, hLs, hle, hlen, hn, hR, k⟩ := h
  refine ⟨_, (pss_cons (ps_set (i := 2) sc_rows_by.nd rfl (Or.inl rfl) (pe_lst pa_nil))
      (pss_cons (ps_set (i := 3) sc_rows_by.nd rfl (Or.inl rfl) (pe_lst pa_nil))
      (pss_cons (ps_asg (c_fn (ok_all_evened T) (hr.mono (by decide)) T.m_all_evened T.kp_all_evened pass0 (pa_cons (pv 1) pa_nil)) (pg_tup (n := 2) (by rfl) (pgs_cons (pg_name (i := 4) sc_rows_by.nd rfl (Or.inl rfl)) (pgs_cons (pg_name (i := 5) sc_rows_by.nd rfl (Or.inl rfl)) pgs_nil))))
      (pss_cons (ps_set (i := 6) sc_rows_by.nd rfl (Or.inl rfl) (pv 0))
      (pss_cons (ps_while PassesOwn.never (PW.pt (pw_and (pt_cmpR op_isN1 (pv 5) pe_non (nomark _)) (pw_and1 (pt_cmpR op_gt (pv 6) pe_int (nomark _))))) (pss_cons (ps_set (i := 7) sc_rows_by.nd rfl (Or.inl rfl) (c_fn (ok_end_of T) (hr.mono (by decide)) T.m_end_of T.kp_end_of pass0 (pa_cons (pv 4) pa_nil)))
      (pss_cons (ps_if (pt_cmpR op_lt (pv 7) (pv 6) (nomark _)) (pss_one (ps_expr (pe_bm PySem.F.plainAttrs_list PySem.F.slot_list_append PySem.F.type_list_append mt_append (pv 3) (pa_cons (pe_tup (pa_cons (pv 7) (pa_cons (pe_op op_sub (pv 6) (pv 7)) pa_nil))) pa_nil)))) pss_nil)
      (pss_cons (ps_set (i := 6) sc_rows_by.nd rfl (Or.inl rfl) (pv 7))
      (pss_one (ps_if (pt_cmpR (op_neNil hr.units) (pv 4) (pe_lst pa_nil) (nomark _)) (pss_cons (ps_asg (c_fn (ok_cut_off T) (hr.mono (by decide)) T.m_cut_off T.kp_cut_off pass0 (pa_cons (pv 4) (pa_cons (pv 6) pa_nil))) (pg_tup (n := 3) (by rfl) (pgs_cons (pg_name (i := 8) sc_rows_by.nd rfl (Or.inl rfl)) (pgs_cons (pg_name (i := 4) sc_rows_by.nd rfl (Or.inl rfl)) (pgs_cons (pg_name (i := 5) sc_rows_by.nd rfl (Or.inl rfl)) pgs_nil)))))
      (pss_cons (ps_expr (pe_bm PySem.F.plainAttrs_list PySem.F.slot_list_append PySem.F.type_list_append mt_append (pv 2) (pa_cons (pv 8) pa_nil)))
      (pss_one (ps_set (i := 6) sc_rows_by.nd rfl (Or.inl rfl) (pe_ix ix_tup (pv 8) pe_int (fun _ _ => rfl)))))) pss_nil))))))
      (pss_one (ps_ret (pe_tup (pa_cons (pv 2) (pa_cons (pv 3) (pa_cons (pv 5) pa_nil))))))))))), ?_⟩
  walk_at "go"
  refine w_kL (by decide) fun C H1 hC e1 hC1 => ?_
  walk_at "ss"
  refine w_kL (by decide) fun Pp H2 hP e2 hP2 => ?_
  walk_at "ss"
  refine ⟨L, ls, rfl, ex_l (e1.trans e2) hL, hLs.ex (e1.trans e2), hle, hlen, fun q F H3 hF0 e3 hQ3 hF3 => ?_⟩
  refine w_gTup (st_of hQ3) rfl ?_
  walk_at "ss"
  have hCP : C ≠ Pp := fun z => by subst z; rw [hC1] at hP; cases hP
  have e0 := (e1.trans e2).trans e3
  refine w_while (RSt K H e L C Pp rows parts b) n ⟨e0, F, evM ls, brV ls .non, e, brT (tis ls), [], rows, [], parts, [], [], none, none, rfl, e3 _ _ (e2 _ _ hC1), .nil, e3 _ _ hP2, .nil, (fun z => by subst z; rw [e2 _ _ hC1] at hF0; cases hF0), (fun z => by subst z; rw [hP2] at hF0; cases hF0), hF3, fun p hp => (hLs p (List.mem_filter.mp hp).1).ex e0, ?_, ?_, ?_, rfl, rfl, hn, hn⟩ (fun m σ' H' W => ?_)
  · have := List.length_filter_le (fun p : Addr × Ti => keep1 p.2) ls
    show (List.filter _ ls).length ≤ 1000
    omega
  · rw [tis_evM]; exact hR
  · exact (brV_of ls .non).imp (fun z => z) (fun z => z)
  · obtain ⟨e4, Lf, ls4, bv, e', brk, rows1, rows2, parts1, parts2, xs, ys, x, y, rfl, hC4, hR4, hP4, hPa4, hLC, hLP, hLf, hL4, hlen4, run, hbv, hr, hp, hx, hy⟩ := W
    generalize hts : tis ls4 = ts at run
    cases run with
    | brk =>
      rcases hbv with ⟨h1, _⟩ | ⟨_, ba, rfl⟩
      · cases h1
      walk_at "ss"
      intro q2 H5 hq2 e5 hQ5
      rw [List.append_nil] at hr hp
      subst hr hp
      exact k q2 C Pp _ xs ys H5 (e4.trans e5) hQ5 (e5 _ _ hC4) ((paired_mo (mo_row K) _ _).ex _ _ e5 hR4) (e5 _ _ hP4) ((paired_mo mo_part _ _).ex _ _ e5 hPa4) (.inr ⟨rfl, ba, rfl⟩)
    | stop =>
      have hb2 : bv = .non := by
        rcases hbv with ⟨_, h⟩ | ⟨h, _⟩
        · exact h
        · cases h
      subst hb2
      walk_at "ss"
      refine w_iteN (by decide) ?_
      walk_at "ss"
      intro q2 H5 hq2 e5 hQ5
      rw [List.append_nil] at hr hp
      subst hr hp
      exact k q2 C Pp _ xs ys H5 (e4.trans e5) hQ5 (e5 _ _ hC4) ((paired_mo (mo_row K) _ _).ex _ _ e5 hR4) (e5 _ _ hP4) ((paired_mo mo_part _ _).ex _ _ e5 hPa4) (.inl ⟨rfl, rfl⟩)
    | nil h0 =>
      have hb2 : bv = .non := by
        rcases hbv with ⟨_, h⟩ | ⟨h, _⟩
        · exact h
        · cases h
      subst hb2
      have hls : ls4 = [] := List.map_eq_nil_iff.mp hts
      subst hls
      walk_at "ss"
      refine w_iteP h0 ?_
      refine w_kWh ?_
      walk_at "ss"
      refine ⟨Lf, [], rfl, sq_of hLf, hL4, by simp, fun H5 e5 => ?_⟩
      have hend : endT (tis []) = 0 := rfl
      rw [hend]
      walk_at "ss"
      refine w_iteP h0 ?_
      walk_at "ss"
      refine w_kBMl (e5 _ _ hP4) ?_
      walk_at "ss"
      intro q2 H6 hq2 e6 hQ6
      walk_at "ss"
      refine w_app (e6 _ _ (e5 _ _ hP4)) (by omega) ?_
      walk_at "ss"
      have hC6 := e6 _ _ (e5 _ _ hC4)
      have hP6 := e6 _ _ (e5 _ _ hP4)
      have e46 := (e4.trans e5).trans e6
      have hPf : H Pp = none := fresh_back e1 hP
      have e7 : Ex H (upd H6 Pp (.lst (ys ++ [.ref q2]))) := Ex.mut e46 hPf
      have hL6 : upd H6 Pp (.lst (ys ++ [.ref q2])) Lf = some (.lst (refs [])) := by rw [upd_ne hLP]; exact e6 _ _ (e5 _ _ hLf)
      have hC7 : upd H6 Pp (.lst (ys ++ [.ref q2])) C = some (.lst xs) := by rw [upd_ne hCP]; exact hC6
      have hq7 : upd H6 Pp (.lst (ys ++ [.ref q2])) q2 = some (.tup [.int 0, .int (e' - 0)]) := upd_at hP6 hQ6 (fun _ z => nomatch z)
      have hR7 := (paired_mo (mo_row K) _ _).up H6 Pp _ (ys ++ [.ref q2]) hP6 ((paired_mo (mo_row K) _ _).ex _ _ e6 ((paired_mo (mo_row K) _ _).ex _ _ e5 hR4))
      have hPa7 := (paired_mo mo_part _ _).up H6 Pp _ (ys ++ [.ref q2]) hP6 ((paired_mo mo_part _ _).ex _ _ e6 ((paired_mo mo_part _ _).ex _ _ e5 hPa4))
      have hP7 : upd H6 Pp (.lst (ys ++ [.ref q2])) Pp = some (.lst (ys ++ [.ref q2])) := upd_same
      generalize upd H6 Pp (.lst (ys ++ [.ref q2])) = H7 at *
      refine w_kL (by decide) fun p8 H8 hp8 e8 hP8 => ?_
      refine w_neNil (ex_l e8 (sq_of hL6)) (sq_of hP8) ?_
      show isB _ (.bl false) _
      walk_at "ss"
      rw [Int.sub_zero] at hq7
      refine ⟨_, Nat.lt_succ_self _, e7.trans e8, Lf, [], .non, 0, false, rows1, [], parts1 ++ [(0, e')], [], xs, ys ++ [.ref q2], _, _, rfl, e8 _ _ hC7, (paired_mo (mo_row K) _ _).ex _ _ e8 hR7, e8 _ _ hP7, (paired_mo mo_part _ _).ex _ _ e8 (paired_snoc hPa7 ⟨q2, rfl, hq7⟩), hLC, hLP, e8 _ _ hL6, (fun p hp => by cases hp), by simp, .stop, .inl ⟨rfl, rfl⟩, hr, by rw [hp, List.append_nil], by omega, by rw [List.length_append]; simp only [List.length_cons, List.length_nil]; omega⟩
    | @cut m' kk _ ts' c _ lo br b rows' parts' h0 hE hcut run' =>
      have hb2 : bv = .non := by
        rcases hbv with ⟨_, h⟩ | ⟨h, _⟩
        · exact h
        · cases h
      subst hb2
      subst hts
      obtain ⟨ca, hok⟩ := hcut.up
      have hl100 := hok.len
      walk_at "ss"
      refine w_iteP h0 ?_
      refine w_kWh ?_
      walk_at "ss"
      refine ⟨Lf, ls4, rfl, sq_of hLf, hL4, hl100, fun H5 e5 => ?_⟩
      rw [hE]
      walk_at "ss"
      refine w_iteN (by omega) ?_
      walk_at "ss"
      refine w_kL (by decide) fun p6 H6 hp6 e6 hP6 => ?_
      have hLf6 := e6 _ _ (e5 _ _ hLf)
      refine w_neNil (sq_of hLf6) (sq_of hP6) ?_
      have hne : (!(refs ls4).isEmpty) = true := by
        have := hok.pick
        rcases this with ⟨x, rfl, _⟩ | ⟨x, y, rfl, _⟩ <;> rfl
      rw [hne]
      walk_at "ss"
      refine ⟨Lf, ls4, kk, ca, c, e', lo, ts', br, rfl, sq_of hLf6, (hL4.ex e5).ex e6, hok, fun q7 ro L7 bb ls7 H7 hL70 e7 hq7 hro hL7 hLs7 hts7 hbb => ?_⟩
      refine w_gTup (st_of hq7) rfl ?_
      walk_at "ss"
      have hC7 := e7 _ _ (e6 _ _ (e5 _ _ hC4))
      refine w_kBMl hC7 ?_
      walk_at "ss"
      refine w_app hC7 (by omega) ?_
      walk_at "ss"
      have hCf : H C = none := hC
      have e47 := ((e4.trans e5).trans e6).trans e7
      have e8 : Ex H (upd H7 C (.lst (xs ++ [.ref ro]))) := Ex.mut e47 hCf
      have hL7C : L7 ≠ C := fun z => by subst z; rw [e6 _ _ (e5 _ _ hC4)] at hL70; cases hL70
      have hL7P : L7 ≠ Pp := fun z => by subst z; rw [e6 _ _ (e5 _ _ hP4)] at hL70; cases hL70
      have hP8 : upd H7 C (.lst (xs ++ [.ref ro])) Pp = some (.lst ys) := by rw [upd_ne (Ne.symm hCP)]; exact e7 _ _ (e6 _ _ (e5 _ _ hP4))
      have hL8 : upd H7 C (.lst (xs ++ [.ref ro])) L7 = some (.lst (refs ls7)) := by rw [upd_ne hL7C]; exact hL7
      have hro8 : upd H7 C (.lst (xs ++ [.ref ro])) ro = some (.tup [.int lo, .int e', .ref ca]) := upd_at hC7 hro (fun _ z => nomatch z)
      have hR8 := (paired_mo (mo_row K) _ _).up H7 C _ (xs ++ [.ref ro]) hC7 ((paired_mo (mo_row K) _ _).ex _ _ ((e5.trans e6).trans e7) hR4)
      have hPa8 := (paired_mo mo_part _ _).up H7 C _ (xs ++ [.ref ro]) hC7 ((paired_mo mo_part _ _).ex _ _ ((e5.trans e6).trans e7) hPa4)
      have hLs8 : Links K (upd H7 C (.lst (xs ++ [.ref ro]))) ls7 := fun p hp => (mo_link p.1 p.2).up H7 C _ _ hC7 (hLs7 p hp)
      have hca : LinkAt K (upd H7 C (.lst (xs ++ [.ref ro]))) ca c := (mo_link ca c).up H7 C _ _ hC7 ((hL4 _ (List.mem_of_getElem? hok.at_)).ex ((e5.trans e6).trans e7))
      have hC8 : upd H7 C (.lst (xs ++ [.ref ro])) C = some (.lst (xs ++ [.ref ro])) := upd_same
      generalize upd H7 C (.lst (xs ++ [.ref ro])) = H8 at *
      refine w_ixT (st_of hro8) (v := .int lo) rfl ?_
      walk_at "ss"
      have hl7 : ls7.length ≤ 1000 := by
        have : (tis ls7).length = ls7.length := by simp [tis]
        rw [← this, hts7, hok.nts]
        have h1 := List.length_filter_le keep1 ((tis (ls4.take kk ++ ls4.drop (kk + 1))).map (rdT c))
        have h2 : ((tis (ls4.take kk ++ ls4.drop (kk + 1))).map (rdT c)).length ≤ 200 := by
          simp only [tis, List.length_map, List.length_append, List.length_take, List.length_drop]; omega
        rw [List.length_append]
        unfold evT
        split <;> simp only [List.length_nil, List.length_cons] <;> omega
      refine ⟨_, Nat.lt_succ_self _, e8, L7, ls7, bb, lo, br, rows1 ++ [(lo, e', c)], rows', parts1, parts2, xs ++ [.ref ro], ys, _, _, rfl, hC8, paired_snoc hR8 ⟨ro, ca, rfl, hro8, hca⟩, hP8, hPa8, hL7C, hL7P, hL8, hLs8, hl7, by rw [hts7]; exact run', hbb, by rw [hr]; simp, hp, by rw [List.length_append]; simp only [List.length_cons, List.length_nil]; omega, by omega⟩
end
end K22
end

/-! # K22u -/
section
set_option Elab.async false
set_option linter.all false
set_option autoImplicit false
set_option maxRecDepth 100000
set_option maxHeartbeats 4000000
namespace K22
open PySem PySem.Spec PyProof.Rows L2
open He (ga ma fAd)
open Evl (Ex ex_l ex_t sq_of st_of fresh_back)
/-! ## the ladder -/
def ladF (C Pp : Addr) (bv : V) : List (Str × V) := [("cuts", .ref C), ("parts", .ref Pp), ("broken", bv)]
def LadAt (K : PySem.W.Frag) (H : Hp) (l : Addr) (rows : List Rw) (parts : List (Int × Int)) (b : Bool) : Prop :=
  ∃ dx C Pp bv xs ys, H l = some (.ins (ga K "Ladder") dx (ladF C Pp bv)) ∧ H C = some (.lst xs) ∧ RowsAt K H xs rows ∧ H Pp = some (.lst ys) ∧ PartsAt H ys parts ∧ brOf b bv
theorem LadAt.ex {K : PySem.W.Frag} {H H' : Hp} {l : Addr} {rows : List Rw} {parts : List (Int × Int)} {b : Bool} (e : Ex H H') (h : LadAt K H l rows parts b) : LadAt K H' l rows parts b := by
  obtain ⟨dx, C, Pp, bv, xs, ys, h1, h2, h3, h4, h5, h6⟩ := h
  exact ⟨dx, C, Pp, bv, xs, ys, e _ _ h1, e _ _ h2, (paired_mo (mo_row K) _ _).ex _ _ e h3, e _ _ h4, (paired_mo mo_part _ _).ex _ _ e h5, h6⟩
theorem lst_in {H : Hp} {x C dx a : Addr} {fs : List (Str × V)} {xs : List V} {o' : HO} (h : H x = some (.ins C dx fs)) (ha : H a = some (.lst xs)) : upd H x o' a = some (.lst xs) := upd_in h ha (fun z => nomatch z)
/-- a book or a new instance changes: the ladder stays -/
theorem LadAt.ins {K : PySem.W.Frag} {H : Hp} {l x C' dx' : Addr} {fs : List (Str × V)} {o' : HO} {rows : List Rw} {parts : List (Int × Int)} {b : Bool} (e : H x = some (.ins C' dx' fs)) (hl : fs.length = 0 ∨ fs.length = 5) (h : LadAt K H l rows parts b) : LadAt K (upd H x o') l rows parts b := by
  obtain ⟨dx, C, Pp, bv, xs, ys, h1, h2, h3, h4, h5, h6⟩ := h
  refine ⟨dx, C, Pp, bv, xs, ys, upd_in e h1 (fun z => ?_), lst_in e h2, (paired_mo (mo_row K) _ _).ins _ _ _ _ _ _ e hl h3, lst_in e h4, (paired_mo mo_part _ _).ins _ _ _ _ _ _ e hl h5, h6⟩
  injection z with _ _ z3
  rw [← z3] at hl
  have : (ladF C Pp bv).length = 3 := rfl
  omega
def spLad (K : PySem.W.Frag) : Sp := fun vs H Q _ => ∃ x dx L ls n rows parts b e, vs = [.ref x, .int e, .ref L] ∧ H x = some (.ins (ga K "Ladder") dx []) ∧ SqL K H L (refs ls) ∧ Links K H ls ∧ (∀ p ∈ ls, p.2.f ≤ p.2.s) ∧ ls.length ≤ 100 ∧ n ≤ 1000 ∧ Run n (evT (tis ls)) e (brT (tis ls)) rows parts b ∧
  ∀ C Pp bv xs ys H', Ex H H' → H' C = some (.lst xs) → RowsAt K H' xs rows → H' Pp = some (.lst ys) → PartsAt H' ys parts → brOf b bv → Q .non (upd H' x (.ins (ga K "Ladder") dx (ladF C Pp bv)))
def tChainK (r' : R2) (tc : TE) (σ : L2.St) (y : V) (Q : VK) : VK := fun z H3 => ∃ k, z = .bl k ∧ (if k = true then tc σ H3 fun w' H4 => r' y w' H4 Q else Q (.bl false) H3)
theorem w_chain {r r' : R2} {ta tb tc : TE} {σ : L2.St} {H : Hp} {Q : VK} (h : ta σ H fun x H1 => tb σ H1 fun y H2 => r x y H2 (isB fun k H3 => if k = true then tc σ H3 fun w' H4 => r' y w' H4 Q else Q (.bl false) H3)) : tChain r r' ta tb tc σ H Q := h
theorem w_sum {K : PySem.W.Frag} {H : Hp} {Q : VK} {a : Addr} {ns : List Int} (hl : SqL K H a (ns.map V.int)) (h : Q (.int ns.sum) H) : rSum K [.ref a] H Q := ⟨a, ns, rfl, hl, h⟩
theorem w_fL {K : PySem.W.Frag} {H : Hp} {Q : VK} {l C dx : Addr} {fs : List (Str × V)} {f : Str} {v : V} (e : H l = some (.ins C dx fs)) (c : Cls K C) (na : NoAttr K C f) (hf : fs.lookup f = some v) (h : Q v H) : kFld K f Q (.ref l) H := ⟨l, C, dx, fs, v, rfl, e, c, na, hf, h⟩
theorem get1 {α : Type} {x z : α} {i : Nat} (h : [x][i]? = some z) : i = 0 ∧ z = x := by
  match i, h with
  | 0, h => exact ⟨rfl, by simpa using h.symm⟩
  | n + 1, h => simp at h
local macro_rules | `(tactic| walk_at "fx") => `(tactic| first
  | assumption
  | ((with_reducible apply TieAt.ex); (focus assumption); walk_at "fx")
  | ((with_reducible apply LinkAt.ex); (focus assumption); walk_at "fx")
  | ((with_reducible apply ex_l); (focus assumption); walk_at "fx")
  | ((with_reducible apply ex_t); (focus assumption); walk_at "fx")
  | ((with_reducible apply sq_of); walk_at "fx")
  | ((with_reducible apply st_of); walk_at "fx")
  | ((with_reducible apply ex_at); (focus assumption); walk_at "fx"))
local macro_rules | `(tactic| walk_at "s") => `(tactic| first
  | with_reducible refine w_seq ?_
  | ((with_reducible apply w_var); focus (exact rfl))
  | with_reducible refine w_c ?_
  | with_reducible refine w_op ?_
  | with_reducible refine w_cons ?_
  | with_reducible refine w_nil ?_
  | with_reducible refine w_asg ?_
  | with_reducible refine w_name ?_
  | with_reducible refine w_ret ?_
  | with_reducible refine w_retN ?_
  | with_reducible refine w_ifS ?_
  | with_reducible refine w_isB ?_
  | with_reducible refine w_test ?_
  | with_reducible refine w_tB ?_
  | with_reducible refine w_and ?_
  | with_reducible refine w_or ?_
  | with_reducible refine w_not ?_
  | with_reducible refine w_andV ?_
  | with_reducible refine w_orV ?_
  | with_reducible refine w_notV ?_
  | with_reducible refine w_if ?_
  | with_reducible refine w_iteT ?_
  | with_reducible refine w_iteF ?_
  | with_reducible refine w_iteNT ?_
  | with_reducible refine w_iteNF ?_
  | with_reducible refine w_un ?_
  | with_reducible refine w_call ?_
  | with_reducible refine w_cb ?_
  | with_reducible refine w_next ?_
  | with_reducible refine w_drop ?_
  | with_reducible refine w_for ?_
  | with_reducible refine w_dget0 ?_
  | with_reducible refine w_prsC ?_
  | with_reducible refine w_prsN ?_
  | with_reducible refine w_iZA ?_
  | with_reducible refine w_gSub ?_
  | with_reducible refine w_iR1 ?_
  | with_reducible refine w_p8 ?_
  | with_reducible refine w_p60 ?_
  | with_reducible refine w_p5 ?_
  | with_reducible refine w_p18 ?_
  | with_reducible refine w_p9 ?_
  | with_reducible refine w_p19 ?_
  | with_reducible refine w_p29 ?_
  | with_reducible refine w_m1 ?_
  | with_reducible refine w_kM1 ?_
  | with_reducible refine w_iStr ?_
  | with_reducible refine w_kStr ?_
  | with_reducible refine w_inS ?_
  | with_reducible refine w_sta ?_
  | with_reducible refine w_iEnumT ?_
  | with_reducible refine w_thn ?_
  | with_reducible refine w_chain ?_
  | with_reducible refine w_gAttr ?_
  | with_reducible refine w_isNr ?_
  | with_reducible refine w_iEnum ?_
  | ((with_reducible apply w_kEnum); focus (walk_at "fx"))
  | with_reducible refine w_sl3 ?_
  | with_reducible refine w_noPart ?_
  | with_reducible refine w_part ?_
  | with_reducible refine w_kPt ?_
  | with_reducible refine w_bm ?_
  | with_reducible refine w_ckw ?_
  | with_reducible refine w_tst ?_
  | with_reducible refine w_mk ?_
  | ((with_reducible apply w_psl); (focus (walk_at "fx")))
  | ((with_reducible apply w_mT); (focus (walk_at "fx")); (focus (exact rfl)))
  | ((with_reducible apply w_partner); (focus (walk_at "fx")))
  | ((with_reducible apply w_led); (focus (walk_at "fx")))
  | ((with_reducible apply w_spT); (focus (walk_at "fx")))
  | with_reducible refine w_lc ?_
  | with_reducible refine w_yes ?_
  | with_reducible refine w_gCons ?_
  | with_reducible refine w_gNil ?_
  | ((with_reducible apply w_gTup); (focus (walk_at "fx")); focus (exact rfl))
  | ((with_reducible apply w_minL2); focus (walk_at "fx"))
  | ((with_reducible apply w_slT); (focus assumption); (focus (walk_at "fx")))
  | ((with_reducible apply w_kIT); focus (walk_at "fx"))
  | ((with_reducible apply w_kIL); focus (walk_at "fx"))
  | with_reducible refine w_neg ?_
  | with_reducible refine w_tie ?_
  | with_reducible refine w_iT ?_
  | with_reducible refine w_iL ?_
  | with_reducible refine w_sFld ?_
  | with_reducible refine w_sSl ?_
  | with_reducible refine w_propSl ?_
  | with_reducible refine w_par ?_
  | with_reducible refine w_kPar ?_
  | with_reducible refine w_tup ?_
  | with_reducible refine w_lst ?_
  | with_reducible refine w_I0 ?_
  | with_reducible refine w_U ?_
  | with_reducible refine w_eqI ?_
  | with_reducible refine w_neI ?_
  | with_reducible refine w_eqS ?_
  | with_reducible refine w_neS ?_
  | with_reducible refine w_eqB ?_
  | with_reducible refine w_neB ?_
  | with_reducible refine w_isNn ?_
  | with_reducible refine w_isNr ?_
  | with_reducible refine w_isNi ?_
  | with_reducible refine w_notNn ?_
  | with_reducible refine w_notNr ?_
  | with_reducible refine w_notNi ?_
  | with_reducible refine w_xisN ?_
  | with_reducible refine w_fld ?_
  | with_reducible refine w_prop ?_
  | with_reducible refine w_meth ?_
  | ((with_reducible apply w_mod); focus assumption)
  | ((with_reducible apply w_mulW); (focus assumption); focus assumption)
  | ((with_reducible apply w_divW); (focus assumption); focus assumption)
  | with_reducible refine w_int1 ?_
  | with_reducible refine w_intB ?_
  | with_reducible refine w_min2 ?_
  | with_reducible refine w_max2 ?_
  | with_reducible refine w_abs ?_
  | with_reducible refine w_isiI ?_
  | with_reducible refine w_isiNB ?_
  | with_reducible refine w_isiB ?_
  | with_reducible refine w_isiS ?_
  | ((with_reducible apply w_isiT); (focus assumption); focus (walk_at "fx"))
  | ((with_reducible apply w_fTd); (focus assumption); focus (walk_at "fx"))
  | ((with_reducible apply w_fTb); (focus assumption); focus (walk_at "fx"))
  | ((with_reducible apply w_fTf); (focus assumption); focus (walk_at "fx"))
  | ((with_reducible apply w_fTs); (focus assumption); focus (walk_at "fx"))
  | ((with_reducible apply w_fTl); (focus assumption); focus (walk_at "fx"))
  | ((with_reducible apply w_fTa); (focus assumption); focus (walk_at "fx"))
  | ((with_reducible apply w_pT); focus (walk_at "fx"))
  | with_reducible refine w_sl ?_
  | ((with_reducible apply w_len); focus (walk_at "fx"))
  | ((with_reducible apply w_kT); focus (exact Nat.le_of_ble_eq_true rfl)))
local macro_rules | `(tactic| walk_at "ss") => `(tactic| repeat (walk_at "s"))
local macro_rules | `(tactic| walk_at "go") => `(tactic| ((try dsimp only [cxOf, Cx.nox, Cx.wish]); walk_at "ss"))
local macro_rules | `(tactic| walk_at "len") => `(tactic| (intro vs H Q E h; (repeat (obtain ⟨_, h⟩ := h)); all_goals (subst_vars; rfl)))
section
variable {P : Program} {w : World} {K : PySem.W.Frag} {mg : Str → Option Value} {base : Heap}
theorem ok_Ladder___init__ (T : Tx K mg) : FnB P w K mg base CX0 11 (ma K (ga K "Ladder") "__init__") ["self", "size", "links"] (spLad K) [] := by
  refine mkB (k := 10) T.f_Ladder___init__ sc_Ladder___init__ (fun _ _ _ _ _ _ us hl => match us, hl with | [_, _, _], _ => rfl) (by walk_at "len") fun cdv A outer s H vs Q E hr h => ?_
  obtain ⟨x, dx, L, ls, n, rows, parts, b, e, rfl, hx, hL, hLs, hle, hlen, hn, hR, k⟩ := h
  refine ⟨_, (pss_one (ps_asg (c_fn (ok_rows_by T) (hr.mono (by decide)) T.m_rows_by T.kp_rows_by pass0 (pa_cons (pv 1) (pa_cons (pv 2) pa_nil))) (pg_tup (n := 3) (by rfl) (pgs_cons (pg_attr (pv 0)) (pgs_cons (pg_attr (pv 0)) (pgs_cons (pg_attr (pv 0)) pgs_nil)))))), ?_⟩
  walk_at "go"
  refine ⟨L, ls, n, rows, parts, b, e, rfl, hL, hLs, hle, hlen, hn, hR, fun q C Pp bv xs ys H1 e1 hq hC hR1 hP hPa hb => ?_⟩
  refine w_gTup (st_of hq) rfl ?_
  walk_at "ss"
  refine w_kAttr (e1 _ _ hx) T.c_Ladder T.a_Ladder_cuts (by decide) ?_
  walk_at "ss"
  refine w_kAttr upd_same T.c_Ladder T.a_Ladder_parts (Nat.le_of_ble_eq_true rfl) ?_
  walk_at "ss"
  refine w_kAttr upd_same T.c_Ladder T.a_Ladder_broken (Nat.le_of_ble_eq_true rfl) ?_
  walk_at "ss"
  rw [upd_upd, upd_upd]
  exact k C Pp bv xs ys H1 e1 hC hR1 hP hPa hb
def spLFree (K : PySem.W.Frag) : Sp := fun vs H Q _ => ∃ l rows g b, vs = [.ref l] ∧ LadAt K H l rows [(0, g)] b ∧ ∀ H', Ex H H' → Q (.int g) H'
theorem ok_Ladder_free (T : Tx K mg) : FnB P w K mg base CX0 1 (gAd K d_Ladder_free.at_) ["self"] (spLFree K) [] := by
  refine mkB (k := 0) T.f_Ladder_free sc_Ladder_free (fun _ _ _ _ _ _ us hl => match us, hl with | [_], _ => rfl) (by walk_at "len") fun cdv A outer s H vs Q E hr h => ?_
  obtain ⟨l, rows, g, b, rfl, ⟨dx, C, Pp, bv, xs, ys, h1, h2, h3, h4, h5, h6⟩, k⟩ := h
  refine ⟨_, (pss_one (ps_ret (pe_callB cl_sumL (by rfl) T.b_sum (by decide +kernel) (pa_cons (pe_lc (own := [("first", 1), ("length", 2)]) (g := (gTup K 2 (gCons (gName 1) (gCons (gName 2) gNil)))) rfl sc_Ladder_free.nd (pi_list (pe_fld (pv 0) rfl)) (blkOk_by (N := n_Ladder_free) (sc := defScope s_Ladder_free) (by decide +kernel)) (fun _ _ _ _ _ => (pg_tup (n := 2) (by rfl) (pgs_cons (pg_name (i := 1) sc_Ladder_free.nd rfl (Or.inl rfl)) (pgs_cons (pg_name (i := 2) sc_Ladder_free.nd rfl (Or.inl rfl)) pgs_nil)))) (fun _ _ _ _ _ => pts_nil) (fun _ _ _ _ _ => (pv 2))) pa_nil)))), ?_⟩
  walk_at "go"
  refine w_fL h1 T.c_Ladder T.a_Ladder_parts rfl ?_
  refine w_kIL (sq_of h4) ?_
  match ys, h5 with
  | [y], h5 =>
    cases h5 with
    | cons h7 _ =>
      obtain ⟨a, rfl, ha⟩ := h7
      refine lcN (walk_list (xs := [.ref a])) (fun H' e => ex_l e (sq_of h4)) (fun i v _ => v = .int g) (fun i v => mo_const _) (Nat.le_of_ble_eq_true rfl) (fun i x H0 H1 hi e hy Q' hQ => ?_) fun p ys' H1 hp e1 hP hl hy => ?_
      · obtain ⟨rfl, hx⟩ := hy
        obtain ⟨rfl, rfl⟩ := get1 hx
        refine w_gTup (st_of (e _ _ ha)) rfl ?_
        walk_at "ss"
        refine ⟨rfl, ?_⟩
        walk_at "ss"
        exact hQ _ _ (Ex.refl _) rfl
      match ys', hl with
      | [z], _ =>
        obtain rfl : z = .int g := hy 0 z rfl
        walk_at "ss"
        refine w_sum (ns := [g]) (sq_of hP) ?_
        have e : [g].sum = g := by simp
        rw [e]
        exact k H1 e1
end
end K22
end

/-! # K22v -/
section
set_option Elab.async false
set_option linter.all false
set_option autoImplicit false
set_option maxRecDepth 100000
set_option maxHeartbeats 4000000
namespace K22
open PySem PySem.Spec PyProof.Rows L2
open He (ga ma fAd)
open Evl (Ex ex_l ex_t sq_of st_of fresh_back)
/-! ## the walk down the ladder -/
abbrev Wk := Ti × Int × Int
def walkM : List Rw → Int → List Wk × Int
  | [], now => ([], now)
  | r :: rs, now => if r.1 ≤ now ∧ now < r.2.1 then ((r.2.2, (now - r.1) / r.2.2.s + 1, now) :: (walkM rs (now - ((now - r.1) / r.2.2.s + 1) * r.2.2.s)).1, (walkM rs (now - ((now - r.1) / r.2.2.s + 1) * r.2.2.s)).2) else walkM rs now
structure RowOk (r : Rw) : Prop where
  f0 : r.2.2.f = 0
  s0 : 0 < r.2.2.s
  sl : r.2.2.s ≤ r.1
  l1 : 1 ≤ r.2.2.l
  en : r.2.2.s + r.2.2.l = r.2.1
  top : r.2.1 ≤ 10 ^ 30
  sm : Sm r.2.2.a
def WkAt (K : PySem.W.Frag) (H : Hp) (x : V) (r : Wk) : Prop := ∃ a lk, x = .ref a ∧ H a = some (.tup [.ref lk, .int r.2.1, .int r.2.2]) ∧ LinkAt K H lk r.1
theorem mo_wk (K : PySem.W.Frag) (x : V) (r : Wk) : Mo fun H => WkAt K H x r := mo_ex fun a => mo_ex fun ca => mo_and (mo_const _) (mo_and (mo_tup _ _) (mo_link _ _))
def WksAt (K : PySem.W.Frag) (H : Hp) : List V → List Wk → Prop := Paired fun x r => WkAt K H x r
theorem paired_get {α β : Type} {F : α → β → Prop} : ∀ {xs : List α} {ys : List β} {i : Nat} {x : α}, Paired F xs ys → xs[i]? = some x → ∃ y, ys[i]? = some y ∧ F x y
  | _, _, _, _, .nil, h => by simp at h
  | _, _, 0, x, .cons a r, h => by
    simp only [List.getElem?_cons_zero, Option.some.injEq] at h
    subst h; exact ⟨_, rfl, a⟩
  | _, _, i + 1, x, .cons a r, h => by
    obtain ⟨y, h1, h2⟩ := paired_get (i := i) r (by simpa using h)
    exact ⟨y, by simpa using h1, h2⟩
/-- one step of the walk -/
structure StepOk (c : Ti) (lo e now m : Int) : Prop where
  m1 : 1 ≤ m
  m2 : m ≤ 10 ^ 30
  good : Good (mulT c m)
  mul : mulT c m = ⟨0, m * c.s, c.l - (m - 1) * c.s, c.a * m⟩
theorem step_ok {r : Rw} {now : Int} (h : RowOk r) (h1 : r.1 ≤ now) (h2 : now < r.2.1) : StepOk r.2.2 r.1 r.2.1 now ((now - r.1) / r.2.2.s + 1) := by
  obtain ⟨lo, e, c⟩ := r
  obtain ⟨f0, s0, sl, l1, en, top, sm⟩ := h
  simp only at *
  have e1 := Int.emod_add_mul_ediv (now - lo) c.s
  have e2 := Int.emod_nonneg (now - lo) (show c.s ≠ 0 by omega)
  have e3 : 0 ≤ (now - lo) / c.s := Int.ediv_nonneg (by omega) (by omega)
  have e4 : (now - lo) / c.s ≤ now - lo := Int.ediv_le_self _ (by omega)
  have e5 : c.s * ((now - lo) / c.s) = (now - lo) / c.s * c.s := Int.mul_comm _ _
  generalize hd : (now - lo) / c.s = d at *
  have hc : c = ⟨0, c.s, c.l, c.a⟩ := by cases c; simp only at f0; subst f0; rfl
  have hm : mulT c (d + 1) = ⟨0, (d + 1) * c.s, c.l - (d + 1 - 1) * c.s, c.a * (d + 1)⟩ := by
    have z := mul_way (lp := c.l) (ap := c.a) s0 (show 1 ≤ d + 1 by omega)
    rw [← hc] at z; exact z
  refine ⟨by omega, by omega, ?_, hm⟩
  rw [hm]
  have e6 : (d + 1) * c.s = d * c.s + c.s := by rw [Int.add_mul, Int.one_mul]
  have e7 : (d + 1 - 1) * c.s = d * c.s := by rw [Int.add_sub_cancel]
  rw [e6, e7]
  have e8 : 0 ≤ d * c.s := Int.mul_nonneg e3 (by omega)
  refine ⟨?_, ?_, ?_, ?_, ?_⟩ <;> (simp only; omega)
theorem w_mulO' {K : PySem.W.Frag} {H : Hp} {Q : VK} {E : XK} {a : Addr} {t : Ti} {m : Int} (hT : TieAt K H a t) (h1 : 1 ≤ m) (h2 : m ≤ 10 ^ 30) (h3 : Sm t.a) (h4 : Sm (t.s - t.f)) (hg : Good (mulT t m)) (k : NewT K H Q (mulT t m)) : rMulO (ga K "Tie") (spMul K) E (.ref a) (.int m) H Q :=
  w_mulO hT h1 h2 (fun z => by subst z; exact k a H (Ex.refl H) (by rw [mulT_one]; exact hT)) (fun _ => ⟨h3, h4, hg, k⟩)
local macro_rules | `(tactic| walk_at "fx") => `(tactic| first
  | assumption
  | ((with_reducible apply TieAt.ex); (focus assumption); walk_at "fx")
  | ((with_reducible apply LinkAt.ex); (focus assumption); walk_at "fx")
  | ((with_reducible apply ex_l); (focus assumption); walk_at "fx")
  | ((with_reducible apply ex_t); (focus assumption); walk_at "fx")
  | ((with_reducible apply sq_of); walk_at "fx")
  | ((with_reducible apply st_of); walk_at "fx")
  | ((with_reducible apply ex_at); (focus assumption); walk_at "fx"))
local macro_rules | `(tactic| walk_at "s") => `(tactic| first
  | with_reducible refine w_seq ?_
  | ((with_reducible apply w_var); focus (exact rfl))
  | with_reducible refine w_c ?_
  | with_reducible refine w_op ?_
  | with_reducible refine w_cons ?_
  | with_reducible refine w_nil ?_
  | with_reducible refine w_asg ?_
  | with_reducible refine w_name ?_
  | with_reducible refine w_ret ?_
  | with_reducible refine w_retN ?_
  | with_reducible refine w_ifS ?_
  | with_reducible refine w_isB ?_
  | with_reducible refine w_test ?_
  | with_reducible refine w_tB ?_
  | with_reducible refine w_and ?_
  | with_reducible refine w_or ?_
  | with_reducible refine w_not ?_
  | with_reducible refine w_andV ?_
  | with_reducible refine w_orV ?_
  | with_reducible refine w_notV ?_
  | with_reducible refine w_if ?_
  | with_reducible refine w_iteT ?_
  | with_reducible refine w_iteF ?_
  | with_reducible refine w_iteNT ?_
  | with_reducible refine w_iteNF ?_
  | with_reducible refine w_un ?_
  | with_reducible refine w_call ?_
  | with_reducible refine w_cb ?_
  | with_reducible refine w_next ?_
  | with_reducible refine w_drop ?_
  | with_reducible refine w_for ?_
  | with_reducible refine w_dget0 ?_
  | with_reducible refine w_prsC ?_
  | with_reducible refine w_prsN ?_
  | with_reducible refine w_iZA ?_
  | with_reducible refine w_gSub ?_
  | with_reducible refine w_iR1 ?_
  | with_reducible refine w_p8 ?_
  | with_reducible refine w_p60 ?_
  | with_reducible refine w_p5 ?_
  | with_reducible refine w_p18 ?_
  | with_reducible refine w_p9 ?_
  | with_reducible refine w_p19 ?_
  | with_reducible refine w_p29 ?_
  | with_reducible refine w_m1 ?_
  | with_reducible refine w_kM1 ?_
  | with_reducible refine w_iStr ?_
  | with_reducible refine w_kStr ?_
  | with_reducible refine w_inS ?_
  | with_reducible refine w_sta ?_
  | with_reducible refine w_iEnumT ?_
  | with_reducible refine w_thn ?_
  | with_reducible refine w_chain ?_
  | with_reducible refine w_gAttr ?_
  | with_reducible refine w_isNr ?_
  | with_reducible refine w_iEnum ?_
  | ((with_reducible apply w_kEnum); focus (walk_at "fx"))
  | with_reducible refine w_sl3 ?_
  | with_reducible refine w_noPart ?_
  | with_reducible refine w_part ?_
  | with_reducible refine w_kPt ?_
  | with_reducible refine w_bm ?_
  | with_reducible refine w_ckw ?_
  | with_reducible refine w_tst ?_
  | with_reducible refine w_mk ?_
  | ((with_reducible apply w_psl); (focus (walk_at "fx")))
  | ((with_reducible apply w_mT); (focus (walk_at "fx")); (focus (exact rfl)))
  | ((with_reducible apply w_partner); (focus (walk_at "fx")))
  | ((with_reducible apply w_led); (focus (walk_at "fx")))
  | ((with_reducible apply w_spT); (focus (walk_at "fx")))
  | with_reducible refine w_lc ?_
  | with_reducible refine w_yes ?_
  | with_reducible refine w_gCons ?_
  | with_reducible refine w_gNil ?_
  | ((with_reducible apply w_gTup); (focus (walk_at "fx")); focus (exact rfl))
  | ((with_reducible apply w_minL2); focus (walk_at "fx"))
  | ((with_reducible apply w_slT); (focus assumption); (focus (walk_at "fx")))
  | ((with_reducible apply w_kIT); focus (walk_at "fx"))
  | ((with_reducible apply w_kIL); focus (walk_at "fx"))
  | with_reducible refine w_neg ?_
  | with_reducible refine w_tie ?_
  | with_reducible refine w_iT ?_
  | with_reducible refine w_iL ?_
  | with_reducible refine w_sFld ?_
  | with_reducible refine w_sSl ?_
  | with_reducible refine w_propSl ?_
  | with_reducible refine w_par ?_
  | with_reducible refine w_kPar ?_
  | with_reducible refine w_tup ?_
  | with_reducible refine w_lst ?_
  | with_reducible refine w_I0 ?_
  | with_reducible refine w_U ?_
  | with_reducible refine w_eqI ?_
  | with_reducible refine w_neI ?_
  | with_reducible refine w_eqS ?_
  | with_reducible refine w_neS ?_
  | with_reducible refine w_eqB ?_
  | with_reducible refine w_neB ?_
  | with_reducible refine w_isNn ?_
  | with_reducible refine w_isNr ?_
  | with_reducible refine w_isNi ?_
  | with_reducible refine w_notNn ?_
  | with_reducible refine w_notNr ?_
  | with_reducible refine w_notNi ?_
  | with_reducible refine w_xisN ?_
  | with_reducible refine w_fld ?_
  | with_reducible refine w_prop ?_
  | with_reducible refine w_meth ?_
  | ((with_reducible apply w_mod); focus assumption)
  | ((with_reducible apply w_mulW); (focus assumption); focus assumption)
  | ((with_reducible apply w_divW); (focus assumption); focus assumption)
  | with_reducible refine w_int1 ?_
  | with_reducible refine w_intB ?_
  | with_reducible refine w_min2 ?_
  | with_reducible refine w_max2 ?_
  | with_reducible refine w_abs ?_
  | with_reducible refine w_isiI ?_
  | with_reducible refine w_isiNB ?_
  | with_reducible refine w_isiB ?_
  | with_reducible refine w_isiS ?_
  | ((with_reducible apply w_isiT); (focus assumption); focus (walk_at "fx"))
  | ((with_reducible apply w_fTd); (focus assumption); focus (walk_at "fx"))
  | ((with_reducible apply w_fTb); (focus assumption); focus (walk_at "fx"))
  | ((with_reducible apply w_fTf); (focus assumption); focus (walk_at "fx"))
  | ((with_reducible apply w_fTs); (focus assumption); focus (walk_at "fx"))
  | ((with_reducible apply w_fTl); (focus assumption); focus (walk_at "fx"))
  | ((with_reducible apply w_fTa); (focus assumption); focus (walk_at "fx"))
  | ((with_reducible apply w_pT); focus (walk_at "fx"))
  | with_reducible refine w_sl ?_
  | ((with_reducible apply w_len); focus (walk_at "fx"))
  | ((with_reducible apply w_kT); focus (exact Nat.le_of_ble_eq_true rfl)))
local macro_rules | `(tactic| walk_at "ss") => `(tactic| repeat (walk_at "s"))
local macro_rules | `(tactic| walk_at "go") => `(tactic| ((try dsimp only [cxOf, Cx.nox, Cx.wish]); walk_at "ss"))
local macro_rules | `(tactic| walk_at "len") => `(tactic| (intro vs H Q E h; (repeat (obtain ⟨_, h⟩ := h)); all_goals (subst_vars; rfl)))
section
variable {P : Program} {w : World} {K : PySem.W.Frag} {mg : Str → Option Value} {base : Heap}
def spWalk (K : PySem.W.Frag) : Sp := fun vs H Q _ => ∃ l x rows parts b, vs = [.ref l, .int x] ∧ LadAt K H l rows parts b ∧ (∀ r ∈ rows, RowOk r) ∧ rows.length ≤ 1000 ∧
  ∀ q F xs H', Ex H H' → H' q = some (.tup [.ref F, .int (walkM rows x).2]) → H' F = some (.lst xs) → WksAt K H' xs (walkM rows x).1 → Q (.ref q) H'
theorem ok_Ladder_walk (T : Tx K mg) : FnB P w K mg base CX0 5 (ma K (ga K "Ladder") "walk") ["self", "place"] (spWalk K) [] := by
  refine mkB (k := 4) T.f_Ladder_walk sc_Ladder_walk (fun _ _ _ _ _ _ us hl => match us, hl with | [_, _], _ => rfl) (by walk_at "len") fun cdv A outer s H vs Q E hr h => ?_
  obtain ⟨l, x, rows, parts, b, rfl, ⟨dx, C, Pp, bv, cs, ys, h1, h2, h3, h4, h5, h6⟩, hok, hlen, k⟩ := h
  refine ⟨_, (pss_cons (ps_set (i := 2) sc_Ladder_walk.nd rfl (Or.inl rfl) (pe_lst pa_nil))
      (pss_cons (ps_set (i := 3) sc_Ladder_walk.nd rfl (Or.inl rfl) (pv 1))
      (pss_cons (ps_for PassesOwn.never rfl (pi_list (pe_fld (pv 0) rfl)) (pg_tup (n := 3) (by rfl) (pgs_cons (pg_name (i := 4) sc_Ladder_walk.nd rfl (Or.inl rfl)) (pgs_cons (pg_name (i := 5) sc_Ladder_walk.nd rfl (Or.inl rfl)) (pgs_cons (pg_name (i := 6) sc_Ladder_walk.nd rfl (Or.inl rfl)) pgs_nil)))) (pss_one (ps_if (pt_chain op_le op_lt (pv 4) (pv 3) (pv 5)) (pss_cons (ps_set (i := 7) sc_Ladder_walk.nd rfl (Or.inl rfl) (c_fn (ok_rounds T) (hr.mono (by decide)) T.m_rounds T.kp_rounds pass0 (pa_cons (SlX.pe_sl (pv 6)) (pa_cons (pv 3) (pa_cons (pv 4) pa_nil)))))
      (pss_cons (ps_expr (pe_bm PySem.F.plainAttrs_list PySem.F.slot_list_append PySem.F.type_list_append mt_append (pv 2) (pa_cons (pe_tup (pa_cons (pv 6) (pa_cons (pv 7) (pa_cons (pv 3) pa_nil)))) pa_nil)))
      (pss_one (ps_if (pt_not (pt_val (c_fn (ok_is_pin T) (hr.mono (by decide)) T.m_is_pin T.kp_is_pin pass0 (pa_cons (SlX.pe_sl (pv 6)) pa_nil)))) (pss_one (ps_set (i := 3) sc_Ladder_walk.nd rfl (Or.inl rfl) (c_meth (ok_Tie_partner T) (hr.mono (by decide)) T.c_Tie T.h_Tie_partner pass0 (pe_un (o_inv (ok_Tie___invert__ T) (hr.mono (by decide)) T.h_Tie___invert__ pass0) (pe_op (o_mul (ok_Tie___mul__ T) (hr.mono (by decide)) T.h_Tie___mul__ T.x_Tie_sf T.x_Tie_rm T.x_int_m T.x_int_r T.x_int_s pass0) (SlX.pe_sl (pv 6)) (pv 7))) (pa_cons (pv 3) pa_nil)))) pss_nil)))) pss_nil)))
      (pss_one (ps_ret (pe_tup (pa_cons (pv 2) (pa_cons (pv 3) pa_nil)))))))), ?_⟩
  walk_at "go"
  refine w_kL (by decide) fun F H1 hF e1 hF1 => ?_
  walk_at "ss"
  refine w_fL (e1 _ _ h1) T.c_Ladder T.a_Ladder_cuts rfl ?_
  refine w_kIL (sq_of (e1 _ _ h2)) ?_
  have hcl : cs.length = rows.length := Paired.length h3
  refine w_kFor (walk_list (xs := cs)) (fun i σ' H' => ∃ now acc wacc a b c d, σ' = [some (.ref l), some (.int x), some (.ref F), some (.int now), a, b, c, d] ∧ Ex H H' ∧ H' F = some (.lst acc) ∧ WksAt K H' acc wacc ∧ acc.length ≤ i ∧
    (walkM rows x).1 = wacc ++ (walkM (rows.drop i) now).1 ∧ (walkM rows x).2 = (walkM (rows.drop i) now).2) ⟨x, [], [], none, none, none, none, rfl, e1, hF1, .nil, Nat.le_refl _, rfl, rfl⟩ (fun i σ' H' _ p => ?_) (fun i v σ' H2 H2' hi p q => ?_) (fun σ' H' p => ?_)
  · obtain ⟨_, _, _, _, _, _, _, _, e, _⟩ := p
    exact sq_of (e _ _ h2)
  · obtain ⟨now, acc, wacc, a, b1, c1, d1, rfl, e2, hF2, hW, hal, ha, hb⟩ := p
    obtain ⟨rfl, q⟩ := q
    obtain ⟨r, hr, ra, ca, rfl, hrt, hrl⟩ := paired_get h3 q
    have hrok := hok r (List.mem_of_getElem? hr)
    have hdr : rows.drop i = r :: rows.drop (i + 1) := by
      have hi' : i < rows.length := by omega
      rw [List.drop_eq_getElem_cons hi']
      rw [List.getElem?_eq_getElem hi'] at hr
      rw [Option.some.inj hr]
    rw [hdr] at ha hb
    refine w_gTup (st_of (e2 _ _ hrt)) rfl ?_
    walk_at "ss"
    have skip : ¬(r.1 ≤ now ∧ now < r.2.1) → (walkM (r :: rows.drop (i + 1)) now) = walkM (rows.drop (i + 1)) now := fun hn => by
      show (if _ then _ else _) = _
      rw [if_neg hn]
    refine w_iteD (fun c2 => ?_) fun c2 => ?_
    · walk_at "ss"
      refine w_iteD (fun c3 => ?_) fun c3 => ?_
      · have hst := step_ok hrok c2 c3
        have hW1 : walkM (r :: rows.drop (i + 1)) now = ((r.2.2, (now - r.1) / r.2.2.s + 1, now) :: (walkM (rows.drop (i + 1)) (now - ((now - r.1) / r.2.2.s + 1) * r.2.2.s)).1, (walkM (rows.drop (i + 1)) (now - ((now - r.1) / r.2.2.s + 1) * r.2.2.s)).2) := by
          show (if _ then _ else _) = _
          rw [if_pos ⟨c2, c3⟩]
        rw [hW1] at ha hb
        have hL2 := hrl.ex e2
        have hs0 := hrok.s0; have hf0 := hrok.f0; have hen := hrok.en; have hto := hrok.top; have hl1 := hrok.l1
        have hsub : r.2.2.s - r.2.2.f = r.2.2.s := by omega
        have hSs : Sm r.2.2.s := sm_le (by omega) (by omega)
        walk_at "ss"
        intro b2 hb2
        walk_at "ss"
        refine ⟨b2, r.2.2, now, r.1, rfl, hb2, by omega, by rw [hsub]; exact hSs, ?_⟩
        rw [hsub]
        generalize (now - r.1) / r.2.2.s + 1 = m at *
        walk_at "ss"
        refine w_kBMl hF2 ?_
        walk_at "ss"
        intro p3 H3 hp3 e3 hP3
        walk_at "ss"
        have hF3 := e3 _ _ hF2
        refine w_app hF3 (by omega) ?_
        walk_at "ss"
        have e4 : Ex H (upd H3 F (.lst (acc ++ [.ref p3]))) := Ex.mut (e2.trans e3) hF
        have hW4 := (paired_mo (mo_wk K) _ _).up H3 F _ (acc ++ [.ref p3]) hF3 ((paired_mo (mo_wk K) _ _).ex _ _ e3 hW)
        have hp4 : WkAt K (upd H3 F (.lst (acc ++ [.ref p3]))) (.ref p3) (r.2.2, m, now) := (mo_wk K _ _).up H3 F _ _ hF3 ⟨p3, ca, rfl, hP3, hL2.ex e3⟩
        have hL4 : LinkAt K (upd H3 F (.lst (acc ++ [.ref p3]))) ca r.2.2 := (mo_link _ _).up H3 F _ _ hF3 (hL2.ex e3)
        have hF4 : upd H3 F (.lst (acc ++ [.ref p3])) F = some (.lst (acc ++ [.ref p3])) := upd_same
        generalize upd H3 F (.lst (acc ++ [.ref p3])) = H4 at *
        walk_at "ss"
        intro b4 hb4
        walk_at "ss"
        intro b5 hb5
        walk_at "ss"
        refine w_mulO' hb5 hst.m1 hst.m2 hrok.sm (by rw [hsub]; exact hSs) hst.good fun p6 H6 e6 hP6 => ?_
        walk_at "ss"
        refine w_invO hP6 hst.good fun p7 H7 e7 hP7 => ?_
        walk_at "ss"
        refine ⟨now - m * r.2.2.s, acc ++ [.ref p3], wacc ++ [(r.2.2, m, now)], some (.int r.1), some (.int r.2.1), some (.ref ca), some (.int m), ?_, (e4.trans e6).trans e7, e7 _ _ (e6 _ _ hF4), (paired_mo (mo_wk K) _ _).ex _ _ (e6.trans e7) (paired_snoc hW4 hp4), by rw [List.length_append]; simp only [List.length_cons, List.length_nil]; omega, ?_, hb⟩
        · have e8 : now + ((mulT r.2.2 m).f - (mulT r.2.2 m).s) = now - m * r.2.2.s := by rw [hst.mul]; simp only; omega
          show List.set _ 3 (some (V.int (now + ((mulT r.2.2 m).f - (mulT r.2.2 m).s)))) = _
          rw [e8]; rfl
        · rw [ha]; simp
      · walk_at "ss"
        have hs := skip (fun z => c3 z.2)
        exact ⟨now, acc, wacc, _, _, _, _, rfl, e2, hF2, hW, by omega, by rw [← hs]; exact ha, by rw [← hs]; exact hb⟩
    · walk_at "ss"
      have hs := skip (fun z => c2 z.1)
      exact ⟨now, acc, wacc, _, _, _, _, rfl, e2, hF2, hW, by omega, by rw [← hs]; exact ha, by rw [← hs]; exact hb⟩
  · obtain ⟨now, acc, wacc, a, b1, c1, d1, rfl, e2, hF2, hW, hal, ha, hb⟩ := p
    have hd : rows.drop cs.length = [] := by rw [hcl]; exact List.drop_length
    rw [hd] at ha hb
    have ha' : (walkM rows x).1 = wacc := by rw [ha]; simp [walkM]
    have hb' : (walkM rows x).2 = now := hb
    walk_at "ss"
    intro q H3 hq e3 hQ3
    refine k q F acc H3 (e2.trans e3) (by rw [hb']; exact hQ3) (e3 _ _ hF2) ?_
    rw [ha']
    exact (paired_mo (mo_wk K) _ _).ex _ _ e3 hW
/-! ## the reading -/
def sumW : List Wk → Int
  | [] => 0
  | w :: r => w.1.a * w.2.1 + sumW r
def spReading (K : PySem.W.Frag) : Sp := fun vs H Q _ => ∃ l x rows parts b, vs = [.ref l, .int x] ∧ LadAt K H l rows parts b ∧ (∀ r ∈ rows, RowOk r) ∧ rows.length ≤ 1000 ∧ (∀ w ∈ (walkM rows x).1, Sm w.1.a ∧ Sm w.2.1) ∧ (walkM rows x).1.length ≤ 1000 ∧
  ∀ q H', Ex H H' → H' q = some (.tup [.str "up", .int (walkM rows x).2, .int (sumW (walkM rows x).1)]) → Q (.ref q) H'
theorem ok_Ladder_reading (T : Tx K mg) : FnB P w K mg base CX0 6 (ma K (ga K "Ladder") "reading") ["self", "place"] (spReading K) [] := by
  refine mkB (k := 5) T.f_Ladder_reading sc_Ladder_reading (fun _ _ _ _ _ _ us hl => match us, hl with | [_, _], _ => rfl) (by walk_at "len") fun cdv A outer s H vs Q E hr h => ?_
  obtain ⟨l, x, rows, parts, b, rfl, hlad, hok, hlen, hsm, hwl, k⟩ := h
  refine ⟨_, (pss_cons (ps_asg (c_meth (ok_Ladder_walk T) (hr.mono (by decide)) T.c_Ladder T.h_Ladder_walk pass0 (pv 0) (pa_cons (pv 1) pa_nil)) (pg_tup (n := 2) (by rfl) (pgs_cons (pg_name (i := 2) sc_Ladder_reading.nd rfl (Or.inl rfl)) (pgs_cons (pg_name (i := 3) sc_Ladder_reading.nd rfl (Or.inl rfl)) pgs_nil))))
      (pss_cons (ps_asg (pe_tup (pa_cons pe_int (pa_cons pe_bl pa_nil))) (pg_tup (n := 2) (by rfl) (pgs_cons (pg_name (i := 4) sc_Ladder_reading.nd rfl (Or.inl rfl)) (pgs_cons (pg_name (i := 5) sc_Ladder_reading.nd rfl (Or.inl rfl)) pgs_nil))))
      (pss_cons (ps_for PassesOwn.never rfl (pi_list (pv 2)) (pg_tup (n := 3) (by rfl) (pgs_cons (pg_name (i := 6) sc_Ladder_reading.nd rfl (Or.inl rfl)) (pgs_cons (pg_name (i := 7) sc_Ladder_reading.nd rfl (Or.inl rfl)) (pgs_cons (pg_name (i := 8) sc_Ladder_reading.nd rfl (Or.inl rfl)) pgs_nil)))) (pss_cons (ps_if (pt_val (c_fn (ok_is_pin T) (hr.mono (by decide)) T.m_is_pin T.kp_is_pin pass0 (pa_cons (SlX.pe_sl (pv 6)) pa_nil))) (pss_cons (ps_set (i := 9) sc_Ladder_reading.nd rfl (Or.inl rfl) (pe_op op_fdivW (c_prop (ok_Tie_amount T) (hr.mono (by decide)) T.c_Tie T.p_Tie_amount (SlX.pe_sl (pv 6))) pe_int))
      (pss_one (ps_ret (pe_tup (pa_cons (g_str T.t_TOLD) (pa_cons (pe_ifExp (pt_val (pv 5)) (pe_op op_sub (pv 4) (pv 9)) (pe_op op_add (pv 4) (pv 9))) pa_nil)))))) pss_nil)
      (pss_cons (ps_asg (c_meth (ok_Tie_led_often T) (hr.mono (by decide)) T.c_Tie T.h_Tie_led_often pass0 (SlX.pe_sl (pv 6)) (pa_cons (pv 7) pa_nil)) (pg_tup (n := 2) (by rfl) (pgs_cons (pg_name (i := 10) sc_Ladder_reading.nd rfl (Or.inl rfl)) (pgs_cons (pg_name (i := 11) sc_Ladder_reading.nd rfl (Or.inl rfl)) pgs_nil))))
      (pss_cons (ps_set (i := 4) sc_Ladder_reading.nd rfl (Or.inl rfl) (pe_ifExp (pt_val (pv 5)) (pe_op op_sub (pv 4) (pv 10)) (pe_op op_add (pv 4) (pv 10))))
      (pss_one (ps_set (i := 5) sc_Ladder_reading.nd rfl (Or.inl rfl) (pe_cmpR op_ne (pv 5) (pv 11) (nomark _))))))))
      (pss_one (ps_ret (pe_tup (pa_cons (pe_ifExp (pt_val (pv 5)) (g_str T.t_DOWN) (g_str T.t_UP)) (pa_cons (pv 3) (pa_cons (pv 4) pa_nil))))))))), ?_⟩
  walk_at "go"
  obtain ⟨dx, C, Pp, bv, cs, ys, h1, h2, h3, h4, h5, h6⟩ := id hlad
  refine ⟨l, dx, _, rfl, h1, rfl, ?_⟩
  walk_at "ss"
  refine ⟨l, x, rows, parts, b, rfl, hlad, hok, hlen, fun q F xs H1 e1 hq hF hW => ?_⟩
  generalize (walkM rows x).1 = ws at *
  generalize (walkM rows x).2 = now at *
  refine w_gTup (st_of hq) rfl ?_
  walk_at "ss"
  intro p2 H2 hp2 e2 hP2
  walk_at "ss"
  have hl : xs.length = ws.length := Paired.length hW
  refine w_kFor (walk_list (xs := xs)) (fun i σ' H' => ∃ a b c d e f, σ' = [some (.ref l), some (.int x), some (.ref F), some (.int now), some (.int (sumW (ws.take i))), some (.bl false), a, b, c, d, e, f] ∧ Ex H1 H') ⟨none, none, none, none, none, none, rfl, e2⟩ (fun i σ' H' _ p => ?_) (fun i v σ' H2 H2' hi p q => ?_) (fun σ' H' p => ?_)
  · obtain ⟨_, _, _, _, _, _, _, e⟩ := p
    exact sq_of (e _ _ hF)
  · obtain ⟨a, b1, c, d, e, f, rfl, e2⟩ := p
    obtain ⟨rfl, q⟩ := q
    obtain ⟨r, hr, ra, lk, rfl, hrt, hrl⟩ := paired_get hW q
    obtain ⟨sm1, sm2⟩ := hsm r (List.mem_of_getElem? hr)
    have htk : ws.take (i + 1) = ws.take i ++ [r] := by rw [List.take_succ, hr]; rfl
    have hsum : sumW (ws.take (i + 1)) = sumW (ws.take i) + r.1.a * r.2.1 := by
      rw [htk]
      generalize ws.take i = us
      induction us with
      | nil => simp [sumW]
      | cons u us ih => simp only [List.cons_append, sumW, ih]; omega
    have hL := hrl.ex e2
    refine w_gTup (st_of (e2 _ _ hrt)) rfl ?_
    walk_at "ss"
    intro b2 hb2
    walk_at "ss"
    intro b3 hb3
    walk_at "ss"
    refine ⟨b3, r.1, r.2.1, rfl, hb3, sm1, sm2, fun p4 H4 hp4 e4 hP4 => ?_⟩
    refine w_gTup (st_of hP4) rfl ?_
    walk_at "ss"
    refine ⟨some (.ref lk), some (.int r.2.1), some (.int r.2.2), d, some (.int (r.1.a * r.2.1)), some (.bl false), ?_, e2.trans e4⟩
    rw [hsum]; rfl
  · obtain ⟨a, b1, c, d, e, f, rfl, e2⟩ := p
    have hd : ws.take xs.length = ws := by rw [hl]; exact List.take_length
    rw [hd]
    walk_at "ss"
    intro q2 H3 hq2 e3 hQ3
    exact k q2 H3 ((e1.trans e2).trans e3) hQ3
end
end K22
end

/-! # K22w -/
section
set_option Elab.async false
set_option linter.all false
set_option autoImplicit false
set_option maxRecDepth 100000
set_option maxHeartbeats 4000000
namespace K22
open PySem PySem.Spec PyProof.Rows L2
open He (ga ma fAd)
open Evl (Ex ex_l ex_t sq_of st_of fresh_back)
/-! ## books -/
def bkF (n : Int) (tp np : Addr) (z : Str) (lad : V) : List (Str × V) := [("own_size", .int n), ("own_ties", .ref tp), ("own_notes", .ref np), ("own_text", .str z), ("own_ladder", lad)]
def Ties (K : PySem.W.Frag) (H : Hp) (ls : LK) : Prop := ∀ p ∈ ls, TieAt K H p.1 p.2
def BkAt (K : PySem.W.Frag) (H : Hp) (a : Addr) (n : Int) (z : Str) (ts : List Ti) (lad : V) : Prop :=
  ∃ dx tp np ls, H a = some (.ins (ga K "Book") dx (bkF n tp np z lad)) ∧ H tp = some (.tup (refs ls)) ∧ tis ls = ts ∧ Ties K H ls ∧ H np = some (.tup [])
theorem BkAt.ex {K : PySem.W.Frag} {H H' : Hp} {a : Addr} {n : Int} {z : Str} {ts : List Ti} {lad : V} (e : Ex H H') (h : BkAt K H a n z ts lad) : BkAt K H' a n z ts lad := by
  obtain ⟨dx, tp, np, ls, h1, h2, h3, h4, h5⟩ := h
  exact ⟨dx, tp, np, ls, e _ _ h1, e _ _ h2, h3, fun p hp => (h4 p hp).ex e, e _ _ h5⟩
/-- all but the object at a stays -/
def ExB (a : Addr) (H H' : Hp) : Prop := ∀ x o, x ≠ a → H x = some o → H' x = some o
theorem ExB.of {a : Addr} {H H' : Hp} (e : Ex H H') : ExB a H H' := fun x o _ h => e x o h
theorem ExB.then {a : Addr} {H H1 H2 : Hp} (e : ExB a H H1) (e2 : Ex H1 H2) : ExB a H H2 := fun x o n h => e2 x o (e x o n h)
theorem ExB.trans {a : Addr} {H H1 H2 : Hp} (e : ExB a H H1) (e2 : ExB a H1 H2) : ExB a H H2 := fun x o n h => e2 x o n (e x o n h)
theorem ExB.upd {a : Addr} {H H' : Hp} {o' : HO} (e : Ex H H') : ExB a H (L2.upd H' a o') := fun x o n h => by rw [upd_ne n]; exact e x o h
def spG (K : PySem.W.Frag) (f : Str) : Sp := fun vs H Q _ => ∃ a dx fs v, vs = [.ref a] ∧ H a = some (.ins (ga K "Book") dx fs) ∧ fs.lookup f = some v ∧ Q v H
theorem w_pB {K : PySem.W.Frag} {H : Hp} {Q : VK} {E : XK} {a dx : Addr} {fs : List (Str × V)} {f : Str} {v : V} (e : H a = some (.ins (ga K "Book") dx fs)) (hf : fs.lookup f = some v) (h : Q v H) : kProp (ga K "Book") (spG K f) [] E Q (.ref a) H := ⟨a, dx, fs, rfl, e, a, dx, fs, v, rfl, e, hf, h⟩
section
variable {K : PySem.W.Frag} {σ : L2.St} {H : Hp} {te : TE} {ta : TA} {R : It → Hp → Prop} {a : Addr} {xs : List V} {Q : VK}
def kEnumT (K : PySem.W.Frag) (R : It → Hp → Prop) : List V → Hp → Prop := fun vs H1 => ∃ a xs, vs = [.ref a] ∧ SqT K H1 a xs ∧ R (IteT K a) H1
theorem w_iEnumT (h : ta σ H (kEnumT K R)) : iEnumT K ta σ H R := h
theorem w_kEnumT (hx : SqT K H a xs) (h : R (IteT K a) H) : kEnumT K R [.ref a] H := ⟨a, xs, rfl, hx, h⟩
theorem w_thn {k : V → Hp → VK → Prop} (h : te σ H fun x H1 => k x H1 Q) : tThen te k σ H Q := h
theorem w_tupL (hx : SqL K H a xs) (h : ∀ q H', H q = none → Ex H H' → H' q = some (.tup xs) → Q (.ref q) H') : kTup K (.ref a) H Q := .inl ⟨a, xs, rfl, hx, fun q hq => h q _ hq (Ex.new hq) upd_same⟩
theorem forE0 {g : TG} {tb : TS} {D : Ends} {a : Addr} (hx : SqT K H a []) (h : D.nx σ H) : kFor g tb D σ (IteT K a) H :=
  w_kFor (walk_enumT (xs := [])) (fun _ σ' H' => σ' = σ ∧ H' = H) ⟨rfl, rfl⟩ (fun _ _ H' _ p => by rw [p.2]; exact hx) (fun i v σ' H1 H' hi p q => absurd hi (by simp)) (fun σ' H' p => by rw [p.1, p.2]; exact h)
end
def RunOk (m : Nat) (n : Int) (ts : List Ti) (rows : List Rw) (parts : List (Int × Int)) (b : Bool) : Prop := m ≤ 1000 ∧ Run m (evT ts) n (brT ts) rows parts b ∧ (∀ t ∈ ts, t.f ≤ t.s) ∧ ts.length ≤ 100
def BkSt (K : PySem.W.Frag) (H : Hp) (a : Addr) (n : Int) (z : Str) (ts : List Ti) (rows : List Rw) (parts : List (Int × Int)) (b : Bool) : Prop :=
  ∃ lad, BkAt K H a n z ts lad ∧ (lad = .non ∨ ∃ l, lad = .ref l ∧ LadAt K H l rows parts b)
theorem BkSt.ex {K : PySem.W.Frag} {H H' : Hp} {a : Addr} {n : Int} {z : Str} {ts : List Ti} {rows : List Rw} {parts : List (Int × Int)} {b : Bool} (e : Ex H H') (h : BkSt K H a n z ts rows parts b) : BkSt K H' a n z ts rows parts b := by
  obtain ⟨lad, h1, h2⟩ := h
  exact ⟨lad, h1.ex e, h2.imp id fun ⟨l, h3, h4⟩ => ⟨l, h3, h4.ex e⟩⟩
local macro_rules | `(tactic| walk_at "fx") => `(tactic| first
  | assumption
  | ((with_reducible apply TieAt.ex); (focus assumption); walk_at "fx")
  | ((with_reducible apply LinkAt.ex); (focus assumption); walk_at "fx")
  | ((with_reducible apply ex_l); (focus assumption); walk_at "fx")
  | ((with_reducible apply ex_t); (focus assumption); walk_at "fx")
  | ((with_reducible apply sq_of); walk_at "fx")
  | ((with_reducible apply st_of); walk_at "fx")
  | ((with_reducible apply ex_at); (focus assumption); walk_at "fx"))
local macro_rules | `(tactic| walk_at "s") => `(tactic| first
  | with_reducible refine w_seq ?_
  | ((with_reducible apply w_var); focus (exact rfl))
  | with_reducible refine w_c ?_
  | with_reducible refine w_op ?_
  | with_reducible refine w_cons ?_
  | with_reducible refine w_nil ?_
  | with_reducible refine w_asg ?_
  | with_reducible refine w_name ?_
  | with_reducible refine w_ret ?_
  | with_reducible refine w_retN ?_
  | with_reducible refine w_ifS ?_
  | with_reducible refine w_isB ?_
  | with_reducible refine w_test ?_
  | with_reducible refine w_tB ?_
  | with_reducible refine w_and ?_
  | with_reducible refine w_or ?_
  | with_reducible refine w_not ?_
  | with_reducible refine w_andV ?_
  | with_reducible refine w_orV ?_
  | with_reducible refine w_notV ?_
  | with_reducible refine w_if ?_
  | with_reducible refine w_iteT ?_
  | with_reducible refine w_iteF ?_
  | with_reducible refine w_iteNT ?_
  | with_reducible refine w_iteNF ?_
  | with_reducible refine w_un ?_
  | with_reducible refine w_call ?_
  | with_reducible refine w_cb ?_
  | with_reducible refine w_next ?_
  | with_reducible refine w_drop ?_
  | with_reducible refine w_for ?_
  | with_reducible refine w_dget0 ?_
  | with_reducible refine w_prsC ?_
  | with_reducible refine w_prsN ?_
  | with_reducible refine w_iZA ?_
  | with_reducible refine w_gSub ?_
  | with_reducible refine w_iR1 ?_
  | with_reducible refine w_p8 ?_
  | with_reducible refine w_p60 ?_
  | with_reducible refine w_p5 ?_
  | with_reducible refine w_p18 ?_
  | with_reducible refine w_p9 ?_
  | with_reducible refine w_p19 ?_
  | with_reducible refine w_p29 ?_
  | with_reducible refine w_m1 ?_
  | with_reducible refine w_kM1 ?_
  | with_reducible refine w_iStr ?_
  | with_reducible refine w_kStr ?_
  | with_reducible refine w_inS ?_
  | with_reducible refine w_sta ?_
  | with_reducible refine w_iEnumT ?_
  | with_reducible refine w_thn ?_
  | with_reducible refine w_chain ?_
  | with_reducible refine w_gAttr ?_
  | with_reducible refine w_isNr ?_
  | with_reducible refine w_iEnum ?_
  | ((with_reducible apply w_kEnum); focus (walk_at "fx"))
  | with_reducible refine w_sl3 ?_
  | with_reducible refine w_noPart ?_
  | with_reducible refine w_part ?_
  | with_reducible refine w_kPt ?_
  | with_reducible refine w_bm ?_
  | with_reducible refine w_ckw ?_
  | with_reducible refine w_tst ?_
  | with_reducible refine w_mk ?_
  | ((with_reducible apply w_psl); (focus (walk_at "fx")))
  | ((with_reducible apply w_mT); (focus (walk_at "fx")); (focus (exact rfl)))
  | ((with_reducible apply w_partner); (focus (walk_at "fx")))
  | ((with_reducible apply w_led); (focus (walk_at "fx")))
  | ((with_reducible apply w_spT); (focus (walk_at "fx")))
  | with_reducible refine w_lc ?_
  | with_reducible refine w_yes ?_
  | with_reducible refine w_gCons ?_
  | with_reducible refine w_gNil ?_
  | ((with_reducible apply w_gTup); (focus (walk_at "fx")); focus (exact rfl))
  | ((with_reducible apply w_minL2); focus (walk_at "fx"))
  | ((with_reducible apply w_slT); (focus assumption); (focus (walk_at "fx")))
  | ((with_reducible apply w_kIT); focus (walk_at "fx"))
  | ((with_reducible apply w_kIL); focus (walk_at "fx"))
  | with_reducible refine w_neg ?_
  | with_reducible refine w_tie ?_
  | with_reducible refine w_iT ?_
  | with_reducible refine w_iL ?_
  | with_reducible refine w_sFld ?_
  | with_reducible refine w_sSl ?_
  | with_reducible refine w_propSl ?_
  | with_reducible refine w_par ?_
  | with_reducible refine w_kPar ?_
  | with_reducible refine w_tup ?_
  | with_reducible refine w_lst ?_
  | with_reducible refine w_I0 ?_
  | with_reducible refine w_U ?_
  | with_reducible refine w_eqI ?_
  | with_reducible refine w_neI ?_
  | with_reducible refine w_eqS ?_
  | with_reducible refine w_neS ?_
  | with_reducible refine w_eqB ?_
  | with_reducible refine w_neB ?_
  | with_reducible refine w_isNn ?_
  | with_reducible refine w_isNr ?_
  | with_reducible refine w_isNi ?_
  | with_reducible refine w_notNn ?_
  | with_reducible refine w_notNr ?_
  | with_reducible refine w_notNi ?_
  | with_reducible refine w_xisN ?_
  | with_reducible refine w_fld ?_
  | with_reducible refine w_prop ?_
  | with_reducible refine w_meth ?_
  | ((with_reducible apply w_mod); focus assumption)
  | ((with_reducible apply w_mulW); (focus assumption); focus assumption)
  | ((with_reducible apply w_divW); (focus assumption); focus assumption)
  | with_reducible refine w_int1 ?_
  | with_reducible refine w_intB ?_
  | with_reducible refine w_min2 ?_
  | with_reducible refine w_max2 ?_
  | with_reducible refine w_abs ?_
  | with_reducible refine w_isiI ?_
  | with_reducible refine w_isiNB ?_
  | with_reducible refine w_isiB ?_
  | with_reducible refine w_isiS ?_
  | ((with_reducible apply w_isiT); (focus assumption); focus (walk_at "fx"))
  | ((with_reducible apply w_fTd); (focus assumption); focus (walk_at "fx"))
  | ((with_reducible apply w_fTb); (focus assumption); focus (walk_at "fx"))
  | ((with_reducible apply w_fTf); (focus assumption); focus (walk_at "fx"))
  | ((with_reducible apply w_fTs); (focus assumption); focus (walk_at "fx"))
  | ((with_reducible apply w_fTl); (focus assumption); focus (walk_at "fx"))
  | ((with_reducible apply w_fTa); (focus assumption); focus (walk_at "fx"))
  | ((with_reducible apply w_pT); focus (walk_at "fx"))
  | with_reducible refine w_sl ?_
  | ((with_reducible apply w_len); focus (walk_at "fx"))
  | ((with_reducible apply w_kT); focus (exact Nat.le_of_ble_eq_true rfl)))
local macro_rules | `(tactic| walk_at "ss") => `(tactic| repeat (walk_at "s"))
local macro_rules | `(tactic| walk_at "go") => `(tactic| ((try dsimp only [cxOf, Cx.nox, Cx.wish]); walk_at "ss"))
local macro_rules | `(tactic| walk_at "len") => `(tactic| (intro vs H Q E h; (repeat (obtain ⟨_, h⟩ := h)); all_goals (subst_vars; rfl)))
section
variable {P : Program} {w : World} {K : PySem.W.Frag} {mg : Str → Option Value} {base : Heap}
theorem ok_Book_size (T : Tx K mg) : FnB P w K mg base CX0 1 (gAd K d_Book_size.at_) ["self"] (spG K "own_size") [] := by
  refine mkB (k := 0) T.f_Book_size sc_Book_size (fun _ _ _ _ _ _ us hl => match us, hl with | [_], _ => rfl) (by walk_at "len") fun cdv A outer s H vs Q E hr h => ?_
  obtain ⟨a, dx, fs, v, rfl, e, hf, k⟩ := h
  refine ⟨_, (pss_one (ps_ret (pe_fld (pv 0) rfl))), ?_⟩
  walk_at "go"
  exact w_fL e T.c_Book T.a_Book_own_size hf k
theorem ok_Book_ties (T : Tx K mg) : FnB P w K mg base CX0 1 (gAd K d_Book_ties.at_) ["self"] (spG K "own_ties") [] := by
  refine mkB (k := 0) T.f_Book_ties sc_Book_ties (fun _ _ _ _ _ _ us hl => match us, hl with | [_], _ => rfl) (by walk_at "len") fun cdv A outer s H vs Q E hr h => ?_
  obtain ⟨a, dx, fs, v, rfl, e, hf, k⟩ := h
  refine ⟨_, (pss_one (ps_ret (pe_fld (pv 0) rfl))), ?_⟩
  walk_at "go"
  exact w_fL e T.c_Book T.a_Book_own_ties hf k
theorem ok_Book_notes (T : Tx K mg) : FnB P w K mg base CX0 1 (gAd K d_Book_notes.at_) ["self"] (spG K "own_notes") [] := by
  refine mkB (k := 0) T.f_Book_notes sc_Book_notes (fun _ _ _ _ _ _ us hl => match us, hl with | [_], _ => rfl) (by walk_at "len") fun cdv A outer s H vs Q E hr h => ?_
  obtain ⟨a, dx, fs, v, rfl, e, hf, k⟩ := h
  refine ⟨_, (pss_one (ps_ret (pe_fld (pv 0) rfl))), ?_⟩
  walk_at "go"
  exact w_fL e T.c_Book T.a_Book_own_notes hf k
def spLinksOf (K : PySem.W.Frag) : Sp := fun vs H Q _ => ∃ a n z ts lad, vs = [.ref a] ∧ BkAt K H a n z ts lad ∧ ts.length ≤ 100 ∧ ∀ L ls H', Ex H H' → H' L = some (.lst (refs ls)) → Links K H' ls → tis ls = ts → Q (.ref L) H'
theorem ok_links_of (T : Tx K mg) : FnB P w K mg base CX0 3 (ga K "links_of") ["book"] (spLinksOf K) [] := by
  refine mkB (k := 2) T.f_links_of sc_links_of (fun _ _ _ _ _ _ us hl => match us, hl with | [_], _ => rfl) (by walk_at "len") fun cdv A outer s H vs Q E hr h => ?_
  obtain ⟨a, n, z, ts, lad, rfl, ⟨dx, tp, np, os, h1, h2, h3, h4, h5⟩, hlen, k⟩ := h
  refine ⟨_, (pss_cons (ps_setLc (i := 1) (own := [("number", 2), ("tie", 5)]) (g := (gTup K 2 (gCons (gName 2) (gCons (gName 5) gNil)))) rfl sc_links_of.nd rfl rfl (sw_true rfl rfl rfl (by decide +kernel)) (pi_enumT (by rfl) T.b_enumerate (pa_cons (c_prop (ok_Book_ties T) (hr.mono (by decide)) T.c_Book T.p_Book_ties (pv 0)) pa_nil)) (blkOk_by (N := n_links_of) (sc := defScope s_links_of) (by decide +kernel)) (fun _ _ _ _ _ => (pg_tup (n := 2) (by rfl) (pgs_cons (pg_name (i := 2) sc_links_of.nd rfl (Or.inl rfl)) (pgs_cons (pg_name (i := 5) sc_links_of.nd rfl (Or.inl rfl)) pgs_nil)))) (fun _ _ _ _ _ => pts_nil) (fun _ _ _ _ _ => (c_make (ok_Link2 T) (hr.mono (by decide)) T.k_Link T.m_Link pass0 (pa_cons (pv 5) (pa_cons (pe_tup (pa_cons (g_str T.t_TOLD) (pa_cons (pv 2) pa_nil))) pa_nil)))))
      (pss_cons (ps_for PassesOwn.never rfl (pi_enumT (by rfl) T.b_enumerate (pa_cons (c_prop (ok_Book_notes T) (hr.mono (by decide)) T.c_Book T.p_Book_notes (pv 0)) pa_nil)) (pg_tup (n := 2) (by rfl) (pgs_cons (pg_name (i := 2) sc_links_of.nd rfl (Or.inl rfl)) (pgs_cons (pg_tup (n := 2) (by rfl) (pgs_cons (pg_name (i := 3) sc_links_of.nd rfl (Or.inl rfl)) (pgs_cons (pg_name (i := 4) sc_links_of.nd rfl (Or.inl rfl)) pgs_nil))) pgs_nil))) (pss_one ps_never))
      (pss_one (ps_ret (pv 1))))), ?_⟩
  walk_at "go"
  refine w_pB h1 (v := .ref tp) rfl ?_
  walk_at "ss"
  refine w_kEnumT (st_of h2) ?_
  have hol : os.length ≤ 100 := by rw [← h3] at hlen; simpa [tis] using hlen
  refine lcN (walk_enumT (xs := refs os)) (fun H' e => ex_t e (st_of h2)) (fun i v H' => ∃ p : Addr, ∃ q : Addr × Ti, os[i]? = some q ∧ v = .ref p ∧ LinkAt K H' p (id q.2)) (fun i v => mo_ex fun p => mo_ex fun q => mo_and (mo_const _) (mo_and (mo_const _) (mo_link _ _))) (by simp [refs]; omega)
    (fun i x H0 H1 hi e0 hy Q' hQ => ?_) fun p ys H1 hp e1 hP hl hy => ?_
  · obtain ⟨T1, x1, y1, rfl, hT1, rfl, hx1, hy1⟩ := hy
    have hi' : i < os.length := by simpa [refs] using hi
    obtain rfl : V.int (i : Nat) = x1 := by simpa using hx1
    have ey : y1 = .ref os[i].1 := by simp [refs, List.getElem?_map, List.getElem?_eq_getElem hi'] at hy1; exact hy1.symm
    subst ey
    have e2 : Ex H0 (upd H0 T1 (.tup [.int (i : Nat), .ref os[i].1])) := Ex.new hT1
    have hTp : upd H0 T1 (.tup [.int (i : Nat), .ref os[i].1]) T1 = some (.tup [.int (i : Nat), .ref os[i].1]) := upd_same
    generalize upd H0 T1 (.tup [.int (i : Nat), .ref os[i].1]) = H2 at *
    have hT := (h4 os[i] (List.getElem_mem hi')).ex (e0.trans e2)
    refine w_gTup (st_of hTp) rfl ?_
    walk_at "ss"
    refine ⟨rfl, ?_⟩
    walk_at "ss"
    intro q H3 hq e3 _
    walk_at "ss"
    refine w_kLink2 rfl (hT.ex e3) fun p4 H4 e4 hP4 => ?_
    exact hQ _ H4 ((e2.trans e3).trans e4) ⟨p4, os[i], List.getElem?_eq_getElem hi', rfl, hP4⟩
  obtain ⟨nl, rfl, hn2, hn3⟩ := links_of_items (f := id) (by rw [hl]; simp [refs]) hy
  walk_at "ss"
  refine w_pB (e1 _ _ h1) (v := .ref np) rfl ?_
  walk_at "ss"
  refine w_kEnumT (st_of (e1 _ _ h5)) ?_
  refine forE0 (st_of (e1 _ _ h5)) ?_
  walk_at "ss"
  exact k p nl H1 e1 hP hn3 (by rw [hn2, List.map_id, h3])
def spLadOf (K : PySem.W.Frag) : Sp := fun vs H Q _ => ∃ a n z ts rows parts b m, vs = [.ref a] ∧ BkSt K H a n z ts rows parts b ∧ RunOk m n ts rows parts b ∧ ∀ l H', ExB a H H' → BkAt K H' a n z ts (.ref l) → LadAt K H' l rows parts b → Q (.ref l) H'
theorem ok_ladder_of (T : Tx K mg) : FnB P w K mg base CX0 13 (ga K "ladder_of") ["book"] (spLadOf K) [] := by
  refine mkB (k := 12) T.f_ladder_of sc_ladder_of (fun _ _ _ _ _ _ us hl => match us, hl with | [_], _ => rfl) (by walk_at "len") fun cdv A outer s H vs Q E hr h => ?_
  obtain ⟨a, n, z, ts, rows, parts, b, m, rfl, ⟨lad, hb, hlad⟩, ⟨hm, hR, hle, hlen⟩, k⟩ := h
  obtain ⟨dx, tp, np, os, h1, h2, h3, h4, h5⟩ := id hb
  refine ⟨_, (pss_cons (ps_if (pt_cmpR op_isN1 (pe_fld (pv 0) rfl) pe_non (nomark _)) (pss_one (ps_fld (pv 0) (c_make (ok_Ladder___init__ T) (hr.mono (by decide)) T.k_Ladder T.m_Ladder pass0 (pa_cons (c_prop (ok_Book_size T) (hr.mono (by decide)) T.c_Book T.p_Book_size (pv 0)) (pa_cons (c_fn (ok_links_of T) (hr.mono (by decide)) T.m_links_of T.kp_links_of pass0 (pa_cons (pv 0) pa_nil)) pa_nil))) rfl)) pss_nil)
      (pss_one (ps_ret (pe_fld (pv 0) rfl)))), ?_⟩
  walk_at "go"
  refine w_fL h1 T.c_Book T.a_Book_own_ladder (v := lad) rfl ?_
  rcases hlad with rfl | ⟨l, rfl, hl⟩
  · walk_at "ss"
    refine w_pB h1 (v := .int n) rfl ?_
    walk_at "ss"
    refine ⟨a, n, z, ts, _, rfl, hb, hlen, fun L ls H1 e1 hL hLs hts => ?_⟩
    walk_at "ss"
    intro x dy hx hdy hne
    have e2 : Ex H1 (upd (upd H1 dy (.own x)) x (.ins (ga K "Ladder") dy [])) := (Ex.new hdy).trans (Ex.new (by rw [upd_ne (Ne.symm hne)]; exact hx))
    have hx2 : upd (upd H1 dy (.own x)) x (.ins (ga K "Ladder") dy []) x = some (.ins (ga K "Ladder") dy []) := upd_same
    generalize upd (upd H1 dy (.own x)) x (.ins (ga K "Ladder") dy []) = H2 at *
    refine ⟨x, dy, L, ls, m, rows, parts, b, n, rfl, hx2, sq_of (e2 _ _ hL), hLs.ex e2, fun p hp => hle _ (by rw [← hts]; exact List.mem_map.mpr ⟨p, hp, rfl⟩), by rw [← hts] at hlen; simpa [tis] using hlen, hm, by rw [hts]; exact hR, fun C Pp bv xs ys H3 e3 hC hR3 hP hPa hbv => ⟨rfl, ?_⟩⟩
    have hx3 := e3 _ _ hx2
    have e4 : Ex H1 (upd H3 x (.ins (ga K "Ladder") dy (ladF C Pp bv))) := Ex.mut (e2.trans e3) hx
    have hl : LadAt K (upd H3 x (.ins (ga K "Ladder") dy (ladF C Pp bv))) x rows parts b :=
      ⟨dy, C, Pp, bv, xs, ys, upd_same, lst_in hx3 hC, (paired_mo (mo_row K) _ _).ins _ _ _ _ _ _ hx3 (.inl rfl) hR3, lst_in hx3 hP, (paired_mo mo_part _ _).ins _ _ _ _ _ _ hx3 (.inl rfl) hPa, hbv⟩
    generalize upd H3 x (.ins (ga K "Ladder") dy (ladF C Pp bv)) = H4 at *
    walk_at "ss"
    have hb4 := (e1.trans e4)
    refine w_kFldS (hb4 _ _ h1) T.c_Book T.a_Book_own_ladder (Nat.le_of_ble_eq_true rfl) ?_
    walk_at "ss"
    have ef : putF "own_ladder" (.ref x) (bkF n tp np z .non) = bkF n tp np z (.ref x) := rfl
    rw [ef]
    have h5' : upd H4 a (.ins (ga K "Book") dx (bkF n tp np z (.ref x))) a = some (.ins (ga K "Book") dx (bkF n tp np z (.ref x))) := upd_same
    refine w_fL h5' T.c_Book T.a_Book_own_ladder (v := .ref x) rfl ?_
    have ha4 := hb4 _ _ h1
    refine k x _ (ExB.upd hb4) ⟨dx, tp, np, os, h5', upd_in ha4 (hb4 _ _ h2) (fun z => nomatch z), h3, fun p hp => (mo_tie p.1 p.2).ins _ _ _ _ _ _ ha4 (.inr rfl) ((h4 p hp).ex hb4), upd_in ha4 (hb4 _ _ h5) (fun z => nomatch z)⟩ (hl.ins ha4 (.inr rfl))
  · walk_at "ss"
    refine w_fL h1 T.c_Book T.a_Book_own_ladder (v := .ref l) rfl ?_
    exact k l H (ExB.of (Ex.refl H)) hb hl
end
end K22
end

/-! # K22x -/
section
set_option Elab.async false
set_option linter.all false
set_option autoImplicit false
set_option maxRecDepth 100000
set_option maxHeartbeats 4000000
namespace K22
open PySem PySem.Spec PyProof.Rows L2
open He (ga ma fAd)
open Evl (Ex ex_l ex_t sq_of st_of fresh_back)
theorem w_notNn' {Q : VK} {H : Hp} (h : Q (.bl false) H) : rNotN .non .non H Q := ⟨rfl, h⟩
theorem w_sortP {K : PySem.W.Frag} {H : Hp} {Q : VK} {a t : Addr} {i j : Int} (hl : SqL K H a [.ref t]) (ht : H t = some (.tup [.int i, .int j])) (h : ∀ p H', H p = none → Ex H H' → H' p = some (.lst [.ref t]) → Q (.ref p) H') : rSortedP K [.ref a] H Q :=
  ⟨a, [.ref t], rfl, hl, fun x hx => ⟨t, i, j, by simpa using hx, ht⟩, fun ys p hp hq => by
    have : ys = [.ref t] := List.perm_singleton.mp hp
    subst this
    exact h p _ hq (Ex.new hq) upd_same⟩
local macro_rules | `(tactic| walk_at "fx") => `(tactic| first
  | assumption
  | ((with_reducible apply TieAt.ex); (focus assumption); walk_at "fx")
  | ((with_reducible apply LinkAt.ex); (focus assumption); walk_at "fx")
  | ((with_reducible apply ex_l); (focus assumption); walk_at "fx")
  | ((with_reducible apply ex_t); (focus assumption); walk_at "fx")
  | ((with_reducible apply sq_of); walk_at "fx")
  | ((with_reducible apply st_of); walk_at "fx")
  | ((with_reducible apply ex_at); (focus assumption); walk_at "fx"))
local macro_rules | `(tactic| walk_at "s") => `(tactic| first
  | with_reducible refine w_seq ?_
  | ((with_reducible apply w_var); focus (exact rfl))
  | with_reducible refine w_c ?_
  | with_reducible refine w_op ?_
  | with_reducible refine w_cons ?_
  | with_reducible refine w_nil ?_
  | with_reducible refine w_asg ?_
  | with_reducible refine w_name ?_
  | with_reducible refine w_ret ?_
  | with_reducible refine w_retN ?_
  | with_reducible refine w_ifS ?_
  | with_reducible refine w_isB ?_
  | with_reducible refine w_test ?_
  | with_reducible refine w_tB ?_
  | with_reducible refine w_and ?_
  | with_reducible refine w_or ?_
  | with_reducible refine w_not ?_
  | with_reducible refine w_andV ?_
  | with_reducible refine w_orV ?_
  | with_reducible refine w_notV ?_
  | with_reducible refine w_if ?_
  | with_reducible refine w_iteT ?_
  | with_reducible refine w_iteF ?_
  | with_reducible refine w_iteNT ?_
  | with_reducible refine w_iteNF ?_
  | with_reducible refine w_un ?_
  | with_reducible refine w_call ?_
  | with_reducible refine w_cb ?_
  | with_reducible refine w_next ?_
  | with_reducible refine w_drop ?_
  | with_reducible refine w_for ?_
  | with_reducible refine w_dget0 ?_
  | with_reducible refine w_prsC ?_
  | with_reducible refine w_prsN ?_
  | with_reducible refine w_iZA ?_
  | with_reducible refine w_gSub ?_
  | with_reducible refine w_iR1 ?_
  | with_reducible refine w_p8 ?_
  | with_reducible refine w_p60 ?_
  | with_reducible refine w_p5 ?_
  | with_reducible refine w_p18 ?_
  | with_reducible refine w_p9 ?_
  | with_reducible refine w_p19 ?_
  | with_reducible refine w_p29 ?_
  | with_reducible refine w_m1 ?_
  | with_reducible refine w_kM1 ?_
  | with_reducible refine w_iStr ?_
  | with_reducible refine w_kStr ?_
  | with_reducible refine w_inS ?_
  | with_reducible refine w_sta ?_
  | with_reducible refine w_iEnumT ?_
  | with_reducible refine w_thn ?_
  | with_reducible refine w_chain ?_
  | with_reducible refine w_gAttr ?_
  | with_reducible refine w_isNr ?_
  | with_reducible refine w_iEnum ?_
  | ((with_reducible apply w_kEnum); focus (walk_at "fx"))
  | with_reducible refine w_sl3 ?_
  | with_reducible refine w_noPart ?_
  | with_reducible refine w_part ?_
  | with_reducible refine w_kPt ?_
  | with_reducible refine w_bm ?_
  | with_reducible refine w_ckw ?_
  | with_reducible refine w_tst ?_
  | with_reducible refine w_mk ?_
  | ((with_reducible apply w_psl); (focus (walk_at "fx")))
  | ((with_reducible apply w_mT); (focus (walk_at "fx")); (focus (exact rfl)))
  | ((with_reducible apply w_partner); (focus (walk_at "fx")))
  | ((with_reducible apply w_led); (focus (walk_at "fx")))
  | ((with_reducible apply w_spT); (focus (walk_at "fx")))
  | with_reducible refine w_lc ?_
  | with_reducible refine w_yes ?_
  | with_reducible refine w_gCons ?_
  | with_reducible refine w_gNil ?_
  | ((with_reducible apply w_gTup); (focus (walk_at "fx")); focus (exact rfl))
  | ((with_reducible apply w_minL2); focus (walk_at "fx"))
  | ((with_reducible apply w_slT); (focus assumption); (focus (walk_at "fx")))
  | ((with_reducible apply w_kIT); focus (walk_at "fx"))
  | ((with_reducible apply w_kIL); focus (walk_at "fx"))
  | with_reducible refine w_neg ?_
  | with_reducible refine w_tie ?_
  | with_reducible refine w_iT ?_
  | with_reducible refine w_iL ?_
  | with_reducible refine w_sFld ?_
  | with_reducible refine w_sSl ?_
  | with_reducible refine w_propSl ?_
  | with_reducible refine w_par ?_
  | with_reducible refine w_kPar ?_
  | with_reducible refine w_tup ?_
  | with_reducible refine w_lst ?_
  | with_reducible refine w_I0 ?_
  | with_reducible refine w_U ?_
  | with_reducible refine w_eqI ?_
  | with_reducible refine w_neI ?_
  | with_reducible refine w_eqS ?_
  | with_reducible refine w_neS ?_
  | with_reducible refine w_eqB ?_
  | with_reducible refine w_neB ?_
  | with_reducible refine w_isNn ?_
  | with_reducible refine w_isNr ?_
  | with_reducible refine w_isNi ?_
  | with_reducible refine w_notNn ?_
  | with_reducible refine w_notNr ?_
  | with_reducible refine w_notNi ?_
  | with_reducible refine w_xisN ?_
  | with_reducible refine w_fld ?_
  | with_reducible refine w_prop ?_
  | with_reducible refine w_meth ?_
  | ((with_reducible apply w_mod); focus assumption)
  | ((with_reducible apply w_mulW); (focus assumption); focus assumption)
  | ((with_reducible apply w_divW); (focus assumption); focus assumption)
  | with_reducible refine w_int1 ?_
  | with_reducible refine w_intB ?_
  | with_reducible refine w_min2 ?_
  | with_reducible refine w_max2 ?_
  | with_reducible refine w_abs ?_
  | with_reducible refine w_isiI ?_
  | with_reducible refine w_isiNB ?_
  | with_reducible refine w_isiB ?_
  | with_reducible refine w_isiS ?_
  | ((with_reducible apply w_isiT); (focus assumption); focus (walk_at "fx"))
  | ((with_reducible apply w_fTd); (focus assumption); focus (walk_at "fx"))
  | ((with_reducible apply w_fTb); (focus assumption); focus (walk_at "fx"))
  | ((with_reducible apply w_fTf); (focus assumption); focus (walk_at "fx"))
  | ((with_reducible apply w_fTs); (focus assumption); focus (walk_at "fx"))
  | ((with_reducible apply w_fTl); (focus assumption); focus (walk_at "fx"))
  | ((with_reducible apply w_fTa); (focus assumption); focus (walk_at "fx"))
  | ((with_reducible apply w_pT); focus (walk_at "fx"))
  | with_reducible refine w_sl ?_
  | ((with_reducible apply w_len); focus (walk_at "fx"))
  | ((with_reducible apply w_kT); focus (exact Nat.le_of_ble_eq_true rfl)))
local macro_rules | `(tactic| walk_at "ss") => `(tactic| repeat (walk_at "s"))
local macro_rules | `(tactic| walk_at "go") => `(tactic| ((try dsimp only [cxOf, Cx.nox, Cx.wish]); walk_at "ss"))
local macro_rules | `(tactic| walk_at "len") => `(tactic| (intro vs H Q E h; (repeat (obtain ⟨_, h⟩ := h)); all_goals (subst_vars; rfl)))
section
variable {P : Program} {w : World} {K : PySem.W.Frag} {mg : Str → Option Value} {base : Heap}
def spKept (K : PySem.W.Frag) : Sp := fun vs H Q _ => ∃ a n z ts rows parts m, vs = [.ref a] ∧ BkSt K H a n z ts rows parts false ∧ RunOk m n ts rows parts false ∧ ∀ l H', ExB a H H' → BkSt K H' a n z ts rows parts false → LadAt K H' l rows parts false → Q (.ref l) H'
theorem ok_kept_ladder (T : Tx K mg) : FnB P w K mg base CX0 14 (ga K "kept_ladder") ["book"] (spKept K) [] := by
  refine mkB (k := 13) T.f_kept_ladder sc_kept_ladder (fun _ _ _ _ _ _ us hl => match us, hl with | [_], _ => rfl) (by walk_at "len") fun cdv A outer s H vs Q E hr h => ?_
  obtain ⟨a, n, z, ts, rows, parts, m, rfl, hb, hR, k⟩ := h
  refine ⟨_, (pss_cons (ps_set (i := 1) sc_kept_ladder.nd rfl (Or.inl rfl) (c_fn (ok_ladder_of T) (hr.mono (by decide)) T.m_ladder_of T.kp_ladder_of pass0 (pa_cons (pv 0) pa_nil)))
      (pss_cons (ps_if (pt_cmpR op_notN1 (pe_fld (pv 1) rfl) pe_non (nomark _)) (pss_one ps_never) pss_nil)
      (pss_one (ps_ret (pv 1))))), ?_⟩
  walk_at "go"
  refine ⟨a, n, z, ts, rows, parts, false, m, rfl, hb, hR, fun l H1 e1 hB hL => ?_⟩
  walk_at "ss"
  obtain ⟨dx, C, Pp, bv, xs, ys, h1, h2, h3, h4, h5, h6⟩ := id hL
  have hbv : bv = .non := by
    rcases h6 with ⟨_, h⟩ | ⟨h, _⟩
    · exact h
    · cases h
  subst hbv
  refine w_fL h1 T.c_Ladder T.a_Ladder_broken (v := .non) rfl ?_
  walk_at "ss"
  exact k l H1 e1 ⟨_, hB, .inr ⟨l, rfl, hL⟩⟩ hL
def spFree (K : PySem.W.Frag) : Sp := fun vs H Q _ => ∃ a n z ts rows g m, vs = [.ref a] ∧ BkSt K H a n z ts rows [(0, g)] false ∧ RunOk m n ts rows [(0, g)] false ∧ ∀ H', ExB a H H' → BkSt K H' a n z ts rows [(0, g)] false → Q (.int g) H'
theorem ok_free (T : Tx K mg) : FnB P w K mg base CX0 15 (ga K "free") ["book"] (spFree K) [] := by
  refine mkB (k := 14) T.f_free sc_free (fun _ _ _ _ _ _ us hl => match us, hl with | [_], _ => rfl) (by walk_at "len") fun cdv A outer s H vs Q E hr h => ?_
  obtain ⟨a, n, z, ts, rows, g, m, rfl, hb, hR, k⟩ := h
  refine ⟨_, (pss_one (ps_ret (c_prop (ok_Ladder_free T) (hr.mono (by decide)) T.c_Ladder T.p_Ladder_free (c_fn (ok_kept_ladder T) (hr.mono (by decide)) T.m_kept_ladder T.kp_kept_ladder pass0 (pa_cons (pv 0) pa_nil))))), ?_⟩
  walk_at "go"
  refine ⟨a, n, z, ts, rows, [(0, g)], m, rfl, hb, hR, fun l H1 e1 hB hL => ?_⟩
  obtain ⟨dx, C, Pp, bv, xs, ys, h1, _⟩ := id hL
  refine ⟨l, dx, _, rfl, h1, l, rows, g, false, rfl, hL, fun H2 e2 => ?_⟩
  exact k H2 (e1.then e2) (hB.ex e2)
def spFreeP (K : PySem.W.Frag) : Sp := fun vs H Q _ => ∃ a n z ts rows g m, vs = [.ref a] ∧ BkSt K H a n z ts rows [(0, g)] false ∧ RunOk m n ts rows [(0, g)] false ∧ ∀ q t H', ExB a H H' → BkSt K H' a n z ts rows [(0, g)] false → H' q = some (.tup [.ref t]) → H' t = some (.tup [.int 0, .int g]) → Q (.ref q) H'
theorem ok_free_parts (T : Tx K mg) : FnB P w K mg base CX0 15 (ga K "free_parts") ["book"] (spFreeP K) [] := by
  refine mkB (k := 14) T.f_free_parts sc_free_parts (fun _ _ _ _ _ _ us hl => match us, hl with | [_], _ => rfl) (by walk_at "len") fun cdv A outer s H vs Q E hr h => ?_
  obtain ⟨a, n, z, ts, rows, g, m, rfl, hb, hR, k⟩ := h
  refine ⟨_, (pss_one (ps_ret (pe_tupleOf (by rfl) T.b_tuple (pe_callB cr_sortedP (by rfl) T.b_sorted (by decide +kernel) (pa_cons (pe_fld (c_fn (ok_kept_ladder T) (hr.mono (by decide)) T.m_kept_ladder T.kp_kept_ladder pass0 (pa_cons (pv 0) pa_nil)) rfl) pa_nil))))), ?_⟩
  walk_at "go"
  refine ⟨a, n, z, ts, rows, [(0, g)], m, rfl, hb, hR, fun l H1 e1 hB hL => ?_⟩
  obtain ⟨dx, C, Pp, bv, xs, ys, h1, h2, h3, h4, h5, h6⟩ := id hL
  refine w_fL h1 T.c_Ladder T.a_Ladder_parts (v := .ref Pp) rfl ?_
  walk_at "ss"
  match ys, h5 with
  | [y], h5 =>
    cases h5 with
    | cons h7 _ =>
      obtain ⟨t, rfl, ht⟩ := h7
      refine w_sortP (sq_of h4) ht fun p H2 hp e2 hP2 => ?_
      refine w_tupL (sq_of hP2) fun q H3 hq e3 hQ3 => ?_
      exact k q t H3 ((e1.then e2).then e3) ((hB.ex e2).ex e3) hQ3 (e3 _ _ (e2 _ _ ht))
def spChk (K : PySem.W.Frag) : Sp := fun vs H Q _ => ∃ a dx fs n x, vs = [.ref a, .int x] ∧ H a = some (.ins (ga K "Book") dx fs) ∧ fs.lookup ("own_size" : Str) = some (V.int n) ∧ 0 ≤ x ∧ x ≤ n - 1 ∧ Q .non H
theorem ok_check_place (T : Tx K mg) : FnB P w K mg base CX0 3 (ga K "check_place") ["book", "value"] (spChk K) [] := by
  refine mkB (k := 2) T.f_check_place sc_check_place (fun _ _ _ _ _ _ us hl => match us, hl with | [_, _], _ => rfl) (by walk_at "len") fun cdv A outer s H vs Q E hr h => ?_
  obtain ⟨a, dx, fs, n, x, rfl, e, hf, h0, h1, k⟩ := h
  refine ⟨_, (pss_one (ps_if (pt_not (pt_val (c_fn (ok_is_integer3 T) (hr.mono (by decide)) T.m_is_integer T.kp_is_integer pass0 (pa_cons (pv 1) (pa_cons pe_int (pa_cons (pe_op op_sub (c_prop (ok_Book_size T) (hr.mono (by decide)) T.c_Book T.p_Book_size (pv 0)) pe_int) pa_nil)))))) (pss_one ps_never) pss_nil)), ?_⟩
  walk_at "go"
  refine w_pB e hf ?_
  walk_at "ss"
  refine w_isI3 h0 h1 ?_
  walk_at "ss"
  exact k
def spHangs (K : PySem.W.Frag) : Sp := fun vs H Q _ => ∃ a x n z ts rows parts m, vs = [.ref a, .int x] ∧ BkSt K H a n z ts rows parts false ∧ RunOk m n ts rows parts false ∧ 0 ≤ x ∧ x ≤ n - 1 ∧
  (∀ r ∈ rows, RowOk r) ∧ rows.length ≤ 1000 ∧ (∀ w ∈ (walkM rows x).1, Sm w.1.a ∧ Sm w.2.1) ∧ (walkM rows x).1.length ≤ 1000 ∧
  ∀ q H', ExB a H H' → BkSt K H' a n z ts rows parts false → H' q = some (.tup [.str "up", .int (walkM rows x).2, .int (sumW (walkM rows x).1)]) → Q (.ref q) H'
theorem ok_hangs (T : Tx K mg) : FnB P w K mg base CX0 15 (ga K "hangs") ["book", "place"] (spHangs K) [] := by
  refine mkB (k := 14) T.f_hangs sc_hangs (fun _ _ _ _ _ _ us hl => match us, hl with | [_, _], _ => rfl) (by walk_at "len") fun cdv A outer s H vs Q E hr h => ?_
  obtain ⟨a, x, n, z, ts, rows, parts, m, rfl, hb, hR, h0, h1, g1, g2, g3, g4, k⟩ := h
  obtain ⟨lad, ⟨dx, tp, np, os, hb1, _⟩, _⟩ := id hb
  refine ⟨_, (pss_cons (ps_expr (c_fn (ok_check_place T) (hr.mono (by decide)) T.m_check_place T.kp_check_place pass0 (pa_cons (pv 0) (pa_cons (pv 1) pa_nil))))
      (pss_one (ps_ret (c_meth (ok_Ladder_reading T) (hr.mono (by decide)) T.c_Ladder T.h_Ladder_reading pass0 (c_fn (ok_kept_ladder T) (hr.mono (by decide)) T.m_kept_ladder T.kp_kept_ladder pass0 (pa_cons (pv 0) pa_nil)) (pa_cons (pv 1) pa_nil))))), ?_⟩
  walk_at "go"
  refine ⟨a, dx, _, n, x, rfl, hb1, rfl, h0, h1, ?_⟩
  walk_at "ss"
  refine ⟨a, n, z, ts, rows, parts, m, rfl, hb, hR, fun l H1 e1 hB hL => ?_⟩
  obtain ⟨dl, C, Pp, bv, xs, ys, hl1, _⟩ := id hL
  refine ⟨l, dl, _, rfl, hl1, rfl, ?_⟩
  walk_at "ss"
  exact ⟨l, x, rows, parts, false, rfl, hL, g1, g2, g3, g4, fun q H2 e2 hQ => k q H2 (e1.then e2) (hB.ex e2) hQ⟩
end
end K22
end

/-! # K23a -/
section
set_option Elab.async false
set_option linter.all false
set_option autoImplicit false
set_option maxRecDepth 100000
set_option maxHeartbeats 4000000
namespace K22
open PySem PySem.Spec PyProof.Rows L2
open SX (S)
/-! ## texts as rows of signs -/
def intL (i : Int) : List Nat := if i < 0 then 45 :: TL.numL i.natAbs else TL.numL i.natAbs
theorem rep_numL (n : Nat) : (Nat.repr n).toList.map Char.toNat = TL.numL n := by
  have h := TL.tl_num n
  rw [TL.tl_ofString] at h
  exact h
theorem str_intL (i : Int) : Str.ofString (toString i) = S (intL i) := by
  cases i with
  | ofNat n =>
    have h := SX.num_S n
    have e : intL (Int.ofNat n) = TL.numL n := by unfold intL; rw [if_neg (by simp)]; rfl
    rw [e]; exact h
  | negSucc m =>
    have e : intL (Int.negSucc m) = 45 :: TL.numL (m + 1) := by unfold intL; rw [if_pos (Int.negSucc_lt_zero m)]; rfl
    rw [e]
    refine TL.ext_tl ?_
    rw [TL.tl_ofString]
    have e2 : toString (Int.negSucc m) = "-" ++ Nat.repr (m + 1) := rfl
    rw [e2, String.toList_append, List.map_append, rep_numL]
    rfl
theorem numL_mem {n c : Nat} (h : c ∈ TL.numL n) : 48 ≤ c ∧ c ≤ 57 := TL.numL_digits n c h
theorem intL_mem {i : Int} {c : Nat} (h : c ∈ intL i) : c = 45 ∨ (48 ≤ c ∧ c ≤ 57) := by
  unfold intL at h
  split at h
  · rcases List.mem_cons.mp h with h | h
    · exact .inl h
    · exact .inr (numL_mem h)
  · exact .inr (numL_mem h)
theorem intL_ne (i : Int) : intL i ≠ [] := by
  unfold intL
  split
  · simp
  · exact TL.numL_ne _
theorem intL_len {i : Int} (h : i.natAbs < 10 ^ 100) : (intL i).length ≤ 101 := by
  have := TL.numL_len (k := 100) (by decide) h
  unfold intL
  split
  · simp only [List.length_cons]; omega
  · omega
theorem intL_val {i : Int} (h : i.natAbs < 10 ^ 100) : intText? (S (intL i)) = some i := by
  have hl := intL_len h
  have hn := TL.numL_len (k := 100) (by decide) h
  by_cases h0 : i < 0
  · have e : intL i = 45 :: TL.numL i.natAbs := by unfold intL; rw [if_pos h0]
    rw [PySem.intText_neg (x := S (intL i)) (cs := TL.numL i.natAbs) (by rw [e]) (TL.numL_digits _) (TL.numL_ne _) (by rw [SX.S_len]; omega), TL.numL_val]
    congr 1; omega
  · have e : intL i = TL.numL i.natAbs := by unfold intL; rw [if_neg h0]
    rw [PySem.intText_digits (x := S (intL i)) (by rw [e]; exact TL.numL_digits _) (by rw [e]; exact TL.numL_ne _) (by rw [SX.S_len]; omega)]
    have e2 : (S (intL i)).cps.toList = TL.numL i.natAbs := by rw [e]
    rw [e2, TL.numL_val]
    congr 1; omega
theorem numL_head : ∀ n : Nat, 0 < n → ∃ d r, TL.numL n = d :: r ∧ d ≠ 48 := by
  intro n
  induction n using Nat.strongRecOn with
  | _ n ih =>
    intro h
    by_cases h10 : n < 10
    · exact ⟨48 + n, [], TL.numL_lt h10, by omega⟩
    · obtain ⟨d, r, e, hd⟩ := ih (n / 10) (by omega) (by omega)
      exact ⟨d, r ++ [48 + n % 10], by rw [TL.numL_step (by omega), e]; rfl, hd⟩
theorem numL_zero : TL.numL 0 = [48] := TL.numL_lt (by decide)
/-! prefixes -/
theorem starts_app (p q : List Nat) : Txt.startswith (S (p ++ q)) (S p) = true := by
  unfold Txt.startswith
  rw [PySem.StrLaws.subAt_eq, SX.S_len, SX.S_len]
  simp
theorem starts_not {a p : List Nat} (h : a.take p.length ≠ p) : Txt.startswith (S a) (S p) = false := by
  unfold Txt.startswith
  rw [PySem.StrLaws.subAt_eq, SX.S_len, SX.S_len]
  simp [h]
theorem prefix_app (p q : List Nat) : Txt.removeprefix (S (p ++ q)) (S p) = S q := by
  rw [PySem.StrLaws.removeprefix_eq, PySem.StrLaws.subAt_eq, SX.S_len, SX.S_len]
  simp
theorem prefix_not {a p : List Nat} (h : a.take p.length ≠ p) : Txt.removeprefix (S a) (S p) = S a := by
  rw [PySem.StrLaws.removeprefix_eq, PySem.StrLaws.subAt_eq, SX.S_len, SX.S_len]
  simp [h]
end K22
end

/-! # K23b -/
section
set_option Elab.async false
set_option linter.all false
set_option autoImplicit false
set_option maxRecDepth 100000
set_option maxHeartbeats 4000000
namespace K22
open PySem PySem.Spec PyProof.Rows L2
open He (ga ma fAd)
open Evl (Ex ex_l ex_t sq_of st_of fresh_back)
open SX (S)
/-! ## texts: rules by names -/
def qPre : V → List V → Hp → VK → Prop := fun x xs H Q => ∃ a b, x = .str a ∧ xs = [.str b] ∧ a.length ≤ sizeLine ∧ Q (.str (Txt.removeprefix a b)) H
def qSpl : V → List V → Hp → VK → Prop := fun x xs H Q => ∃ a b, x = .str a ∧ xs = [.str b] ∧ (b.length == 0) = false ∧ a.length + 2 ≤ sizeLine ∧ rNewStrs (Txt.split a b) H Q
def qSta : V → List V → Hp → VK → Prop := fun x xs H Q => ∃ a b, x = .str a ∧ xs = [.str b] ∧ Q (.bl (Txt.startswith a b)) H
def qJoi (K : PySem.W.Frag) : V → List V → Hp → VK → Prop := fun x xs H Q => ∃ a p, ∃ ys : List Str, x = .str a ∧ xs = [.ref p] ∧ (SqL K H p (ys.map V.str) ∨ SqT K H p (ys.map V.str)) ∧ (ys.map (·.length)).sum + ys.length * a.length ≤ 16777216 ∧ Q (.str (Txt.join a ys)) H
def qIntS : List V → Hp → VK → Prop := fun xs H Q => ∃ a n, xs = [.str a] ∧ PySem.intText? a = some n ∧ a.length ≤ 640 ∧ Q (.int n) H
def qCat : R2 := fun x y H Q => ∃ i j, x = .str i ∧ y = .str j ∧ i.length + j.length ≤ sizeLine ∧ Q (.str (i ++ j)) H
section
variable {X : Cx}
theorem op_catS : OpR X (binaryOp .Add) qCat := op_add_str
theorem mt_pre : MtR X "str.removeprefix" qPre := mt_removeprefix
theorem mt_spl : MtR X "str.split" qSpl := mt_split
theorem mt_sta : MtR X "str.startswith" qSta := mt_startswith
theorem mt_joi : MtR X "str.join" (qJoi X.K) := mt_join
theorem cl_intS : CallR X (.type "int") qIntS := call_int_str
theorem takesF {X : Cx} : Takes X (fun _ _ _ _ => False) := fun u s' ⟨_, _, _, _, _, _, _, _, _, _, _, _, _, _, _, _, w⟩ => w.elim
end
section
variable {K : PySem.W.Frag} {σ : L2.St} {H : Hp} {Q : VK} {to te : TE} {r : V → List V → Hp → VK → Prop} {a b : Str} {p : Addr} {xs : List V} {R : It → Hp → Prop}
def kM1 (r : V → List V → Hp → VK → Prop) (te : TE) (σ : L2.St) (Q : VK) : VK := fun x H1 => (∃ a, x = .str a) ∧ te σ H1 fun y H2 => r x [y] H2 Q
theorem w_m1 (h : to σ H (kM1 r te σ Q)) : tM1 r to te σ H Q := h
theorem w_kM1 (h : te σ H fun y H2 => r (.str a) [y] H2 Q) : kM1 r te σ Q (.str a) H := ⟨⟨a, rfl⟩, h⟩
theorem w_pre (hl : a.length ≤ 100000) (h : Q (.str (Txt.removeprefix a b)) H) : qPre (.str a) [.str b] H Q := ⟨a, b, rfl, rfl, Evl.sz_of hl, h⟩
theorem w_spl (hb : (b.length == 0) = false) (hl : a.length ≤ 50000) (h : ∀ p H', H p = none → Ex H H' → H' p = some (.lst ((Txt.split a b).map V.str)) → Q (.ref p) H') : qSpl (.str a) [.str b] H Q :=
  ⟨a, b, rfl, rfl, hb, Evl.sz_of (by omega), fun p hp => h p _ hp (Ex.new hp) upd_same⟩
theorem w_sta (h : Q (.bl (Txt.startswith a b)) H) : qSta (.str a) [.str b] H Q := ⟨a, b, rfl, rfl, h⟩
theorem w_joi {ys : List Str} (hl : SqL K H p (ys.map V.str)) (hz : (ys.map (·.length)).sum + ys.length * a.length ≤ 16777216) (h : Q (.str (Txt.join a ys)) H) : qJoi K (.str a) [.ref p] H Q := ⟨a, p, ys, rfl, rfl, .inl hl, hz, h⟩
theorem w_intS {n : Int} (hv : PySem.intText? a = some n) (hl : a.length ≤ 640) (h : Q (.int n) H) : qIntS [.str a] H Q := ⟨a, n, rfl, hv, hl, h⟩
theorem w_catS (hl : a.length + b.length ≤ 100000) (h : Q (.str (a ++ b)) H) : qCat (.str a) (.str b) H Q := ⟨a, b, rfl, rfl, Evl.sz_of hl, h⟩
theorem w_inS {c : Nat} {z : Str} (h : Q (.bl (decide (c ∈ z.cps.toList))) H) : rInS (.str ⟨#[c]⟩) (.str z) H Q := ⟨c, z, rfl, rfl, h⟩
theorem w_ixS {i : Int} {c : Nat} (hl : a.length ≤ 100000) (hi : atI a.cps.toList i = some c) (h : Q (.str ⟨#[c]⟩) H) : rIxS (.str a) (.int i) H Q := ⟨a, i, c, rfl, rfl, Evl.sz_of hl, hi, h⟩
theorem w_all {bs : List Bool} (hl : SqL K H p (bs.map V.bl)) (h : Q (.bl (bs.all id)) H) : rAll K [.ref p] H Q := ⟨p, bs, rfl, hl, h⟩
def kStr (R : It → Hp → Prop) : VK := fun v H1 => ∃ x, v = .str x ∧ R (Its x) H1
theorem w_iStr (h : te σ H (kStr R)) : iStr te σ H R := h
theorem w_kStr (h : R (Its a) H) : kStr R (.str a) H := ⟨a, rfl, h⟩
theorem w_inL {x : V} (hl : SqL K H p xs) (hx : flatV x = true) (hf : xs.all flatV = true) (h : Q (.bl (inV x xs)) H) : rIn K false x (.ref p) H Q := ⟨p, xs, rfl, .inl hl, hx, hf, h⟩
theorem w_niT {x : V} (hl : SqT K H p xs) (hx : flatV x = true) (hf : xs.all flatV = true) (h : Q (.bl (!inV x xs)) H) : rIn K true x (.ref p) H Q := ⟨p, xs, rfl, .inr hl, hx, hf, h⟩
theorem w_gStar {t : TGs} {x : V} {Q : L2.St → Hp → Prop} (hl : SqL K H p (x :: xs)) (h : ∀ q H', H q = none → Ex H H' → H' q = some (.lst xs) → t [x, .ref q] σ H' Q) : gStar K t (.ref p) σ H Q := ⟨p, x, xs, rfl, hl, fun q hq => h q _ hq (Ex.new hq) upd_same⟩
theorem w_gLst {n : Nat} {t : TGs} {Q : L2.St → Hp → Prop} (hl : SqL K H p xs) (hn : xs.length = n) (h : t xs σ H Q) : gLst K n t (.ref p) σ H Q := ⟨p, xs, rfl, hl, hn, h⟩
end
/-! the few written texts -/
theorem s_0 : (Str.ofString "0") = S [48] := by decide
theorem s_e : (Str.ofString "") = S [] := by decide
theorem s_m : (Str.ofString "-") = S [45] := by decide
theorem s_b : (Str.ofString " ") = S [32] := by decide
theorem s_n : (Str.ofString "\n") = S [10] := by decide
theorem s_fig : (Str.ofString "0123456789").cps.toList = [48, 49, 50, 51, 52, 53, 54, 55, 56, 57] := by decide
def upL : List Nat := [117, 112]
def tieW : List Nat := [116, 105, 101]
def sizeW : List Nat := [115, 105, 122, 101]
def noteW : List Nat := [110, 111, 116, 101]
theorem s_up : (Str.ofString "up") = S upL := by decide
theorem s_down : (Str.ofString "down") = S [100, 111, 119, 110] := by decide
theorem s_tie : (Str.ofString "tie") = S tieW := by decide
theorem s_size : (Str.ofString "size") = S sizeW := by decide
theorem s_note : (Str.ofString "note") = S noteW := by decide
theorem fig_in {c : Nat} (h : 48 ≤ c ∧ c ≤ 57) : decide (c ∈ (Str.ofString "0123456789").cps.toList) = true := by
  rw [s_fig]
  apply decide_eq_true
  simp only [List.mem_cons, List.not_mem_nil, or_false]
  omega
local macro_rules | `(tactic| walk_at "fx") => `(tactic| first
  | assumption
  | ((with_reducible apply TieAt.ex); (focus assumption); walk_at "fx")
  | ((with_reducible apply LinkAt.ex); (focus assumption); walk_at "fx")
  | ((with_reducible apply ex_l); (focus assumption); walk_at "fx")
  | ((with_reducible apply ex_t); (focus assumption); walk_at "fx")
  | ((with_reducible apply sq_of); walk_at "fx")
  | ((with_reducible apply st_of); walk_at "fx")
  | ((with_reducible apply ex_at); (focus assumption); walk_at "fx"))
local macro_rules | `(tactic| walk_at "s") => `(tactic| first
  | with_reducible refine w_seq ?_
  | ((with_reducible apply w_var); focus (exact rfl))
  | with_reducible refine w_c ?_
  | with_reducible refine w_op ?_
  | with_reducible refine w_cons ?_
  | with_reducible refine w_nil ?_
  | with_reducible refine w_asg ?_
  | with_reducible refine w_name ?_
  | with_reducible refine w_ret ?_
  | with_reducible refine w_retN ?_
  | with_reducible refine w_ifS ?_
  | with_reducible refine w_isB ?_
  | with_reducible refine w_test ?_
  | with_reducible refine w_tB ?_
  | with_reducible refine w_and ?_
  | with_reducible refine w_or ?_
  | with_reducible refine w_not ?_
  | with_reducible refine w_andV ?_
  | with_reducible refine w_orV ?_
  | with_reducible refine w_notV ?_
  | with_reducible refine w_if ?_
  | with_reducible refine w_iteT ?_
  | with_reducible refine w_iteF ?_
  | with_reducible refine w_iteNT ?_
  | with_reducible refine w_iteNF ?_
  | with_reducible refine w_un ?_
  | with_reducible refine w_call ?_
  | with_reducible refine w_cb ?_
  | with_reducible refine w_next ?_
  | with_reducible refine w_drop ?_
  | with_reducible refine w_for ?_
  | with_reducible refine w_dget0 ?_
  | with_reducible refine w_prsC ?_
  | with_reducible refine w_prsN ?_
  | with_reducible refine w_iZA ?_
  | with_reducible refine w_gSub ?_
  | with_reducible refine w_iR1 ?_
  | with_reducible refine w_p8 ?_
  | with_reducible refine w_p60 ?_
  | with_reducible refine w_p5 ?_
  | with_reducible refine w_p18 ?_
  | with_reducible refine w_p9 ?_
  | with_reducible refine w_p19 ?_
  | with_reducible refine w_p29 ?_
  | with_reducible refine w_m1 ?_
  | with_reducible refine w_kM1 ?_
  | with_reducible refine w_iStr ?_
  | with_reducible refine w_kStr ?_
  | with_reducible refine w_inS ?_
  | with_reducible refine w_sta ?_
  | with_reducible refine w_iEnumT ?_
  | with_reducible refine w_thn ?_
  | with_reducible refine w_chain ?_
  | with_reducible refine w_gAttr ?_
  | with_reducible refine w_isNr ?_
  | with_reducible refine w_iEnum ?_
  | ((with_reducible apply w_kEnum); focus (walk_at "fx"))
  | with_reducible refine w_sl3 ?_
  | with_reducible refine w_noPart ?_
  | with_reducible refine w_part ?_
  | with_reducible refine w_kPt ?_
  | with_reducible refine w_bm ?_
  | with_reducible refine w_ckw ?_
  | with_reducible refine w_tst ?_
  | with_reducible refine w_mk ?_
  | ((with_reducible apply w_psl); (focus (walk_at "fx")))
  | ((with_reducible apply w_mT); (focus (walk_at "fx")); (focus (exact rfl)))
  | ((with_reducible apply w_partner); (focus (walk_at "fx")))
  | ((with_reducible apply w_led); (focus (walk_at "fx")))
  | ((with_reducible apply w_spT); (focus (walk_at "fx")))
  | with_reducible refine w_lc ?_
  | with_reducible refine w_yes ?_
  | with_reducible refine w_gCons ?_
  | with_reducible refine w_gNil ?_
  | ((with_reducible apply w_gTup); (focus (walk_at "fx")); focus (exact rfl))
  | ((with_reducible apply w_minL2); focus (walk_at "fx"))
  | ((with_reducible apply w_slT); (focus assumption); (focus (walk_at "fx")))
  | ((with_reducible apply w_kIT); focus (walk_at "fx"))
  | ((with_reducible apply w_kIL); focus (walk_at "fx"))
  | with_reducible refine w_neg ?_
  | with_reducible refine w_tie ?_
  | with_reducible refine w_iT ?_
  | with_reducible refine w_iL ?_
  | with_reducible refine w_sFld ?_
  | with_reducible refine w_sSl ?_
  | with_reducible refine w_propSl ?_
  | with_reducible refine w_par ?_
  | with_reducible refine w_kPar ?_
  | with_reducible refine w_tup ?_
  | with_reducible refine w_lst ?_
  | with_reducible refine w_I0 ?_
  | with_reducible refine w_U ?_
  | with_reducible refine w_eqI ?_
  | with_reducible refine w_neI ?_
  | with_reducible refine w_eqS ?_
  | with_reducible refine w_neS ?_
  | with_reducible refine w_eqB ?_
  | with_reducible refine w_neB ?_
  | with_reducible refine w_isNn ?_
  | with_reducible refine w_isNr ?_
  | with_reducible refine w_isNi ?_
  | with_reducible refine w_notNn ?_
  | with_reducible refine w_notNr ?_
  | with_reducible refine w_notNi ?_
  | with_reducible refine w_xisN ?_
  | with_reducible refine w_fld ?_
  | with_reducible refine w_prop ?_
  | with_reducible refine w_meth ?_
  | ((with_reducible apply w_mod); focus assumption)
  | ((with_reducible apply w_mulW); (focus assumption); focus assumption)
  | ((with_reducible apply w_divW); (focus assumption); focus assumption)
  | with_reducible refine w_int1 ?_
  | with_reducible refine w_intB ?_
  | with_reducible refine w_min2 ?_
  | with_reducible refine w_max2 ?_
  | with_reducible refine w_abs ?_
  | with_reducible refine w_isiI ?_
  | with_reducible refine w_isiNB ?_
  | with_reducible refine w_isiB ?_
  | with_reducible refine w_isiS ?_
  | ((with_reducible apply w_isiT); (focus assumption); focus (walk_at "fx"))
  | ((with_reducible apply w_fTd); (focus assumption); focus (walk_at "fx"))
  | ((with_reducible apply w_fTb); (focus assumption); focus (walk_at "fx"))
  | ((with_reducible apply w_fTf); (focus assumption); focus (walk_at "fx"))
  | ((with_reducible apply w_fTs); (focus assumption); focus (walk_at "fx"))
  | ((with_reducible apply w_fTl); (focus assumption); focus (walk_at "fx"))
  | ((with_reducible apply w_fTa); (focus assumption); focus (walk_at "fx"))
  | ((with_reducible apply w_pT); focus (walk_at "fx"))
  | with_reducible refine w_sl ?_
  | ((with_reducible apply w_len); focus (walk_at "fx"))
  | ((with_reducible apply w_kT); focus (exact Nat.le_of_ble_eq_true rfl)))
local macro_rules | `(tactic| walk_at "ss") => `(tactic| repeat (walk_at "s"))
local macro_rules | `(tactic| walk_at "go") => `(tactic| ((try dsimp only [cxOf, Cx.nox, Cx.wish]); walk_at "ss"))
local macro_rules | `(tactic| walk_at "len") => `(tactic| (intro vs H Q E h; (repeat (obtain ⟨_, h⟩ := h)); all_goals (subst_vars; rfl)))
section
variable {P : Program} {w : World} {K : PySem.W.Frag} {mg : Str → Option Value} {base : Heap}
def spNum : Sp := fun vs H Q _ => ∃ i : Int, vs = [.str (S (intL i))] ∧ i.natAbs < 10 ^ 100 ∧ ∀ H', Ex H H' → Q (.int i) H'
theorem fig_of (i : Int) : Txt.removeprefix (S (intL i)) (S [45]) = S (TL.numL i.natAbs) := by
  unfold intL
  split
  · exact prefix_app [45] (TL.numL i.natAbs)
  · refine prefix_not ?_
    intro e
    cases h : TL.numL i.natAbs with
    | nil => exact TL.numL_ne _ h
    | cons d r =>
      rw [h] at e
      have hd : d = 45 := by simpa using e
      have := numL_mem (n := i.natAbs) (c := d) (by rw [h]; simp)
      omega
theorem ok_number_told (T : Tx K mg) : FnB P w K mg base CX0 1 (ga K "number_told") ["word"] (spNum) [] := by
  refine mkB (k := 0) T.f_number_told sc_number_told (fun _ _ _ _ _ _ us hl => match us, hl with | [_], _ => rfl) (by walk_at "len") fun cdv A outer s H vs Q E hr h => ?_
  obtain ⟨i, rfl, hi, k⟩ := h
  have hlen := intL_len hi
  have hnl := TL.numL_len (k := 100) (by decide) hi
  have hne := TL.numL_ne i.natAbs
  refine ⟨_, (pss_cons (ps_set (i := 1) sc_number_told.nd rfl (Or.inl rfl) (pe_m1 PySem.F.slot_str_removeprefix PySem.F.type_str_removeprefix mt_pre (pv 0) pe_str))
      (pss_cons (ps_if (PW.pt (pw_or (pt_cmpR op_eq (pv 1) pe_str (nomark _)) (pw_or1 (pt_not (pt_val (pe_callB (cr_all rfl) (by rfl) T.b_all (by decide +kernel) (pa_cons (pe_lc (own := [("sign", 2)]) (g := (gName 2)) rfl sc_number_told.nd (pi_str (pv 1)) (blkOk_by (N := n_number_told) (sc := defScope s_number_told) (by decide +kernel)) (fun _ _ _ _ _ => (pg_name (i := 2) sc_number_told.nd rfl (Or.inl rfl))) (fun _ _ _ _ _ => pts_nil) (fun _ _ _ _ _ => (pe_cmpR op_inS (pv 2) (g_str T.t_FIGURES) (by rfl)))) pa_nil))))))) (pss_one (ps_ret pe_non)) pss_nil)
      (pss_cons (ps_if (PW.pt (pw_and (pt_cmpR op_eq (pe_ix ix_str (pv 1) pe_int (fun _ _ => rfl)) pe_str (nomark _)) (pw_and1 (pt_cmpR op_ne (pv 0) pe_str (nomark _))))) (pss_one (ps_ret pe_non)) pss_nil)
      (pss_one (ps_ret (pe_callTy cl_intS (by rfl) T.b_int (by decide +kernel) (pa_cons (pv 0) pa_nil))))))), ?_⟩
  walk_at "go"
  refine w_pre (by rw [SX.S_len]; omega) ?_
  rw [s_m, fig_of]
  have hmem : ∀ c ∈ TL.numL i.natAbs, 48 ≤ c ∧ c ≤ 57 := fun c hc => numL_mem hc
  walk_at "ss"
  refine w_iteN (by rw [s_e]; intro e; exact hne (SX.S_inj e)) ?_
  walk_at "ss"
  have hsz : (S (TL.numL i.natAbs)).cps.size ≤ 1000 := by
    have : (S (TL.numL i.natAbs)).cps.size = (TL.numL i.natAbs).length := by simp
    omega
  refine lcN (walk_str (z := S (TL.numL i.natAbs))) (fun _ _ => trivial) (fun j v _ => v = .bl true) (fun j v => mo_const _) hsz (fun j x H0 H1 hj e0 hy Q' hQ => ?_) fun p ys H1 hp e1 hP hl hy => ?_
  · obtain ⟨rfl, c, hc, rfl⟩ := hy
    have hcm : c ∈ TL.numL i.natAbs := by
      have := Array.mem_of_getElem? hc
      simpa using this
    refine ⟨rfl, ?_⟩
    walk_at "ss"
    rw [fig_in (hmem c hcm)]
    exact hQ _ _ (Ex.refl _) rfl
  have hys : ys = (List.replicate ys.length true).map V.bl := by
    apply List.ext_getElem?
    intro j
    cases q : ys[j]? with
    | none =>
      have : ys.length ≤ j := List.getElem?_eq_none_iff.mp q
      rw [List.getElem?_eq_none (by simpa using this)]
    | some v =>
      have hj := (List.getElem?_eq_some_iff.mp q).1
      rw [hy j v q]
      simp [hj]
  walk_at "ss"
  refine w_all (bs := List.replicate ys.length true) (by rw [← hys]; exact sq_of hP) ?_
  have hall : (List.replicate ys.length true).all id = true := by simp
  rw [hall]
  walk_at "ss"
  obtain ⟨d, r, hd⟩ : ∃ d r, TL.numL i.natAbs = d :: r := by
    cases h : TL.numL i.natAbs with
    | nil => exact absurd h hne
    | cons d r => exact ⟨d, r, rfl⟩
  have hat : atI (S (TL.numL i.natAbs)).cps.toList 0 = some d := by
    have : (S (TL.numL i.natAbs)).cps.toList = d :: r := hd
    rw [this]; exact atI_nat (j := 0) rfl
  refine w_ixS (c := d) (by rw [SX.S_len]; omega) hat ?_
  walk_at "ss"
  rw [s_0]
  by_cases h0 : i.natAbs = 0
  · have hi0 : i = 0 := by omega
    subst hi0
    have ed : d = 48 := by
      have : TL.numL 0 = d :: r := hd
      rw [numL_zero] at this
      simp at this; exact this.1.symm
    subst ed
    refine w_iteP rfl ?_
    walk_at "ss"
    have e : (!decide (S (intL 0) = S [48])) = false := by
      have : intL 0 = [48] := by unfold intL; rw [if_neg (by decide)]; exact numL_zero
      rw [this]; simp
    rw [e]
    walk_at "ss"
    exact w_intS (intL_val hi) (by rw [SX.S_len]; omega) (k H1 e1)
  · obtain ⟨d', r', e1', hd'⟩ := numL_head i.natAbs (by omega)
    rw [hd] at e1'
    have : d = d' := by simp at e1'; exact e1'.1
    subst this
    refine w_iteN (fun z => hd' ?_) ?_
    · have := SX.S_inj (a := [d]) (b := [48]) z
      simpa using this
    walk_at "ss"
    exact w_intS (intL_val hi) (by rw [SX.S_len]; omega) (k H1 e1)
end
end K22
end

/-! # K23c -/
section
set_option Elab.async false
set_option linter.all false
set_option autoImplicit false
set_option maxRecDepth 100000
set_option maxHeartbeats 4000000
namespace K22
open PySem PySem.Spec PyProof.Rows L2
open He (ga ma fAd)
open Evl (Ex ex_l ex_t sq_of st_of fresh_back)
open SX (S)
theorem spl_words {ps : List (List Nat)} {c : Nat} (hc : c < 256) (hne : ps ≠ []) (h : ∀ p ∈ ps, c ∉ p) : Txt.split (S (TL.joinL [c] ps)) (S [c]) = ps.map S := by
  rw [SX.split_S (by simp) (by simp [hc]), SX.spl_join hne h]
/-- the text of a tie -/
def tieP (t : Ti) : List (List Nat) := [intL t.f, intL t.s, intL t.l, upL, intL t.a]
def tieL (t : Ti) : List Nat := TL.joinL [32] (tieP t)
structure Sz (t : Ti) : Prop where
  f : t.f.natAbs < 10 ^ 100
  s : t.s.natAbs < 10 ^ 100
  l : t.l.natAbs < 10 ^ 100
  a : t.a.natAbs < 10 ^ 100
theorem int_free {i : Int} {c : Nat} (hc : c ≠ 45) (h : c < 48 ∨ 57 < c) : c ∉ intL i := fun hm => by
  rcases intL_mem hm with e | e <;> omega
theorem tieP_free {t : Ti} : ∀ p ∈ tieP t, 32 ∉ p := by
  intro p hp
  simp only [tieP, List.mem_cons, List.not_mem_nil, or_false] at hp
  rcases hp with rfl | rfl | rfl | rfl | rfl
  · exact int_free (by decide) (.inl (by decide))
  · exact int_free (by decide) (.inl (by decide))
  · exact int_free (by decide) (.inl (by decide))
  · decide
  · exact int_free (by decide) (.inl (by decide))
theorem join_len (c : Nat) : ∀ ps : List (List Nat), (TL.joinL [c] ps).length ≤ (ps.map List.length).sum + ps.length
  | [] => by simp [TL.joinL]
  | [p] => by simp [TL.joinL]
  | p :: q :: r => by
    have := join_len c (q :: r)
    simp only [TL.joinL, List.length_append, List.length_cons, List.length_nil, List.map_cons, List.sum_cons] at *
    omega
theorem tieL_len {t : Ti} (h : Sz t) : (tieL t).length ≤ 420 := by
  have := join_len 32 (tieP t)
  have h1 := intL_len h.f; have h2 := intL_len h.s; have h3 := intL_len h.l; have h4 := intL_len h.a
  have h5 : upL.length = 2 := rfl
  unfold tieL
  simp only [tieP, List.map_cons, List.map_nil, List.sum_cons, List.sum_nil, List.length_cons, List.length_nil] at *
  omega
local macro_rules | `(tactic| walk_at "fx") => `(tactic| first
  | assumption
  | ((with_reducible apply TieAt.ex); (focus assumption); walk_at "fx")
  | ((with_reducible apply LinkAt.ex); (focus assumption); walk_at "fx")
  | ((with_reducible apply ex_l); (focus assumption); walk_at "fx")
  | ((with_reducible apply ex_t); (focus assumption); walk_at "fx")
  | ((with_reducible apply sq_of); walk_at "fx")
  | ((with_reducible apply st_of); walk_at "fx")
  | ((with_reducible apply ex_at); (focus assumption); walk_at "fx"))
local macro_rules | `(tactic| walk_at "s") => `(tactic| first
  | with_reducible refine w_seq ?_
  | ((with_reducible apply w_var); focus (exact rfl))
  | with_reducible refine w_c ?_
  | with_reducible refine w_op ?_
  | with_reducible refine w_cons ?_
  | with_reducible refine w_nil ?_
  | with_reducible refine w_asg ?_
  | with_reducible refine w_name ?_
  | with_reducible refine w_ret ?_
  | with_reducible refine w_retN ?_
  | with_reducible refine w_ifS ?_
  | with_reducible refine w_isB ?_
  | with_reducible refine w_test ?_
  | with_reducible refine w_tB ?_
  | with_reducible refine w_and ?_
  | with_reducible refine w_or ?_
  | with_reducible refine w_not ?_
  | with_reducible refine w_andV ?_
  | with_reducible refine w_orV ?_
  | with_reducible refine w_notV ?_
  | with_reducible refine w_if ?_
  | with_reducible refine w_iteT ?_
  | with_reducible refine w_iteF ?_
  | with_reducible refine w_iteNT ?_
  | with_reducible refine w_iteNF ?_
  | with_reducible refine w_un ?_
  | with_reducible refine w_call ?_
  | with_reducible refine w_cb ?_
  | with_reducible refine w_next ?_
  | with_reducible refine w_drop ?_
  | with_reducible refine w_for ?_
  | with_reducible refine w_dget0 ?_
  | with_reducible refine w_prsC ?_
  | with_reducible refine w_prsN ?_
  | with_reducible refine w_iZA ?_
  | with_reducible refine w_gSub ?_
  | with_reducible refine w_iR1 ?_
  | with_reducible refine w_p8 ?_
  | with_reducible refine w_p60 ?_
  | with_reducible refine w_p5 ?_
  | with_reducible refine w_p18 ?_
  | with_reducible refine w_p9 ?_
  | with_reducible refine w_p19 ?_
  | with_reducible refine w_p29 ?_
  | with_reducible refine w_m1 ?_
  | with_reducible refine w_kM1 ?_
  | with_reducible refine w_iStr ?_
  | with_reducible refine w_kStr ?_
  | with_reducible refine w_inS ?_
  | with_reducible refine w_sta ?_
  | with_reducible refine w_iEnumT ?_
  | with_reducible refine w_thn ?_
  | with_reducible refine w_chain ?_
  | with_reducible refine w_gAttr ?_
  | with_reducible refine w_isNr ?_
  | with_reducible refine w_iEnum ?_
  | ((with_reducible apply w_kEnum); focus (walk_at "fx"))
  | with_reducible refine w_sl3 ?_
  | with_reducible refine w_noPart ?_
  | with_reducible refine w_part ?_
  | with_reducible refine w_kPt ?_
  | with_reducible refine w_bm ?_
  | with_reducible refine w_ckw ?_
  | with_reducible refine w_tst ?_
  | with_reducible refine w_mk ?_
  | ((with_reducible apply w_psl); (focus (walk_at "fx")))
  | ((with_reducible apply w_mT); (focus (walk_at "fx")); (focus (exact rfl)))
  | ((with_reducible apply w_partner); (focus (walk_at "fx")))
  | ((with_reducible apply w_led); (focus (walk_at "fx")))
  | ((with_reducible apply w_spT); (focus (walk_at "fx")))
  | with_reducible refine w_lc ?_
  | with_reducible refine w_yes ?_
  | with_reducible refine w_gCons ?_
  | with_reducible refine w_gNil ?_
  | ((with_reducible apply w_gTup); (focus (walk_at "fx")); focus (exact rfl))
  | ((with_reducible apply w_minL2); focus (walk_at "fx"))
  | ((with_reducible apply w_slT); (focus assumption); (focus (walk_at "fx")))
  | ((with_reducible apply w_kIT); focus (walk_at "fx"))
  | ((with_reducible apply w_kIL); focus (walk_at "fx"))
  | with_reducible refine w_neg ?_
  | with_reducible refine w_tie ?_
  | with_reducible refine w_iT ?_
  | with_reducible refine w_iL ?_
  | with_reducible refine w_sFld ?_
  | with_reducible refine w_sSl ?_
  | with_reducible refine w_propSl ?_
  | with_reducible refine w_par ?_
  | with_reducible refine w_kPar ?_
  | with_reducible refine w_tup ?_
  | with_reducible refine w_lst ?_
  | with_reducible refine w_I0 ?_
  | with_reducible refine w_U ?_
  | with_reducible refine w_eqI ?_
  | with_reducible refine w_neI ?_
  | with_reducible refine w_eqS ?_
  | with_reducible refine w_neS ?_
  | with_reducible refine w_eqB ?_
  | with_reducible refine w_neB ?_
  | with_reducible refine w_isNn ?_
  | with_reducible refine w_isNr ?_
  | with_reducible refine w_isNi ?_
  | with_reducible refine w_notNn ?_
  | with_reducible refine w_notNr ?_
  | with_reducible refine w_notNi ?_
  | with_reducible refine w_xisN ?_
  | with_reducible refine w_fld ?_
  | with_reducible refine w_prop ?_
  | with_reducible refine w_meth ?_
  | ((with_reducible apply w_mod); focus assumption)
  | ((with_reducible apply w_mulW); (focus assumption); focus assumption)
  | ((with_reducible apply w_divW); (focus assumption); focus assumption)
  | with_reducible refine w_int1 ?_
  | with_reducible refine w_intB ?_
  | with_reducible refine w_min2 ?_
  | with_reducible refine w_max2 ?_
  | with_reducible refine w_abs ?_
  | with_reducible refine w_isiI ?_
  | with_reducible refine w_isiNB ?_
  | with_reducible refine w_isiB ?_
  | with_reducible refine w_isiS ?_
  | ((with_reducible apply w_isiT); (focus assumption); focus (walk_at "fx"))
  | ((with_reducible apply w_fTd); (focus assumption); focus (walk_at "fx"))
  | ((with_reducible apply w_fTb); (focus assumption); focus (walk_at "fx"))
  | ((with_reducible apply w_fTf); (focus assumption); focus (walk_at "fx"))
  | ((with_reducible apply w_fTs); (focus assumption); focus (walk_at "fx"))
  | ((with_reducible apply w_fTl); (focus assumption); focus (walk_at "fx"))
  | ((with_reducible apply w_fTa); (focus assumption); focus (walk_at "fx"))
  | ((with_reducible apply w_pT); focus (walk_at "fx"))
  | with_reducible refine w_sl ?_
  | ((with_reducible apply w_len); focus (walk_at "fx"))
  | ((with_reducible apply w_kT); focus (exact Nat.le_of_ble_eq_true rfl)))
local macro_rules | `(tactic| walk_at "ss") => `(tactic| repeat (walk_at "s"))
local macro_rules | `(tactic| walk_at "go") => `(tactic| ((try dsimp only [cxOf, Cx.nox, Cx.wish]); walk_at "ss"))
local macro_rules | `(tactic| walk_at "len") => `(tactic| (intro vs H Q E h; (repeat (obtain ⟨_, h⟩ := h)); all_goals (subst_vars; rfl)))
section
variable {P : Program} {w : World} {K : PySem.W.Frag} {mg : Str → Option Value} {base : Heap}
def spNums (K : PySem.W.Frag) : Sp := fun vs H Q _ => ∃ L, ∃ is : List Int, vs = [.ref L] ∧ SqL K H L (is.map fun i => .str (S (intL i))) ∧ (∀ i ∈ is, i.natAbs < 10 ^ 100) ∧ is.length ≤ 100 ∧ ∀ F H', Ex H H' → H' F = some (.lst (is.map V.int)) → Q (.ref F) H'
theorem none_in (is : List Int) : inV .non (is.map V.int) = false := by
  unfold inV
  rw [List.any_eq_false]
  intro x hx
  obtain ⟨i, _, rfl⟩ := List.mem_map.mp hx
  simp [eqV]
theorem flat_ints (is : List Int) : (is.map V.int).all flatV = true := by
  rw [List.all_eq_true]
  intro x hx
  obtain ⟨i, _, rfl⟩ := List.mem_map.mp hx
  rfl
theorem ok_numbers_told (T : Tx K mg) : FnB P w K mg base CX0 2 (ga K "numbers_told") ["words"] (spNums K) [] := by
  refine mkB (k := 1) T.f_numbers_told sc_numbers_told (fun _ _ _ _ _ _ us hl => match us, hl with | [_], _ => rfl) (by walk_at "len") fun cdv A outer s H vs Q E hr h => ?_
  obtain ⟨L, is, rfl, hL, hb, hlen, k⟩ := h
  refine ⟨_, (pss_cons (ps_setLc (i := 1) (own := [("word", 2)]) (g := (gName 2)) rfl sc_numbers_told.nd rfl rfl (sw_true rfl rfl rfl (by decide +kernel)) (pi_list (pv 0)) (blkOk_by (N := n_numbers_told) (sc := defScope s_numbers_told) (by decide +kernel)) (fun _ _ _ _ _ => (pg_name (i := 2) sc_numbers_told.nd rfl (Or.inl rfl))) (fun _ _ _ _ _ => pts_nil) (fun _ _ _ _ _ => (c_fn (ok_number_told T) (hr.mono (by decide)) T.m_number_told T.kp_number_told pass0 (pa_cons (pv 2) pa_nil))))
      (pss_one (ps_ret (pe_ifExp (pt_cmpR op_in_seq pe_non (pv 1) (by rfl)) pe_non (pv 1))))), ?_⟩
  walk_at "go"
  refine lcN walk_list (fun H' e => ex_l e hL) (fun i v _ => (is.map V.int)[i]? = some v) (fun i v => mo_const _) (by simp; omega) (fun i x H0 H1 hi e0 hy Q' hQ => ?_) fun p ys H1 hp e1 hP hl hy => ?_
  · obtain ⟨rfl, hx⟩ := hy
    have hi' : i < is.length := by simpa using hi
    have ex : x = .str (S (intL is[i])) := by simp [List.getElem?_map, List.getElem?_eq_getElem hi'] at hx; exact hx.symm
    subst ex
    refine ⟨rfl, ?_⟩
    walk_at "ss"
    refine ⟨is[i], rfl, hb _ (List.getElem_mem hi'), fun H2 e2 => ?_⟩
    exact hQ _ H2 e2 (by simp [List.getElem?_map, List.getElem?_eq_getElem hi'])
  have hys : ys = is.map V.int := by
    apply List.ext_getElem?
    intro j
    cases q : ys[j]? with
    | none =>
      have : ys.length ≤ j := List.getElem?_eq_none_iff.mp q
      rw [List.getElem?_eq_none (by rw [hl] at this; simpa using this)]
    | some v => exact (hy j v q).symm
  subst hys
  walk_at "ss"
  refine w_inL (sq_of hP) rfl (flat_ints is) ?_
  rw [none_in]
  walk_at "ss"
  exact k p H1 e1 hP
/-- the parts of a line -/
def spParts : Sp := fun vs H Q _ => ∃ wd ps hd, ∃ many : Nat, vs = [.str (S (TL.joinL [32] (wd :: ps))), .str (S hd), .int many] ∧ (∀ p ∈ wd :: ps, 32 ∉ p) ∧ (TL.joinL [32] (wd :: ps)).length ≤ 10000 ∧
  ((wd = hd ∧ many = ps.length ∧ ∀ L H', Ex H H' → H' L = some (.lst (ps.map fun p => .str (S p))) → Q (.ref L) H') ∨ (wd ≠ hd ∧ ∀ H', Ex H H' → Q .non H'))
theorem ok_line_parts (T : Tx K mg) : FnB P w K mg base CX0 1 (ga K "line_parts") ["line", "head", "many"] (spParts) [] := by
  refine mkB (k := 0) T.f_line_parts sc_line_parts (fun _ _ _ _ _ _ us hl => match us, hl with | [_, _, _], _ => rfl) (by walk_at "len") fun cdv A outer s H vs Q E hr h => ?_
  obtain ⟨wd, ps, hd, many, rfl, hf, hlen, k⟩ := h
  refine ⟨_, (pss_cons (ps_asg (pe_m1 PySem.F.slot_str_split PySem.F.type_str_split mt_spl (pv 0) (g_str T.t_BLANK)) (pg_star (by rfl) (pgs_cons (pg_name (i := 3) sc_line_parts.nd rfl (Or.inl rfl)) (pgs_cons (pg_name (i := 4) sc_line_parts.nd rfl (Or.inl rfl)) pgs_nil))))
      (pss_one (ps_ret (pe_ifExp (PW.pt (pw_and (pt_cmpR op_eq (pv 3) (pv 1) (nomark _)) (pw_and1 (pt_cmpR op_eq (pe_callB cl_len (by rfl) T.b_len (by decide +kernel) (pa_cons (pv 4) pa_nil)) (pv 2) (nomark _))))) (pv 4) pe_non)))), ?_⟩
  walk_at "go"
  rw [s_b]
  refine w_spl (by decide) (by rw [SX.S_len]; omega) fun p H1 hp e1 hP => ?_
  rw [spl_words (by decide) (by simp) hf, List.map_cons, List.map_cons] at hP
  refine w_gStar (sq_of hP) fun q H2 hq e2 hQ => ?_
  walk_at "ss"
  rcases k with ⟨rfl, hm, k⟩ | ⟨hw, k⟩
  · refine w_iteP rfl ?_
    walk_at "ss"
    refine w_iteP (by rw [hm]; simp) ?_
    walk_at "ss"
    refine k q H2 (e1.trans e2) ?_
    rw [hQ, List.map_map]; rfl
  · refine w_iteN (fun z => hw (SX.S_inj z)) ?_
    walk_at "ss"
    exact k H2 (e1.trans e2)
def spWithin (K : PySem.W.Frag) : Sp := fun vs H Q _ => ∃ a t n, vs = [.ref a, .int n] ∧ TieAt K H a t ∧ max t.f t.s + t.l ≤ n ∧ Q (.bl true) H
theorem ok_is_tie_within (T : Tx K mg) : FnB P w K mg base CX0 3 (ga K "is_tie_within") ["value", "size"] (spWithin K) [] := by
  refine mkB (k := 2) T.f_is_tie_within sc_is_tie_within (fun _ _ _ _ _ _ us hl => match us, hl with | [_, _], _ => rfl) (by walk_at "len") fun cdv A outer s H vs Q E hr h => ?_
  obtain ⟨a, t, n, rfl, hT, hn, k⟩ := h
  refine ⟨_, (pss_one (ps_ret (pe_and (pe_callB call_isi (by rfl) T.b_isinstance (by decide +kernel) (pa_cons (pv 0) (pa_cons (g_ref T.m_Tie) pa_nil))) (pe_one (pe_cmpR op_le (pe_op op_add (pe_callB (cl_max2 rfl) (by rfl) T.b_max (by decide +kernel) (pa_cons (c_prop (ok_Tie_first T) (hr.mono (by decide)) T.c_Tie T.p_Tie_first (pv 0)) (pa_cons (c_prop (ok_Tie_second T) (hr.mono (by decide)) T.c_Tie T.p_Tie_second (pv 0)) pa_nil))) (c_prop (ok_Tie_length T) (hr.mono (by decide)) T.c_Tie T.p_Tie_length (pv 0))) (pv 1) (nomark _)))))), ?_⟩
  walk_at "go"
  rw [decide_eq_true hn]
  exact k
def spTieTold (K : PySem.W.Frag) : Sp := fun vs H Q _ => ∃ t, vs = [.str (S (tieL t))] ∧ Good t ∧ Sz t ∧ NewT K H Q t
theorem ok_tie_told (T : Tx K mg) : FnB P w K mg base CX0 4 (ga K "tie_told") ["text"] (spTieTold K) [] := by
  refine mkB (k := 3) T.f_tie_told sc_tie_told (fun _ _ _ _ _ _ us hl => match us, hl with | [_], _ => rfl) (by walk_at "len") fun cdv A outer s H vs Q E hr h => ?_
  obtain ⟨t, rfl, hg, hs, k⟩ := h
  have hlen := tieL_len hs
  refine ⟨_, (pss_cons (ps_set (i := 1) sc_tie_told.nd rfl (Or.inl rfl) (pe_ifExp (pt_val (pe_callB call_isi (by rfl) T.b_isinstance (by decide +kernel) (pa_cons (pv 0) (pa_cons (pe_bltn (by rfl) T.b_str (by decide +kernel) (v := .ty "str") rfl) pa_nil)))) (pe_m1 PySem.F.slot_str_split PySem.F.type_str_split mt_spl (pv 0) (g_str T.t_BLANK)) (pe_lst pa_nil)))
      (pss_cons (ps_set (i := 2) sc_tie_told.nd rfl (Or.inl rfl) (pe_and (pe_cmpR op_eq (pe_callB cl_len (by rfl) T.b_len (by decide +kernel) (pa_cons (pv 1) pa_nil)) (g_int T.i_MOST_WORDS) (nomark _)) (pe_one (pe_cmpR op_eq (pe_ix ix_list (pv 1) (pe_un un_neg pe_int) (fun _ _ => rfl)) (g_str T.t_BACK_ties) (nomark _)))))
      (pss_cons (ps_if (PW.pt (pw_or (PW.pt (pw_and (pt_not (pt_val (pv 2))) (pw_and1 (pt_cmpR op_ne (pe_callB cl_len (by rfl) T.b_len (by decide +kernel) (pa_cons (pv 1) pa_nil)) (g_int T.i_WORDS) (nomark _))))) (pw_or1 (pt_cmpR op_notIn_seq (pe_ix ix_list (pv 1) (pe_op op_sub (g_int T.i_WORDS) pe_int) (fun _ _ => rfl)) (pe_tup (pa_cons (g_str T.t_UP) (pa_cons (g_str T.t_DOWN) pa_nil))) (by rfl))))) (pss_one (ps_ret pe_non)) pss_nil)
      (pss_cons (ps_set (i := 3) sc_tie_told.nd rfl (Or.inl rfl) (c_fn (ok_numbers_told T) (hr.mono (by decide)) T.m_numbers_told T.kp_numbers_told pass0 (pa_cons (pe_lst (StX.pa_star (pe_slice sl_list (pv 1) po_none (po_some (pe_op op_sub (g_int T.i_WORDS) pe_int))) (pa_cons (pe_ix ix_list (pv 1) (pe_op op_sub (g_int T.i_WORDS) pe_int) (fun _ _ => rfl)) pa_nil))) pa_nil)))
      (pss_cons (ps_if (pt_cmpR op_isN1 (pv 3) pe_non (nomark _)) (pss_one (ps_ret pe_non)) pss_nil)
      (pss_one (ps_try_only (tb := fun _ => tSeq (tAsg (tVar 3) (gLst K 4 (gCons (gName 4) (gCons (gName 5) (gCons (gName 6) (gCons (gName 7) gNil)))))) (tRet (tTie K E0 (tCons (tVar 4) (tCons (tVar 5) (tCons (tVar 6) (tCons (tVar 7) tNil)))) (tCons (tOp rEq (tOp (rIxL K) (tVar 1) (tOp (rI0 fun i j => .int (i - j)) (tC (.int 5)) (tC (.int 2)))) (tC (.str "down"))) (tCons (tVar 2) tNil))))) (ts := fun _ _ _ => tNever) (Wout := fun _ _ _ _ => False) rfl rfl ⟨rfl, by decide, Or.inl T.m_TuneError⟩ takesF (fun W pn xe tk _ => pss_cons (ps_asg (pv 3) (pg_lst (n := 4) (by rfl) (pgs_cons (pg_name (i := 4) sc_tie_told.nd rfl (Or.inl rfl)) (pgs_cons (pg_name (i := 5) sc_tie_told.nd rfl (Or.inl rfl)) (pgs_cons (pg_name (i := 6) sc_tie_told.nd rfl (Or.inl rfl)) (pgs_cons (pg_name (i := 7) sc_tie_told.nd rfl (Or.inl rfl)) pgs_nil)))))) (pss_one (ps_ret (c_tie4 T (hr.mono (by decide)) pass0 (pa_cons (pv 4) (pa_cons (pv 5) (pa_cons (pv 6) (pa_cons (pv 7) pa_nil)))) (pk_cons (pe_cmpR op_eq (pe_ix ix_list (pv 1) (pe_op op_sub (g_int T.i_WORDS) pe_int) (fun _ _ => rfl)) (g_str T.t_DOWN) (nomark _)) (pk_cons (pv 2) pk_nil)))))) (fun a oe cls d pn _ _ => pss_one ps_never)))))))), ?_⟩
  walk_at "go"
  rw [s_b]
  refine w_spl (by decide) (by rw [SX.S_len]; omega) fun p H1 hp e1 hP => ?_
  have hw : Txt.split (S (tieL t)) (S [32]) = (tieP t).map S := spl_words (by decide) (by simp [tieP]) tieP_free
  rw [hw] at hP
  have hP' : H1 p = some (.lst [.str (S (intL t.f)), .str (S (intL t.s)), .str (S (intL t.l)), .str (S upL), .str (S (intL t.a))]) := hP
  walk_at "ss"
  refine w_iteN (show ¬ ((5 : Nat) : Int) = 6 by decide) ?_
  walk_at "ss"
  refine iteNS (show ((5 : Nat) : Int) = 5 by decide) ?_
  walk_at "ss"
  refine w_ixL (sq_of hP') (v := .str (S upL)) rfl ?_
  walk_at "ss"
  intro p2 H2 hp2 e2 hP2
  rw [s_up, s_down] at hP2
  refine w_niT (st_of hP2) rfl rfl ?_
  have hin : inV (.str (S upL)) [.str (S upL), .str (S [100, 111, 119, 110])] = true := by simp [inV, eqV]
  rw [hin]
  walk_at "ss"
  have hP3 := e2 _ _ hP'
  refine w_slL (sq_of hP3) fun p4 H4 hp4 e4 hP4 => ?_
  have hP4' : H4 p4 = some (.lst [.str (S (intL t.f)), .str (S (intL t.s)), .str (S (intL t.l))]) := hP4
  refine w_kStar (sq_of hP4') ?_
  walk_at "ss"
  have hP5 := e4 _ _ hP3
  refine w_ixL (sq_of hP5) (v := .str (S (intL t.a))) rfl ?_
  walk_at "ss"
  refine w_kL (Nat.le_of_ble_eq_true rfl) fun p6 H6 hp6 e6 hP6 => ?_
  walk_at "ss"
  refine ⟨p6, [t.f, t.s, t.l, t.a], rfl, sq_of hP6, fun i hi => ?_, by simp, fun F H7 e7 hF => ?_⟩
  · simp only [List.mem_cons, List.not_mem_nil, or_false] at hi
    rcases hi with rfl | rfl | rfl | rfl
    · exact hs.f
    · exact hs.s
    · exact hs.l
    · exact hs.a
  walk_at "ss"
  refine w_gLst (sq_of hF) rfl ?_
  show gCons _ _ [V.int t.f, V.int t.s, V.int t.l, V.int t.a] _ _ _
  walk_at "ss"
  have hP8 := e7 _ _ (e6 _ _ hP5)
  refine w_ixL (sq_of hP8) (v := .str (S upL)) rfl ?_
  walk_at "ss"
  have hne : decide (S upL = Str.ofString "down") = false := by rw [s_down]; decide
  rw [hne]
  refine w_kTie hg fun q H9 hq e9 hT9 => ?_
  exact w_newT k ((((e1.trans e2).trans e4).trans e6).trans e7) e9 hT9 rfl
/-! ## the lines of a book -/
def lineL (t : Ti) : List Nat := TL.joinL [32] (tieW :: tieP t)
def sizeL (n : Int) : List Nat := TL.joinL [32] [sizeW, intL n]
theorem lineL_eq (t : Ti) : lineL t = (tieW ++ [32]) ++ tieL t := by
  show tieW ++ ([32] ++ TL.joinL [32] (tieP t)) = _
  rw [List.append_assoc]; rfl
theorem lineL_len {t : Ti} (h : Sz t) : (lineL t).length ≤ 424 := by
  have := tieL_len h
  rw [lineL_eq, List.length_append, List.length_append]
  have e : tieW.length = 3 := rfl
  simp only [List.length_cons, List.length_nil]; omega
def spSizeTold : Sp := fun vs H Q _ => ∃ n : Int, vs = [.str (S (sizeL n))] ∧ 1 ≤ n ∧ n ≤ 10 ^ 30 ∧ ∀ H', Ex H H' → Q (.int n) H'
theorem ok_size_told (T : Tx K mg) : FnB P w K mg base CX0 2 (ga K "size_told") ["line"] (spSizeTold) [] := by
  refine mkB (k := 1) T.f_size_told sc_size_told (fun _ _ _ _ _ _ us hl => match us, hl with | [_], _ => rfl) (by walk_at "len") fun cdv A outer s H vs Q E hr h => ?_
  obtain ⟨n, rfl, h1, h2, k⟩ := h
  have hn : n.natAbs < 10 ^ 100 := by omega
  have hlen := intL_len hn
  refine ⟨_, (pss_cons (ps_set (i := 1) sc_size_told.nd rfl (Or.inl rfl) (c_fn (ok_line_parts T) (hr.mono (by decide)) T.m_line_parts T.kp_line_parts pass0 (pa_cons (pv 0) (pa_cons (g_str T.t_SIZE) (pa_cons pe_int pa_nil)))))
      (pss_cons (ps_set (i := 2) sc_size_told.nd rfl (Or.inl rfl) (pe_ifExp (pt_cmpR op_notN1 (pv 1) pe_non (nomark _)) (c_fn (ok_number_told T) (hr.mono (by decide)) T.m_number_told T.kp_number_told pass0 (pa_cons (pe_ix ix_list (pv 1) pe_int (fun _ _ => rfl)) pa_nil)) pe_non))
      (pss_one (ps_ret (pe_ifExp (PW.pt (pw_and (pt_cmpR op_notN1 (pv 2) pe_non (nomark _)) (pw_and1 (pt_chain op_le op_le pe_int (pv 2) (g_int T.i_END))))) (pv 2) pe_non))))), ?_⟩
  walk_at "go"
  rw [s_size]
  refine ⟨sizeW, [intL n], sizeW, 1, rfl, fun p hp => ?_, ?_, .inl ⟨rfl, rfl, fun L H1 e1 hL => ?_⟩⟩
  · simp only [List.mem_cons, List.not_mem_nil, or_false] at hp
    rcases hp with rfl | rfl
    · decide
    · exact int_free (by decide) (.inl (by decide))
  · have := join_len 32 [sizeW, intL n]
    have e : sizeW.length = 4 := rfl
    simp only [List.map_cons, List.map_nil, List.sum_cons, List.sum_nil, List.length_cons, List.length_nil] at this
    omega
  walk_at "ss"
  refine w_ixL (sq_of hL) (v := .str (S (intL n))) rfl ?_
  walk_at "ss"
  refine ⟨n, rfl, hn, fun H2 e2 => ?_⟩
  walk_at "ss"
  refine w_iteP h1 ?_
  walk_at "ss"
  refine w_iteP h2 ?_
  walk_at "ss"
  exact k H2 (e1.trans e2)
def spTieIn (K : PySem.W.Frag) : Sp := fun vs H Q _ => ∃ t n, vs = [.str (S (lineL t)), .int n] ∧ Good t ∧ Sz t ∧ max t.f t.s + t.l ≤ n ∧ NewT K H Q t
theorem ok_tie_in (T : Tx K mg) : FnB P w K mg base CX0 5 (ga K "tie_in") ["line", "size"] (spTieIn K) [] := by
  refine mkB (k := 4) T.f_tie_in sc_tie_in (fun _ _ _ _ _ _ us hl => match us, hl with | [_, _], _ => rfl) (by walk_at "len") fun cdv A outer s H vs Q E hr h => ?_
  obtain ⟨t, n, rfl, hg, hs, hn, k⟩ := h
  have hlen := lineL_len hs
  refine ⟨_, (pss_cons (ps_set (i := 2) sc_tie_in.nd rfl (Or.inl rfl) (pe_ifExp (pt_val (pe_m1 PySem.F.slot_str_startswith PySem.F.type_str_startswith mt_sta (pv 0) (pe_op op_catS (g_str T.t_TIE) (g_str T.t_BLANK)))) (c_fn (ok_tie_told T) (hr.mono (by decide)) T.m_tie_told T.kp_tie_told pass0 (pa_cons (pe_m1 PySem.F.slot_str_removeprefix PySem.F.type_str_removeprefix mt_pre (pv 0) (pe_op op_catS (g_str T.t_TIE) (g_str T.t_BLANK))) pa_nil)) pe_non))
      (pss_one (ps_ret (pe_ifExp (PW.pt (pw_and (pt_cmpR op_notN1 (pv 2) pe_non (nomark _)) (pw_and1 (pt_val (c_fn (ok_is_tie_within T) (hr.mono (by decide)) T.m_is_tie_within T.kp_is_tie_within pass0 (pa_cons (pv 2) (pa_cons (pv 1) pa_nil))))))) (pv 2) pe_non)))), ?_⟩
  walk_at "go"
  have hcat : (Str.ofString "tie") ++ (Str.ofString " ") = S (tieW ++ [32]) := by rw [s_tie, s_b, SX.S_cat]
  refine w_catS (by decide) ?_
  rw [hcat, lineL_eq]
  refine w_sta ?_
  rw [starts_app]
  walk_at "ss"
  refine w_catS (by decide) ?_
  rw [hcat]
  refine w_pre (by rw [SX.S_len, ← lineL_eq]; omega) ?_
  rw [prefix_app]
  walk_at "ss"
  refine ⟨t, rfl, hg, hs, fun p H1 e1 hT => ?_⟩
  walk_at "ss"
  refine ⟨p, t, n, rfl, hT, hn, ?_⟩
  walk_at "ss"
  exact w_newT k (Ex.refl H) e1 hT rfl
/-- no note -/
def spNoNote : Sp := fun vs H Q _ => ∃ t n, vs = [.str (S (lineL t)), .int n] ∧ Sz t ∧ ∀ H', Ex H H' → Q .non H'
theorem ok_note_in (T : Tx K mg) : FnB P w K mg base CX0 3 (ga K "note_in") ["line", "size"] (spNoNote) [] := by
  refine mkB (k := 2) T.f_note_in sc_note_in (fun _ _ _ _ _ _ us hl => match us, hl with | [_, _], _ => rfl) (by walk_at "len") fun cdv A outer s H vs Q E hr h => ?_
  obtain ⟨t, n, rfl, hs, k⟩ := h
  have hlen := lineL_len hs
  refine ⟨_, (pss_cons (ps_set (i := 2) sc_note_in.nd rfl (Or.inl rfl) (c_fn (ok_line_parts T) (hr.mono (by decide)) T.m_line_parts T.kp_line_parts pass0 (pa_cons (pv 0) (pa_cons (g_str T.t_NOTE_books) (pa_cons (g_int T.i_PAIR) pa_nil)))))
      (pss_cons (ps_set (i := 3) sc_note_in.nd rfl (Or.inl rfl) (pe_ifExp (pt_cmpR op_notN1 (pv 2) pe_non (nomark _)) (c_fn (ok_numbers_told T) (hr.mono (by decide)) T.m_numbers_told T.kp_numbers_told pass0 (pa_cons (pv 2) pa_nil)) pe_non))
      (pss_cons (ps_if (PW.pt (pw_or (pt_cmpR op_isN1 (pv 3) pe_non (nomark _)) (pw_or1 (pt_not (pt_chain op_le op_lt pe_int (pe_ix ix_list (pv 3) pe_int (fun _ _ => rfl)) (pv 1)))))) (pss_one (ps_ret pe_non)) pss_nil)
      (pss_one ps_never)))), ?_⟩
  walk_at "go"
  rw [s_note]
  refine ⟨tieW, tieP t, noteW, 2, rfl, fun p hp => ?_, by show (lineL t).length ≤ _; omega, .inr ⟨by decide, fun H1 e1 => ?_⟩⟩
  · rcases List.mem_cons.mp hp with rfl | hp
    · decide
    · exact tieP_free p hp
  walk_at "ss"
  exact k H1 e1
end
end K22
end

/-! # K23d -/
section
set_option Elab.async false
set_option linter.all false
set_option autoImplicit false
set_option maxRecDepth 100000
set_option maxHeartbeats 4000000
namespace K22
open PySem PySem.Spec PyProof.Rows L2
open He (ga ma fAd)
open Evl (Ex ex_l ex_t sq_of st_of fresh_back)
open SX (S)
def bookL (n : Int) (ts : List Ti) : List Nat := TL.joinL [10] (sizeL n :: ts.map lineL)
structure BookOk (n : Int) (ts : List Ti) : Prop where
  n1 : 1 ≤ n
  n2 : n ≤ 10 ^ 30
  len : ts.length ≤ 12
  good : ∀ t ∈ ts, Good t ∧ Sz t ∧ max t.f t.s + t.l ≤ n
theorem join_mem {c d : Nat} (hd : d ≠ c) : ∀ ps : List (List Nat), (∀ p ∈ ps, d ∉ p) → d ∉ TL.joinL [c] ps
  | [], _ => by simp [TL.joinL]
  | [p], h => by simpa [TL.joinL] using h p (by simp)
  | p :: q :: r, h => by
    have h1 := join_mem hd (q :: r) (fun x hx => h x (List.mem_cons_of_mem _ hx))
    have h2 := h p (by simp)
    simp only [TL.joinL, List.mem_append, List.mem_cons, List.not_mem_nil, or_false, not_or] at *
    exact ⟨h2, hd, h1⟩
theorem line_free (t : Ti) : 10 ∉ lineL t := by
  refine join_mem (by decide) _ fun p hp => ?_
  simp only [tieP, List.mem_cons, List.not_mem_nil, or_false] at hp
  rcases hp with rfl | rfl | rfl | rfl | rfl | rfl
  · decide
  · exact int_free (by decide) (.inl (by decide))
  · exact int_free (by decide) (.inl (by decide))
  · exact int_free (by decide) (.inl (by decide))
  · decide
  · exact int_free (by decide) (.inl (by decide))
theorem size_free (n : Int) : 10 ∉ sizeL n := by
  refine join_mem (by decide) _ fun p hp => ?_
  simp only [List.mem_cons, List.not_mem_nil, or_false] at hp
  rcases hp with rfl | rfl
  · decide
  · exact int_free (by decide) (.inl (by decide))
theorem size_len {n : Int} (h : n.natAbs < 10 ^ 100) : (sizeL n).length ≤ 108 := by
  have := join_len 32 [sizeW, intL n]
  have hl := intL_len h
  have e : sizeW.length = 4 := rfl
  unfold sizeL
  simp only [List.map_cons, List.map_nil, List.sum_cons, List.sum_nil, List.length_cons, List.length_nil] at this
  omega
theorem sum_le {l : List Nat} {b : Nat} (h : ∀ x ∈ l, x ≤ b) : l.sum ≤ l.length * b := by
  induction l with
  | nil => simp
  | cons x r ih =>
    have h1 := h x (by simp)
    have h2 := ih (fun y hy => h y (List.mem_cons_of_mem _ hy))
    simp only [List.sum_cons, List.length_cons, Nat.add_mul, Nat.one_mul]
    omega
theorem BookOk.len_le {n : Int} {ts : List Ti} (h : BookOk n ts) : (bookL n ts).length ≤ 10000 := by
  have h1 := join_len 10 (sizeL n :: ts.map lineL)
  have h2 := size_len (n := n) (by have := h.n1; have := h.n2; omega)
  have h3 : ((ts.map lineL).map List.length).sum ≤ ((ts.map lineL).map List.length).length * 424 := sum_le (fun x hx => by
    obtain ⟨y, hy, rfl⟩ := List.mem_map.mp hx
    obtain ⟨t, ht, rfl⟩ := List.mem_map.mp hy
    exact lineL_len (h.good t ht).2.1)
  have h4 := h.len
  simp only [List.length_map] at h3
  unfold bookL
  simp only [List.map_cons, List.sum_cons, List.length_cons, List.length_map] at h1
  omega
theorem cut_tail (x : V) (xs : List V) : cutV (x :: xs) (some 1) none = xs := by
  unfold cutV
  have e : (1 : Int) = ((1 : Nat) : Int) := rfl
  rw [e, HT.sIx_none, HT.sIx_nat]
  have : min 1 (x :: xs).length = 1 := by simp
  rw [this, List.drop_succ_cons, List.drop_zero, List.take_of_length_le (by simp)]
theorem w_eqNil {K : PySem.W.Frag} {H : Hp} {Q : VK} {a b : Addr} (ha : SqL K H a []) (hb : SqL K H b []) (h : Q (.bl true) H) : rEqD K (.ref a) (.ref b) H Q := by
  refine ⟨.list [], .list [], .lst ha .nil, .lst hb .nil, rfl, rfl, ?_⟩
  rw [SeqAt.eqv_refl _ (by simp [PyData.canLay0, PyData.canLayAll0])]
  exact h
local macro_rules | `(tactic| walk_at "fx") => `(tactic| first
  | assumption
  | ((with_reducible apply TieAt.ex); (focus assumption); walk_at "fx")
  | ((with_reducible apply LinkAt.ex); (focus assumption); walk_at "fx")
  | ((with_reducible apply ex_l); (focus assumption); walk_at "fx")
  | ((with_reducible apply ex_t); (focus assumption); walk_at "fx")
  | ((with_reducible apply sq_of); walk_at "fx")
  | ((with_reducible apply st_of); walk_at "fx")
  | ((with_reducible apply ex_at); (focus assumption); walk_at "fx"))
local macro_rules | `(tactic| walk_at "s") => `(tactic| first
  | with_reducible refine w_seq ?_
  | ((with_reducible apply w_var); focus (exact rfl))
  | with_reducible refine w_c ?_
  | with_reducible refine w_op ?_
  | with_reducible refine w_cons ?_
  | with_reducible refine w_nil ?_
  | with_reducible refine w_asg ?_
  | with_reducible refine w_name ?_
  | with_reducible refine w_ret ?_
  | with_reducible refine w_retN ?_
  | with_reducible refine w_ifS ?_
  | with_reducible refine w_isB ?_
  | with_reducible refine w_test ?_
  | with_reducible refine w_tB ?_
  | with_reducible refine w_and ?_
  | with_reducible refine w_or ?_
  | with_reducible refine w_not ?_
  | with_reducible refine w_andV ?_
  | with_reducible refine w_orV ?_
  | with_reducible refine w_notV ?_
  | with_reducible refine w_if ?_
  | with_reducible refine w_iteT ?_
  | with_reducible refine w_iteF ?_
  | with_reducible refine w_iteNT ?_
  | with_reducible refine w_iteNF ?_
  | with_reducible refine w_un ?_
  | with_reducible refine w_call ?_
  | with_reducible refine w_cb ?_
  | with_reducible refine w_next ?_
  | with_reducible refine w_drop ?_
  | with_reducible refine w_for ?_
  | with_reducible refine w_dget0 ?_
  | with_reducible refine w_prsC ?_
  | with_reducible refine w_prsN ?_
  | with_reducible refine w_iZA ?_
  | with_reducible refine w_gSub ?_
  | with_reducible refine w_iR1 ?_
  | with_reducible refine w_p8 ?_
  | with_reducible refine w_p60 ?_
  | with_reducible refine w_p5 ?_
  | with_reducible refine w_p18 ?_
  | with_reducible refine w_p9 ?_
  | with_reducible refine w_p19 ?_
  | with_reducible refine w_p29 ?_
  | with_reducible refine w_m1 ?_
  | with_reducible refine w_kM1 ?_
  | with_reducible refine w_iStr ?_
  | with_reducible refine w_kStr ?_
  | with_reducible refine w_inS ?_
  | with_reducible refine w_sta ?_
  | with_reducible refine w_iEnumT ?_
  | with_reducible refine w_thn ?_
  | with_reducible refine w_chain ?_
  | with_reducible refine w_gAttr ?_
  | with_reducible refine w_isNr ?_
  | with_reducible refine w_iEnum ?_
  | ((with_reducible apply w_kEnum); focus (walk_at "fx"))
  | with_reducible refine w_sl3 ?_
  | with_reducible refine w_noPart ?_
  | with_reducible refine w_part ?_
  | with_reducible refine w_kPt ?_
  | with_reducible refine w_bm ?_
  | with_reducible refine w_ckw ?_
  | with_reducible refine w_tst ?_
  | with_reducible refine w_mk ?_
  | ((with_reducible apply w_psl); (focus (walk_at "fx")))
  | ((with_reducible apply w_mT); (focus (walk_at "fx")); (focus (exact rfl)))
  | ((with_reducible apply w_partner); (focus (walk_at "fx")))
  | ((with_reducible apply w_led); (focus (walk_at "fx")))
  | ((with_reducible apply w_spT); (focus (walk_at "fx")))
  | with_reducible refine w_lc ?_
  | with_reducible refine w_yes ?_
  | with_reducible refine w_gCons ?_
  | with_reducible refine w_gNil ?_
  | ((with_reducible apply w_gTup); (focus (walk_at "fx")); focus (exact rfl))
  | ((with_reducible apply w_minL2); focus (walk_at "fx"))
  | ((with_reducible apply w_slT); (focus assumption); (focus (walk_at "fx")))
  | ((with_reducible apply w_kIT); focus (walk_at "fx"))
  | ((with_reducible apply w_kIL); focus (walk_at "fx"))
  | with_reducible refine w_neg ?_
  | with_reducible refine w_tie ?_
  | with_reducible refine w_iT ?_
  | with_reducible refine w_iL ?_
  | with_reducible refine w_sFld ?_
  | with_reducible refine w_sSl ?_
  | with_reducible refine w_propSl ?_
  | with_reducible refine w_par ?_
  | with_reducible refine w_kPar ?_
  | with_reducible refine w_tup ?_
  | with_reducible refine w_lst ?_
  | with_reducible refine w_I0 ?_
  | with_reducible refine w_U ?_
  | with_reducible refine w_eqI ?_
  | with_reducible refine w_neI ?_
  | with_reducible refine w_eqS ?_
  | with_reducible refine w_neS ?_
  | with_reducible refine w_eqB ?_
  | with_reducible refine w_neB ?_
  | with_reducible refine w_isNn ?_
  | with_reducible refine w_isNr ?_
  | with_reducible refine w_isNi ?_
  | with_reducible refine w_notNn ?_
  | with_reducible refine w_notNr ?_
  | with_reducible refine w_notNi ?_
  | with_reducible refine w_xisN ?_
  | with_reducible refine w_fld ?_
  | with_reducible refine w_prop ?_
  | with_reducible refine w_meth ?_
  | ((with_reducible apply w_mod); focus assumption)
  | ((with_reducible apply w_mulW); (focus assumption); focus assumption)
  | ((with_reducible apply w_divW); (focus assumption); focus assumption)
  | with_reducible refine w_int1 ?_
  | with_reducible refine w_intB ?_
  | with_reducible refine w_min2 ?_
  | with_reducible refine w_max2 ?_
  | with_reducible refine w_abs ?_
  | with_reducible refine w_isiI ?_
  | with_reducible refine w_isiNB ?_
  | with_reducible refine w_isiB ?_
  | with_reducible refine w_isiS ?_
  | ((with_reducible apply w_isiT); (focus assumption); focus (walk_at "fx"))
  | ((with_reducible apply w_fTd); (focus assumption); focus (walk_at "fx"))
  | ((with_reducible apply w_fTb); (focus assumption); focus (walk_at "fx"))
  | ((with_reducible apply w_fTf); (focus assumption); focus (walk_at "fx"))
  | ((with_reducible apply w_fTs); (focus assumption); focus (walk_at "fx"))
  | ((with_reducible apply w_fTl); (focus assumption); focus (walk_at "fx"))
  | ((with_reducible apply w_fTa); (focus assumption); focus (walk_at "fx"))
  | ((with_reducible apply w_pT); focus (walk_at "fx"))
  | with_reducible refine w_sl ?_
  | ((with_reducible apply w_len); focus (walk_at "fx"))
  | ((with_reducible apply w_kT); focus (exact Nat.le_of_ble_eq_true rfl)))
local macro_rules | `(tactic| walk_at "ss") => `(tactic| repeat (walk_at "s"))
local macro_rules | `(tactic| walk_at "go") => `(tactic| ((try dsimp only [cxOf, Cx.nox, Cx.wish]); walk_at "ss"))
local macro_rules | `(tactic| walk_at "len") => `(tactic| (intro vs H Q E h; (repeat (obtain ⟨_, h⟩ := h)); all_goals (subst_vars; rfl)))
section
variable {P : Program} {w : World} {K : PySem.W.Frag} {mg : Str → Option Value} {base : Heap}
def spRdB (K : PySem.W.Frag) : Sp := fun vs H Q _ => ∃ n ts, vs = [.str (S (bookL n ts))] ∧ BookOk n ts ∧
  ∀ q tp np ls H', Ex H H' → H' q = some (.tup [.int n, .ref tp, .ref np]) → H' tp = some (.tup (refs ls)) → tis ls = ts → Ties K H' ls → H' np = some (.tup []) → Q (.ref q) H'
theorem ok_read_book (T : Tx K mg) : FnB P w K mg base CX0 6 (ga K "read_book") ["text"] (spRdB K) [] := by
  refine mkB (k := 5) T.f_read_book sc_read_book (fun _ _ _ _ _ _ us hl => match us, hl with | [_], _ => rfl) (by walk_at "len") fun cdv A outer s H vs Q E hr h => ?_
  obtain ⟨n, ts, rfl, hok, k⟩ := h
  have hlen := hok.len_le
  have hl12 := hok.len
  refine ⟨_, (pss_cons (ps_if (pt_not (pt_val (pe_callB call_isi (by rfl) T.b_isinstance (by decide +kernel) (pa_cons (pv 0) (pa_cons (pe_bltn (by rfl) T.b_str (by decide +kernel) (v := .ty "str") rfl) pa_nil))))) (pss_one ps_never) pss_nil)
      (pss_cons (ps_set (i := 1) sc_read_book.nd rfl (Or.inl rfl) (pe_m1 PySem.F.slot_str_split PySem.F.type_str_split mt_spl (pv 0) (g_str T.t_FEED)))
      (pss_cons (ps_set (i := 2) sc_read_book.nd rfl (Or.inl rfl) (c_fn (ok_size_told T) (hr.mono (by decide)) T.m_size_told T.kp_size_told pass0 (pa_cons (pe_ix ix_list (pv 1) pe_int (fun _ _ => rfl)) pa_nil)))
      (pss_cons (ps_if (pt_cmpR op_isN1 (pv 2) pe_non (nomark _)) (pss_one ps_never) pss_nil)
      (pss_cons (ps_set (i := 3) sc_read_book.nd rfl (Or.inl rfl) (pe_lst pa_nil))
      (pss_cons (ps_set (i := 4) sc_read_book.nd rfl (Or.inl rfl) (pe_lst pa_nil))
      (pss_cons (ps_for PassesOwn.never rfl (pi_enum (by rfl) T.b_enumerate (pa_cons (pe_slice sl_list (pv 1) (po_some pe_int) po_none) pa_nil)) (pg_tup (n := 2) (by rfl) (pgs_cons (pg_name (i := 5) sc_read_book.nd rfl (Or.inl rfl)) (pgs_cons (pg_name (i := 6) sc_read_book.nd rfl (Or.inl rfl)) pgs_nil))) (pss_cons (ps_par (i := 7) (j := 8) (by rfl) sc_read_book.nd rfl rfl (by decide) rfl rfl (pa_cons (c_fn (ok_tie_in T) (hr.mono (by decide)) T.m_tie_in T.kp_tie_in pass0 (pa_cons (pv 6) (pa_cons (pv 2) pa_nil))) (pa_cons (c_fn (ok_note_in T) (hr.mono (by decide)) T.m_note_in T.kp_note_in pass0 (pa_cons (pv 6) (pa_cons (pv 2) pa_nil))) pa_nil)) (by rfl))
      (pss_one (ps_if (PW.pt (pw_and (pt_cmpR op_notN1 (pv 7) pe_non (nomark _)) (pw_and (pt_cmpR (op_eqD hr.units) (pv 4) (pe_lst pa_nil) (nomark _)) (pw_and1 (pt_cmpR op_lt (pe_callB cl_len (by rfl) T.b_len (by decide +kernel) (pa_cons (pv 3) pa_nil)) (g_int T.i_MOST) (nomark _)))))) (pss_one (ps_expr (pe_bm PySem.F.plainAttrs_list PySem.F.slot_list_append PySem.F.type_list_append mt_append (pv 3) (pa_cons (pv 7) pa_nil)))) (pss_one ps_never)))))
      (pss_one (ps_ret (pe_tup (pa_cons (pv 2) (pa_cons (pe_tupleOf (by rfl) T.b_tuple (pv 3)) (pa_cons (pe_tupleOf (by rfl) T.b_tuple (pv 4)) pa_nil))))))))))))), ?_⟩
  walk_at "go"
  rw [s_n]
  refine w_spl (by decide) (by rw [SX.S_len]; omega) fun p H1 hp e1 hP => ?_
  have hsp : Txt.split (S (bookL n ts)) (S [10]) = (sizeL n :: ts.map lineL).map S := spl_words (by decide) (by simp) (fun q hq => by
    rcases List.mem_cons.mp hq with rfl | hq
    · exact size_free n
    · obtain ⟨t, _, rfl⟩ := List.mem_map.mp hq
      exact line_free t)
  rw [hsp, List.map_cons, List.map_cons] at hP
  walk_at "ss"
  refine w_ixL (sq_of hP) (v := .str (S (sizeL n))) (atI_nat (j := 0) rfl) ?_
  walk_at "ss"
  refine ⟨n, rfl, hok.n1, hok.n2, fun H2 e2 => ?_⟩
  walk_at "ss"
  refine w_kL (by decide) fun Tl H3 hTl e3 hT3 => ?_
  walk_at "ss"
  refine w_kL (by decide) fun Nl H4 hNl e4 hN4 => ?_
  walk_at "ss"
  have hP4 := e4 _ _ (e3 _ _ (e2 _ _ hP))
  refine w_slL (sq_of hP4) fun p5 H5 hp5 e5 hP5 => ?_
  rw [cut_tail] at hP5
  refine w_kEnum (sq_of hP5) ?_
  have hNT : Nl ≠ Tl := fun z => by subst z; rw [hT3] at hNl; cases hNl
  have e15 := (((e1.trans e2).trans e3).trans e4).trans e5
  have hTf : H Tl = none := fresh_back (e1.trans e2) hTl
  have hp5f : p5 ≠ Tl := fun z => by subst z; rw [e4 _ _ hT3] at hp5; cases hp5
  have hxl : (List.map V.str (List.map S (List.map lineL ts))).length = ts.length := by simp
  refine w_kFor (walk_enum (xs := List.map V.str (List.map S (List.map lineL ts)))) (fun i σ' H' => ∃ ls a b c d e f, σ' = [some (.str (S (bookL n ts))), some (.ref p), some (.int n), some (.ref Tl), some (.ref Nl), a, b, c, d, e, f] ∧ Ex H H' ∧ H' p5 = some (.lst (List.map V.str (List.map S (List.map lineL ts)))) ∧
    H' Tl = some (.lst (refs ls)) ∧ tis ls = ts.take i ∧ Ties K H' ls ∧ H' Nl = some (.lst [])) ⟨[], none, none, none, none, none, none, rfl, e15, hP5, e5 _ _ (e4 _ _ hT3), by simp [tis], (fun q hq => by cases hq), e5 _ _ hN4⟩ (fun i σ' H' _ q => ?_) (fun i v σ' H6 H6' hi q hy => ?_) (fun σ' H' q => ?_)
  · obtain ⟨ls, a, b, c, d, e, f, rfl, _, h, _⟩ := q
    exact sq_of h
  · obtain ⟨ls, a, b, c, d, e, f, rfl, e6, hp6, hT6, hts, hTi, hN6⟩ := q
    obtain ⟨T1, x1, y1, rfl, hT1, rfl, hx1, hy1⟩ := hy
    have hi' : i < ts.length := by omega
    obtain rfl : V.int (i : Nat) = x1 := by simpa using hx1
    have ey : y1 = .str (S (lineL ts[i])) := by simp [List.getElem?_map, List.getElem?_eq_getElem hi'] at hy1; exact hy1.symm
    subst ey
    have e7 : Ex H6 (upd H6 T1 (.tup [.int (i : Nat), .str (S (lineL ts[i]))])) := Ex.new hT1
    have hTp : upd H6 T1 (.tup [.int (i : Nat), .str (S (lineL ts[i]))]) T1 = some (.tup [.int (i : Nat), .str (S (lineL ts[i]))]) := upd_same
    generalize upd H6 T1 (.tup [.int (i : Nat), .str (S (lineL ts[i]))]) = H7 at *
    obtain ⟨hg, hs, hn⟩ := hok.good ts[i] (List.getElem_mem hi')
    have htk : ts.take (i + 1) = ts.take i ++ [ts[i]] := by rw [List.take_succ, List.getElem?_eq_getElem hi']; rfl
    have hll : ls.length = i := by
      have : (tis ls).length = ls.length := by simp [tis]
      rw [← this, hts, List.length_take]; omega
    refine w_gTup (st_of hTp) rfl ?_
    walk_at "ss"
    refine ⟨ts[i], n, rfl, hg, hs, hn, fun pt H8 e8 hT8 => ?_⟩
    walk_at "ss"
    refine ⟨ts[i], n, rfl, hs, fun H9 e9 => ?_⟩
    walk_at "ss"
    refine w_kL (by decide) fun p10 H10 hp10 e10 hP10 => ?_
    have e710 := ((e7.trans e8).trans e9).trans e10
    refine w_eqNil (sq_of (e710 _ _ hN6)) (sq_of hP10) ?_
    walk_at "ss"
    refine w_iteP (by simp [refs]; omega) ?_
    walk_at "ss"
    have hT10 := e710 _ _ hT6
    refine w_kBMl hT10 ?_
    walk_at "ss"
    refine w_app hT10 (by simp [refs]; omega) ?_
    walk_at "ss"
    have hr : refs ls ++ [.ref pt] = refs (ls ++ [(pt, ts[i])]) := by rw [refs_append]; rfl
    rw [hr]
    have hsub : Ties K H10 (ls ++ [(pt, ts[i])]) := fun q hq => by
      rcases List.mem_append.mp hq with hq | hq
      · exact (hTi q hq).ex e710
      · obtain rfl : q = (pt, ts[i]) := by simpa using hq
        exact hT8.ex (e9.trans e10)
    refine ⟨ls ++ [(pt, ts[i])], some (.int (i : Nat)), some (.str (S (lineL ts[i]))), some (.ref pt), some .non, e, f, rfl, Ex.mut (e6.trans e710) hTf, ?_, upd_same, by rw [tis_append, hts, htk]; rfl, fun q hq => (mo_tie q.1 q.2).up H10 Tl _ _ hT10 (hsub q hq), ?_⟩
    · rw [upd_ne hp5f]; exact e710 _ _ hp6
    · rw [upd_ne hNT]; exact e710 _ _ hN6
  · obtain ⟨ls, a, b, c, d, e, f, rfl, e6, hp6, hT6, hts, hTi, hN6⟩ := q
    rw [hxl, List.take_length] at hts
    walk_at "ss"
    refine w_tupL (sq_of hT6) fun q7 H7 hq7 e7 hQ7 => ?_
    walk_at "ss"
    refine w_tupL (sq_of (e7 _ _ hN6)) fun q8 H8 hq8 e8 hQ8 => ?_
    walk_at "ss"
    intro q9 H9 hq9 e9 hQ9
    exact k q9 q7 q8 ls H9 (((e6.trans e7).trans e8).trans e9) hQ9 (e9 _ _ (e8 _ _ hQ7)) hts (fun r hr => (hTi r hr).ex ((e7.trans e8).trans e9)) (e9 _ _ hQ8)
def spBkInit (K : PySem.W.Frag) : Sp := fun vs H Q _ => ∃ x dx n ts, vs = [.ref x, .str (S (bookL n ts))] ∧ H x = some (.ins (ga K "Book") dx []) ∧ BookOk n ts ∧
  ∀ H1 tp np ls, Ex H H1 → H1 tp = some (.tup (refs ls)) → tis ls = ts → Ties K H1 ls → H1 np = some (.tup []) → Q .non (upd H1 x (.ins (ga K "Book") dx (bkF n tp np (S (bookL n ts)) .non)))
theorem ok_Book___init__ (T : Tx K mg) : FnB P w K mg base CX0 7 (ma K (ga K "Book") "__init__") ["self", "text"] (spBkInit K) [] := by
  refine mkB (k := 6) T.f_Book___init__ sc_Book___init__ (fun _ _ _ _ _ _ us hl => match us, hl with | [_, _], _ => rfl) (by walk_at "len") fun cdv A outer s H vs Q E hr h => ?_
  obtain ⟨x, dx, n, ts, rfl, hx, hok, k⟩ := h
  refine ⟨_, (pss_cons (ps_asg (c_fn (ok_read_book T) (hr.mono (by decide)) T.m_read_book T.kp_read_book pass0 (pa_cons (pv 1) pa_nil)) (pg_tup (n := 3) (by rfl) (pgs_cons (pg_attr (pv 0)) (pgs_cons (pg_attr (pv 0)) (pgs_cons (pg_attr (pv 0)) pgs_nil)))))
      (pss_cons (ps_fld (pv 0) (pv 1) rfl)
      (pss_one (ps_fld (pv 0) pe_non rfl)))), ?_⟩
  walk_at "go"
  refine ⟨n, ts, rfl, hok, fun q tp np ls H1 e1 hq htp hts hTi hnp => ?_⟩
  refine w_gTup (st_of hq) rfl ?_
  walk_at "ss"
  refine w_kAttr (e1 _ _ hx) T.c_Book T.a_Book_own_size (by decide) ?_
  walk_at "ss"
  refine w_kAttr upd_same T.c_Book T.a_Book_own_ties (Nat.le_of_ble_eq_true rfl) ?_
  walk_at "ss"
  refine w_kAttr upd_same T.c_Book T.a_Book_own_notes (Nat.le_of_ble_eq_true rfl) ?_
  walk_at "ss"
  refine w_kFldS upd_same T.c_Book T.a_Book_own_text (Nat.le_of_ble_eq_true rfl) ?_
  walk_at "ss"
  refine w_kFldS upd_same T.c_Book T.a_Book_own_ladder (Nat.le_of_ble_eq_true rfl) ?_
  rw [upd_upd, upd_upd, upd_upd, upd_upd]
  exact k H1 tp np ls e1 htp hts hTi hnp
theorem w_kBook {E : XK} {Q : VK} {H : Hp} {n : Int} {ts : List Ti} (hok : BookOk n ts) (k : ∀ p H', H p = none → Ex H H' → BkAt K H' p n (S (bookL n ts)) ts .non → Q (.ref p) H') : kMk (ga K "Book") (spBkInit K) [] E Q [.str (S (bookL n ts))] H := fun x dx hx hdx hne => by
  have e2 : Ex H (upd (upd H dx (.own x)) x (.ins (ga K "Book") dx [])) := (Ex.new hdx).trans (Ex.new (by rw [upd_ne (Ne.symm hne)]; exact hx))
  refine ⟨x, dx, n, ts, rfl, upd_same, hok, fun H1 tp np ls e1 htp hts hTi hnp => ⟨rfl, ?_⟩⟩
  have hx1 := e1 x _ upd_same
  exact k x _ hx (Ex.mut (e2.trans e1) hx) ⟨dx, tp, np, ls, upd_same, upd_in hx1 htp (fun z => nomatch z), hts, fun p hp => (mo_tie p.1 p.2).ins _ _ _ _ _ _ hx1 (.inl rfl) (hTi p hp), upd_in hx1 hnp (fun z => nomatch z)⟩
end
end K22
end

/-! # K23e -/
section
set_option Elab.async false
set_option linter.all false
set_option autoImplicit false
set_option maxRecDepth 100000
set_option maxHeartbeats 4000000
set_option exponentiation.threshold 3000
namespace K22
open PySem PySem.Spec PyProof.Rows L2
open He (ga ma fAd)
open Evl (Ex ex_l ex_t sq_of st_of fresh_back)
/-! ## powers, stores -/
def CPowW (i j : Int) : Prop := 0 ≤ j ∧ (Builtin.Int.intBits i : Int) * j ≤ 2 ^ 27
theorem op_powW {X : Cx} : OpR X (binaryOp .Pow) (rI CPowW fun i j => .int (i ^ j.toNat)) := opI fun _ _ _ _ _ _ _ hc q => PyProof.Rows.pow_int hc.1 hc.2 q
section
variable {K : PySem.W.Frag} {σ : L2.St} {H : Hp} {Q : VK} {to ti : TE} {v : V} {a : Addr} {xs : List V} {ta : TA} {R : It → Hp → Prop}
theorem w_p8 (h : Q (.int (10 ^ 8)) H) : rI CPowW (fun i j => .int (i ^ j.toNat)) (.int 10) (.int 8) H Q := ⟨_, _, rfl, rfl, ⟨by decide, by decide +kernel⟩, h⟩
theorem w_p60 (h : Q (.int (10 ^ 60)) H) : rI CPowW (fun i j => .int (i ^ j.toNat)) (.int 10) (.int 60) H Q := ⟨_, _, rfl, rfl, ⟨by decide, by decide +kernel⟩, h⟩
theorem w_p5 (h : Q (.int ((10 ^ 60) ^ 5)) H) : rI CPowW (fun i j => .int (i ^ j.toNat)) (.int (10 ^ 60)) (.int 5) H Q := ⟨_, _, rfl, rfl, ⟨by decide, by decide +kernel⟩, h⟩
theorem w_p18 (h : Q (.int (10 ^ 18)) H) : rI CPowW (fun i j => .int (i ^ j.toNat)) (.int 10) (.int 18) H Q := ⟨_, _, rfl, rfl, ⟨by decide, by decide +kernel⟩, h⟩
theorem w_p9 (h : Q (.int (10 ^ 9)) H) : rI CPowW (fun i j => .int (i ^ j.toNat)) (.int 10) (.int 9) H Q := ⟨_, _, rfl, rfl, ⟨by decide, by decide +kernel⟩, h⟩
theorem w_p19 (h : Q (.int (10 ^ 19)) H) : rI CPowW (fun i j => .int (i ^ j.toNat)) (.int 10) (.int 19) H Q := ⟨_, _, rfl, rfl, ⟨by decide, by decide +kernel⟩, h⟩
theorem w_p29 (h : Q (.int (10 ^ 29)) H) : rI CPowW (fun i j => .int (i ^ j.toNat)) (.int 10) (.int 29) H Q := ⟨_, _, rfl, rfl, ⟨by decide, by decide +kernel⟩, h⟩
theorem w_pow3 {i : Int} (hi : i.natAbs < 2 ^ 64) (h : Q (.int (i ^ 3)) H) : rI CPow (fun i j => .int (i ^ j.toNat)) (.int i) (.int 3) H Q := ⟨_, _, rfl, rfl, ⟨by decide, by decide, hi⟩, h⟩
theorem w_mulX {f : Int → Int → V} {i j : Int} (hi : i.natAbs < 2 ^ 2000) (hj : j.natAbs < 2 ^ 2000) (h : Q (f i j) H) : rI CMulW f (.int i) (.int j) H Q := ⟨i, j, rfl, rfl, wide_mul hi hj (by decide) (by decide) (by decide), h⟩
def kSub (ti : TE) (t : TSet) (v : V) (σ : L2.St) (Q : L2.St → Hp → Prop) : VK := fun o H1 => ti σ H1 fun i H2 => t o i v H2 fun H3 => Q σ H3
theorem w_gSub {t : TSet} {Q : L2.St → Hp → Prop} (h : to σ H fun o H1 => ti σ H1 fun i H2 => t o i v H2 fun H3 => Q σ H3) : gSub to ti t v σ H Q := h
theorem w_setL {i : Int} {j : Nat} {Q : Hp → Prop} (e : H a = some (.lst xs)) (hi : ixN xs.length i = some j) (h : Q (upd H a (.lst (xs.set j v)))) : rSetL (.ref a) (.int i) v H Q := ⟨a, xs, i, j, rfl, rfl, e, hi, h⟩
def kR1 (R : It → Hp → Prop) : List V → Hp → Prop := fun vs H1 => ∃ j : Int, vs = [.int j] ∧ -(2 ^ 62) ≤ j ∧ j < 2 ^ 62 ∧ R (Itr 0 j.toNat) H1
theorem w_iR1 (h : ta σ H (kR1 R)) : iRng1 ta σ H R := h
theorem w_kR1 {j : Int} (h1 : -(2 ^ 62) ≤ j) (h2 : j < 2 ^ 62) (h : R (Itr 0 j.toNat) H) : kR1 R [.int j] H := ⟨j, rfl, h1, h2, h⟩
end
/-- the pot, at most n times stirred -/
def Pot (H : Hp) (p : Addr) (n : Nat) : Prop := ∃ a b c : Int, H p = some (.lst [.int a, .int b, .int c]) ∧ 0 ≤ a ∧ 0 ≤ b ∧ b < 2 ^ 61 ∧ 0 ≤ c ∧ c ≤ n
theorem ExB.sub {p : Addr} {H H' : Hp} {a : Addr} {o : HO} (e : ExB p H H') (n : a ≠ p) (h : H a = some o) : H' a = some o := e a o n h
local macro_rules | `(tactic| walk_at "fx") => `(tactic| first
  | assumption
  | ((with_reducible apply TieAt.ex); (focus assumption); walk_at "fx")
  | ((with_reducible apply LinkAt.ex); (focus assumption); walk_at "fx")
  | ((with_reducible apply ex_l); (focus assumption); walk_at "fx")
  | ((with_reducible apply ex_t); (focus assumption); walk_at "fx")
  | ((with_reducible apply sq_of); walk_at "fx")
  | ((with_reducible apply st_of); walk_at "fx")
  | ((with_reducible apply ex_at); (focus assumption); walk_at "fx"))
local macro_rules | `(tactic| walk_at "s") => `(tactic| first
  | with_reducible refine w_seq ?_
  | ((with_reducible apply w_var); focus (exact rfl))
  | with_reducible refine w_c ?_
  | with_reducible refine w_op ?_
  | with_reducible refine w_cons ?_
  | with_reducible refine w_nil ?_
  | with_reducible refine w_asg ?_
  | with_reducible refine w_name ?_
  | with_reducible refine w_ret ?_
  | with_reducible refine w_retN ?_
  | with_reducible refine w_ifS ?_
  | with_reducible refine w_isB ?_
  | with_reducible refine w_test ?_
  | with_reducible refine w_tB ?_
  | with_reducible refine w_and ?_
  | with_reducible refine w_or ?_
  | with_reducible refine w_not ?_
  | with_reducible refine w_andV ?_
  | with_reducible refine w_orV ?_
  | with_reducible refine w_notV ?_
  | with_reducible refine w_if ?_
  | with_reducible refine w_iteT ?_
  | with_reducible refine w_iteF ?_
  | with_reducible refine w_iteNT ?_
  | with_reducible refine w_iteNF ?_
  | with_reducible refine w_un ?_
  | with_reducible refine w_call ?_
  | with_reducible refine w_cb ?_
  | with_reducible refine w_next ?_
  | with_reducible refine w_drop ?_
  | with_reducible refine w_for ?_
  | with_reducible refine w_dget0 ?_
  | with_reducible refine w_prsC ?_
  | with_reducible refine w_prsN ?_
  | with_reducible refine w_iZA ?_
  | with_reducible refine w_gSub ?_
  | with_reducible refine w_iR1 ?_
  | with_reducible refine w_p8 ?_
  | with_reducible refine w_p60 ?_
  | with_reducible refine w_p5 ?_
  | with_reducible refine w_p18 ?_
  | with_reducible refine w_p9 ?_
  | with_reducible refine w_p19 ?_
  | with_reducible refine w_p29 ?_
  | with_reducible refine w_m1 ?_
  | with_reducible refine w_kM1 ?_
  | with_reducible refine w_iStr ?_
  | with_reducible refine w_kStr ?_
  | with_reducible refine w_inS ?_
  | with_reducible refine w_sta ?_
  | with_reducible refine w_iEnumT ?_
  | with_reducible refine w_thn ?_
  | with_reducible refine w_chain ?_
  | with_reducible refine w_gAttr ?_
  | with_reducible refine w_isNr ?_
  | with_reducible refine w_iEnum ?_
  | ((with_reducible apply w_kEnum); focus (walk_at "fx"))
  | with_reducible refine w_sl3 ?_
  | with_reducible refine w_noPart ?_
  | with_reducible refine w_part ?_
  | with_reducible refine w_kPt ?_
  | with_reducible refine w_bm ?_
  | with_reducible refine w_ckw ?_
  | with_reducible refine w_tst ?_
  | with_reducible refine w_mk ?_
  | ((with_reducible apply w_psl); (focus (walk_at "fx")))
  | ((with_reducible apply w_mT); (focus (walk_at "fx")); (focus (exact rfl)))
  | ((with_reducible apply w_partner); (focus (walk_at "fx")))
  | ((with_reducible apply w_led); (focus (walk_at "fx")))
  | ((with_reducible apply w_spT); (focus (walk_at "fx")))
  | with_reducible refine w_lc ?_
  | with_reducible refine w_yes ?_
  | with_reducible refine w_gCons ?_
  | with_reducible refine w_gNil ?_
  | ((with_reducible apply w_gTup); (focus (walk_at "fx")); focus (exact rfl))
  | ((with_reducible apply w_minL2); focus (walk_at "fx"))
  | ((with_reducible apply w_slT); (focus assumption); (focus (walk_at "fx")))
  | ((with_reducible apply w_kIT); focus (walk_at "fx"))
  | ((with_reducible apply w_kIL); focus (walk_at "fx"))
  | with_reducible refine w_neg ?_
  | with_reducible refine w_tie ?_
  | with_reducible refine w_iT ?_
  | with_reducible refine w_iL ?_
  | with_reducible refine w_sFld ?_
  | with_reducible refine w_sSl ?_
  | with_reducible refine w_propSl ?_
  | with_reducible refine w_par ?_
  | with_reducible refine w_kPar ?_
  | with_reducible refine w_tup ?_
  | with_reducible refine w_lst ?_
  | with_reducible refine w_I0 ?_
  | with_reducible refine w_U ?_
  | with_reducible refine w_eqI ?_
  | with_reducible refine w_neI ?_
  | with_reducible refine w_eqS ?_
  | with_reducible refine w_neS ?_
  | with_reducible refine w_eqB ?_
  | with_reducible refine w_neB ?_
  | with_reducible refine w_isNn ?_
  | with_reducible refine w_isNr ?_
  | with_reducible refine w_isNi ?_
  | with_reducible refine w_notNn ?_
  | with_reducible refine w_notNr ?_
  | with_reducible refine w_notNi ?_
  | with_reducible refine w_xisN ?_
  | with_reducible refine w_fld ?_
  | with_reducible refine w_prop ?_
  | with_reducible refine w_meth ?_
  | ((with_reducible apply w_mod); focus assumption)
  | ((with_reducible apply w_mulW); (focus assumption); focus assumption)
  | ((with_reducible apply w_divW); (focus assumption); focus assumption)
  | with_reducible refine w_int1 ?_
  | with_reducible refine w_intB ?_
  | with_reducible refine w_min2 ?_
  | with_reducible refine w_max2 ?_
  | with_reducible refine w_abs ?_
  | with_reducible refine w_isiI ?_
  | with_reducible refine w_isiNB ?_
  | with_reducible refine w_isiB ?_
  | with_reducible refine w_isiS ?_
  | ((with_reducible apply w_isiT); (focus assumption); focus (walk_at "fx"))
  | ((with_reducible apply w_fTd); (focus assumption); focus (walk_at "fx"))
  | ((with_reducible apply w_fTb); (focus assumption); focus (walk_at "fx"))
  | ((with_reducible apply w_fTf); (focus assumption); focus (walk_at "fx"))
  | ((with_reducible apply w_fTs); (focus assumption); focus (walk_at "fx"))
  | ((with_reducible apply w_fTl); (focus assumption); focus (walk_at "fx"))
  | ((with_reducible apply w_fTa); (focus assumption); focus (walk_at "fx"))
  | ((with_reducible apply w_pT); focus (walk_at "fx"))
  | with_reducible refine w_sl ?_
  | ((with_reducible apply w_len); focus (walk_at "fx"))
  | ((with_reducible apply w_kT); focus (exact Nat.le_of_ble_eq_true rfl)))
local macro_rules | `(tactic| walk_at "ss") => `(tactic| repeat (walk_at "s"))
local macro_rules | `(tactic| walk_at "go") => `(tactic| ((try dsimp only [cxOf, Cx.nox, Cx.wish]); walk_at "ss"))
local macro_rules | `(tactic| walk_at "len") => `(tactic| (intro vs H Q E h; (repeat (obtain ⟨_, h⟩ := h)); all_goals (subst_vars; rfl)))
section
variable {P : Program} {w : World} {K : PySem.W.Frag} {mg : Str → Option Value} {base : Heap}
def spTake : Sp := fun vs H Q _ => ∃ p n up, vs = [.ref p, .int up] ∧ Pot H p n ∧ n ≤ 100000 ∧ 0 < up ∧ Sm up ∧ ∀ r H', 0 ≤ r → r < up → ExB p H H' → Pot H' p (n + 1) → Q (.int r) H'
theorem ok__law_take (T : Tx K mg) : FnB P w K mg base CX0 1 (ga K "_law_take") ["_law_pot_here", "_law_upto"] (spTake) [] := by
  refine mkB (k := 0) T.f__law_take sc__law_take (fun _ _ _ _ _ _ us hl => match us, hl with | [_, _], _ => rfl) (by walk_at "len") fun cdv A outer s H vs Q E hr h => ?_
  obtain ⟨p, n, up, rfl, ⟨a, b, c, hp, ha, hb, hb2, hc, hcn⟩, hn, hup, hS, k⟩ := h
  have hmod : ∀ x : Int, 0 ≤ x % up ∧ x % up < up := fun x => ⟨Int.emod_nonneg x (by omega), Int.emod_lt_of_pos x hup⟩
  refine ⟨_, (pss_cons (ps_if (pt_cmpR op_gt (pe_ix ix_list (pv 0) pe_int (fun _ _ => rfl)) pe_int (nomark _)) (pss_cons (ps_set (i := 2) sc__law_take.nd rfl (Or.inl rfl) (pe_op op_mod (pe_callTy cl_int1 (by rfl) T.b_int (by decide +kernel) (pa_cons (pe_ix ix_list (pv 0) pe_int (fun _ _ => rfl)) pa_nil)) (pv 1)))
      (pss_cons (ps_asg (pe_op op_fdivW (pe_ix ix_list (pv 0) pe_int (fun _ _ => rfl)) (pv 1)) (pg_sub (pv 0) pe_int set_list))
      (pss_one (ps_ret (pv 2))))) pss_nil)
      (pss_cons (ps_asg (pe_op op_add (pe_ix ix_list (pv 0) pe_int (fun _ _ => rfl)) pe_int) (pg_sub (pv 0) pe_int set_list))
      (pss_cons (ps_set (i := 3) sc__law_take.nd rfl (Or.inl rfl) (pe_ix ix_list (pe_lst (pa_cons pe_int (pa_cons pe_int (pa_cons pe_int (pa_cons pe_int (pa_cons pe_int pa_nil)))))) (pe_op op_mod (pe_callTy cl_int1 (by rfl) T.b_int (by decide +kernel) (pa_cons (pe_ix ix_list (pv 0) pe_int (fun _ _ => rfl)) pa_nil)) pe_int) (fun _ _ => rfl)))
      (pss_cons (ps_set (i := 4) sc__law_take.nd rfl (Or.inl rfl) (pe_op op_mod (pe_callTy cl_int1 (by rfl) T.b_int (by decide +kernel) (pa_cons (pe_op op_pow (pe_callTy cl_int1 (by rfl) T.b_int (by decide +kernel) (pa_cons (pe_op op_add (pe_op op_add (pe_ix ix_list (pv 0) pe_int (fun _ _ => rfl)) (pe_op op_mulW (pe_op op_mulW pe_int (pe_ix ix_list (pv 0) pe_int (fun _ _ => rfl))) (pe_ix ix_list (pv 0) pe_int (fun _ _ => rfl)))) pe_int) pa_nil)) pe_int) pa_nil)) (pv 3)))
      (pss_cons (ps_set (i := 4) sc__law_take.nd rfl (Or.inl rfl) (pe_op op_mod (pe_callTy cl_int1 (by rfl) T.b_int (by decide +kernel) (pa_cons (pe_op op_mulW (pv 4) (pe_op op_add (pe_op op_mod (pe_callTy cl_int1 (by rfl) T.b_int (by decide +kernel) (pa_cons (pv 4) pa_nil)) pe_int) (pe_op op_mulW pe_int (pe_ix ix_list (pv 0) pe_int (fun _ _ => rfl))))) pa_nil)) pe_int))
      (pss_one (ps_ret (pe_op op_mod (pe_callTy cl_int1 (by rfl) T.b_int (by decide +kernel) (pa_cons (pe_op op_fdivW (pv 4) pe_int) pa_nil)) (pv 1))))))))), ?_⟩
  walk_at "go"
  refine w_ixL (sq_of hp) (v := .int a) rfl ?_
  walk_at "ss"
  refine w_iteD (fun h0 => ?_) fun h0 => ?_
  · walk_at "ss"
    refine w_ixL (sq_of hp) (v := .int a) rfl ?_
    walk_at "ss"
    refine w_ixL (sq_of hp) (v := .int a) rfl ?_
    walk_at "ss"
    refine w_setL hp (j := 0) rfl ?_
    walk_at "ss"
    exact k _ _ (hmod a).1 (hmod a).2 (ExB.upd (Ex.refl H)) ⟨a / up, b, c, upd_same, Int.ediv_nonneg ha (by omega), hb, hb2, hc, by omega⟩
  · walk_at "ss"
    refine w_ixL (sq_of hp) (v := .int c) rfl ?_
    walk_at "ss"
    refine w_setL hp (j := 2) rfl ?_
    have hp1 : upd H p (.lst ([V.int a, .int b, .int c].set 2 (.int (c + 1)))) p = some (.lst [.int a, .int b, .int (c + 1)]) := upd_same
    have e1 : ExB p H (upd H p (.lst ([V.int a, .int b, .int c].set 2 (.int (c + 1))))) := ExB.upd (Ex.refl H)
    generalize upd H p (.lst ([V.int a, .int b, .int c].set 2 (.int (c + 1)))) = H1 at *
    have hc1 : c + 1 ≤ 100001 := by omega
    have hpr : ∀ j : Int, 0 ≤ j → j < 5 → ∃ q : Int, atI [V.int 2147483647, .int 2147483629, .int 2147483587, .int 2147483579, .int 2147483563] j = some (.int q) ∧ 0 < q ∧ q < 2 ^ 31 := fun j h1 h2 => by
      have : j = 0 ∨ j = 1 ∨ j = 2 ∨ j = 3 ∨ j = 4 := by omega
      rcases this with rfl | rfl | rfl | rfl | rfl
      · exact ⟨2147483647, rfl, by decide, by decide⟩
      · exact ⟨2147483629, rfl, by decide, by decide⟩
      · exact ⟨2147483587, rfl, by decide, by decide⟩
      · exact ⟨2147483579, rfl, by decide, by decide⟩
      · exact ⟨2147483563, rfl, by decide, by decide⟩
    walk_at "ss"
    refine w_kL (Nat.le_of_ble_eq_true rfl) fun q2 H2 hq2 e2 hQ2 => ?_
    walk_at "ss"
    have hp2 := e2 _ _ hp1
    refine w_ixL (sq_of hp2) (v := .int (c + 1)) rfl ?_
    walk_at "ss"
    refine w_mod (by decide) ?_
    obtain ⟨pr, hpr1, hpr2, hpr3⟩ := hpr ((c + 1) % 5) (Int.emod_nonneg _ (by decide)) (Int.emod_lt_of_pos _ (by decide))
    refine w_ixL (sq_of hQ2) hpr1 ?_
    walk_at "ss"
    refine w_ixL (sq_of hp2) (v := .int b) rfl ?_
    walk_at "ss"
    refine w_ixL (sq_of hp2) (v := .int (c + 1)) rfl ?_
    have sc : Sm (c + 1) := sm_le (by omega) (by omega)
    have s2 : Sm (100193 * (c + 1)) := sm_le (by omega) (by omega)
    refine w_mulW (sm_le (by decide) (by decide)) sc ?_
    walk_at "ss"
    refine w_ixL (sq_of hp2) (v := .int (c + 1)) rfl ?_
    refine w_mulW s2 sc ?_
    walk_at "ss"
    have hsq : 0 ≤ 100193 * (c + 1) * (c + 1) ∧ 100193 * (c + 1) * (c + 1) ≤ 100193 * 100001 * 100001 :=
      ⟨Int.mul_nonneg (by omega) (by omega), Int.mul_le_mul (by omega) hc1 (by omega) (by omega)⟩
    refine w_pow3 (by omega) ?_
    walk_at "ss"
    generalize (b + 100193 * (c + 1) * (c + 1) + 53) ^ 3 = z
    have hz1 := Int.emod_nonneg z (show pr ≠ 0 by omega)
    have hz2 := Int.emod_lt_of_pos z hpr2
    generalize z % pr = z1 at *
    refine w_mod (by decide) ?_
    walk_at "ss"
    refine w_ixL (sq_of hp2) (v := .int (c + 1)) rfl ?_
    refine w_mulW (sm_le (by decide) (by decide)) sc ?_
    have hm1 := Int.emod_nonneg z1 (show (10061 : Int) ≠ 0 by decide)
    have hm2 := Int.emod_lt_of_pos z1 (show (0 : Int) < 10061 by decide)
    walk_at "ss"
    refine w_mulW (sm_le hz1 (by omega)) (sm_le (by omega) (by omega)) ?_
    walk_at "ss"
    refine w_mod (by decide) ?_
    walk_at "ss"
    refine w_divW (by decide) (sm_le (by decide) (by decide)) ?_
    walk_at "ss"
    exact k _ _ (hmod _).1 (hmod _).2 (e1.then e2) ⟨a, b, c + 1, hp2, ha, hb, hb2, by omega, by omega⟩
def bnd : Nat → Int
  | 0 => 10 ^ 8
  | 1 => 10 ^ 16
  | 2 => 10 ^ 24
  | 3 => 10 ^ 32
  | _ => 10 ^ 40
def spFar : Sp := fun vs H Q _ => ∃ p n up, vs = [.ref p, .int up] ∧ Pot H p n ∧ n ≤ 90000 ∧ 0 < up ∧ ∀ r H', 0 ≤ r → r < up → ExB p H H' → Pot H' p (n + 5) → Q (.int r) H'
theorem ok__law_far (T : Tx K mg) : FnB P w K mg base CX0 2 (ga K "_law_far") ["_law_pot_here", "_law_upto"] (spFar) [] := by
  refine mkB (k := 1) T.f__law_far sc__law_far (fun _ _ _ _ _ _ us hl => match us, hl with | [_, _], _ => rfl) (by walk_at "len") fun cdv A outer s H vs Q E hr h => ?_
  obtain ⟨p, n, up, rfl, hp, hn, hup, k⟩ := h
  refine ⟨_, (pss_cons (ps_set (i := 2) sc__law_far.nd rfl (Or.inl rfl) (c_fn (ok__law_take T) (hr.mono (by decide)) T.m__law_take T.kp__law_take pass0 (pa_cons (pv 0) (pa_cons (pe_op op_powW pe_int pe_int) pa_nil))))
      (pss_cons (ps_for PassesOwn.never rfl (pi_range1 (by rfl) T.b_range (pa_cons pe_int pa_nil)) (pg_name (i := 3) sc__law_far.nd rfl (Or.inl rfl)) (pss_one (ps_set (i := 2) sc__law_far.nd rfl (Or.inl rfl) (pe_op op_add (pe_op op_mulW (pv 2) (pe_op op_powW pe_int pe_int)) (c_fn (ok__law_take T) (hr.mono (by decide)) T.m__law_take T.kp__law_take pass0 (pa_cons (pv 0) (pa_cons (pe_op op_powW pe_int pe_int) pa_nil)))))))
      (pss_one (ps_ret (pe_op op_mod (pe_callTy cl_int1 (by rfl) T.b_int (by decide +kernel) (pa_cons (pv 2) pa_nil)) (pv 1)))))), ?_⟩
  walk_at "go"
  refine ⟨p, n, 10 ^ 8, rfl, hp, by omega, by decide, sm_le (by decide) (by decide), fun r H1 hr0 hr1 e1 hp1 => ?_⟩
  walk_at "ss"
  refine w_kR1 (by decide) (by decide) ?_
  refine w_kFor (walk_range (lo := 0) (n := 4)) (fun i σ' H' => ∃ f x, σ' = [some (.ref p), some (.int up), some (.int f), x] ∧ ExB p H H' ∧ Pot H' p (n + 1 + i) ∧ 0 ≤ f ∧ f < bnd i) ⟨r, none, rfl, e1, hp1, hr0, hr1⟩ (fun i σ' H' _ q => trivial) (fun i v σ' H2 H2' hi q hy => ?_) (fun σ' H' q => ?_)
  · obtain ⟨f, x, rfl, e2, hp2, hf0, hf1⟩ := q
    obtain ⟨rfl, rfl⟩ := hy
    have hb : bnd i ≤ 10 ^ 32 ∧ bnd i * 10 ^ 8 = bnd (i + 1) := by
      have : i = 0 ∨ i = 1 ∨ i = 2 ∨ i = 3 := by omega
      rcases this with rfl | rfl | rfl | rfl <;> (simp only [bnd]; constructor <;> omega)
    walk_at "ss"
    refine w_mulW (sm_of (by omega) (by omega)) (sm_le (by decide) (by decide)) ?_
    walk_at "ss"
    refine ⟨p, n + 1 + i, 10 ^ 8, rfl, hp2, by omega, by decide, sm_le (by decide) (by decide), fun r2 H3 h0 h1 e3 hp3 => ?_⟩
    walk_at "ss"
    refine ⟨f * 10 ^ 8 + r2, some (.int (0 + (i : Int))), rfl, e2.trans e3, hp3, by omega, ?_⟩
    rw [← hb.2]; omega
  · obtain ⟨f, x, rfl, e2, hp2, hf0, hf1⟩ := q
    walk_at "ss"
    exact k _ _ (Int.emod_nonneg f (by omega)) (Int.emod_lt_of_pos f hup) e2 hp2
def spOf : Sp := fun vs H Q _ => ∃ p n L, ∃ xs : List Int, vs = [.ref p, .ref L] ∧ Pot H p n ∧ n ≤ 90000 ∧ L ≠ p ∧ H L = some (.lst (xs.map V.int)) ∧ xs ≠ [] ∧ xs.length ≤ 100 ∧ ∀ x H', x ∈ xs → ExB p H H' → Pot H' p (n + 1) → Q (.int x) H'
theorem ok__law_of (T : Tx K mg) : FnB P w K mg base CX0 2 (ga K "_law_of") ["_law_pot_here", "_law_some"] (spOf) [] := by
  refine mkB (k := 1) T.f__law_of sc__law_of (fun _ _ _ _ _ _ us hl => match us, hl with | [_, _], _ => rfl) (by walk_at "len") fun cdv A outer s H vs Q E hr h => ?_
  obtain ⟨p, n, L, xs, rfl, hp, hn, hLp, hL, hne, hlen, k⟩ := h
  have h0 : 0 < xs.length := List.length_pos_iff.mpr hne
  refine ⟨_, (pss_one (ps_ret (pe_ix ix_list (pv 1) (c_fn (ok__law_take T) (hr.mono (by decide)) T.m__law_take T.kp__law_take pass0 (pa_cons (pv 0) (pa_cons (pe_callB cl_len (by rfl) T.b_len (by decide +kernel) (pa_cons (pv 1) pa_nil)) pa_nil))) (fun _ _ => rfl)))), ?_⟩
  walk_at "go"
  refine ⟨p, n, ((xs.map V.int).length : Int), rfl, hp, by omega, by simp; omega, sm_le (by simp) (by simp; omega), fun r H1 hr0 hr1 e1 hp1 => ?_⟩
  have hr2 : r.toNat < xs.length := by simp at hr1; omega
  have hat : atI (xs.map V.int) r = some (.int xs[r.toNat]) := by
    have e : r = ((r.toNat : Nat) : Int) := by omega
    generalize r.toNat = q at *
    subst e
    refine atI_nat ?_
    simp [List.getElem?_map, List.getElem?_eq_getElem hr2]
  refine w_ixL (sq_of (e1 _ _ hLp hL)) hat ?_
  exact k _ _ (List.getElem_mem hr2) e1 hp1
def spCells (K : PySem.W.Frag) : Sp := fun vs H Q _ => ∃ a xs, vs = [.ref a, .int 3] ∧ SqL K H a xs ∧ ∀ L H', Ex H H' → H' L = some (.lst (rgV 0 (max 1 (min 3 (xs.length : Int))))) → Q (.ref L) H'
theorem w_lstRg {te : L2.St → Hp → (Int → Int → Hp → Prop) → Prop} {σ : L2.St} {H : Hp} {Q : VK} (h : te σ H fun a b H1 => RgOk a b ∧ ∀ q, H1 q = none → Q (.ref q) (upd H1 q (.lst (rgV a b)))) : tLstRg te σ H Q := h
def kRg (Q : Int → Int → Hp → Prop) : VK := fun x H1 => ∃ n, x = .int n ∧ Q 0 n H1
theorem w_rg1 {ta : TE} {σ : L2.St} {H : Hp} {Q : Int → Int → Hp → Prop} (h : ta σ H (kRg Q)) : tRg1 ta σ H Q := h
theorem ok__law_cells (T : Tx K mg) : FnB P w K mg base CX0 1 (ga K "_law_cells") ["_law_script", "_law_most"] (spCells K) [] := by
  refine mkB (k := 0) T.f__law_cells sc__law_cells (fun _ _ _ _ _ _ us hl => match us, hl with | [_, _], _ => rfl) (by walk_at "len") fun cdv A outer s H vs Q E hr h => ?_
  obtain ⟨a, xs, rfl, ha, k⟩ := h
  refine ⟨_, (pss_one (ps_ret (pe_listRg rfl (by rfl) T.b_list (prg_1 (by rfl) T.b_range (pe_callB (cl_max2 rfl) (by rfl) T.b_max (by decide +kernel) (pa_cons pe_int (pa_cons (pe_callB (cl_min2 rfl) (by rfl) T.b_min (by decide +kernel) (pa_cons (pv 1) (pa_cons (pe_callB cl_len (by rfl) T.b_len (by decide +kernel) (pa_cons (pv 0) pa_nil)) pa_nil))) pa_nil))))))), ?_⟩
  walk_at "go"
  refine w_lstRg (w_rg1 ?_)
  walk_at "ss"
  refine ⟨_, rfl, ⟨by decide, by decide, by omega, by omega, by omega⟩, fun q hq => ?_⟩
  exact k q _ (Ex.new hq) upd_same
theorem b01 (c : Bool) : (if c = true then (1 : Int) else 0).natAbs < 2 ^ 2000 := by cases c <;> decide
def spPot (K : PySem.W.Frag) : Sp := fun vs H Q _ => ∃ a, ∃ ns : List Int, ∃ i : Nat, vs = [.ref a, .int i] ∧ SqL K H a (ns.map V.int) ∧ i ≤ 10 ∧ ∀ p H', H p = none → Ex H H' → Pot H' p 0 → Q (.ref p) H'
theorem ok__law_pot (T : Tx K mg) : FnB P w K mg base CX0 1 (ga K "_law_pot") ["_law_script", "_law_number"] (spPot K) [] := by
  refine mkB (k := 0) T.f__law_pot sc__law_pot (fun _ _ _ _ _ _ us hl => match us, hl with | [_, _], _ => rfl) (by walk_at "len") fun cdv A outer s H vs Q E hr h => ?_
  obtain ⟨a, ns, i, rfl, ha, hi, k⟩ := h
  refine ⟨_, (pss_cons (ps_set (i := 2) sc__law_pot.nd rfl (Or.inl rfl) (pe_ifExp (pt_cmpR op_lt (pv 1) (pe_callB cl_len (by rfl) T.b_len (by decide +kernel) (pa_cons (pv 0) pa_nil)) (nomark _)) (pe_ix ix_list (pv 0) (pv 1) (fun _ _ => rfl)) (pe_op op_add (pe_op op_mulW pe_int (pv 1)) pe_int)))
      (pss_cons (ps_set (i := 3) sc__law_pot.nd rfl (Or.inl rfl) (pe_op op_mulW (pe_op op_mod (pe_callTy cl_int1 (by rfl) T.b_int (by decide +kernel) (pa_cons (pe_callB cl_abs (by rfl) T.b_abs (by decide +kernel) (pa_cons (pv 2) pa_nil)) pa_nil)) (pe_op op_powW (pe_op op_powW pe_int pe_int) pe_int)) (pe_callTy cl_int1 (by rfl) T.b_int (by decide +kernel) (pa_cons (pe_cmpR op_ge (pe_callB cl_abs (by rfl) T.b_abs (by decide +kernel) (pa_cons (pv 2) pa_nil)) (pe_op op_powW pe_int pe_int) (nomark _)) pa_nil))))
      (pss_cons (ps_set (i := 4) sc__law_pot.nd rfl (Or.inl rfl) (pe_op op_add (pe_op op_add (pe_op op_mulW (pe_op op_mod (pe_callTy cl_int1 (by rfl) T.b_int (by decide +kernel) (pa_cons (pv 2) pa_nil)) pe_int) pe_int) (pe_op op_mulW (pe_op op_mulW pe_int (pv 1)) (pv 1))) pe_int))
      (pss_one (ps_ret (pe_lst (pa_cons (pv 3) (pa_cons (pe_op op_mod (pe_callTy cl_int1 (by rfl) T.b_int (by decide +kernel) (pa_cons (pv 4) pa_nil)) pe_int) (pa_cons pe_int pa_nil))))))))), ?_⟩
  walk_at "go"
  have si : Sm (i : Int) := sm_le (by omega) (by omega)
  refine w_iteD (fun hlt => ?_) fun hlt => ?_
  · walk_at "ss"
    have hlt' : i < ns.length := by simp at hlt; omega
    refine w_ixL ha (v := .int ns[i]) (atI_nat (by simp [List.getElem?_map, List.getElem?_eq_getElem hlt'])) ?_
    generalize ns[i] = cell
    walk_at "ss"
    have sA : (if cell < 0 then -cell else cell) % (10 ^ 60) ^ 5 < (10 ^ 60) ^ 5 ∧ 0 ≤ (if cell < 0 then -cell else cell) % (10 ^ 60) ^ 5 := ⟨Int.emod_lt_of_pos _ (by decide +kernel), Int.emod_nonneg _ (by decide +kernel)⟩
    walk_at "ss"
    refine w_mod (by decide +kernel) ?_
    generalize (if cell < 0 then -cell else cell) % (10 ^ 60) ^ 5 = own at *
    walk_at "ss"
    have sO : own.natAbs < 2 ^ 2000 := by
      have h1 : own.natAbs < 10 ^ 300 := by
        have : ((10 : Int) ^ 60) ^ 5 = 10 ^ 300 := by decide +kernel
        rw [this] at sA
        omega
      exact Nat.lt_trans h1 (by decide +kernel)
    have fin : ∀ c : Bool, 0 ≤ own * (if c = true then 1 else 0) := fun c => Int.mul_nonneg sA.2 (by cases c <;> decide)
    · refine w_mulX sO (b01 _) ?_
      walk_at "ss"
      refine w_mod (by decide) ?_
      have hm1 := Int.emod_nonneg cell (show (2305843009213693951 : Int) ≠ 0 by decide)
      have hm2 := Int.emod_lt_of_pos cell (show (0 : Int) < 2305843009213693951 by decide)
      walk_at "ss"
      refine w_mulW (sm_le hm1 (by omega)) (sm_le (by decide) (by decide)) ?_
      walk_at "ss"
      refine w_mulW (i := 6529) (sm_le (by decide) (by decide)) si ?_
      walk_at "ss"
      refine w_mulW (sm_le (by omega) (by omega)) si ?_
      walk_at "ss"
      refine w_mod (by decide) ?_
      walk_at "ss"
      refine w_kL (Nat.le_of_ble_eq_true rfl) fun p H1 hp e1 hP => ?_
      refine k p H1 hp e1 ⟨_, _, _, hP, fin _, Int.emod_nonneg _ (by decide), Int.lt_of_lt_of_le (Int.emod_lt_of_pos _ (by decide)) (by decide), by decide, by decide⟩
  · walk_at "ss"
    refine w_mulW (sm_le (by decide) (by decide)) si ?_
    walk_at "ss"
    generalize (43 * (i : Int) + 19) = cell
    have sA : (if cell < 0 then -cell else cell) % (10 ^ 60) ^ 5 < (10 ^ 60) ^ 5 ∧ 0 ≤ (if cell < 0 then -cell else cell) % (10 ^ 60) ^ 5 := ⟨Int.emod_lt_of_pos _ (by decide +kernel), Int.emod_nonneg _ (by decide +kernel)⟩
    walk_at "ss"
    refine w_mod (by decide +kernel) ?_
    generalize (if cell < 0 then -cell else cell) % (10 ^ 60) ^ 5 = own at *
    walk_at "ss"
    have sO : own.natAbs < 2 ^ 2000 := by
      have h1 : own.natAbs < 10 ^ 300 := by
        have : ((10 : Int) ^ 60) ^ 5 = 10 ^ 300 := by decide +kernel
        rw [this] at sA
        omega
      exact Nat.lt_trans h1 (by decide +kernel)
    have fin : ∀ c : Bool, 0 ≤ own * (if c = true then 1 else 0) := fun c => Int.mul_nonneg sA.2 (by cases c <;> decide)
    · refine w_mulX sO (b01 _) ?_
      walk_at "ss"
      refine w_mod (by decide) ?_
      have hm1 := Int.emod_nonneg cell (show (2305843009213693951 : Int) ≠ 0 by decide)
      have hm2 := Int.emod_lt_of_pos cell (show (0 : Int) < 2305843009213693951 by decide)
      walk_at "ss"
      refine w_mulW (sm_le hm1 (by omega)) (sm_le (by decide) (by decide)) ?_
      walk_at "ss"
      refine w_mulW (i := 6529) (sm_le (by decide) (by decide)) si ?_
      walk_at "ss"
      refine w_mulW (sm_le (by omega) (by omega)) si ?_
      walk_at "ss"
      refine w_mod (by decide) ?_
      walk_at "ss"
      refine w_kL (Nat.le_of_ble_eq_true rfl) fun p H1 hp e1 hP => ?_
      refine k p H1 hp e1 ⟨_, _, _, hP, fin _, Int.emod_nonneg _ (by decide), Int.lt_of_lt_of_le (Int.emod_lt_of_pos _ (by decide)) (by decide), by decide, by decide⟩
def spDiv : Sp := fun vs H Q _ => ∃ a b : Nat, vs = [.int a, .int b] ∧ Q (.int (Nat.gcd a b)) H
theorem ok__law_divisor (T : Tx K mg) : FnB P w K mg base CX0 1 (ga K "_law_divisor") ["_law_one", "_law_other"] (spDiv) [] := by
  refine mkB (k := 0) T.f__law_divisor sc__law_divisor (fun _ _ _ _ _ _ us hl => match us, hl with | [_, _], _ => rfl) (by walk_at "len") fun cdv A outer s H vs Q E hr h => ?_
  obtain ⟨a, b, rfl, k⟩ := h
  refine ⟨_, (pss_cons (ps_while PassesOwn.never (pt_cmpR op_ne (pv 1) pe_int (nomark _)) (pss_one (ps_par (i := 0) (j := 1) (by rfl) sc__law_divisor.nd rfl rfl (by decide) rfl rfl (pa_cons (pv 1) (pa_cons (pe_op op_mod (pe_callTy cl_int1 (by rfl) T.b_int (by decide +kernel) (pa_cons (pv 0) pa_nil)) (pv 1)) pa_nil)) (by rfl))))
      (pss_one (ps_ret (pv 0)))), ?_⟩
  walk_at "go"
  refine w_while (fun m σ' H' => ∃ x y : Nat, σ' = [some (.int x), some (.int y)] ∧ H' = H ∧ Nat.gcd x y = Nat.gcd a b ∧ m = y) b ⟨a, b, rfl, rfl, rfl, rfl⟩ (fun m σ' H' W => ?_)
  obtain ⟨x, y, rfl, rfl, hg, rfl⟩ := W
  walk_at "ss"
  by_cases hy : m = 0
  · subst hy
    have e : (!decide (((0 : Nat) : Int) = 0)) = false := by simp
    rw [e]
    walk_at "ss"
    rw [Nat.gcd_zero_right] at hg
    rw [hg]; exact k
  · have e : (!decide (((m : Nat) : Int) = 0)) = true := by simp [hy]
    rw [e]
    refine w_iteT (w_kWh ?_)
    walk_at "ss"
    refine w_mod (by omega) ?_
    walk_at "ss"
    refine ⟨x % m, Nat.mod_lt _ (by omega), m, x % m, ?_, rfl, ?_, rfl⟩
    · have : ((x : Int) % (m : Int)) = ((x % m : Nat) : Int) := (Int.natCast_emod x m).symm
      rw [this]; rfl
    · rw [← hg, Nat.gcd_comm x m, Nat.gcd_rec m x, Nat.gcd_comm]
end
end K22
end

/-! # K23f -/
section
set_option Elab.async false
set_option linter.all false
set_option autoImplicit false
set_option maxRecDepth 100000
set_option maxHeartbeats 4000000
namespace K22
open PySem PySem.Spec PyProof.Rows L2
open He (ga ma fAd)
open Evl (Ex ex_l ex_t sq_of st_of fresh_back)
open SX (S)
section
variable {K : PySem.W.Frag} {σ : L2.St} {H : Hp} {Q : VK} {td ty : TE} {a b : Addr} {kvs : List (Key × V)} {z : Str} {v : V} {xs ys : List V} {ta : TA} {R : It → Hp → Prop}
theorem w_strI {i : Int} (hi : i.natAbs < 10 ^ 100) (h : Q (.str (S (intL i))) H) : qStrI [.int i] H Q :=
  ⟨i, rfl, PySem.Flt.log2_lt_of (by decide) (Nat.lt_trans hi (by decide +kernel)), by rw [str_intL]; exact h⟩
theorem w_cat (ha : H a = some (.lst xs)) (hb : H b = some (.lst ys)) (hz : xs.length + ys.length ≤ 100000) (h : ∀ p H', H p = none → Ex H H' → H' p = some (.lst (xs ++ ys)) → Q (.ref p) H') : rCat (.ref a) (.ref b) H Q :=
  ⟨a, b, xs, ys, rfl, rfl, ha, hb, Evl.sz_of hz, fun p hp => h p _ hp (Ex.new hp) upd_same⟩
theorem w_rep0 (ha : H a = some (.lst xs)) (h : ∀ p H', H p = none → Ex H H' → H' p = some (.lst []) → Q (.ref p) H') : rRep (.ref a) (.int 0) H Q :=
  ⟨a, 0, xs, rfl, rfl, ha, by decide, by decide, by simp, fun p hp => h p _ hp (Ex.new hp) (by rw [upd_same]; simp)⟩
def kDG (x : V) (y : V) (Q : VK) (H2 : Hp) : Prop := ∃ a v, x = .ref a ∧ DGet H2 a y (some v) ∧ Q v H2
theorem w_dget0 (h : td σ H fun x H1 => ty σ H1 fun y H2 => kDG x y Q H2) : tDGet td ty σ H Q := h
theorem w_kDG (e : H a = some (.dK kvs)) (hv : valV kvs (Sum.inr z : Key) = some v) (h : Q v H) : kDG (.ref a) (.str z) Q H := ⟨a, v, rfl, by
  have := DGet.k (k := (Sum.inr z : Key)) e
  rw [hv] at this; exact this, h⟩
theorem w_prsC {tk tv : TE} {r : List (TE × TE)} {Q : List (V × V) → Hp → Prop} (h : tk σ H fun x H1 => tv σ H1 fun y H2 => tPairs r σ H2 fun ps H3 => Q ((x, y) :: ps) H3) : tPairs ((tk, tv) :: r) σ H Q := h
theorem w_prsN {Q : List (V × V) → Hp → Prop} (h : Q [] H) : tPairs [] σ H Q := h
theorem w_disp {trs : List (TE × TE)} (h : ∀ p, H p = none → tPairs trs σ (upd H p (.dK [])) fun ps H2 => H2 p = some (.dK []) ∧ ∃ kvs : List (Key × V), ps = kvs.map (fun kv => (kV kv.1, kv.2)) ∧ kvs.length ≤ 15 ∧ Q (.ref p) (upd H2 p (.dK (mergeK [] kvs)))) : tDisp trs σ H Q := h
def kZA (K : PySem.W.Frag) (R : It → Hp → Prop) : List V → Hp → Prop := fun vs H1 => ∃ a b xs ys, vs = [.ref a, .ref b] ∧ ((SqL K H1 a xs ∧ SqL K H1 b ys ∧ R (Itz K a b) H1) ∨ (SqT K H1 a xs ∧ SqT K H1 b ys ∧ R (RZ.ItzT K a b) H1))
theorem w_iZA (h : ta σ H (kZA K R)) : RZ.iZipA K ta σ H R := h
theorem w_kZA (ha : SqT K H a xs) (hb : SqT K H b ys) (h : R (RZ.ItzT K a b) H) : kZA K R [.ref a, .ref b] H := ⟨a, b, xs, ys, rfl, .inr ⟨ha, hb, h⟩⟩
theorem walk_zipT {n : Nat} (hn : n = min xs.length ys.length) : Walk (RZ.ItzT K a b) n (fun H => SqT K H a xs ∧ SqT K H b ys) (YPair (fun i => xs[i]?) (fun i => ys[i]?)) where
  goes := fun i H hi ⟨h1, h2⟩ => ⟨xs, ys, _, _, h1, h2, List.getElem?_eq_getElem (by omega), List.getElem?_eq_getElem (by omega)⟩
  stops := fun H ⟨h1, h2⟩ => ⟨xs, ys, h1, h2, by omega⟩
  yields := fun i H x H' hi ⟨h1, h2⟩ ⟨T, y1, y2, e1, e2, e3, e4, e5⟩ => ⟨T, y1, y2, e1, e2, e3, e4 xs h1, e5 ys h2⟩
end
theorem s_sz : (Str.ofString "size ") = S (sizeW ++ [32]) := by decide
theorem s_ti : (Str.ofString "tie ") = S (tieW ++ [32]) := by decide
def row6 (t : Ti) : List V := [.int t.f, .int t.s, .int t.l, .bl false, .int t.a, .bl false]
local macro_rules | `(tactic| walk_at "fx") => `(tactic| first
  | assumption
  | ((with_reducible apply TieAt.ex); (focus assumption); walk_at "fx")
  | ((with_reducible apply LinkAt.ex); (focus assumption); walk_at "fx")
  | ((with_reducible apply ex_l); (focus assumption); walk_at "fx")
  | ((with_reducible apply ex_t); (focus assumption); walk_at "fx")
  | ((with_reducible apply sq_of); walk_at "fx")
  | ((with_reducible apply st_of); walk_at "fx")
  | ((with_reducible apply ex_at); (focus assumption); walk_at "fx"))
local macro_rules | `(tactic| walk_at "s") => `(tactic| first
  | with_reducible refine w_seq ?_
  | ((with_reducible apply w_var); focus (exact rfl))
  | with_reducible refine w_c ?_
  | with_reducible refine w_op ?_
  | with_reducible refine w_cons ?_
  | with_reducible refine w_nil ?_
  | with_reducible refine w_asg ?_
  | with_reducible refine w_name ?_
  | with_reducible refine w_ret ?_
  | with_reducible refine w_retN ?_
  | with_reducible refine w_ifS ?_
  | with_reducible refine w_isB ?_
  | with_reducible refine w_test ?_
  | with_reducible refine w_tB ?_
  | with_reducible refine w_and ?_
  | with_reducible refine w_or ?_
  | with_reducible refine w_not ?_
  | with_reducible refine w_andV ?_
  | with_reducible refine w_orV ?_
  | with_reducible refine w_notV ?_
  | with_reducible refine w_if ?_
  | with_reducible refine w_iteT ?_
  | with_reducible refine w_iteF ?_
  | with_reducible refine w_iteNT ?_
  | with_reducible refine w_iteNF ?_
  | with_reducible refine w_un ?_
  | with_reducible refine w_call ?_
  | with_reducible refine w_cb ?_
  | with_reducible refine w_next ?_
  | with_reducible refine w_drop ?_
  | with_reducible refine w_for ?_
  | with_reducible refine w_dget0 ?_
  | with_reducible refine w_prsC ?_
  | with_reducible refine w_prsN ?_
  | with_reducible refine w_iZA ?_
  | with_reducible refine w_gSub ?_
  | with_reducible refine w_iR1 ?_
  | with_reducible refine w_p8 ?_
  | with_reducible refine w_p60 ?_
  | with_reducible refine w_p5 ?_
  | with_reducible refine w_p18 ?_
  | with_reducible refine w_p9 ?_
  | with_reducible refine w_p19 ?_
  | with_reducible refine w_p29 ?_
  | with_reducible refine w_m1 ?_
  | with_reducible refine w_kM1 ?_
  | with_reducible refine w_iStr ?_
  | with_reducible refine w_kStr ?_
  | with_reducible refine w_inS ?_
  | with_reducible refine w_sta ?_
  | with_reducible refine w_iEnumT ?_
  | with_reducible refine w_thn ?_
  | with_reducible refine w_chain ?_
  | with_reducible refine w_gAttr ?_
  | with_reducible refine w_isNr ?_
  | with_reducible refine w_iEnum ?_
  | ((with_reducible apply w_kEnum); focus (walk_at "fx"))
  | with_reducible refine w_sl3 ?_
  | with_reducible refine w_noPart ?_
  | with_reducible refine w_part ?_
  | with_reducible refine w_kPt ?_
  | with_reducible refine w_bm ?_
  | with_reducible refine w_ckw ?_
  | with_reducible refine w_tst ?_
  | with_reducible refine w_mk ?_
  | ((with_reducible apply w_psl); (focus (walk_at "fx")))
  | ((with_reducible apply w_mT); (focus (walk_at "fx")); (focus (exact rfl)))
  | ((with_reducible apply w_partner); (focus (walk_at "fx")))
  | ((with_reducible apply w_led); (focus (walk_at "fx")))
  | ((with_reducible apply w_spT); (focus (walk_at "fx")))
  | with_reducible refine w_lc ?_
  | with_reducible refine w_yes ?_
  | with_reducible refine w_gCons ?_
  | with_reducible refine w_gNil ?_
  | ((with_reducible apply w_gTup); (focus (walk_at "fx")); focus (exact rfl))
  | ((with_reducible apply w_minL2); focus (walk_at "fx"))
  | ((with_reducible apply w_slT); (focus assumption); (focus (walk_at "fx")))
  | ((with_reducible apply w_kIT); focus (walk_at "fx"))
  | ((with_reducible apply w_kIL); focus (walk_at "fx"))
  | with_reducible refine w_neg ?_
  | with_reducible refine w_tie ?_
  | with_reducible refine w_iT ?_
  | with_reducible refine w_iL ?_
  | with_reducible refine w_sFld ?_
  | with_reducible refine w_sSl ?_
  | with_reducible refine w_propSl ?_
  | with_reducible refine w_par ?_
  | with_reducible refine w_kPar ?_
  | with_reducible refine w_tup ?_
  | with_reducible refine w_lst ?_
  | with_reducible refine w_I0 ?_
  | with_reducible refine w_U ?_
  | with_reducible refine w_eqI ?_
  | with_reducible refine w_neI ?_
  | with_reducible refine w_eqS ?_
  | with_reducible refine w_neS ?_
  | with_reducible refine w_eqB ?_
  | with_reducible refine w_neB ?_
  | with_reducible refine w_isNn ?_
  | with_reducible refine w_isNr ?_
  | with_reducible refine w_isNi ?_
  | with_reducible refine w_notNn ?_
  | with_reducible refine w_notNr ?_
  | with_reducible refine w_notNi ?_
  | with_reducible refine w_xisN ?_
  | with_reducible refine w_fld ?_
  | with_reducible refine w_prop ?_
  | with_reducible refine w_meth ?_
  | ((with_reducible apply w_mod); focus assumption)
  | ((with_reducible apply w_mulW); (focus assumption); focus assumption)
  | ((with_reducible apply w_divW); (focus assumption); focus assumption)
  | with_reducible refine w_int1 ?_
  | with_reducible refine w_intB ?_
  | with_reducible refine w_min2 ?_
  | with_reducible refine w_max2 ?_
  | with_reducible refine w_abs ?_
  | with_reducible refine w_isiI ?_
  | with_reducible refine w_isiNB ?_
  | with_reducible refine w_isiB ?_
  | with_reducible refine w_isiS ?_
  | ((with_reducible apply w_isiT); (focus assumption); focus (walk_at "fx"))
  | ((with_reducible apply w_fTd); (focus assumption); focus (walk_at "fx"))
  | ((with_reducible apply w_fTb); (focus assumption); focus (walk_at "fx"))
  | ((with_reducible apply w_fTf); (focus assumption); focus (walk_at "fx"))
  | ((with_reducible apply w_fTs); (focus assumption); focus (walk_at "fx"))
  | ((with_reducible apply w_fTl); (focus assumption); focus (walk_at "fx"))
  | ((with_reducible apply w_fTa); (focus assumption); focus (walk_at "fx"))
  | ((with_reducible apply w_pT); focus (walk_at "fx"))
  | with_reducible refine w_sl ?_
  | ((with_reducible apply w_len); focus (walk_at "fx"))
  | ((with_reducible apply w_kT); focus (exact Nat.le_of_ble_eq_true rfl)))
local macro_rules | `(tactic| walk_at "ss") => `(tactic| repeat (walk_at "s"))
local macro_rules | `(tactic| walk_at "go") => `(tactic| ((try dsimp only [cxOf, Cx.nox, Cx.wish]); walk_at "ss"))
local macro_rules | `(tactic| walk_at "len") => `(tactic| (intro vs H Q E h; (repeat (obtain ⟨_, h⟩ := h)); all_goals (subst_vars; rfl)))
section
variable {P : Program} {w : World} {K : PySem.W.Frag} {mg : Str → Option Value} {base : Heap}
def spTT (K : PySem.W.Frag) : Sp := fun vs H Q _ => ∃ r t, vs = [.ref r] ∧ SqT K H r (row6 t) ∧ Sz t ∧ ∀ H', Ex H H' → Q (.str (S (tieL t))) H'
theorem ok__law_tie_text (T : Tx K mg) : FnB P w K mg base CX0 1 (ga K "_law_tie_text") ["_law_row"] (spTT K) [] := by
  refine mkB (k := 0) T.f__law_tie_text sc__law_tie_text (fun _ _ _ _ _ _ us hl => match us, hl with | [_], _ => rfl) (by walk_at "len") fun cdv A outer s H vs Q E hr h => ?_
  obtain ⟨r, t, rfl, hr6, hs, k⟩ := h
  refine ⟨_, (pss_cons (ps_asg (pv 0) (pg_tup (n := 6) (by rfl) (pgs_cons (pg_name (i := 1) sc__law_tie_text.nd rfl (Or.inl rfl)) (pgs_cons (pg_name (i := 2) sc__law_tie_text.nd rfl (Or.inl rfl)) (pgs_cons (pg_name (i := 3) sc__law_tie_text.nd rfl (Or.inl rfl)) (pgs_cons (pg_name (i := 4) sc__law_tie_text.nd rfl (Or.inl rfl)) (pgs_cons (pg_name (i := 5) sc__law_tie_text.nd rfl (Or.inl rfl)) (pgs_cons (pg_name (i := 6) sc__law_tie_text.nd rfl (Or.inl rfl)) pgs_nil))))))))
      (pss_cons (ps_set (i := 7) sc__law_tie_text.nd rfl (Or.inl rfl) (pe_lst (pa_cons (pe_callTy cl_strI (by rfl) T.b_str (by decide +kernel) (pa_cons (pv 1) pa_nil)) (pa_cons (pe_callTy cl_strI (by rfl) T.b_str (by decide +kernel) (pa_cons (pv 2) pa_nil)) (pa_cons (pe_callTy cl_strI (by rfl) T.b_str (by decide +kernel) (pa_cons (pv 3) pa_nil)) (pa_cons (pe_ifExp (pt_val (pv 4)) pe_str pe_str) (pa_cons (pe_callTy cl_strI (by rfl) T.b_str (by decide +kernel) (pa_cons (pv 5) pa_nil)) pa_nil)))))))
      (pss_one (ps_ret (pe_m1 PySem.F.slot_str_join PySem.F.type_str_join mt_joi pe_str (pe_op op_cat (pv 7) (pe_op op_rep (pe_lst (pa_cons pe_str pa_nil)) (pe_callTy cl_int1 (by rfl) T.b_int (by decide +kernel) (pa_cons (pe_and (pv 6) (pe_one (pe_cmpR op_gt (pv 3) pe_int (nomark _)))) pa_nil))))))))), ?_⟩
  walk_at "go"
  unfold row6
  walk_at "ss"
  refine w_strI hs.f ?_
  walk_at "ss"
  refine w_strI hs.s ?_
  walk_at "ss"
  refine w_strI hs.l ?_
  walk_at "ss"
  refine w_strI hs.a ?_
  walk_at "ss"
  refine w_kL (Nat.le_of_ble_eq_true rfl) fun p1 H1 hp1 e1 hP1 => ?_
  walk_at "ss"
  refine w_kL (Nat.le_of_ble_eq_true rfl) fun p2 H2 hp2 e2 hP2 => ?_
  walk_at "ss"
  refine w_rep0 hP2 fun p3 H3 hp3 e3 hP3 => ?_
  walk_at "ss"
  refine w_cat (e3 _ _ (e2 _ _ hP1)) hP3 (Nat.le_of_ble_eq_true rfl) fun p4 H4 hp4 e4 hP4 => ?_
  rw [s_up] at hP4
  have hP4' : H4 p4 = some (.lst (((tieP t).map S).map V.str)) := hP4
  rw [s_b]
  have hlen : (((tieP t).map S).map (·.length)).sum + ((tieP t).map S).length * (S [32]).length ≤ 16777216 := by
    have h1 := intL_len hs.f; have h2 := intL_len hs.s; have h3 := intL_len hs.l; have h4 := intL_len hs.a
    have h5 : upL.length = 2 := rfl
    simp only [tieP, List.map_cons, List.map_nil, List.sum_cons, List.sum_nil, List.length_cons, List.length_nil, SX.S_len]
    omega
  refine w_joi (sq_of hP4') hlen ?_
  rw [SX.join_S]
  exact k H4 (((e1.trans e2).trans e3).trans e4)
def Rows6 (K : PySem.W.Frag) (H : Hp) (xs : List V) (ts : List Ti) : Prop := Paired (fun x t => ∃ r, x = V.ref r ∧ SqT K H r (row6 t)) xs ts
def spBT (K : PySem.W.Frag) : Sp := fun vs H Q _ => ∃ d n R N rows ts, vs = [.ref d] ∧ H d = some (.dK [(Sum.inr "size", .int n), (Sum.inr "ties", .ref R), (Sum.inr "notes", .ref N)]) ∧ H R = some (.lst rows) ∧ Rows6 K H rows ts ∧ H N = some (.lst []) ∧ BookOk n ts ∧ ∀ H', Ex H H' → Q (.str (S (bookL n ts))) H'
theorem ok__law_book_text (T : Tx K mg) : FnB P w K mg base CX0 2 (ga K "_law_book_text") ["_law_lore"] (spBT K) [] := by
  refine mkB (k := 1) T.f__law_book_text sc__law_book_text (fun _ _ _ _ _ _ us hl => match us, hl with | [_], _ => rfl) (by walk_at "len") fun cdv A outer s H vs Q E hr h => ?_
  obtain ⟨d, n, R, N, rows, ts, rfl, hd, hR, hrows, hN, hok, k⟩ := h
  have hn : n.natAbs < 10 ^ 100 := by have := hok.n1; have := hok.n2; omega
  have hrl : rows.length = ts.length := Paired.length hrows
  have hl12 := hok.len
  refine ⟨_, (pss_cons (ps_set (i := 1) sc__law_book_text.nd rfl (Or.inl rfl) (pe_op op_cat (pe_lst (pa_cons (pe_op op_catS pe_str (pe_callTy cl_strI (by rfl) T.b_str (by decide +kernel) (pa_cons (pe_dget (hu_of hr) (pv 0) pe_str (fun _ _ => rfl)) pa_nil))) pa_nil)) (pe_lc (own := [("_law_row", 2)]) (g := (gName 2)) rfl sc__law_book_text.nd (pi_list (pe_dget (hu_of hr) (pv 0) pe_str (fun _ _ => rfl))) (blkOk_by (N := n__law_book_text) (sc := defScope s__law_book_text) (by decide +kernel)) (fun _ _ _ _ _ => (pg_name (i := 2) sc__law_book_text.nd rfl (Or.inl rfl))) (fun _ _ _ _ _ => pts_nil) (fun _ _ _ _ _ => (pe_op op_catS pe_str (c_fn (ok__law_tie_text T) (hr.mono (by decide)) T.m__law_tie_text T.kp__law_tie_text pass0 (pa_cons (pv 2) pa_nil)))))))
      (pss_one (ps_ret (pe_m1 PySem.F.slot_str_join PySem.F.type_str_join mt_joi pe_str (pe_op op_cat (pv 1) (pe_lc (own := [("_law_place", 3), ("_law_note", 4)]) (g := (gTup K 2 (gCons (gName 3) (gCons (gName 4) gNil)))) rfl sc__law_book_text.nd (pi_list (pe_dget (hu_of hr) (pv 0) pe_str (fun _ _ => rfl))) (blkOk_by (N := n__law_book_text) (sc := defScope s__law_book_text) (by decide +kernel)) (fun _ _ _ _ _ => (pg_tup (n := 2) (by rfl) (pgs_cons (pg_name (i := 3) sc__law_book_text.nd rfl (Or.inl rfl)) (pgs_cons (pg_name (i := 4) sc__law_book_text.nd rfl (Or.inl rfl)) pgs_nil)))) (fun _ _ _ _ _ => pts_nil) (fun _ _ _ _ _ => pe_no))))))), ?_⟩
  walk_at "go"
  refine w_kDG hd (v := .int n) rfl ?_
  walk_at "ss"
  refine w_strI hn ?_
  have hil := intL_len hn
  rw [s_sz]
  refine w_catS (by rw [SX.S_len, SX.S_len]; simp [sizeW]; omega) ?_
  rw [SX.S_cat]
  have esz : sizeW ++ [32] ++ intL n = sizeL n := by show _ = sizeW ++ ([32] ++ intL n); rw [List.append_assoc]
  rw [esz]
  walk_at "ss"
  refine w_kL (Nat.le_of_ble_eq_true rfl) fun p1 H1 hp1 e1 hP1 => ?_
  walk_at "ss"
  refine w_kDG (e1 _ _ hd) (v := .ref R) rfl ?_
  refine w_kIL (sq_of (e1 _ _ hR)) ?_
  refine lcN walk_list (fun H' e => ex_l e (sq_of (e1 _ _ hR))) (fun i v _ => (ts.map fun t => V.str (S (lineL t)))[i]? = some v) (fun i v => mo_const _) (by omega) (fun i x H0 H0' hi e0 hy Q' hQ => ?_) fun p2 ys H2 hp2 e2 hP2 hl2 hy2 => ?_
  · obtain ⟨rfl, hx⟩ := hy
    obtain ⟨t, ht, r, rfl, hr6⟩ := paired_get hrows hx
    have hi' : i < ts.length := by omega
    have et : ts[i] = t := by rw [List.getElem?_eq_getElem hi'] at ht; exact Option.some.inj ht
    have hsz := (hok.good t (by rw [← et]; exact List.getElem_mem hi')).2.1
    refine ⟨rfl, ?_⟩
    walk_at "ss"
    refine ⟨r, t, rfl, ex_t e0 (ex_t e1 hr6), hsz, fun H3 e3 => ?_⟩
    rw [s_ti]
    refine w_catS (by have := tieL_len hsz; rw [SX.S_len, SX.S_len]; simp [tieW]; omega) ?_
    rw [SX.S_cat, ← lineL_eq]
    exact hQ _ H3 e3 (by simp [List.getElem?_map, ht])
  have hys : ys = ts.map fun t => V.str (S (lineL t)) := by
    apply List.ext_getElem?
    intro j
    cases q : ys[j]? with
    | none =>
      have : ys.length ≤ j := List.getElem?_eq_none_iff.mp q
      rw [List.getElem?_eq_none (by simp; omega)]
    | some v => exact (hy2 j v q).symm
  subst hys
  refine w_cat (e2 _ _ hP1) hP2 (by simp; omega) fun p3 H3 hp3 e3 hP3 => ?_
  walk_at "ss"
  have e13 := (e1.trans e2).trans e3
  refine w_kDG (e13 _ _ hd) (v := .ref N) rfl ?_
  refine w_kIL (sq_of (e13 _ _ hN)) ?_
  refine lcN (walk_list (xs := [])) (fun H' e => ex_l e (sq_of (e13 _ _ hN))) (fun _ _ _ => True) (fun i v => mo_const _) (by decide) (fun i x H0 H0' hi e0 hy Q' hQ => absurd hi (by simp)) fun p4 ys H4 hp4 e4 hP4 hl4 _ => ?_
  obtain rfl : ys = [] := List.length_eq_zero_iff.mp hl4
  refine w_cat (e4 _ _ hP3) hP4 (by simp; omega) fun p5 H5 hp5 e5 hP5 => ?_
  have hP5' : H5 p5 = some (.lst (((sizeL n :: ts.map lineL).map S).map V.str)) := by rw [hP5]; simp
  rw [s_n]
  have hlen : (((sizeL n :: ts.map lineL).map S).map (·.length)).sum + ((sizeL n :: ts.map lineL).map S).length * (S [10]).length ≤ 16777216 := by
    have h2 := size_len hn
    have h3 : ((ts.map lineL).map List.length).sum ≤ ((ts.map lineL).map List.length).length * 424 := sum_le (fun x hx => by
      obtain ⟨y, hy, rfl⟩ := List.mem_map.mp hx
      obtain ⟨t, ht, rfl⟩ := List.mem_map.mp hy
      exact lineL_len (hok.good t ht).2.1)
    have e : ((sizeL n :: ts.map lineL).map S).map (·.length) = (sizeL n :: ts.map lineL).map List.length := SX.lens _
    rw [e]
    simp only [List.length_map, List.map_cons, List.sum_cons, List.length_cons, SX.S_len, List.length_nil] at *
    omega
  refine w_joi (sq_of hP5') hlen ?_
  rw [SX.join_S]
  exact k H5 ((e13.trans e4).trans e5)
end
end K22
end

/-! # K23g -/
section
set_option Elab.async false
set_option linter.all false
set_option autoImplicit false
set_option maxRecDepth 100000
set_option maxHeartbeats 4000000
namespace K22
open PySem PySem.Spec PyProof.Rows L2
open He (ga ma fAd)
open Evl (Ex ex_l ex_t sq_of st_of fresh_back)
open SX (S)
theorem mo_sqt (K : PySem.W.Frag) (r : Addr) (xs : List V) : Mo fun H => H r = some (.tup xs) := mo_tup r xs
local macro_rules | `(tactic| walk_at "fx") => `(tactic| first
  | assumption
  | ((with_reducible apply TieAt.ex); (focus assumption); walk_at "fx")
  | ((with_reducible apply LinkAt.ex); (focus assumption); walk_at "fx")
  | ((with_reducible apply ex_l); (focus assumption); walk_at "fx")
  | ((with_reducible apply ex_t); (focus assumption); walk_at "fx")
  | ((with_reducible apply sq_of); walk_at "fx")
  | ((with_reducible apply st_of); walk_at "fx")
  | ((with_reducible apply ex_at); (focus assumption); walk_at "fx"))
local macro_rules | `(tactic| walk_at "s") => `(tactic| first
  | with_reducible refine w_seq ?_
  | ((with_reducible apply w_var); focus (exact rfl))
  | with_reducible refine w_c ?_
  | with_reducible refine w_op ?_
  | with_reducible refine w_cons ?_
  | with_reducible refine w_nil ?_
  | with_reducible refine w_asg ?_
  | with_reducible refine w_name ?_
  | with_reducible refine w_ret ?_
  | with_reducible refine w_retN ?_
  | with_reducible refine w_ifS ?_
  | with_reducible refine w_isB ?_
  | with_reducible refine w_test ?_
  | with_reducible refine w_tB ?_
  | with_reducible refine w_and ?_
  | with_reducible refine w_or ?_
  | with_reducible refine w_not ?_
  | with_reducible refine w_andV ?_
  | with_reducible refine w_orV ?_
  | with_reducible refine w_notV ?_
  | with_reducible refine w_if ?_
  | with_reducible refine w_iteT ?_
  | with_reducible refine w_iteF ?_
  | with_reducible refine w_iteNT ?_
  | with_reducible refine w_iteNF ?_
  | with_reducible refine w_un ?_
  | with_reducible refine w_call ?_
  | with_reducible refine w_cb ?_
  | with_reducible refine w_next ?_
  | with_reducible refine w_drop ?_
  | with_reducible refine w_for ?_
  | with_reducible refine w_dget0 ?_
  | with_reducible refine w_prsC ?_
  | with_reducible refine w_prsN ?_
  | with_reducible refine w_iZA ?_
  | with_reducible refine w_gSub ?_
  | with_reducible refine w_iR1 ?_
  | with_reducible refine w_p8 ?_
  | with_reducible refine w_p60 ?_
  | with_reducible refine w_p5 ?_
  | with_reducible refine w_p18 ?_
  | with_reducible refine w_p9 ?_
  | with_reducible refine w_p19 ?_
  | with_reducible refine w_p29 ?_
  | with_reducible refine w_m1 ?_
  | with_reducible refine w_kM1 ?_
  | with_reducible refine w_iStr ?_
  | with_reducible refine w_kStr ?_
  | with_reducible refine w_inS ?_
  | with_reducible refine w_sta ?_
  | with_reducible refine w_iEnumT ?_
  | with_reducible refine w_thn ?_
  | with_reducible refine w_chain ?_
  | with_reducible refine w_gAttr ?_
  | with_reducible refine w_isNr ?_
  | with_reducible refine w_iEnum ?_
  | ((with_reducible apply w_kEnum); focus (walk_at "fx"))
  | with_reducible refine w_sl3 ?_
  | with_reducible refine w_noPart ?_
  | with_reducible refine w_part ?_
  | with_reducible refine w_kPt ?_
  | with_reducible refine w_bm ?_
  | with_reducible refine w_ckw ?_
  | with_reducible refine w_tst ?_
  | with_reducible refine w_mk ?_
  | ((with_reducible apply w_psl); (focus (walk_at "fx")))
  | ((with_reducible apply w_mT); (focus (walk_at "fx")); (focus (exact rfl)))
  | ((with_reducible apply w_partner); (focus (walk_at "fx")))
  | ((with_reducible apply w_led); (focus (walk_at "fx")))
  | ((with_reducible apply w_spT); (focus (walk_at "fx")))
  | with_reducible refine w_lc ?_
  | with_reducible refine w_yes ?_
  | with_reducible refine w_gCons ?_
  | with_reducible refine w_gNil ?_
  | ((with_reducible apply w_gTup); (focus (walk_at "fx")); focus (exact rfl))
  | ((with_reducible apply w_minL2); focus (walk_at "fx"))
  | ((with_reducible apply w_slT); (focus assumption); (focus (walk_at "fx")))
  | ((with_reducible apply w_kIT); focus (walk_at "fx"))
  | ((with_reducible apply w_kIL); focus (walk_at "fx"))
  | with_reducible refine w_neg ?_
  | with_reducible refine w_tie ?_
  | with_reducible refine w_iT ?_
  | with_reducible refine w_iL ?_
  | with_reducible refine w_sFld ?_
  | with_reducible refine w_sSl ?_
  | with_reducible refine w_propSl ?_
  | with_reducible refine w_par ?_
  | with_reducible refine w_kPar ?_
  | with_reducible refine w_tup ?_
  | with_reducible refine w_lst ?_
  | with_reducible refine w_I0 ?_
  | with_reducible refine w_U ?_
  | with_reducible refine w_eqI ?_
  | with_reducible refine w_neI ?_
  | with_reducible refine w_eqS ?_
  | with_reducible refine w_neS ?_
  | with_reducible refine w_eqB ?_
  | with_reducible refine w_neB ?_
  | with_reducible refine w_isNn ?_
  | with_reducible refine w_isNr ?_
  | with_reducible refine w_isNi ?_
  | with_reducible refine w_notNn ?_
  | with_reducible refine w_notNr ?_
  | with_reducible refine w_notNi ?_
  | with_reducible refine w_xisN ?_
  | with_reducible refine w_fld ?_
  | with_reducible refine w_prop ?_
  | with_reducible refine w_meth ?_
  | ((with_reducible apply w_mod); focus assumption)
  | ((with_reducible apply w_mulW); (focus assumption); focus assumption)
  | ((with_reducible apply w_divW); (focus assumption); focus assumption)
  | with_reducible refine w_int1 ?_
  | with_reducible refine w_intB ?_
  | with_reducible refine w_min2 ?_
  | with_reducible refine w_max2 ?_
  | with_reducible refine w_abs ?_
  | with_reducible refine w_isiI ?_
  | with_reducible refine w_isiNB ?_
  | with_reducible refine w_isiB ?_
  | with_reducible refine w_isiS ?_
  | ((with_reducible apply w_isiT); (focus assumption); focus (walk_at "fx"))
  | ((with_reducible apply w_fTd); (focus assumption); focus (walk_at "fx"))
  | ((with_reducible apply w_fTb); (focus assumption); focus (walk_at "fx"))
  | ((with_reducible apply w_fTf); (focus assumption); focus (walk_at "fx"))
  | ((with_reducible apply w_fTs); (focus assumption); focus (walk_at "fx"))
  | ((with_reducible apply w_fTl); (focus assumption); focus (walk_at "fx"))
  | ((with_reducible apply w_fTa); (focus assumption); focus (walk_at "fx"))
  | ((with_reducible apply w_pT); focus (walk_at "fx"))
  | with_reducible refine w_sl ?_
  | ((with_reducible apply w_len); focus (walk_at "fx"))
  | ((with_reducible apply w_kT); focus (exact Nat.le_of_ble_eq_true rfl)))
local macro_rules | `(tactic| walk_at "ss") => `(tactic| repeat (walk_at "s"))
local macro_rules | `(tactic| walk_at "go") => `(tactic| ((try dsimp only [cxOf, Cx.nox, Cx.wish]); walk_at "ss"))
local macro_rules | `(tactic| walk_at "len") => `(tactic| (intro vs H Q E h; (repeat (obtain ⟨_, h⟩ := h)); all_goals (subst_vars; rfl)))
section
variable {P : Program} {w : World} {K : PySem.W.Frag} {mg : Str → Option Value} {base : Heap}
def spBO (K : PySem.W.Frag) : Sp := fun vs H Q _ => ∃ n p q a b S1 A1, vs = [.int n, .ref S1, .ref A1] ∧ SqT K H S1 [.int p, .int q] ∧ SqT K H A1 [.int a, .int b] ∧ BookOk n [⟨0, p, n - p, a⟩, ⟨0, q, n - q, b⟩] ∧
  ∀ k H', H k = none → Ex H H' → BkAt K H' k n (S (bookL n [⟨0, p, n - p, a⟩, ⟨0, q, n - q, b⟩])) [⟨0, p, n - p, a⟩, ⟨0, q, n - q, b⟩] .non → Q (.ref k) H'
theorem ok__law_book_of (T : Tx K mg) : FnB P w K mg base CX0 9 (ga K "_law_book_of") ["_law_size", "_law_steps", "_law_amounts"] (spBO K) [] := by
  refine mkB (k := 8) T.f__law_book_of sc__law_book_of (fun _ _ _ _ _ _ us hl => match us, hl with | [_, _, _], _ => rfl) (by walk_at "len") fun cdv A outer s H vs Q E hr h => ?_
  obtain ⟨n, p, q, a, b, S1, A1, rfl, hS, hA, hok, k⟩ := h
  refine ⟨_, (pss_cons (ps_setLc (i := 3) (own := [("_law_step", 4), ("_law_amount", 5)]) (g := (gTup K 2 (gCons (gName 4) (gCons (gName 5) gNil)))) rfl sc__law_book_of.nd rfl rfl (sw_true rfl rfl rfl (by decide +kernel)) (RZ.pi_zipA (by rfl) T.b_zip (pa_cons (pv 1) (pa_cons (pv 2) pa_nil))) (blkOk_by (N := n__law_book_of) (sc := defScope s__law_book_of) (by decide +kernel)) (fun _ _ _ _ _ => (pg_tup (n := 2) (by rfl) (pgs_cons (pg_name (i := 4) sc__law_book_of.nd rfl (Or.inl rfl)) (pgs_cons (pg_name (i := 5) sc__law_book_of.nd rfl (Or.inl rfl)) pgs_nil)))) (fun _ _ _ _ _ => pts_nil) (fun _ _ _ _ _ => (pe_tup (pa_cons pe_int (pa_cons (pv 4) (pa_cons (pe_op op_sub (pv 0) (pv 4)) (pa_cons pe_bl (pa_cons (pv 5) (pa_cons pe_bl pa_nil)))))))))
      (pss_one (ps_ret (c_make (ok_Book___init__ T) (hr.mono (by decide)) T.k_Book T.m_Book pass0 (pa_cons (c_fn (ok__law_book_text T) (hr.mono (by decide)) T.m__law_book_text T.kp__law_book_text pass0 (pa_cons (pe_disp (pps_cons pe_str (pv 0) (pps_cons pe_str (pv 3) (pps_cons pe_str (pe_lst pa_nil) pps_nil))) rfl rfl (by simp) (by decide)) pa_nil)) pa_nil))))), ?_⟩
  walk_at "go"
  refine w_kZA hS hA ?_
  let ts : List Ti := [⟨0, p, n - p, a⟩, ⟨0, q, n - q, b⟩]
  refine lcN (walk_zipT (n := 2) (xs := [.int p, .int q]) (ys := [.int a, .int b]) rfl) (fun H' e => ⟨ex_t e hS, ex_t e hA⟩) (fun i v H' => ∃ r : Addr, ∃ t : Ti, ts[i]? = some t ∧ v = .ref r ∧ H' r = some (.tup (row6 t))) (fun i v => mo_ex fun r => mo_ex fun t => mo_and (mo_const _) (mo_and (mo_const _) (mo_tup _ _))) (by decide) (fun i x H0 H1 hi e0 hy Q' hQ => ?_) fun R rows H1 hRn e1 hR hl hrows => ?_
  · obtain ⟨T1, x1, y1, rfl, hT1, rfl, hx1, hy1⟩ := hy
    have e2 : Ex H0 (upd H0 T1 (.tup [x1, y1])) := Ex.new hT1
    have hTp : upd H0 T1 (.tup [x1, y1]) T1 = some (.tup [x1, y1]) := upd_same
    generalize upd H0 T1 (.tup [x1, y1]) = H2 at *
    rcases get2 hx1 with ⟨rfl, rfl⟩ | ⟨rfl, rfl⟩
    · obtain rfl : V.int a = y1 := by simpa using hy1
      refine w_gTup (st_of hTp) rfl ?_
      walk_at "ss"
      refine ⟨rfl, ?_⟩
      walk_at "ss"
      intro r H3 hr e3 hR3
      exact hQ _ H3 (e2.trans e3) ⟨r, ⟨0, p, n - p, a⟩, rfl, rfl, hR3⟩
    · obtain rfl : V.int b = y1 := by simpa using hy1
      refine w_gTup (st_of hTp) rfl ?_
      walk_at "ss"
      refine ⟨rfl, ?_⟩
      walk_at "ss"
      intro r H3 hr e3 hR3
      exact hQ _ H3 (e2.trans e3) ⟨r, ⟨0, q, n - q, b⟩, rfl, rfl, hR3⟩
  have hr6 : ∀ H', Ex H1 H' → Rows6 K H' rows ts := fun H' e => by
    match rows, hl with
    | [x, y], _ =>
      obtain ⟨r1, t1, h1, rfl, h3⟩ := hrows 0 x rfl
      obtain ⟨r2, t2, h1', rfl, h3'⟩ := hrows 1 y rfl
      obtain rfl : (⟨0, p, n - p, a⟩ : Ti) = t1 := by simpa [ts] using h1
      obtain rfl : (⟨0, q, n - q, b⟩ : Ti) = t2 := by simpa [ts] using h1'
      exact .cons ⟨r1, rfl, st_of (e _ _ h3)⟩ (.cons ⟨r2, rfl, st_of (e _ _ h3')⟩ .nil)
  walk_at "ss"
  refine w_disp fun d hd => ?_
  have e2 : Ex H1 (upd H1 d (.dK [])) := Ex.new hd
  have hdK : upd H1 d (.dK []) d = some (.dK []) := upd_same
  generalize upd H1 d (.dK []) = H2 at *
  walk_at "ss"
  refine w_kL (by decide) fun N H3 hN e3 hN3 => ?_
  walk_at "ss"
  refine ⟨e3 _ _ hdK, [(Sum.inr "size", .int n), (Sum.inr "ties", .ref R), (Sum.inr "notes", .ref N)], rfl, Nat.le_of_ble_eq_true rfl, ?_⟩
  have hm : mergeK ([] : List (Key × V)) [(Sum.inr "size", V.int n), (Sum.inr "ties", V.ref R), (Sum.inr "notes", V.ref N)] = ([(Sum.inr "size", V.int n), (Sum.inr "ties", V.ref R), (Sum.inr "notes", V.ref N)] : List (Key × V)) := rfl
  rw [hm]
  have hdN : N ≠ d := fun z => by subst z; rw [hdK] at hN; cases hN
  have hdR : R ≠ d := fun z => by subst z; rw [hR] at hd; cases hd
  have e4 : Ex H1 (upd H3 d (.dK [(Sum.inr "size", .int n), (Sum.inr "ties", .ref R), (Sum.inr "notes", .ref N)])) := Ex.mut (e2.trans e3) hd
  have hd4 : upd H3 d (.dK [(Sum.inr "size", .int n), (Sum.inr "ties", .ref R), (Sum.inr "notes", .ref N)]) d = some (.dK [(Sum.inr "size", .int n), (Sum.inr "ties", .ref R), (Sum.inr "notes", .ref N)]) := upd_same
  have hN4 : upd H3 d (.dK [(Sum.inr "size", .int n), (Sum.inr "ties", .ref R), (Sum.inr "notes", .ref N)]) N = some (.lst []) := by rw [upd_ne hdN]; exact hN3
  generalize upd H3 d (.dK [(Sum.inr "size", .int n), (Sum.inr "ties", .ref R), (Sum.inr "notes", .ref N)]) = H4 at *
  walk_at "ss"
  refine ⟨d, n, R, N, rows, ts, rfl, hd4, e4 _ _ hR, hr6 H4 e4, hN4, hok, fun H5 e5 => ?_⟩
  walk_at "ss"
  exact w_kBook hok fun kk H6 hk e6 hB => k kk H6 (fresh_back ((e1.trans e4).trans e5) hk) (((e1.trans e4).trans e5).trans e6) hB
end
end K22
end

/-! # K24a -/
section
set_option Elab.async false
set_option linter.all false
set_option autoImplicit false
set_option maxRecDepth 100000
set_option maxHeartbeats 4000000
namespace K22
open PySem PySem.Spec PyProof.Rows L2
/-! ## two ties: the run of their steps -/
theorem endT_1 (t : Ti) : endT [t] = t.s + t.l := rfl
theorem evT_keep {t : Ti} (h : keep1 t = true) : evT [t] = [t] := by simp [evT, h]
theorem evT_drop {t : Ti} (h : keep1 t = false) : evT [t] = [] := by simp [evT, h]
theorem keep_s {f s l a : Int} (h : f ≠ s) : keep1 ⟨f, s, l, a⟩ = true := by simp [keep1, h]
theorem keep_a {f s l a : Int} (h : a ≠ 0) : keep1 ⟨f, s, l, a⟩ = true := by simp [keep1, h]
theorem br_a {f l a : Int} (h : a ≠ 0) : brT [⟨f, f, l, a⟩] = true := by simp [brT, broken, h]
theorem nobr_s {f s l a : Int} (h : f ≠ s) : broken ⟨f, s, l, a⟩ = false := by simp [broken, h]
def Two (ts : List Ti) (k : Nat) (c o : Ti) : Prop := (ts = [c, o] ∧ k = 0) ∨ (ts = [o, c] ∧ k = 1)
theorem Two.oth {ts : List Ti} {k : Nat} {c o : Ti} (h : Two ts k c o) : ts.take k ++ ts.drop (k + 1) = [o] := by
  rcases h with ⟨rfl, rfl⟩ | ⟨rfl, rfl⟩ <;> rfl
theorem Two.at_ {ts : List Ti} {k : Nat} {c o : Ti} (h : Two ts k c o) : ts[k]? = some c := by
  rcases h with ⟨rfl, rfl⟩ | ⟨rfl, rfl⟩ <;> rfl
theorem Two.pick {ts : List Ti} {k : Nat} {c o : Ti} (h : Two ts k c o) (hl : o.l < c.l) : PickT ts k := by
  rcases h with ⟨rfl, rfl⟩ | ⟨rfl, rfl⟩
  · exact .inr ⟨_, _, rfl, .inl ⟨hl, rfl⟩⟩
  · exact .inr ⟨_, _, rfl, .inr ⟨hl, rfl⟩⟩
theorem Two.mem {ts : List Ti} {k : Nat} {c o : Ti} (h : Two ts k c o) {t : Ti} (ht : t ∈ ts) : t = c ∨ t = o := by
  rcases h with ⟨rfl, rfl⟩ | ⟨rfl, rfl⟩ <;> simp at ht <;> rcases ht with h | h <;> simp [h]
theorem Two.end_ {ts : List Ti} {k : Nat} {c o : Ti} {e : Int} (h : Two ts k c o) (h1 : c.s + c.l = e) (h2 : o.s + o.l = e) : endT ts = e := by
  rcases h with ⟨rfl, rfl⟩ | ⟨rfl, rfl⟩ <;> simp only [endT, List.map_cons, List.map_nil, mxL, List.foldl_cons, List.foldl_nil, h1, h2] <;> omega
/-- what a row of the like run is -/
inductive Chain (g : Nat) (w : Int) : Int → List Rw → Prop
  | nil : Chain g w g []
  | cons {e lo : Int} {c : Ti} {rs : List Rw} : RowOk (lo, e, c) → c.a = w * c.s → (g : Int) ∣ c.s → Chain g w lo rs → Chain g w e ((lo, e, c) :: rs)
theorem run1 {m g : Nat} {e a w : Int} (hg : 0 < g) (he : (g : Int) < e) (h2 : e ≤ 10 ^ 30) (hs : Sm a) :
    Run (m + 2) [⟨0, g, e - g, a⟩] e false [((g : Int), e, ⟨0, g, e - g, a⟩)] [(0, (g : Int))] false ∧ RowOk ((g : Int), e, ⟨0, g, e - g, a⟩) := by
  refine ⟨.cut (k := 0) (by omega) (by rw [endT_1]; show (g : Int) + (e - g) = e; omega) ⟨.inl ⟨_, rfl, rfl⟩, rfl, fun t ht => ?_, ⟨Int.le_refl 0, by show (0 : Int) ≤ g; omega, by show 1 ≤ e - (g : Int); omega, by show 0 + (e - (g : Int)) ≤ _; omega, by show (g : Int) + (e - g) ≤ _; omega⟩, fun t ht => (nomatch ht), rfl, ?_, by show (g : Int) - g ≤ e - g; omega, ?_, rfl⟩ (.nil (by omega)), ⟨rfl, by show (0 : Int) < g; omega, Int.le_refl _, by show 1 ≤ e - (g : Int); omega, by show (g : Int) + (e - g) = e; omega, h2, hs⟩⟩
  · obtain rfl : t = ⟨0, g, e - g, a⟩ := by simpa using ht
    show (g : Int) + (e - g) = e; omega
  · show (g : Int) = max 0 (g : Int); omega
  · show [] = [] ++ (if (g : Int) = g then [] else _); rw [if_pos rfl]; rfl
structure Am (w : Int) (p q : Nat) (x y d : Int) : Prop where
  sg : (0 ≤ x ∧ y ≤ 0) ∨ (x ≤ 0 ∧ 0 ≤ y)
  dt : (p : Int) * y - q * x = d ∨ (p : Int) * y - q * x = -d
theorem Am.x_le {w : Int} {p q : Nat} {x y d : Int} (h : Am w p q x y d) (hq : 0 < q) : x.natAbs ≤ d.natAbs := by
  obtain ⟨sg, dt⟩ := h
  have a1 : ∀ z : Int, 0 ≤ z → z ≤ q * z := fun z hz => by
    have := Int.mul_le_mul_of_nonneg_right (show (1 : Int) ≤ q by omega) hz
    omega
  rcases sg with ⟨h1, h2⟩ | ⟨h1, h2⟩
  · have b1 := a1 x h1
    have b2 : (p : Int) * y ≤ 0 := Int.mul_nonpos_of_nonneg_of_nonpos (by omega) h2
    omega
  · have b1 := a1 (-x) (by omega)
    have b2 : 0 ≤ (p : Int) * y := Int.mul_nonneg (by omega) h2
    rw [Int.mul_neg] at b1
    omega
theorem Am.next {w : Int} {p q : Nat} {x y d : Int} (h : Am w p q x y d) : Am w (q % p) p (y - x * ((q / p : Nat) : Int)) x d := by
  obtain ⟨sg, dt⟩ := h
  have hk : (0 : Int) ≤ ((q / p : Nat) : Int) := Int.natCast_nonneg _
  have hqd : (q : Int) = p * ((q / p : Nat) : Int) + ((q % p : Nat) : Int) := by
    have := Nat.div_add_mod q p
    exact_mod_cast this.symm
  refine ⟨?_, ?_⟩
  · rcases sg with ⟨h1, h2⟩ | ⟨h1, h2⟩
    · refine .inr ⟨?_, h1⟩
      have := Int.mul_nonneg h1 hk
      generalize ((q / p : Nat) : Int) = k at *
      omega
    · refine .inl ⟨?_, h1⟩
      have := Int.mul_nonpos_of_nonpos_of_nonneg h1 hk
      generalize ((q / p : Nat) : Int) = k at *
      omega
  · have e1 : ((q % p : Nat) : Int) * x - (p : Int) * (y - x * ((q / p : Nat) : Int)) = -((p : Int) * y - q * x) := by
      generalize ((q / p : Nat) : Int) = k at *
      generalize ((q % p : Nat) : Int) = r at *
      rw [hqd, Int.mul_sub, Int.add_mul, Int.mul_comm x k, ← Int.mul_assoc]
      omega
    rw [e1]
    omega
theorem sm_amt {w x : Int} {p : Nat} (hw : w.natAbs ≤ 10 ^ 9) (hp : (p : Int) ≤ 10 ^ 30) (hx : x.natAbs ≤ 10 ^ 35) : Sm (w * p + x) := by
  have h1 : (w * (p : Int)).natAbs ≤ 10 ^ 9 * 10 ^ 30 := by
    rw [Int.natAbs_mul]
    exact Nat.mul_le_mul hw (by omega)
  exact sm_of (by omega) (by omega)
structure Res (g : Nat) (w d : Int) (p q : Nat) (e : Int) (n : Nat) (rows : List Rw) (parts : List (Int × Int)) (b : Bool) : Prop where
  ok : (d = 0 ∨ e = p + q - g) → b = false ∧ parts = [(0, (g : Int))] ∧ rows.length ≤ n + 2 ∧ ∀ r ∈ rows, RowOk r
  bad : d ≠ 0 → (p : Int) + q - g + 1 ≤ e → b = true
  chain : d = 0 → Chain g w e rows
theorem run2 {g : Nat} {w d : Int} (hg : 0 < g) (hw : w.natAbs ≤ 10 ^ 9) (hd : d.natAbs ≤ 10 ^ 35) : ∀ (n p q : Nat) (e x y : Int) (ts : List Ti) (k : Nat), 0 < p → p < q → p * q < 2 ^ n → Nat.gcd p q = g → (q : Int) + 1 ≤ e → (p : Int) + q - g ≤ e → e ≤ 10 ^ 30 → Am w p q x y d →
    Two ts k ⟨0, p, e - p, w * p + x⟩ ⟨0, q, e - q, w * q + y⟩ → ∃ rows parts b, Run (n + 2) ts e false rows parts b ∧ Res g w d p q e n rows parts b
  | 0, p, q, e, x, y, ts, k, hp, hpq, hn, _, _, _, _, _, _ => by
    have := Nat.mul_pos hp (show 0 < q by omega)
    simp at hn; omega
  | n + 1, p, q, e, x, y, ts, k, hp, hpq, hn, hgc, h1, h2, h3, ha, ht => by
    have hx := ha.x_le (by omega)
    have hsm : Sm (w * p + x) := sm_amt hw (by omega) (by omega)
    have hgd : Good ⟨0, p, e - p, w * p + x⟩ := ⟨Int.le_refl 0, by show (0 : Int) ≤ p; omega, by show 1 ≤ e - (p : Int); omega, by show 0 + (e - (p : Int)) ≤ _; omega, by show (p : Int) + (e - p) ≤ _; omega⟩
    have hro : RdOk (p : Int) (e - p) (w * p + x) (q : Int) (e - q) (w * q + y) := ⟨by omega, by omega, by omega, by omega, by omega, hsm⟩
    have hqd := Nat.div_add_mod q p
    have hrp := Nat.mod_lt q hp
    have hgc2 : Nat.gcd (q % p) p = g := by rw [← hgc, Nat.gcd_comm p q, Nat.gcd_comm (q % p) p, Nat.gcd_comm q p, Nat.gcd_rec p q, Nat.gcd_comm]
    have hnx := ha.next
    have hrd : rdT ⟨0, p, e - p, w * p + x⟩ ⟨0, q, e - q, w * q + y⟩ = ⟨0, ((q % p : Nat) : Int), e - q, w * ((q % p : Nat) : Int) + (y - x * ((q / p : Nat) : Int))⟩ := by
      have e1 : ((q : Int) % (p : Int)) = ((q % p : Nat) : Int) := (Int.natCast_emod q p).symm
      have e2 : ((q : Int) / (p : Int)) = ((q / p : Nat) : Int) := (Int.natCast_ediv q p).symm
      show (⟨0, (q : Int) % (p : Int), e - q, w * q + y - (w * p + x) * ((q : Int) / (p : Int))⟩ : Ti) = _
      rw [e1, e2]
      have e3 : w * (q : Int) + y - (w * p + x) * ((q / p : Nat) : Int) = w * ((q % p : Nat) : Int) + (y - x * ((q / p : Nat) : Int)) := by
        have hq' : (q : Int) = p * ((q / p : Nat) : Int) + ((q % p : Nat) : Int) := by exact_mod_cast hqd.symm
        generalize ((q / p : Nat) : Int) = kk at *
        generalize ((q % p : Nat) : Int) = r at *
        rw [hq', Int.mul_add, Int.add_mul, Int.mul_assoc]
        omega
      rw [e3]
    have hpick := ht.pick (show e - (q : Int) < e - p by omega)
    have hends : ∀ t ∈ ts, t.s + t.l = e := fun t hm => by
      rcases ht.mem hm with rfl | rfl
      · show (p : Int) + (e - p) = e; omega
      · show (q : Int) + (e - q) = e; omega
    have hend := ht.end_ (e := e) (by show (p : Int) + (e - p) = e; omega) (by show (q : Int) + (e - q) = e; omega)
    have hoth : ∀ t ∈ ts.take k ++ ts.drop (k + 1), t.f = 0 ∧ RdOk (p : Int) (e - p) (w * p + x) t.s t.l t.a := fun t hm => by
      rw [ht.oth] at hm
      obtain rfl : t = ⟨0, q, e - q, w * q + y⟩ := by simpa using hm
      exact ⟨rfl, hro⟩
    have hmap : (ts.take k ++ ts.drop (k + 1)).map (rdT ⟨0, p, e - p, w * p + x⟩) = [⟨0, ((q % p : Nat) : Int), e - q, w * ((q % p : Nat) : Int) + (y - x * ((q / p : Nat) : Int))⟩] := by rw [ht.oth, List.map_cons, List.map_nil, hrd]
    have hdp : (g : Int) ∣ (p : Int) := by rw [← hgc]; exact_mod_cast Nat.gcd_dvd_left p q
    have hgp : g ≤ p := Nat.le_of_dvd hp (by rw [← hgc]; exact Nat.gcd_dvd_left p q)
    by_cases hr : q % p = 0
    · have hpg : p = g := by rw [← hgc2, hr, Nat.gcd_zero_left]
      rw [hr] at hmap hnx
      subst hpg
      have hq' : (q : Int) = p * ((q / p : Nat) : Int) := by
        rw [hr] at hqd; exact_mod_cast hqd.symm
      have hrow : RowOk ((p : Int), e, ⟨0, p, e - p, w * p + x⟩) := ⟨rfl, by show (0 : Int) < p; omega, Int.le_refl _, by show 1 ≤ e - (p : Int); omega, by show (p : Int) + (e - p) = e; omega, h3, hsm⟩
      by_cases ha0 : y - x * ((q / p : Nat) : Int) = 0
      · rw [ha0] at hmap hnx
        have hd0 : d = 0 := by
          have := hnx.dt
          simp at this; omega
        have hx0 : x = 0 := by
          have : x.natAbs ≤ 0 := by rw [hd0] at hx; exact hx
          omega
        have hz : w * ((0 : Nat) : Int) + 0 = 0 := by simp
        rw [hz] at hmap
        have hev : evT [⟨0, ((0 : Nat) : Int), e - q, 0⟩] = [] := evT_drop rfl
        refine ⟨[((p : Int), e, ⟨0, p, e - p, w * p + x⟩)], [(0, (p : Int))], false, .cut (k := k) (ts' := []) (br := false) (by omega) hend ⟨hpick, ht.at_, hends, hgd, hoth, rfl, ?_, by show (p : Int) - p ≤ e - p; omega, ?_, ?_⟩ (.nil (by omega)), ⟨fun _ => ⟨rfl, rfl, by simp, fun r hr => ?_⟩, fun hd1 => absurd hd0 hd1, fun _ => ?_⟩⟩
        · rw [hmap, hev]; show (p : Int) = max 0 (p : Int); omega
        · rw [hmap, hev]; show [] = [] ++ (if (p : Int) = p then [] else _); rw [if_pos rfl]; rfl
        · rw [hmap]; rfl
        · obtain rfl := List.mem_singleton.mp hr
          exact hrow
        · exact .cons hrow (by show w * (p : Int) + x = w * p; omega) hdp .nil
      · have hbr : brT [⟨0, ((0 : Nat) : Int), e - q, w * ((0 : Nat) : Int) + (y - x * ((q / p : Nat) : Int))⟩] = true := br_a (f := 0) (by rw [show w * ((0 : Nat) : Int) = 0 from Int.mul_zero w, Int.zero_add]; exact ha0)
        have hd0 : d ≠ 0 := fun z => by
          have h5 := hnx.dt
          rw [z] at h5
          have h6 : (p : Int) * (y - x * ((q / p : Nat) : Int)) = 0 := by
            have : ((0 : Nat) : Int) * x = 0 := by simp
            rw [this] at h5; omega
          rcases Int.mul_eq_zero.mp h6 with h7 | h7
          · omega
          · exact ha0 h7
        refine ⟨_, [], true, .cut (k := k) (br := true) (by omega) hend ⟨hpick, ht.at_, hends, hgd, hoth, rfl, rfl, ?_, rfl, ?_⟩ .brk, ⟨fun h => ?_, fun _ _ => rfl, fun z => absurd z hd0⟩⟩
        · rw [hmap, evT_keep (keep_a (by rw [show w * ((0 : Nat) : Int) = 0 from Int.mul_zero w, Int.zero_add]; exact ha0)), endT_1]
          show max (((0 : Nat) : Int) + (e - q)) (p : Int) - p ≤ e - p
          omega
        · rw [hmap, hbr]
        · rcases h with h | h
          · exact absurd h hd0
          · omega
    · have hr0 : 0 < q % p := by omega
      have hgr : g ≤ q % p := Nat.le_of_dvd hr0 (by rw [← hgc2]; exact Nat.gcd_dvd_left _ _)
      have hdr : (g : Int) ∣ ((q % p : Nat) : Int) := by rw [← hgc2]; exact_mod_cast Nat.gcd_dvd_left (q % p) p
      have hmul : q % p * p < 2 ^ n := by
        have h4 : 2 * (q % p) ≤ q := by
          have h5 : 1 ≤ q / p := Nat.div_pos (by omega) hp
          have h6 : p * 1 ≤ p * (q / p) := Nat.mul_le_mul_left p h5
          omega
        have h5 : 2 * (q % p) * p ≤ q * p := Nat.mul_le_mul_right p h4
        rw [Nat.mul_assoc] at h5
        rw [Nat.pow_succ, Nat.mul_comm p q] at hn
        omega
      generalize hR : q % p = r at *
      have hr1 : (0 : Int) ≠ (r : Int) := by omega
      have hev := evT_keep (keep_s (l := e - q) (a := w * (r : Int) + (y - x * ((q / p : Nat) : Int))) hr1)
      have hbr : brT [⟨0, (r : Int), e - q, w * (r : Int) + (y - x * ((q / p : Nat) : Int))⟩] = false := by simp [brT, nobr_s hr1]
      have hlo : e - q + r = max (endT (evT ((ts.take k ++ ts.drop (k + 1)).map (rdT ⟨0, p, e - p, w * p + x⟩)))) (p : Int) := by
        rw [hmap, hev, endT_1]
        show e - q + r = max ((r : Int) + (e - q)) p
        omega
      have hrow : RowOk (e - q + r, e, ⟨0, p, e - p, w * p + x⟩) := ⟨rfl, by show (0 : Int) < p; omega, by show (p : Int) ≤ e - q + r; omega, by show 1 ≤ e - (p : Int); omega, by show (p : Int) + (e - p) = e; omega, h3, hsm⟩
      by_cases hlp : e - q + r = (p : Int)
      · -- the last of an edge
        have hrg : r = g := by omega
        have hee : e = p + q - g := by omega
        have hx2 := hnx.x_le hp
        have hs2 : Sm (w * (r : Int) + (y - x * ((q / p : Nat) : Int))) := sm_amt hw (by omega) (by omega)
        have hq2 : e - (q : Int) = p - r := by omega
        obtain ⟨hrun, hrow2⟩ := run1 (m := n) (e := (p : Int)) (a := w * (r : Int) + (y - x * ((q / p : Nat) : Int))) (w := w) hr0 (by omega) (by omega) hs2
        refine ⟨_, _, _, .cut (k := k) (br := false) (by omega) hend ⟨hpick, ht.at_, hends, hgd, hoth, rfl, by rw [← hlp]; rw [hlp]; rw [← hlp]; rw [hlp]; exact hlp.symm.trans hlo, by show (p : Int) - p ≤ e - p; omega, ?_, ?_⟩ hrun, ⟨fun _ => ⟨rfl, by rw [hrg], by simp, fun r' hr' => ?_⟩, fun _ h => by omega, fun hd0 => ?_⟩⟩
        · rw [hmap, hev]; show _ = _ ++ (if (p : Int) = p then [] else _); rw [if_pos rfl, hq2]; rfl
        · rw [hmap, hbr]
        · rcases List.mem_cons.mp hr' with rfl | hr'
          · rw [hlp] at hrow; exact hrow
          · obtain rfl := List.mem_singleton.mp hr'
            exact hrow2
        · rw [hlp] at hrow
          have hx0 : x = 0 := by rw [hd0] at hx; simpa using hx
          have hx1 : y - x * ((q / p : Nat) : Int) = 0 := by rw [hd0] at hx2; simpa using hx2
          exact .cons hrow (by show w * (p : Int) + x = w * p; omega) hdp (.cons hrow2 (by show w * (r : Int) + _ = w * (r : Int); omega) hdr (by rw [hrg]; exact .nil))
      · have hlt : (p : Int) < e - q + r := by omega
        have hq2 : e - (q : Int) = e - q + r - r := by omega
        obtain ⟨rows, parts, b, hrun, hres⟩ := run2 hg hw hd n r p (e - q + r) (y - x * ((q / p : Nat) : Int)) x [⟨0, r, e - q + r - r, w * r + (y - x * ((q / p : Nat) : Int))⟩, ⟨0, p, e - q + r - p, w * p + x⟩] 0 hr0 (by omega) hmul hgc2 (by omega) (by omega) (by omega) hnx (.inl ⟨rfl, rfl⟩)
        refine ⟨_, parts, b, .cut (k := k) (br := false) (by omega) hend ⟨hpick, ht.at_, hends, hgd, hoth, rfl, hlo, by show e - q + r - (p : Int) ≤ e - p; omega, ?_, ?_⟩ hrun, ⟨fun h => ?_, fun h h4 => hres.bad h (by omega), fun hd0 => ?_⟩⟩
        · rw [hmap, hev]; show _ = _ ++ (if e - q + r = (p : Int) then [] else _); rw [if_neg hlp, ← hq2]; rfl
        · rw [hmap, hbr]
        · obtain ⟨a1, a2, a3, a4⟩ := hres.ok (by omega)
          refine ⟨a1, a2, by simp only [List.length_cons]; omega, fun r' hr' => ?_⟩
          rcases List.mem_cons.mp hr' with rfl | hr'
          · exact hrow
          · exact a4 r' hr'
        · have hx0 : x = 0 := by rw [hd0] at hx; simpa using hx
          exact .cons hrow (by show w * (p : Int) + x = w * p; omega) hdp (hres.chain hd0)
end K22
end

/-! # K24b -/
section
set_option Elab.async false
set_option linter.all false
set_option autoImplicit false
set_option maxRecDepth 100000
set_option maxHeartbeats 4000000
namespace K22
open PySem PySem.Spec PyProof.Rows L2
/-! ## the walk of a like run -/
theorem chain_walk {g : Nat} {w e : Int} {rows : List Rw} (hg : 0 < g) (h : Chain g w e rows) : ∀ x : Int, 0 ≤ x → x < e →
    (walkM rows x).2 = x % (g : Int) ∧ sumW (walkM rows x).1 = w * (x - x % (g : Int)) ∧ (∀ k ∈ (walkM rows x).1, Sm k.1.a ∧ Sm k.2.1) ∧ (walkM rows x).1.length ≤ rows.length := by
  induction h with
  | nil =>
    intro x h0 h1
    have e1 : x % (g : Int) = x := Int.emod_eq_of_lt h0 h1
    refine ⟨e1.symm, ?_, fun k hk => (nomatch hk), Nat.le_refl _⟩
    rw [e1, Int.sub_self, Int.mul_zero]; rfl
  | @cons e lo c rs hr ha hdv hc ih =>
    intro x h0 h1
    by_cases hx : lo ≤ x
    · have hst := step_ok hr hx h1
      have hs0 : 0 < c.s := hr.s0
      have hsl : c.s ≤ lo := hr.sl
      have hW : walkM ((lo, e, c) :: rs) x = ((c, (x - lo) / c.s + 1, x) :: (walkM rs (x - ((x - lo) / c.s + 1) * c.s)).1, (walkM rs (x - ((x - lo) / c.s + 1) * c.s)).2) := by
        show (if _ then _ else _) = _
        rw [if_pos ⟨hx, h1⟩]
      have hq1 := Int.emod_add_mul_ediv (x - lo) c.s
      have hq2 := Int.emod_nonneg (x - lo) (show c.s ≠ 0 by omega)
      have hq3 := Int.emod_lt_of_pos (x - lo) hs0
      have hm1 := hst.m1
      have hm2 := hst.m2
      simp only at hm1 hm2
      rw [hW]
      generalize (x - lo) / c.s = d at *
      have e2 : (d + 1) * c.s = c.s * d + c.s := by rw [Int.add_mul, Int.one_mul, Int.mul_comm]
      have b1 : 0 ≤ x - (d + 1) * c.s := by omega
      have b2 : x - (d + 1) * c.s < lo := by omega
      obtain ⟨i1, i2, i3, i4⟩ := ih (x - (d + 1) * c.s) b1 b2
      obtain ⟨z, hz⟩ := hdv
      have e3 : (x - (d + 1) * c.s) % (g : Int) = x % (g : Int) := by
        have : x - (d + 1) * c.s = x + (-((d + 1) * z)) * g := by
          rw [hz, Int.neg_mul, Int.mul_assoc, Int.mul_comm z, ← Int.sub_eq_add_neg]
        rw [this, Int.add_mul_emod_self_right]
      refine ⟨i1.trans e3, ?_, fun k hk => ?_, by simp only [List.length_cons]; omega⟩
      · show c.a * (d + 1) + sumW (walkM rs (x - (d + 1) * c.s)).1 = _
        rw [i2, e3, ha]
        have e5 : w * c.s * (d + 1) = w * ((d + 1) * c.s) := by rw [Int.mul_assoc, Int.mul_comm c.s]
        rw [e5, ← Int.mul_add]
        congr 1; omega
      · rcases List.mem_cons.mp hk with rfl | hk
        · exact ⟨hr.sm, sm_le (by show 0 ≤ d + 1; omega) hm2⟩
        · exact i3 k hk
    · have hW : walkM ((lo, e, c) :: rs) x = walkM rs x := by
        show (if _ then _ else _) = _
        rw [if_neg (fun z => hx z.1)]
      rw [hW]
      obtain ⟨i1, i2, i3, i4⟩ := ih x h0 (by omega)
      exact ⟨i1, i2, i3, by simp only [List.length_cons]; omega⟩
/-! ## the three books of the law -/
def twoTs (p q : Nat) (n a b : Int) : List Ti := [⟨0, p, n - p, a⟩, ⟨0, q, n - q, b⟩]
theorem evT_two {p q : Nat} {n a b : Int} (hp : 0 < p) (hq : 0 < q) : evT (twoTs p q n a b) = twoTs p q n a b ∧ brT (twoTs p q n a b) = false := by
  have h1 : keep1 ⟨0, p, n - p, a⟩ = true := keep_s (by omega)
  have h2 : keep1 ⟨0, q, n - q, b⟩ = true := keep_s (by omega)
  have h3 : broken ⟨0, p, n - p, a⟩ = false := nobr_s (by omega)
  have h4 : broken ⟨0, q, n - q, b⟩ = false := nobr_s (by omega)
  simp [twoTs, evT, brT, h1, h2, h3, h4]
structure Stp (p q : Nat) (n : Int) : Prop where
  p0 : 0 < p
  q0 : 0 < q
  ne : p ≠ q
  n1 : (p : Int) + 1 ≤ n
  n2 : (q : Int) + 1 ≤ n
  n3 : (p : Int) + q - (Nat.gcd p q : Nat) ≤ n
  n4 : n ≤ 10 ^ 30
theorem Stp.book {p q : Nat} {n a b : Int} (h : Stp p q n) (ha : a.natAbs < 10 ^ 100) (hb : b.natAbs < 10 ^ 100) : BookOk n (twoTs p q n a b) := by
  obtain ⟨p0, q0, ne, n1, n2, n3, n4⟩ := h
  refine ⟨by omega, n4, Nat.le_of_ble_eq_true rfl, fun t ht => ?_⟩
  simp only [twoTs, List.mem_cons, List.not_mem_nil, or_false] at ht
  rcases ht with rfl | rfl
  · exact ⟨⟨Int.le_refl 0, by show (0 : Int) ≤ p; omega, by show 1 ≤ n - (p : Int); omega, by show 0 + (n - (p : Int)) ≤ _; omega, by show (p : Int) + (n - p) ≤ _; omega⟩, ⟨(show (0 : Int).natAbs < 10 ^ 100 by decide), by show (p : Int).natAbs < _; omega, by show (n - (p : Int)).natAbs < _; omega, ha⟩, by show max 0 (p : Int) + (n - p) ≤ n; omega⟩
  · exact ⟨⟨Int.le_refl 0, by show (0 : Int) ≤ q; omega, by show 1 ≤ n - (q : Int); omega, by show 0 + (n - (q : Int)) ≤ _; omega, by show (q : Int) + (n - q) ≤ _; omega⟩, ⟨(show (0 : Int).natAbs < 10 ^ 100 by decide), by show (q : Int).natAbs < _; omega, by show (n - (q : Int)).natAbs < _; omega, hb⟩, by show max 0 (q : Int) + (n - q) ≤ n; omega⟩
theorem Stp.run {p q : Nat} {n w d x y : Int} (h : Stp p q n) (hw : w.natAbs ≤ 10 ^ 9) (hd : d.natAbs ≤ 10 ^ 35)
    (hxy : (x = 0 ∧ y = 0 ∧ d = 0) ∨ (x = 0 ∧ 0 ≤ y ∧ d = p * y)) :
    ∃ rows parts b, RunOk 202 n (twoTs p q n (p * w + x) (q * w + y)) rows parts b ∧ Res (Nat.gcd p q) w d p q n 200 rows parts b := by
  obtain ⟨p0, q0, ne, n1, n2, n3, n4⟩ := h
  obtain ⟨h1, h2⟩ := evT_two (n := n) (a := p * w + x) (b := q * w + y) p0 q0
  have hg := Nat.gcd_pos_of_pos_left q p0
  have hlt : p * q < 2 ^ 200 := by
    have h3 : p ≤ 10 ^ 30 := by omega
    have h4 : q ≤ 10 ^ 30 := by omega
    exact Nat.lt_of_le_of_lt (Nat.mul_le_mul h3 h4) (by decide +kernel)
  have hts : twoTs p q n (p * w + x) (q * w + y) = [⟨0, p, n - p, w * p + x⟩, ⟨0, q, n - q, w * q + y⟩] := by rw [Int.mul_comm w, Int.mul_comm w]; rfl
  have hle : ∀ t ∈ twoTs p q n (p * w + x) (q * w + y), t.f ≤ t.s := fun t ht => by
    simp only [twoTs, List.mem_cons, List.not_mem_nil, or_false] at ht
    rcases ht with rfl | rfl
    · show (0 : Int) ≤ p; omega
    · show (0 : Int) ≤ q; omega
  by_cases hpq : p < q
  · have ham : Am w p q x y d := by
      rcases hxy with ⟨rfl, rfl, rfl⟩ | ⟨rfl, h5, rfl⟩
      · exact ⟨.inl ⟨Int.le_refl _, Int.le_refl _⟩, .inl (by simp)⟩
      · exact ⟨.inr ⟨Int.le_refl _, h5⟩, .inl (by simp)⟩
    obtain ⟨rows, parts, b, hr, hs⟩ := run2 hg hw hd 200 p q n x y _ 0 p0 hpq hlt rfl n2 n3 n4 ham (.inl ⟨rfl, rfl⟩)
    exact ⟨rows, parts, b, ⟨by decide, by rw [h1, h2, hts]; exact hr, hle, Nat.le_of_ble_eq_true rfl⟩, hs⟩
  · have ham : Am w q p y x d := by
      rcases hxy with ⟨rfl, rfl, rfl⟩ | ⟨rfl, h5, rfl⟩
      · exact ⟨.inl ⟨Int.le_refl _, Int.le_refl _⟩, .inl (by simp)⟩
      · exact ⟨.inl ⟨h5, Int.le_refl _⟩, .inr (by simp)⟩
    have hgc := Nat.gcd_comm q p
    obtain ⟨rows, parts, b, hr, hs⟩ := run2 hg hw hd 200 q p n y x [⟨0, p, n - p, w * p + x⟩, ⟨0, q, n - q, w * q + y⟩] 1 q0 (by omega) (by rw [Nat.mul_comm]; exact hlt) hgc n1 (by omega) n4 ham (.inr ⟨rfl, rfl⟩)
    refine ⟨rows, parts, b, ⟨by decide, by rw [h1, h2, hts]; exact hr, hle, Nat.le_of_ble_eq_true rfl⟩, ⟨fun h => hs.ok ?_, fun h h6 => hs.bad h (by omega), hs.chain⟩⟩
    rcases h with h | h
    · exact .inl h
    · exact .inr (by omega)
theorem Stp.like {p q : Nat} {n w : Int} (h : Stp p q n) (hw : w.natAbs ≤ 10 ^ 9) :
    ∃ rows, RunOk 202 n (twoTs p q n (p * w) (q * w)) rows [(0, (Nat.gcd p q : Nat))] false ∧ (∀ r ∈ rows, RowOk r) ∧ rows.length ≤ 202 ∧ Chain (Nat.gcd p q) w n rows := by
  obtain ⟨rows, parts, b, h1, h2⟩ := h.run (w := w) (d := 0) (x := 0) (y := 0) hw (by decide) (.inl ⟨rfl, rfl, rfl⟩)
  obtain ⟨rfl, rfl, h3, h4⟩ := h2.ok (.inl rfl)
  rw [Int.add_zero, Int.add_zero] at h1
  exact ⟨rows, h1, h4, h3, h2.chain rfl⟩
theorem d_ok {p : Nat} {y : Int} (hp : (p : Int) ≤ 10 ^ 30) (h1 : 1 ≤ y) (h2 : y ≤ 9) (hp0 : 0 < p) : ((p : Int) * y).natAbs ≤ 10 ^ 35 ∧ (p : Int) * y ≠ 0 := by
  refine ⟨?_, fun z => ?_⟩
  · rw [Int.natAbs_mul]
    have h3 : (p : Int).natAbs * y.natAbs ≤ 10 ^ 30 * 9 := Nat.mul_le_mul (by omega) (by omega)
    omega
  · rcases Int.mul_eq_zero.mp z with h | h <;> omega
theorem Stp.short {p q : Nat} {n w y : Int} (h : Stp p q n) (hw : w.natAbs ≤ 10 ^ 9) (h1 : 1 ≤ y) (h2 : y ≤ 9) (hn : n = p + q - (Nat.gcd p q : Nat)) :
    ∃ rows, RunOk 202 n (twoTs p q n (p * w) (q * w + y)) rows [(0, (Nat.gcd p q : Nat))] false := by
  obtain ⟨d1, d2⟩ := d_ok (p := p) (y := y) (by have := h.n1; have := h.n4; omega) h1 h2 h.p0
  obtain ⟨rows, parts, b, h3, h4⟩ := h.run (w := w) (d := p * y) (x := 0) (y := y) hw d1 (.inr ⟨rfl, by omega, rfl⟩)
  obtain ⟨rfl, rfl, _, _⟩ := h4.ok (.inr hn)
  rw [Int.add_zero] at h3
  exact ⟨rows, h3⟩
theorem Stp.long {p q : Nat} {n w y : Int} (h : Stp p q n) (hw : w.natAbs ≤ 10 ^ 9) (h1 : 1 ≤ y) (h2 : y ≤ 9) (hn : (p : Int) + q - (Nat.gcd p q : Nat) + 1 ≤ n) :
    ∃ rows parts, RunOk 202 n (twoTs p q n (p * w) (q * w + y)) rows parts true := by
  obtain ⟨d1, d2⟩ := d_ok (p := p) (y := y) (by have := h.n1; have := h.n4; omega) h1 h2 h.p0
  obtain ⟨rows, parts, b, h3, h4⟩ := h.run (w := w) (d := p * y) (x := 0) (y := y) hw d1 (.inr ⟨rfl, by omega, rfl⟩)
  obtain rfl := h4.bad d2 hn
  rw [Int.add_zero] at h3
  exact ⟨rows, parts, h3⟩
end K22
end

/-! # K25a -/
section
set_option Elab.async false
set_option linter.all false
set_option autoImplicit false
set_option maxRecDepth 100000
set_option maxHeartbeats 4000000
namespace K22
open PySem PySem.Spec PyProof.Rows PySem.W PySem.Calls PySem.HandSPX
/-! ## the errors of the program: TuneError.__init__, as Clash says it -/
/-- the written part's word on Clash, at C, on TuneError, at D, and on its __init__, at fI -/
structure ClTx (K : Frag) (mg : Str → Option Value) (file : Str) (C D fI : Addr) : Prop where
  gC : mg "Clash" = some (.ref C)
  gS : mg "super" = none
  cls : ∃ nm q N bs bm sn sub ab col dd k0 k1 k2 k3 k5, K.lookup C = some (excClassObj nm q C N bs bm true sn sub ab col dd k0 k1 k2 k3 k5 "ValueError.__new__") ∧ refsVE bm = true
  clD : ∃ cd, clsIn K D = some cd
  sa : findIn K (.ref C) "__setattr__" = some (some (.builtin "object.__setattr__"))
  ga : findIn K (.ref C) "__getattribute__" = some (some (.builtin "BaseException.__getattribute__"))
  gg : findIn K (.ref C) "__getattr__" = some none
  noN : findIn K (.ref C) "value" = some none
  iC : findIn K (.ref C) "__init__" = some (some (.ref fI))
  tC : typeIn K (.ref fI) = some (.type "function")
  kC : keepIn K (.ref C) = true
  exC : subIn K (.ref C) (.type "BaseException") = some true
  veC : subIn K (.ref C) (.type "ValueError") = some true
  tyC : typeIn K (.ref C) = some (.type "type")
  hdC : hasDictIn K C = true
  sub : mroIn K C (.ref D) = some true
  sup : ks_superIn K C D "__init__" = some (some (.builtin "ValueError.__init__"))
  fn : ∃ (oc : Value) (od : Option Addr) (doc pm : Value) (an : Option Addr) (cda cc : Addr) (ct : Value) (osl : Array (Option Value)) (p1 p2 : Pos) (ccl cl : Value) (cdd cld : Option Addr) (ccs csl : Array (Option Value)) (vs : Array Value) (tf : Tok),
    K.lookup fI = some ⟨oc, od, .func (ksFn "__init__" "TuneError.__init__" (teA p1 p2) teB teS .none .none doc pm an (.ref cda) ct cc), osl⟩ ∧ codeIn K (.ref cda) "TuneError.__init__" = true ∧
    K.lookup cda = some ⟨ccl, cdd, .fields vs, ccs⟩ ∧ vs[2]? = some (.str file tf) ∧ K.lookup cc = some ⟨cl, cld, .cell (some (.ref D)), csl⟩
structure ClK (P : Program) (K : Frag) (mg : Str → Option Value) (base : Heap) (C : Addr) : Prop where
  opq : ∃ K2 : Frag, K2.In base ∧ nsIn K2 cStatics "thirdparty.any" = some none
  ex : ∃ file D fI, ClTx K mg file C D fI ∧ ((P.main.file : Str) == file) = true ∧ (P.main.scope.names.lookup ("super" : Str)).isSome = false
theorem one_size (v : Value) : [v].length ≤ sizeLine := by
  rw [sizeLine_eq]
  exact (by decide : 1 ≤ 16777216)
theorem kept_but {K : Frag} {h h' : Heap} {x : Addr} (X : K.In h) (hx : K.lookup x = none) (k : ∀ b o, b ≠ x → h.get? b = some o → h'.get? b = some o) : K.In h' := fun a o e =>
  k a o (fun z => by rw [z, hx] at e; cases e) (X a o e)
/-- what __init__ leaves of a fresh exception at x -/
structure TeEnd (h h' : Heap) (x C dx t1 : Addr) (v : Value) : Prop where
  keep : ∀ b o, b ≠ x → h.get? b = some o → h'.get? b = some o
  obj : h'.get? x = some { cls := .ref C, dict := some dx, data := .fields #[.ref t1, .none, .none, .none, .bool false, .none] }
  dbig : h.objs.size ≤ dx
  dne : dx ≠ x
  ns : h'.Ns1 dx (fun y => if y = "value" then some v else none)
structure TeMade (h h' : Heap) (e C d : Addr) (v : Value) : Prop where
  keep : ∀ b o, h.get? b = some o → h'.get? b = some o
  new : h.objs.size ≤ e
  obj : ∃ oe vs, h'.get? e = some oe ∧ oe.cls = .ref C ∧ oe.dict = some d ∧ oe.data = .fields vs ∧ vs[1]? = some .none
  dbig : h.objs.size ≤ d
  dne : d ≠ e
  ns : h'.Ns1 d (fun y => if y = "value" then some v else none)
section
variable {prog : Program} {w : World} {A : Around} {E : Value → Shared → Prop} {R : Result → Shared → Prop} {s : Shared} {K : Frag} {mg : Str → Option Value} {C D fI : Addr}
theorem te_wrap {h : Heap} {g : Array GenState} {d : Drawn} {t : Nat} {os : OsState} {u x t0 : Addr} {rest : List Value} {Q : Value → Shared → Prop} {nm q : Str} {N : Addr} {bs bm : List Value} {sn : List Str} {sub : List Value} {ab : Bool} {col : Option Bool} {dd : Option Addr} {k0 k1 k2 k3 k5 : Option Value}
    (hC : h.get? C = some (excClassObj nm q C N bs bm true sn sub ab col dd k0 k1 k2 k3 k5 "ValueError.__new__")) (hu : h.get? u = some (kxs_mw "ValueError.__init__" x)) (hx : h.get? x = some (excO C t0)) (hz : rest.length ≤ sizeLine)
    (hq : ∀ h', (∀ b o, b ≠ x → h.get? b = some o → h'.get? b = some o) → h'.get? x = some (excO C h.objs.size) → Q .none ⟨h', g, d, t, os⟩) :
    wpAny (model prog w) A (call (.ref u) rest) Q E ⟨h, g, d, t, os⟩ := by
  refine wpAny_call (codeAny_of_tree ?_)
  show wpAny _ A.in1 (callAny (.ref u) ⟨rest, []⟩) _ _ _
  simp only [callAny]
  refine wpAny_bind (wpAny_load hu ?_)
  simp only [kxs_mw, show (Value.type "method-wrapper" == Value.type "method" || Value.type "method-wrapper" == Value.type "builtin_function_or_method" || Value.type "method-wrapper" == Value.type "method-wrapper") = true by decide, if_true]
  refine KFB.if_so (by decide) ?_
  refine wpAny_bind (check_bound_init F.excBase_ValueError.toExcCallFacts hC hx rfl ?_)
  refine wpAny_bind (wpAny_pure (wpAny_pure ?_))
  refine ⟨plainId_quiet F.excBase_ValueError.init.plain _, codeAny_builtin F.excBase_ValueError.initEntry ?_⟩
  exact exc_init_tree (cls := .ref C) (t0 := t0) (dv := none) (c2 := .none) (c3 := .none) (b4 := .bool false) hx hz fun h' k e _ => hq h' k e
theorem te_callWith1 {M : Model} {pos : Pos} {env : Env} {i : String} {u x : Addr} {e : Expr} {rest : List Expr} {Q : Value → Shared → Prop}
    (h : wpAny M A (spliced ((false, eval e env) :: backTo pos (starEach rest env))) (fun vs s₁ => KxsAt i u x s₁.heap ∧ wpAny M A (call (.ref u) vs) Q E s₁) E s)
    (he : starEach (e :: rest) env = (false, eval e env) :: starEach rest env := by rfl) (hplain : (backTo pos (starEach rest env)).any (·.1) = false := by rfl) :
    wpAny M A (callWith pos (.ref u) [] (backTo pos (starEach (e :: rest) env)) []) Q E s := by
  rw [he]
  refine kxs_callWith (i := i) (x := x) (by show (false || (backTo pos (starEach rest env)).any (·.1)) = false; rw [hplain]; rfl) ?_
  exact evalArgs_plain h
theorem te_init {file : Str} (T : ClTx K mg file C D fI) (hpf : ((prog.main.file : Str) == file) = true) (htop : (prog.main.scope.names.lookup ("super" : Str)).isSome = false) {x t0 : Addr} {v : Value} (X : K.In s.heap) (hlim : s.heap.NoLimit) (hgl : s.heap.Ns mainGlobals mg)
    (hbl : ∃ mb, s.heap.Ns builtinsNs mb ∧ ∀ x : Str, x ≠ "__name__" → mb x = bootBuiltins x) {K2 : Frag} (XO : K2.In s.heap) (ho2 : nsIn K2 cStatics "thirdparty.any" = some none) (hx : s.heap.get? x = some (excO C t0)) (hnx : K.lookup x = none) (hroom : A.depth < recursionLimit)
    (hq : ∀ h' tk dx t1, TeEnd s.heap h' x C dx t1 v → R (.ok (.ret .none)) { s with heap := h', toks := tk }) :
    codeAny (model prog w) A (.call (.ref fI) ⟨[.ref x, v], []⟩) R s := by
  obtain ⟨oc, od, doc, pm, an, cda, cc, ct, osl, p1, p2, ccl, cl, cdd, cld, ccs, csl, vs, tf, ho, hcd, hcda, hvs, hcc⟩ := T.fn
  obtain ⟨nm, q, N, bs, bm, sn, sub, ab, col, dd, k0, k1, k2, k3, k5, hC, hbm⟩ := T.cls
  obtain ⟨cdD, hD⟩ := T.clD
  have hcl : clsIn K C = some { name := nm, bases := bs, mro := .ref C :: bm, ns := N, qualname := q, hasDict := true, slotNames := sn, subclasses := sub, abstract := ab, collection := col, hasDel := false } := by unfold clsIn; rw [hC] <;> rfl
  refine ks_codeAny_call_defAt (fd := ksFn "__init__" "TuneError.__init__" (teA p1 p2) teB teS .none .none doc pm an (.ref cda) ct cc) (body := teB) (binds := [("self", .ref x), ("value", v)]) hroom (X _ _ ho) rfl hlim (codeRec_of X hcd) rfl
    (BindsTo.of_eq (by first | rfl | with_unfolding_all rfl)) (by show ∀ x ∈ teS.names, x.2 ≠ .cell; decide) (by intro y hy; simp only [List.mem_cons, List.not_mem_nil, or_false] at hy; rcases hy with rfl | rfl <;> rfl) (fun h₁ hns k => ?_)
  have X₁ : K.In h₁ := X.keeps k
  have hx₁ := k _ _ hx
  have hxL : x ≠ s.heap.objs.size := Nat.ne_of_lt (Heap.lt_size hx)
  obtain ⟨oD, hD1, hD2⟩ : ∃ oD, h₁.get? D = some oD ∧ oD.data = .cls cdD := by
    unfold clsIn at hD
    split at hD
    · rename_i c d cd' sl ho
      cases hD
      exact ⟨_, X₁ _ _ ho, rfl⟩
    · cases hD
  obtain ⟨mb, hb1, hb2⟩ := hbl
  obtain ⟨hp0, g, d, t, os⟩ := s
  have hcast : callEnv (ksFn "__init__" "TuneError.__init__" (teA p1 p2) teB teS .none .none doc pm an (.ref cda) ct cc) hp0.objs.size fI = ksEnv "TuneError.__init__" teS hp0.objs.size fI (.ref cda) cc := rfl
  rw [hcast]
  show _root_.PySem.wpAt _ _ _ (execs (.Expr (.Call (.Attribute (.Call (.Name "super" ⟨8, 8, 8, 13⟩) [] [] ⟨8, 8, 8, 15⟩) "__init__" ⟨8, 8, 8, 24⟩) [.Name "value" ⟨8, 25, 8, 30⟩] [] ⟨8, 8, 8, 31⟩) ⟨8, 8, 8, 31⟩ :: _) _) _ _ _
  refine ks_wpAt_execs_cons (ks_wpAt_Expr_any (ks_wpAt_MethodCall ?_))
  refine ks_wpAt_super_base (file := file) (tf := tf) (ar := { arg := "self", annotation := none, pos := p1 }) rfl rfl (by decide) rfl (X₁ _ _ ho) rfl rfl rfl (X₁ _ _ hcda) rfl hvs hpf htop ?_
  refine ks_loadName_global rfl rfl (loadGlobal_builtin (env := ksEnv "TuneError.__init__" teS hp0.objs.size fI (.ref cda) cc) (hgl.keeps k) T.gS (hb1.keeps k) ((hb2 _ (by decide)).trans PyProof.Rows.Boot.«super») ⟨rfl, ?_⟩)
  refine wpAny_loadName_free rfl rfl rfl ⟨_, X₁ _ _ hcc, rfl⟩ ?_
  refine wpAny_loadName_local rfl rfl hns (v := .ref x) (by first | rfl | with_unfolding_all rfl | kernel_rfl) ?_
  refine ks_wpAny_isType_cls hD1 hD2 ⟨rfl, ?_⟩
  refine ks_wpAny_call_super hD1 hD2 hx₁ rfl (fun c e => by cases e) (looks_mroIn X₁ T.sub) (fun h₂ hso k2 => ?_)
  have X₂ : K.In h₂ := X₁.keeps k2
  have hx₂ := k2 _ _ hx₁
  have hxC : x ≠ C := fun z => by rw [z, hC] at hnx; cases hnx
  have hI : Looks (model prog w) h₂ (isInstance (.ref x) (.type "ValueError")) true := InstAt.type (od := none) ⟨hx₂, rfl, rfl, trivial⟩ |>.andThen (looks_subIn X₂ T.veC)
  have hm := T.sup
  unfold ks_superIn at hm
  rw [hcl] at hm
  refine kxs_getMethod kxs_ValueError hso (looks_opaque ((XO.keeps k).keeps k2) ho2) (l₀ := .ref C :: bm) (fun A Q E s k q => wpAny_bind ((looks_clsIn X₂ hcl) A _ E s k (wpAny_pure q))) rfl X₂ hm hI hxC (by decide) ?_
  have hu : (h₂.push (kxs_mw "ValueError.__init__" x)).get? h₂.objs.size = some (kxs_mw "ValueError.__init__" x) := Heap.get?_push_at rfl rfl
  have k3' : ∀ b o, h₂.get? b = some o → (h₂.push (kxs_mw "ValueError.__init__" x)).get? b = some o := fun b o e => Heap.get?_push_of_some _ e
  have lt2 : h₁.objs.size < h₂.objs.size := Heap.lt_size hso
  generalize h₂.push (kxs_mw "ValueError.__init__" x) = h₃ at *
  have k13 : ∀ b o, h₁.get? b = some o → h₃.get? b = some o := fun b o e => k3' b o (k2 b o e)
  have hns3 : h₃.Ns hp0.objs.size (fun y => [(("self" : Str), Value.ref x), (("value" : Str), v)].reverse.lookup y) := hns.keeps k13
  refine te_callWith1 (i := "ValueError.__init__") (x := x) ?_
  refine spliced_cons (wpAny_Name (wpAny_loadName_local rfl rfl hns3 (v := v) (by first | rfl | with_unfolding_all rfl | kernel_rfl) (spliced_nil ⟨hu, ?_⟩)) (by decide))
  have X₃ : K.In h₃ := X₂.keeps k3'
  refine te_wrap (X₃ _ _ hC) hu (k3' _ _ hx₂) (one_size v) fun h₄ k4 hx₄ => ?_
  have X₄ : K.In h₄ := kept_but X₃ hnx k4
  have k14 : ∀ b o, b ≠ x → h₁.get? b = some o → h₄.get? b = some o := fun b o hb e => k4 b o hb (k13 b o e)
  have hns4 : h₄.Ns hp0.objs.size (fun y => [(("self" : Str), Value.ref x), (("value" : Str), v)].reverse.lookup y) := by
    obtain ⟨oL, es, ep, hL, r⟩ := hns
    exact ⟨oL, es, ep, k14 _ _ (Ne.symm hxL) hL, r⟩
  -- self.value = value
  refine wpAt_of_wpAny ?_
  show wpAny _ _ (execs _ _) _ _ _
  refine wpAny_execs_cons (plainObj_wpAny_Assign_Attribute ?_)
  refine wpAny_Name (wpAny_loadName_local rfl rfl hns4 (v := v) (by first | rfl | with_unfolding_all rfl | kernel_rfl) ?_) (by decide)
  refine wpAny_Name (wpAny_loadName_local rfl rfl hns4 (v := .ref x) (by first | rfl | with_unfolding_all rfl | kernel_rfl) ?_) (by decide)
  refine set_plain X₄ (ox := excO C h₃.objs.size) (od := none) ⟨hx₄, rfl, rfl, trivial⟩ T.sa ?_
  refine exc_osa X₄ hx₄ hcl (show refsVE (.ref C :: bm) = true from hbm) rfl T.noN (fun h₅ tk₅ dx k₅ dn dne hx₅ hn₅ => ?_)
  show wpAny _ _ (execs _ _) _ _ _
  have z1 : hp0.objs.size < h₁.objs.size := hns.lt
  have z4 : hp0.objs.size < h₄.objs.size := hns4.lt
  exact wpAny_execs_nil (hq h₅ tk₅ dx _ ⟨fun b o hb e => k₅ b o hb (k14 b o hb (k b o e)), hx₅, Nat.le_of_lt (Nat.lt_of_lt_of_le z4 dn), dne, hn₅⟩)
theorem te_made {file : Str} (T : ClTx K mg file C D fI) (hpf : ((prog.main.file : Str) == file) = true) (htop : (prog.main.scope.names.lookup ("super" : Str)).isSome = false) {v : Value} (X : K.In s.heap) (hlim : s.heap.NoLimit) (hgl : s.heap.Ns mainGlobals mg)
    (hbl : ∃ mb, s.heap.Ns builtinsNs mb ∧ ∀ x : Str, x ≠ "__name__" → mb x = bootBuiltins x) {K2 : Frag} (XO : K2.In s.heap) (ho2 : nsIn K2 cStatics "thirdparty.any" = some none) (hroom : A.depth + 1 < recursionLimit)
    (hq : ∀ h' tk e d, TeMade s.heap h' e C d v → R (.ok (.ret (.ref e))) { s with heap := h', toks := tk }) :
    codeAny (model prog w) A (.call (.ref C) ⟨[v], []⟩) R s := by
  obtain ⟨nm, q, N, bs, bm, sn, sub, ab, col, dd, k0, k1, k2, k3, k5, hC, hbm⟩ := T.cls
  obtain ⟨mb, hb1, hb2⟩ := hbl
  obtain ⟨hp, g, dr, tk, os⟩ := s
  have k : ∀ b o, hp.get? b = some o → ((hp.push (kdv_tup [v])).push (excO C hp.objs.size)).get? b = some o := fun b o e => Heap.get?_push_of_some _ (Heap.get?_push_of_some _ e)
  have hget : ((hp.push (kdv_tup [v])).push (excO C hp.objs.size)).get? (hp.objs.size + 1) = some (excO C hp.objs.size) := by heap_get
  have hnx : K.lookup (hp.objs.size + 1) = none := by
    cases e : K.lookup (hp.objs.size + 1) with
    | none => rfl
    | some o =>
      have z : hp.get? (hp.objs.size + 1) = some o := X _ _ e
      exact absurd (Nat.lt_of_succ_lt (Heap.lt_size z)) (Nat.lt_irrefl _)
  refine call_own F.excBase_ValueError (fun X => refsVE_contains X bm hbm) (X _ _ hC) (looks_findIn X T.iC) (fun self => bind_fn X self T.tC) (one_size v) ?_
  refine te_init (s := ⟨(hp.push (kdv_tup [v])).push (excO C hp.objs.size), g, dr, tk, os⟩) T hpf htop (X.keeps k) (hlim.keeps k) (hgl.keeps k) ⟨mb, hb1.keeps k, hb2⟩ (XO.keeps k) ho2 hget hnx ?_ fun h' tk' dx t1 ⟨k', hx, dn, dne, hns⟩ => ?_
  · show A.depth + 1 < recursionLimit
    exact hroom
  · have old : ∀ b o, hp.get? b = some o → h'.get? b = some o := fun b o e => k' b o (Nat.ne_of_lt (Nat.lt_succ_of_lt (Heap.lt_size e))) (k b o e)
    have z : hp.objs.size + 1 + 1 ≤ dx := by
      first
        | (simpa only [Heap.size_push] using dn)
        | exact dn
        | (have q := dn; rw [Heap.size_push, Heap.size_push] at q; exact q)
    exact ⟨rfl, hq h' tk' (hp.objs.size + 1) dx ⟨old, Nat.le_succ _, ⟨_, _, hx, rfl, rfl, rfl, rfl⟩, Nat.le_trans (Nat.le_trans (Nat.le_succ _) (Nat.le_succ _)) z, dne, hns⟩⟩
end
end K22
end

/-! # K25b -/
section
set_option Elab.async false
set_option linter.all false
set_option autoImplicit false
set_option maxRecDepth 100000
set_option maxHeartbeats 4000000
namespace L2
open PySem PySem.Spec PyProof.Rows
theorem relO_val {v : V} {v' : Value} (r : RelV v v') (f : Str) : RelO (List.lookup f [(("value" : Str), v)]) (if f = "value" then some v' else none) := by
  by_cases hw : f = "value"
  · subst hw
    rw [if_pos rfl]
    have q : List.lookup ("value" : Str) [(("value" : Str), v)] = some v := by simp [List.lookup]
    rw [q]
    exact r
  · rw [if_neg hw]
    have qw : (f == ("value" : Str)) = false := by simpa using hw
    have q2 : List.lookup f [(("value" : Str), v)] = none := by simp [List.lookup, qw]
    rw [q2]
    trivial
/-- Clash(e) -/
def tMkCl (C : Addr) (ta : TA) : St → Hp → XK → Prop := fun σ H Q => ta σ H fun vs H1 => ∃ v, vs = [v] ∧ ∀ d, H1 d = none → Q (.ref C) (some d) (upd H1 d (.xd [(("value" : Str), v)]))
theorem pmk_cl {X : Cx} {C : Addr} {a : Expr} {ta : TA} {p pos : Pos} {k : Nat} (T : K22.ClK X.prog X.K X.mg X.base C) (hr : Room k X.A) (ha : PA X [a] ta) (hg : Gl X "Clash" := by rfl)
    (he : starEach (a :: []) X.env = (false, eval a X.env) :: starEach [] X.env := by rfl) (hpl : (backTo pos (starEach [] X.env)).any (·.1) = false := by rfl) :
    PMk X (.Call (.Name "Clash" p) [a] [] pos) (tMkCl C ta) := by
  obtain ⟨K2, XO, ho2⟩ := T.opq
  obtain ⟨file, D, fI, T, hpf, htop⟩ := T.ex
  intro pins s σ H Q I h
  refine wpAny_Call_Name_kw (ld_glob I hg T.gC ?_)
  refine PySem.W.callWith_K (h₀ := X.base) I.ok.mod.kin T.kC (thn (ha.run pos pins s σ H _ I h) fun us s1 hh => ?_) he hpl
  obtain ⟨vs, H1, I1, r1, v, ev, q1⟩ := hh
  subst ev
  refine ⟨I1.kIn, ?_⟩
  cases r1 with
  | cons rv rn =>
    rename_i v' us'
    cases rn
    show wpAny _ _ (call (.ref C) [v']) _ _ _
    have hlim := I1.nolimit
    have hgl := I1.mod.glob.keeps I1.bk
    obtain ⟨mb, hb1, hb2⟩ := I1.mod.blt
    have hb3 := hb1.keeps I1.bk
    have XO1 := XO.keeps I1.bk
    obtain ⟨hp, g, dr, tk, os⟩ := s1
    refine wpAny_call (K22.te_made T hpf htop I1.kIn hlim hgl ⟨mb, hb3, hb2⟩ XO1 ho2 (by have := hr.dp; omega) fun h' tk' e d M => ?_)
    show MkP X pins σ Q (.ref e) ⟨h', g, dr, tk', os⟩
    obtain ⟨oe, fv, hoe, hc, hd, hdat, h1⟩ := M.obj
    have hns := M.ns
    obtain ⟨G', g1, g2⟩ := restrict h' fun b => decide (b ≠ e)
    have gk : ∀ b, b ≠ e → G'.get? b = h'.get? b := fun b hb => g1 b (decide_eq_true hb)
    have ge : G'.get? e = none := g2 e (by simp)
    have old : ∀ b o, hp.get? b = some o → G'.get? b = some o := fun b o q => (gk b (Nat.ne_of_lt (Nat.lt_of_lt_of_le (Heap.lt_size q) M.new))).trans (M.keep b o q)
    have ob : ObjOk X.prog X.w (upd H1 d (.xd [(("value" : Str), v)])) G' d (.xd [(("value" : Str), v)]) :=
      ⟨_, hns.at (fun o q => (gk d M.dne).trans q), fun f => relO_val rv f⟩
    have J : Inv X pins σ (upd H1 d (.xd [(("value" : Str), v)])) ⟨G', g, dr, tk', os⟩ := I1.laid (t' := tk') old M.dbig ob
    refine ⟨e, oe, fv, ⟨G', g, dr, tk', os⟩, _, .ref C, some d, rfl, J, fun b o q => ?_, ge, hoe, ⟨hc, hd⟩, hdat, h1, ?_, rfl, I1.bare, raises_own T.exC T.tyC, q1 d (I1.hok.fresh M.dbig)⟩
    · by_cases hb : b = e
      · have q' : G'.get? b = some o := q
        rw [hb, ge] at q'; cases q'
      · exact (gk b hb).symm.trans q
    · rw [upd_ne (Ne.symm M.dne)]
      exact I1.hok.fresh M.new
/-- raise Clash(e) -/
def tRaiseCl (C : Addr) (W : WX) (ta : TA) : TS := fun _ σ H => tMkCl C ta σ H fun cls d H' => W cls d σ H'
theorem ps_raiseCl {X : Cx} {C : Addr} {a : Expr} {ta : TA} {W : WX} {p pos pos2 : Pos} {k : Nat} (hc : X.calm = true) (T : K22.ClK X.prog X.K X.mg X.base C) (hr : Room k X.A) (tk : Takes X W) (ha : PA X [a] ta) (hg : Gl X "Clash" := by rfl)
    (he : starEach (a :: []) X.env = (false, eval a X.env) :: starEach [] X.env := by rfl) (hpl : (backTo pos (starEach [] X.env)).any (·.1) = false := by rfl) :
    PS X (.Raise (some (.Call (.Name "Clash" p) [a] [] pos)) none pos2) (tRaiseCl C W ta) := ps_raise hc tk (pmk_cl T hr ha hg he hpl)
end L2
namespace K22
open PySem PySem.Spec PyProof.Rows L2
open He (ga ma fAd)
open Evl (Ex ex_l ex_t sq_of st_of fresh_back)
theorem w_raiseCl {C : Addr} {W : WX} {ta : TA} {D : Ends} {σ : L2.St} {H : Hp} (h : ta σ H fun vs H1 => ∃ v, vs = [v] ∧ ∀ d, H1 d = none → W (.ref C) (some d) σ (upd H1 d (.xd [(("value" : Str), v)]))) : tRaiseCl C W ta D σ H := h
section
variable {P : Program} {w : World} {K : PySem.W.Frag} {mg : Str → Option Value} {base : Heap}
theorem mkX {x qual : Str} {st : Stmt} {f : Addr} {N ps : List Str} {k : Nat} {sp : Sp} (hf : ∃ fd, FunD K x qual (defArgs st) (defBody st) (defScope st) [] [] f fd) (S : FnScope N ps (defScope st))
    (hb : ∀ (kV doc pm : Value) (an : Option Addr) (cdv ct : Value) (us : List Value), us.length = ps.length → bindArgs (PySem.W.fnOf x qual (defArgs st) (defBody st) (defScope st) .none kV doc pm an cdv ct) ⟨us, []⟩ = pure (ps.zip us))
    (len : ∀ vs H Q E, sp vs H Q E → vs.length = ps.length)
    (hbody : ∀ (cdv : Value) (A : Around) (outer : List Env) (s : Shared) (H : Hp) (vs : List V) (Q : VK) (E : XK), Room k (A.deeper (envOfC qual (defScope st) s.heap.objs.size f cdv)) → sp vs H Q E →
      Takes (cxOf (CX P w) P w K mg base N qual (defScope st) f cdv A outer s H E) (fun cls d _ H => E cls d H) →
      ∃ t, PSs (cxOf (CX P w) P w K mg base N qual (defScope st) f cdv A outer s H E) (defBody st) t ∧ t { nx := fun _ H' => Q .non H', rt := Q } (start N vs) H) : FnB P w K mg base (CX P w) (k + 1) f ps sp [] := by
  obtain ⟨fd, F⟩ := hf
  refine ⟨fd, [], F.ok S len (fun cdv A outer s H vs Q E hr h => ?_), .nil, F.bindsN hb⟩
  exact hbody cdv A outer s H vs Q E hr h (takes_of rfl rfl rfl rfl)
theorem passX {X : Cx} {E : XK} (tk : Takes X (fun cls d _ H => E cls d H)) : Passes (CX X.prog X.w) X E := passes_call tk fun _ _ _ _ h => h
local macro_rules | `(tactic| walk_at "fx") => `(tactic| first
  | assumption
  | ((with_reducible apply TieAt.ex); (focus assumption); walk_at "fx")
  | ((with_reducible apply LinkAt.ex); (focus assumption); walk_at "fx")
  | ((with_reducible apply ex_l); (focus assumption); walk_at "fx")
  | ((with_reducible apply ex_t); (focus assumption); walk_at "fx")
  | ((with_reducible apply sq_of); walk_at "fx")
  | ((with_reducible apply st_of); walk_at "fx")
  | ((with_reducible apply ex_at); (focus assumption); walk_at "fx"))
local macro_rules | `(tactic| walk_at "s") => `(tactic| first
  | with_reducible refine w_seq ?_
  | ((with_reducible apply w_var); focus (exact rfl))
  | with_reducible refine w_c ?_
  | with_reducible refine w_op ?_
  | with_reducible refine w_cons ?_
  | with_reducible refine w_nil ?_
  | with_reducible refine w_asg ?_
  | with_reducible refine w_name ?_
  | with_reducible refine w_ret ?_
  | with_reducible refine w_retN ?_
  | with_reducible refine w_ifS ?_
  | with_reducible refine w_isB ?_
  | with_reducible refine w_test ?_
  | with_reducible refine w_tB ?_
  | with_reducible refine w_and ?_
  | with_reducible refine w_or ?_
  | with_reducible refine w_not ?_
  | with_reducible refine w_andV ?_
  | with_reducible refine w_orV ?_
  | with_reducible refine w_notV ?_
  | with_reducible refine w_if ?_
  | with_reducible refine w_iteT ?_
  | with_reducible refine w_iteF ?_
  | with_reducible refine w_iteNT ?_
  | with_reducible refine w_iteNF ?_
  | with_reducible refine w_un ?_
  | with_reducible refine w_call ?_
  | with_reducible refine w_cb ?_
  | with_reducible refine w_next ?_
  | with_reducible refine w_drop ?_
  | with_reducible refine w_for ?_
  | with_reducible refine w_dget0 ?_
  | with_reducible refine w_prsC ?_
  | with_reducible refine w_prsN ?_
  | with_reducible refine w_iZA ?_
  | with_reducible refine w_gSub ?_
  | with_reducible refine w_iR1 ?_
  | with_reducible refine w_p8 ?_
  | with_reducible refine w_p60 ?_
  | with_reducible refine w_p5 ?_
  | with_reducible refine w_p18 ?_
  | with_reducible refine w_p9 ?_
  | with_reducible refine w_p19 ?_
  | with_reducible refine w_p29 ?_
  | with_reducible refine w_m1 ?_
  | with_reducible refine w_kM1 ?_
  | with_reducible refine w_iStr ?_
  | with_reducible refine w_kStr ?_
  | with_reducible refine w_inS ?_
  | with_reducible refine w_sta ?_
  | with_reducible refine w_iEnumT ?_
  | with_reducible refine w_thn ?_
  | with_reducible refine w_chain ?_
  | with_reducible refine w_gAttr ?_
  | with_reducible refine w_isNr ?_
  | with_reducible refine w_iEnum ?_
  | ((with_reducible apply w_kEnum); focus (walk_at "fx"))
  | with_reducible refine w_sl3 ?_
  | with_reducible refine w_noPart ?_
  | with_reducible refine w_part ?_
  | with_reducible refine w_kPt ?_
  | with_reducible refine w_bm ?_
  | with_reducible refine w_ckw ?_
  | with_reducible refine w_tst ?_
  | with_reducible refine w_mk ?_
  | ((with_reducible apply w_psl); (focus (walk_at "fx")))
  | ((with_reducible apply w_mT); (focus (walk_at "fx")); (focus (exact rfl)))
  | ((with_reducible apply w_partner); (focus (walk_at "fx")))
  | ((with_reducible apply w_led); (focus (walk_at "fx")))
  | ((with_reducible apply w_spT); (focus (walk_at "fx")))
  | with_reducible refine w_lc ?_
  | with_reducible refine w_yes ?_
  | with_reducible refine w_gCons ?_
  | with_reducible refine w_gNil ?_
  | ((with_reducible apply w_gTup); (focus (walk_at "fx")); focus (exact rfl))
  | ((with_reducible apply w_minL2); focus (walk_at "fx"))
  | ((with_reducible apply w_slT); (focus assumption); (focus (walk_at "fx")))
  | ((with_reducible apply w_kIT); focus (walk_at "fx"))
  | ((with_reducible apply w_kIL); focus (walk_at "fx"))
  | with_reducible refine w_neg ?_
  | with_reducible refine w_tie ?_
  | with_reducible refine w_iT ?_
  | with_reducible refine w_iL ?_
  | with_reducible refine w_sFld ?_
  | with_reducible refine w_sSl ?_
  | with_reducible refine w_propSl ?_
  | with_reducible refine w_par ?_
  | with_reducible refine w_kPar ?_
  | with_reducible refine w_tup ?_
  | with_reducible refine w_lst ?_
  | with_reducible refine w_I0 ?_
  | with_reducible refine w_U ?_
  | with_reducible refine w_eqI ?_
  | with_reducible refine w_neI ?_
  | with_reducible refine w_eqS ?_
  | with_reducible refine w_neS ?_
  | with_reducible refine w_eqB ?_
  | with_reducible refine w_neB ?_
  | with_reducible refine w_isNn ?_
  | with_reducible refine w_isNr ?_
  | with_reducible refine w_isNi ?_
  | with_reducible refine w_notNn ?_
  | with_reducible refine w_notNr ?_
  | with_reducible refine w_notNi ?_
  | with_reducible refine w_xisN ?_
  | with_reducible refine w_fld ?_
  | with_reducible refine w_prop ?_
  | with_reducible refine w_meth ?_
  | ((with_reducible apply w_mod); focus assumption)
  | ((with_reducible apply w_mulW); (focus assumption); focus assumption)
  | ((with_reducible apply w_divW); (focus assumption); focus assumption)
  | with_reducible refine w_int1 ?_
  | with_reducible refine w_intB ?_
  | with_reducible refine w_min2 ?_
  | with_reducible refine w_max2 ?_
  | with_reducible refine w_abs ?_
  | with_reducible refine w_isiI ?_
  | with_reducible refine w_isiNB ?_
  | with_reducible refine w_isiB ?_
  | with_reducible refine w_isiS ?_
  | ((with_reducible apply w_isiT); (focus assumption); focus (walk_at "fx"))
  | ((with_reducible apply w_fTd); (focus assumption); focus (walk_at "fx"))
  | ((with_reducible apply w_fTb); (focus assumption); focus (walk_at "fx"))
  | ((with_reducible apply w_fTf); (focus assumption); focus (walk_at "fx"))
  | ((with_reducible apply w_fTs); (focus assumption); focus (walk_at "fx"))
  | ((with_reducible apply w_fTl); (focus assumption); focus (walk_at "fx"))
  | ((with_reducible apply w_fTa); (focus assumption); focus (walk_at "fx"))
  | ((with_reducible apply w_pT); focus (walk_at "fx"))
  | with_reducible refine w_sl ?_
  | ((with_reducible apply w_len); focus (walk_at "fx"))
  | ((with_reducible apply w_kT); focus (exact Nat.le_of_ble_eq_true rfl)))
local macro_rules | `(tactic| walk_at "ss") => `(tactic| repeat (walk_at "s"))
local macro_rules | `(tactic| walk_at "go") => `(tactic| ((try dsimp only [cxOf, Cx.nox, Cx.wish]); walk_at "ss"))
local macro_rules | `(tactic| walk_at "len") => `(tactic| (intro vs H Q E h; (repeat (obtain ⟨_, h⟩ := h)); all_goals (subst_vars; rfl)))
def spKeptX (K : PySem.W.Frag) (C : Addr) : Sp := fun vs H _ E => ∃ a n z ts rows parts m, vs = [.ref a] ∧ BkSt K H a n z ts rows parts true ∧ RunOk m n ts rows parts true ∧
  ∀ d H', ExB a H H' → BkSt K H' a n z ts rows parts true → H' d = some (.xd [("value", .ref a)]) → E (.ref C) (some d) H'
theorem okx_kept {C : Addr} (T : Tx K mg) (CT : ClK P K mg base C) : FnB P w K mg base (CX P w) 14 (ga K "kept_ladder") ["book"] (spKeptX K C) [] := by
  refine mkX (k := 13) T.f_kept_ladder sc_kept_ladder (fun _ _ _ _ _ _ us hl => match us, hl with | [_], _ => rfl) (by walk_at "len") fun cdv A outer s H vs Q E hr h tk => ?_
  obtain ⟨a, n, z, ts, rows, parts, m, rfl, hb, hR, k⟩ := h
  refine ⟨_, (pss_cons (ps_set (i := 1) sc_kept_ladder.nd rfl (Or.inl rfl) (c_fn (ok_ladder_of T) (hr.mono (by decide)) T.m_ladder_of T.kp_ladder_of pass0 (pa_cons (pv 0) pa_nil)))
      (pss_cons (ps_if (pt_cmpR op_notN1 (pe_fld (pv 1) rfl) pe_non (nomark _)) (pss_one (ps_raiseCl (C := C) rfl CT hr tk (pa_cons (pv 0) pa_nil))) pss_nil)
      (pss_one (ps_ret (pv 1))))), ?_⟩
  walk_at "go"
  refine ⟨a, n, z, ts, rows, parts, true, m, rfl, hb, hR, fun l H1 e1 hB hL => ?_⟩
  walk_at "ss"
  obtain ⟨dx, Cc, Pp, bv, xs, ys, h1, h2, h3, h4, h5, h6⟩ := id hL
  obtain ⟨bl, rfl⟩ : ∃ bl, bv = .ref bl := by
    rcases h6 with ⟨h, _⟩ | ⟨_, h⟩
    · cases h
    · exact h
  refine w_fL h1 T.c_Ladder T.a_Ladder_broken (v := .ref bl) rfl ?_
  walk_at "ss"
  refine w_raiseCl ?_
  walk_at "ss"
  refine ⟨_, rfl, fun d hd => ?_⟩
  have e2 : Ex H1 (upd H1 d (.xd [("value", .ref a)])) := Ex.new hd
  exact k d _ (e1.then e2) (BkSt.ex e2 ⟨_, hB, .inr ⟨l, rfl, hL⟩⟩) upd_same
theorem okx_free {C : Addr} (T : Tx K mg) (CT : ClK P K mg base C) : FnB P w K mg base (CX P w) 15 (ga K "free") ["book"] (spKeptX K C) [] := by
  refine mkX (k := 14) T.f_free sc_free (fun _ _ _ _ _ _ us hl => match us, hl with | [_], _ => rfl) (by walk_at "len") fun cdv A outer s H vs Q E hr h tk => ?_
  obtain ⟨a, n, z, ts, rows, parts, m, rfl, hb, hR, k⟩ := h
  refine ⟨_, (pss_one (ps_ret (c_prop (ok_Ladder_free T) (hr.mono (by decide)) T.c_Ladder T.p_Ladder_free (c_fn (okx_kept T CT) (hr.mono (by decide)) T.m_kept_ladder T.kp_kept_ladder (passX tk) (pa_cons (pv 0) pa_nil))))), ?_⟩
  walk_at "go"
  exact ⟨a, n, z, ts, rows, parts, m, rfl, hb, hR, k⟩
def spHangsX (K : PySem.W.Frag) (C : Addr) : Sp := fun vs H _ E => ∃ a x n z ts rows parts m, vs = [.ref a, .int x] ∧ 0 ≤ x ∧ x ≤ n - 1 ∧ BkSt K H a n z ts rows parts true ∧ RunOk m n ts rows parts true ∧
  ∀ d H', ExB a H H' → BkSt K H' a n z ts rows parts true → H' d = some (.xd [("value", .ref a)]) → E (.ref C) (some d) H'
theorem okx_hangs {C : Addr} (T : Tx K mg) (CT : ClK P K mg base C) : FnB P w K mg base (CX P w) 16 (ga K "hangs") ["book", "place"] (spHangsX K C) [] := by
  refine mkX (k := 15) T.f_hangs sc_hangs (fun _ _ _ _ _ _ us hl => match us, hl with | [_, _], _ => rfl) (by walk_at "len") fun cdv A outer s H vs Q E hr h tk => ?_
  obtain ⟨a, x, n, z, ts, rows, parts, m, rfl, h0, h1, hb, hR, k⟩ := h
  obtain ⟨lad, ⟨dx, tp, np, os, hb1, _⟩, _⟩ := id hb
  refine ⟨_, (pss_cons (ps_expr (c_fn (ok_check_place T) (hr.mono (by decide)) T.m_check_place T.kp_check_place pass0 (pa_cons (pv 0) (pa_cons (pv 1) pa_nil))))
      (pss_one (ps_ret (c_meth (ok_Ladder_reading T) (hr.mono (by decide)) T.c_Ladder T.h_Ladder_reading pass0 (c_fn (okx_kept T CT) (hr.mono (by decide)) T.m_kept_ladder T.kp_kept_ladder (passX tk) (pa_cons (pv 0) pa_nil)) (pa_cons (pv 1) pa_nil))))), ?_⟩
  walk_at "go"
  refine ⟨a, dx, _, n, x, rfl, hb1, rfl, h0, h1, ?_⟩
  walk_at "ss"
  exact ⟨a, n, z, ts, rows, parts, m, rfl, hb, hR, k⟩
end
end K22
end

/-! # K25c -/
section
set_option Elab.async false
set_option linter.all false
set_option autoImplicit false
set_option maxRecDepth 100000
set_option maxHeartbeats 4000000
namespace K22
open PySem PySem.Spec PyProof.Rows L2
/-! ## a caught error that is handed on as a value -/
/-- at a stands an error of the class cls, its dict d -/
def exE (a : Addr) (cls : Value) (d : Option Addr) : HO := .ext fun h => ∃ oe vs, h.get? a = some oe ∧ oe.cls = cls ∧ oe.dict = d ∧ oe.data = .fields vs
theorem exE_own {a x : Addr} {cls : Value} {d : Option Addr} : exE a cls d ≠ .own x := fun z => by
  have z' : HO.ext _ = HO.own x := z
  cases z'
theorem exE_ok {P : Program} {w : World} {H : Hp} {h : Heap} {a : Addr} {cls : Value} {d : Option Addr} {oe : Obj} {vs : Array Value} (he : h.get? a = some oe) (h1 : oe.cls = cls) (h2 : oe.dict = d) (h3 : oe.data = .fields vs) : ObjOk P w H h a (exE a cls d) :=
  ⟨⟨oe, vs, he, h1, h2, h3⟩, ⟨_, he⟩, fun _ _ ⟨o, v, q1, q2⟩ k => ⟨o, v, k _ q1, q2⟩⟩
theorem exE_at {P : Program} {w : World} {H : Hp} {h : Heap} {a : Addr} {cls : Value} {d : Option Addr} (hok : HOk P w H h) (he : H a = some (exE a cls d)) : ∃ oe vs, h.get? a = some oe ∧ oe.cls = cls ∧ oe.dict = d ∧ oe.data = .fields vs := by
  have x : ObjOk P w H h a (.ext fun h => ∃ oe vs, h.get? a = some oe ∧ oe.cls = cls ∧ oe.dict = d ∧ oe.data = .fields vs) := hok a _ he
  exact x.1
section
variable {X : Cx} {pins : List (Addr × Obj)} {σ : L2.St} {H : Hp} {s : Shared} {a : Addr} {oe : Obj}
/-- what was pinned is told in the heap from now on -/
theorem inv_track {cls : Value} {d : Option Addr} {vs : Array Value} (I : Inv X ((a, oe) :: pins) σ H s) (h0 : X.s_0.heap.get? a = none) (np : ∀ p ∈ X.pn ++ pins, p.1 ≠ a) (h1 : oe.cls = cls) (h2 : oe.dict = d) (h3 : oe.data = .fields vs) : Inv X pins σ (upd H a (exE a cls d)) s := by
  have mem : (a, oe) ∈ X.pn ++ (a, oe) :: pins := List.mem_append_right _ List.mem_cons_self
  obtain ⟨ha, hn, hL, hF, hc⟩ := I.pin (a, oe) mem
  have keep : ∀ {b : Addr} {o : HO}, H b = some o → upd H a (exE a cls d) b = some o := fun {b o} e => by rw [upd_ne (ne_of_none e hn)]; exact e
  have neC : ∀ x c, X.env.cells.lookup x = some c → c ≠ a := fun x c e z => by
    obtain ⟨v, o, ho, hd⟩ := I.cell x c e
    rw [z] at ho
    have q : o = oe := Option.some.inj (ho.symm.trans ha)
    rw [q] at hd
    exact hc v hd
  refine ⟨I.ok, I.os, I.bare, ⟨I.base.keep, I.base.slot, fun b o e n hx => ?_, I.base.there, fun b xs e => keep (I.base.tups b xs e), fun b o u e => keep (I.base.frzs b o u e), fun b ps e => ?_⟩, I.loc, I.cell, ?_, fun x c e => ?_, fun p hp => ?_, fun b o q => ?_, I.len⟩
  · rw [upd_ne (fun z => by rw [z, h0] at e; cases e)]
    exact I.base.free b o e n hx
  · obtain ⟨more, q⟩ := I.base.tbls b ps e
    exact ⟨more, keep q⟩
  · rw [upd_ne (Ne.symm hL)]; exact I.free
  · rw [upd_ne (neC x c e)]; exact I.freeC x c e
  · have mp : p ∈ X.pn ++ (a, oe) :: pins := by
      rcases List.mem_append.mp hp with z | z
      · exact List.mem_append_left _ z
      · exact List.mem_append_right _ (List.mem_cons_of_mem _ z)
    obtain ⟨q1, q2, q3⟩ := I.pin p mp
    exact ⟨q1, by rw [upd_ne (np p hp)]; exact q2, q3⟩
  · by_cases hb : b = a
    · subst hb
      rw [upd_same] at q
      cases q
      exact exE_ok ha h1 h2 h3
    · rw [upd_ne hb] at q
      exact (I.hok b o q).stay (fun _ _ _ e => e) (fun _ e => keep e) fun _ _ e => keep e
end
/-- what 'except c as n: .. return ..' wishes of an error of the body: slot i is n's; it is told on -/
def wTr (K : PySem.W.Frag) (c : Value) (i m : Nat) (ts : Addr → Value → Option Addr → TS) (Wout : WX) (D : Ends) : WX := fun cls d σ H =>
  ∃ b, PySem.W.exmOne K cls c = some b ∧ (b = true → σ.length = m → ∀ a, H a = none → ts a cls d { nx := fun _ _ => False, rt := fun v H' => H' a = none → D.rt v (upd H' a (exE a cls d)), bk := fun _ _ => False, ct := fun _ _ => False } (σ.set i (some (.ref a))) H) ∧ (b = false → Wout cls d σ H)
section
variable {X : Cx} {x n : Str} {c : Value} {i : Nat} {body suite : List Stmt} {b₀ : Stmt} {np pos pos' : Pos} {tb : WX → TS} {ts : Addr → Value → Option Addr → TS} {Wout : WX}
theorem ps_try_ret (hs : X.stack = X.env :: X.outer) (hf : X.env.frame = some X.env.locals) (hex : X.ex = []) (hN : X.N.Nodup) (hi : X.N[i]? = some n) (hln : X.env.kindOf n = some .local) (hc : Names X x c) (tk : Takes X Wout)
    (hb : ∀ (W : WX) (pn : List (Addr × Obj)) (xe : Value → Shared → Prop), Takes (X.tr pn xe) W → PSs (X.tr pn xe) body (tb W))
    (hsu : ∀ (a : Addr) (oe : Obj) (cls : Value) (d : Option Addr) (pn : List (Addr × Obj)), PSs (X.suite a ((a, oe) :: pn)) (b₀ :: suite) (ts a cls d)) :
    PS X (.Try body [.ExceptHandler (some (.Name x np)) (some n) (b₀ :: suite) pos'] [] [] pos) (fun D σ H => tb (wTr X.K c i X.N.length ts Wout D) D σ H) := by
  refine ⟨fun pins s σ H D I h => ?_⟩
  have ok := I.ok
  have hfr : X.A.frames = some (X.env :: X.outer) := by rw [ok.frames, hs]
  refine wpAny_Try_except ?_
  refine wpAny_mono ((hb (wTr X.K c i X.N.length ts Wout D) (X.pn ++ pins) (fun e s1 => wpAny (model X.prog X.w) X.A (noteFrame e X.env) (fun _ s2 => wpAny (model X.prog X.w) X.A (setFlight e none) (fun _ s3 =>
    wpAny (model X.prog X.w) X.A (handleBy e X.env [.ExceptHandler (some (.Name x np)) (some n) (b₀ :: suite) pos']) (SP X pins D) X.xe s3) X.xe s2) X.xe s1) (fun u s' xx => ?_)).run [] s σ H D (I.toTry _) h) (fun f s1 hsp => ?_) (fun e s1 he => he)
  · obtain ⟨a, B, sI, pins', σ', H', cls, d, rfl, J', nb, up, sky, na, os, ag, b, hb1, hyes, hno⟩ := xx
    have J : Inv X pins σ' H' sI := J'.ofTry ok
    refine Sky.land Zc.steady hfr hf (by rw [← hs]; exact sky) fun h3 fl3 up3 => ?_
    have J3 : Inv X pins σ' H' { s' with heap := h3 } := J.landed nb fl3.1 (up.trans up3) os ag
    obtain ⟨oe3, vs3, he3, hz3, hd3⟩ := fl3.there
    have nfr : a ∉ frs (X.env :: X.outer) := fun hm => by
      obtain ⟨_, o', e', hnf⟩ := fl3.2.2.1.mem hm
      have q : oe3 = o' := Option.some.inj (he3.symm.trans e')
      rw [← q] at hnf
      exact hnf _ hd3
    have aI : sI.heap.get? a = none := by
      cases e : sI.heap.get? a with
      | none => rfl
      | some o =>
        have z := nb a o e (by rw [hs]; exact nfr)
        rw [fl3.2.1] at z; cases z
    have a0 : X.s_0.heap.get? a = none := by
      cases e : X.s_0.heap.get? a with
      | none => rfl
      | some o =>
        obtain ⟨o', z⟩ := J.base.there a o e (by rw [hex]; exact fun z => nomatch z)
        rw [aI] at z; cases z
    have np' : ∀ p ∈ X.pn ++ pins, p.1 ≠ a := fun p hp z => by
      have q := (J.pin p hp).1
      rw [z, aI] at q; cases q
    have nL : a ≠ X.env.locals := fun z => nfr (List.mem_filterMap.mpr ⟨X.env, List.mem_cons_self, by rw [hf, z]⟩)
    have nF : a ∉ X.fs := fun hm => by
      obtain ⟨e, he, q⟩ := List.mem_filterMap.mp hm
      exact nfr (List.mem_filterMap.mpr ⟨e, List.mem_cons_of_mem _ he, q⟩)
    have S3 := J3.suite he3 hd3 na nL nF
    refine wpAny_handleBy_cons (codeAny_handlers_test ?_) (by intro q; cases q)
    have LM := PySem.W.exm_one (M := model X.prog X.w) J3.kIn (fun A Q E s k q => wpAny_typeOf_ref (k _ _ he3) (by rw [hz3.1]; exact q)) hb1
    have test : ∀ {Q : Value → Shared → Prop} {E : Value → Shared → Prop}, Q c { s' with heap := h3 } → wpAny (model X.prog X.w) (X.A.mark (some (.ref a))) (eval (.Name x np) X.env) Q E { s' with heap := h3 } := fun {Q E} q => by
      obtain ⟨hg, hdbg, hm | ⟨hm, hv, hnn⟩⟩ := hc
      · exact ld_glob (X := X.suite a ((a, oe3) :: (X.pn ++ pins))) S3 hg hm q hdbg
      · exact ld_blt (X := X.suite a ((a, oe3) :: (X.pn ++ pins))) S3 hg hm hv q hnn hdbg
    refine test (LM.here ?_)
    cases b with
    | true =>
      refine codeAny_handlers_suite_as (HandSPX.lands_againZ fl3 fun h4 fl4 up4 => ?_)
      have J4 : Inv X pins σ' H' { s' with heap := h4 } := J.landed nb fl4.1 ((up.trans up3).trans up4) os ag
      obtain ⟨oe4, vs4, he4, hz4, hd4⟩ := fl4.there
      refine store_ok (X := X.suite a ((a, oe4) :: (X.pn ++ pins))) (v := .ref a) (J4.suite he4 hd4 na nL nF) hN hi (.inl hln) rfl (fun s5 S5 => ?_) (.inr hln)
      refine wpAny_mono ((hsu a oe4 cls d (X.pn ++ pins)).run [] s5 _ H' _ S5 (hyes rfl J.len a na)) (fun f s6 hsp => ?_) (fun _ _ z => False.elim z)
      cases f with
      | next => obtain ⟨_, _, _, z⟩ := hsp; exact False.elim z
      | brk => obtain ⟨_, _, _, z⟩ := hsp; exact False.elim z
      | cont => obtain ⟨_, _, _, z⟩ := hsp; exact False.elim z
      | ret u =>
        obtain ⟨v6, σ6, H6, S6, r6, q6⟩ := hsp
        have U6 : Inv X ((a, oe4) :: pins) σ6 H6 s6 := by
          have V6 := S6.unsuite ok
          refine ⟨ok, V6.os, V6.bare, V6.base, V6.loc, V6.cell, V6.free, V6.freeC, fun p hp => ?_, V6.hok, V6.len⟩
          refine S6.pin p (List.mem_append_left _ ?_)
          rcases List.mem_append.mp hp with z | z
          · exact List.mem_cons_of_mem _ (List.mem_append_left _ z)
          · rcases List.mem_cons.mp z with z | z
            · rw [z]; exact List.mem_cons_self
            · exact List.mem_cons_of_mem _ (List.mem_append_right _ z)
        refine gone_ok U6 hN hi hln fun s7 J7 => ?_
        have h6 := (J7.pin (a, oe4) (List.mem_append_right _ List.mem_cons_self)).2.1
        exact ⟨_, _, _, inv_track J7 a0 np' hz4.1 hz4.2 hd4, r6, q6 h6⟩
    | false =>
      show wpAny _ X.A (handleBy (.ref a) X.env []) _ _ _
      refine wpAny_handleBy_nil ?_
      obtain ⟨k1, k2, k3, oe, vs, T, oT, ts', he, hz, hd, h1, hr⟩ := id fl3
      unfold PySem.passOn
      refine wpAny_bind (wpAny_field he hd h1 ?_)
      rw [if_neg (show ¬ ((Value.ref T == Value.none) = true) from by simp)]
      have fin : wpAny (model X.prog X.w) X.A (setFlight (.ref a) X.env.frame) (fun _ s4 => wpAny (model X.prog X.w) X.A (throw (.ref a) : Sem Flow) (SP X pins D) X.xe s4) X.xe { s' with heap := h3 } := by
        rw [hf]
        refine HandSPX.setFlight_upZ fl3 fun h4 hh4 up4 => wpAny_throw (tk _ _ ?_)
        exact ⟨a, B, sI, pins, σ', H', cls, d, rfl, J, nb, (up.trans up3).trans up4, .inr (.inr (by rw [hs]; exact hh4)), na, os, ag, hno rfl⟩
      first
        | exact wpAny_bind (wpAny_pure (wpAny_bind fin))
        | exact wpAny_bind fin
  · cases f with
    | next =>
      obtain ⟨σ1, H1, J1, q⟩ := hsp
      exact wpAny_execs_nil ⟨σ1, H1, J1.ofTry ok, q⟩
    | brk =>
      obtain ⟨σ1, H1, J1, q⟩ := hsp
      exact ⟨σ1, H1, J1.ofTry ok, q⟩
    | cont =>
      obtain ⟨σ1, H1, J1, q⟩ := hsp
      exact ⟨σ1, H1, J1.ofTry ok, q⟩
    | ret u =>
      obtain ⟨v, σ1, H1, J1, r, q⟩ := hsp
      exact ⟨v, σ1, H1, J1.ofTry ok, r, q⟩
end
/-! ## isinstance and a field of such an error -/
def rIsX (K : PySem.W.Frag) : List V → Hp → VK → Prop := fun xs H Q => ∃ (a C : Addr) (d : Option Addr), xs = [.ref a, .ref C] ∧ H a = some (exE a (.ref C) d) ∧ Q (.bl true) H
theorem ans_same {S : Shared → Prop} {x t : Value} (LT : ∀ (M : Model) s, S s → PySem.W.Looks M s.heap (typeOf x) t) : Answers S x t true := by
  intro dep tk prog w A R s hs
  obtain ⟨h0, g, d, tt, os⟩ := s
  obtain ⟨p, hq⟩ := hs
  have L := LT (model prog w) _ p
  unfold Builtin.«isinstance.nested»
  refine wpAny_bind (L.at ?_)
  rw [if_pos (beq_self_eq_true t)]
  first
    | exact hq tt
    | exact wpAny_bind (wpAny_rule (hq tt))
    | exact wpAny_bind (wpAny_rule (wpAny_pure (hq tt)))
theorem call_isX {X : Cx} : CallR X (.builtin "isinstance") (rIsX X.K) := by
  intro pins s σ H xs us Q I r h
  obtain ⟨a, C, d, rfl, ha, q⟩ := h
  cases r with
  | cons rx rr =>
    cases rr with
    | cons rt rr =>
      cases rr
      cases rx
      cases rt
      obtain ⟨oe, vs, he, h1, h2, h3⟩ := exE_at I.hok ha
      refine call_isinstance (S := fun _ R s' => (∃ o, s'.heap.get? a = some o ∧ o.cls = .ref C) ∧ ∀ tk, R (.ok (.ret (.bool true))) { s' with toks := tk })
        (fun prog w A R s hs => isinstance_outer (ans_same (S := fun s' => ∃ o, s'.heap.get? a = some o ∧ o.cls = .ref C) (fun M s ⟨o, e1, e2⟩ => fun A Q E s k q => wpAny_typeOf_ref (k _ _ e1) (by rw [e2]; exact q)) 0 _ prog w A R s hs) (fun z => nomatch z)) ⟨⟨oe, he, h1⟩, fun tk => ⟨.bl true, H, I.kept (t' := tk) fun _ _ z => z, rfl, q⟩⟩
/-- e.value, e such an error -/
def kVal (K : PySem.W.Frag) (C : Addr) (n : Str) (Q : VK) : VK := fun x H1 => ∃ (a dd : Addr) (fs : List (Str × V)) (v : V), x = .ref a ∧ H1 a = some (exE a (.ref C) (some dd)) ∧ H1 dd = some (.xd fs) ∧ fs.lookup n = some v ∧ Q v H1
def tVal (K : PySem.W.Frag) (C : Addr) (n : Str) (te : TE) : TE := fun σ H Q => te σ H (kVal K C n Q)
theorem pe_val {X : Cx} {C : Addr} {e : Expr} {te : TE} {pos : Pos} {n : Str} (ga : PySem.W.findIn X.K (.ref C) "__getattribute__" = some (some (.builtin "BaseException.__getattribute__"))) (gg : PySem.W.findIn X.K (.ref C) "__getattr__" = some none)
    (exC : PySem.W.subIn X.K (.ref C) (.type "BaseException") = some true) (hdC : PySem.W.hasDictIn X.K C = true) (hno : PySem.W.findIn X.K (.ref C) n = some none)
    (he : PE X e te) (hb : attributeBase e n X.env (eval e X.env) = eval e X.env := by rfl) : PE X (.Attribute e n pos) (tVal X.K C n te) := by
  refine ⟨fun pins s σ H Q I h => ?_⟩
  refine attr_of hb (thn (he.run pins s σ H _ I h) fun u s1 hh => ?_)
  obtain ⟨x, H1, I1, rx, a, dd, fs, v, ex, ea, ed, l, q⟩ := hh
  subst ex
  obtain rfl : u = Value.ref a := rx
  obtain ⟨oe, vs, hoe, h1, h2, h3⟩ := exE_at I1.hok ea
  have hx : ObjOk X.prog X.w H1 s1.heap dd (.xd fs) := I1.hok dd _ ed
  obtain ⟨mA, hns, hr⟩ := hx
  obtain ⟨od, ho, hl⟩ := lookIn_ns hns
  obtain ⟨u, hu, ru⟩ := RelO.some_of (v := v) (o := mA n) (by rw [← l]; exact hr n)
  have J : PySem.W.InstAt s1.heap a oe C (some od) := ⟨hoe, h1, by unfold PySem.W.notCls; rw [h3] <;> rfl, by rw [h2]; exact ho⟩
  exact HandSPX.exc_get I1.kIn J ga gg exC (PySem.W.findObj_own hdC hno rfl (by rw [hl, hu])) (handed_of ru) ⟨v, H1, I1.tok _, ru, q⟩
end K22
end

/-! # K25d -/
section
set_option Elab.async false
set_option linter.all false
set_option autoImplicit false
set_option maxRecDepth 100000
set_option maxHeartbeats 4000000
namespace K22
open PySem PySem.Spec PyProof.Rows L2
open He (ga ma fAd)
open Evl (Ex ex_l ex_t sq_of st_of fresh_back)
open LamX (LamS lamEnv lamCx CodeO lam_start2)
/-! ## Book.__eq__, at one book -/
def RB (K : PySem.W.Frag) (a b : Addr) (H : Hp) : Prop := a = b ∧ ∃ dx fs z, H a = some (.ins (ga K "Book") dx fs) ∧ fs.lookup ("own_text" : Str) = some (.str z)
theorem w_isiBk {K : PySem.W.Frag} {mg : Str → Option Value} {H : Hp} {Q : VK} {a dx : Addr} {fs : List (Str × V)} (T : Tx K mg) (hT : H a = some (.ins (ga K "Book") dx fs)) (h : Q (.bl true) H) : rIsi K [.ref a, .ref (ga K "Book")] H Q :=
  ⟨_, _, _, _, true, rfl, .own _, .base (.ins hT T.c_Book T.x_Book_ca T.x_cn T.x_ct T.x_Book_cm), if_pos (beq_self_eq_true _), h⟩
local macro_rules | `(tactic| walk_at "fx") => `(tactic| first
  | assumption
  | ((with_reducible apply TieAt.ex); (focus assumption); walk_at "fx")
  | ((with_reducible apply LinkAt.ex); (focus assumption); walk_at "fx")
  | ((with_reducible apply ex_l); (focus assumption); walk_at "fx")
  | ((with_reducible apply ex_t); (focus assumption); walk_at "fx")
  | ((with_reducible apply sq_of); walk_at "fx")
  | ((with_reducible apply st_of); walk_at "fx")
  | ((with_reducible apply ex_at); (focus assumption); walk_at "fx"))
local macro_rules | `(tactic| walk_at "s") => `(tactic| first
  | with_reducible refine w_seq ?_
  | ((with_reducible apply w_var); focus (exact rfl))
  | with_reducible refine w_c ?_
  | with_reducible refine w_op ?_
  | with_reducible refine w_cons ?_
  | with_reducible refine w_nil ?_
  | with_reducible refine w_asg ?_
  | with_reducible refine w_name ?_
  | with_reducible refine w_ret ?_
  | with_reducible refine w_retN ?_
  | with_reducible refine w_ifS ?_
  | with_reducible refine w_isB ?_
  | with_reducible refine w_test ?_
  | with_reducible refine w_tB ?_
  | with_reducible refine w_and ?_
  | with_reducible refine w_or ?_
  | with_reducible refine w_not ?_
  | with_reducible refine w_andV ?_
  | with_reducible refine w_orV ?_
  | with_reducible refine w_notV ?_
  | with_reducible refine w_if ?_
  | with_reducible refine w_iteT ?_
  | with_reducible refine w_iteF ?_
  | with_reducible refine w_iteNT ?_
  | with_reducible refine w_iteNF ?_
  | with_reducible refine w_un ?_
  | with_reducible refine w_call ?_
  | with_reducible refine w_cb ?_
  | with_reducible refine w_next ?_
  | with_reducible refine w_drop ?_
  | with_reducible refine w_for ?_
  | with_reducible refine w_dget0 ?_
  | with_reducible refine w_prsC ?_
  | with_reducible refine w_prsN ?_
  | with_reducible refine w_iZA ?_
  | with_reducible refine w_gSub ?_
  | with_reducible refine w_iR1 ?_
  | with_reducible refine w_p8 ?_
  | with_reducible refine w_p60 ?_
  | with_reducible refine w_p5 ?_
  | with_reducible refine w_p18 ?_
  | with_reducible refine w_p9 ?_
  | with_reducible refine w_p19 ?_
  | with_reducible refine w_p29 ?_
  | with_reducible refine w_m1 ?_
  | with_reducible refine w_kM1 ?_
  | with_reducible refine w_iStr ?_
  | with_reducible refine w_kStr ?_
  | with_reducible refine w_inS ?_
  | with_reducible refine w_sta ?_
  | with_reducible refine w_iEnumT ?_
  | with_reducible refine w_thn ?_
  | with_reducible refine w_chain ?_
  | with_reducible refine w_gAttr ?_
  | with_reducible refine w_isNr ?_
  | with_reducible refine w_iEnum ?_
  | ((with_reducible apply w_kEnum); focus (walk_at "fx"))
  | with_reducible refine w_sl3 ?_
  | with_reducible refine w_noPart ?_
  | with_reducible refine w_part ?_
  | with_reducible refine w_kPt ?_
  | with_reducible refine w_bm ?_
  | with_reducible refine w_ckw ?_
  | with_reducible refine w_tst ?_
  | with_reducible refine w_mk ?_
  | ((with_reducible apply w_psl); (focus (walk_at "fx")))
  | ((with_reducible apply w_mT); (focus (walk_at "fx")); (focus (exact rfl)))
  | ((with_reducible apply w_partner); (focus (walk_at "fx")))
  | ((with_reducible apply w_led); (focus (walk_at "fx")))
  | ((with_reducible apply w_spT); (focus (walk_at "fx")))
  | with_reducible refine w_lc ?_
  | with_reducible refine w_yes ?_
  | with_reducible refine w_gCons ?_
  | with_reducible refine w_gNil ?_
  | ((with_reducible apply w_gTup); (focus (walk_at "fx")); focus (exact rfl))
  | ((with_reducible apply w_minL2); focus (walk_at "fx"))
  | ((with_reducible apply w_slT); (focus assumption); (focus (walk_at "fx")))
  | ((with_reducible apply w_kIT); focus (walk_at "fx"))
  | ((with_reducible apply w_kIL); focus (walk_at "fx"))
  | with_reducible refine w_neg ?_
  | with_reducible refine w_tie ?_
  | with_reducible refine w_iT ?_
  | with_reducible refine w_iL ?_
  | with_reducible refine w_sFld ?_
  | with_reducible refine w_sSl ?_
  | with_reducible refine w_propSl ?_
  | with_reducible refine w_par ?_
  | with_reducible refine w_kPar ?_
  | with_reducible refine w_tup ?_
  | with_reducible refine w_lst ?_
  | with_reducible refine w_I0 ?_
  | with_reducible refine w_U ?_
  | with_reducible refine w_eqI ?_
  | with_reducible refine w_neI ?_
  | with_reducible refine w_eqS ?_
  | with_reducible refine w_neS ?_
  | with_reducible refine w_eqB ?_
  | with_reducible refine w_neB ?_
  | with_reducible refine w_isNn ?_
  | with_reducible refine w_isNr ?_
  | with_reducible refine w_isNi ?_
  | with_reducible refine w_notNn ?_
  | with_reducible refine w_notNr ?_
  | with_reducible refine w_notNi ?_
  | with_reducible refine w_xisN ?_
  | with_reducible refine w_fld ?_
  | with_reducible refine w_prop ?_
  | with_reducible refine w_meth ?_
  | ((with_reducible apply w_mod); focus assumption)
  | ((with_reducible apply w_mulW); (focus assumption); focus assumption)
  | ((with_reducible apply w_divW); (focus assumption); focus assumption)
  | with_reducible refine w_int1 ?_
  | with_reducible refine w_intB ?_
  | with_reducible refine w_min2 ?_
  | with_reducible refine w_max2 ?_
  | with_reducible refine w_abs ?_
  | with_reducible refine w_isiI ?_
  | with_reducible refine w_isiNB ?_
  | with_reducible refine w_isiB ?_
  | with_reducible refine w_isiS ?_
  | ((with_reducible apply w_isiT); (focus assumption); focus (walk_at "fx"))
  | ((with_reducible apply w_fTd); (focus assumption); focus (walk_at "fx"))
  | ((with_reducible apply w_fTb); (focus assumption); focus (walk_at "fx"))
  | ((with_reducible apply w_fTf); (focus assumption); focus (walk_at "fx"))
  | ((with_reducible apply w_fTs); (focus assumption); focus (walk_at "fx"))
  | ((with_reducible apply w_fTl); (focus assumption); focus (walk_at "fx"))
  | ((with_reducible apply w_fTa); (focus assumption); focus (walk_at "fx"))
  | ((with_reducible apply w_pT); focus (walk_at "fx"))
  | with_reducible refine w_sl ?_
  | ((with_reducible apply w_len); focus (walk_at "fx"))
  | ((with_reducible apply w_kT); focus (exact Nat.le_of_ble_eq_true rfl)))
local macro_rules | `(tactic| walk_at "ss") => `(tactic| repeat (walk_at "s"))
local macro_rules | `(tactic| walk_at "go") => `(tactic| ((try dsimp only [cxOf, Cx.nox, Cx.wish]); walk_at "ss"))
local macro_rules | `(tactic| walk_at "len") => `(tactic| (intro vs H Q E h; (repeat (obtain ⟨_, h⟩ := h)); all_goals (subst_vars; rfl)))
section
variable {P : Program} {w : World} {K : PySem.W.Frag} {mg : Str → Option Value} {base : Heap}
theorem ok_Book___eq__ (T : Tx K mg) : FnB P w K mg base CX0 1 (ma K (ga K "Book") "__eq__") ["self", "other"] (spEq (RB K)) [] := by
  refine mkB (k := 0) T.f_Book___eq__ sc_Book___eq__ (fun _ _ _ _ _ _ us hl => match us, hl with | [_, _], _ => rfl) (by walk_at "len") fun cdv A outer s H vs Q E hr h => ?_
  obtain ⟨a, b, rfl, ⟨rfl, dx, fs, z, ha, hz⟩, k⟩ := h
  refine ⟨_, (pss_one (ps_ret (pe_and (pe_callB call_isi (by rfl) T.b_isinstance (by decide +kernel) (pa_cons (pv 1) (pa_cons (g_ref T.m_Book) pa_nil))) (pe_one (pe_cmpR op_eq (pe_fld (pv 0) rfl) (pe_fld (pv 1) rfl) (nomark _)))))), ?_⟩
  walk_at "go"
  refine w_isiBk T ha ?_
  walk_at "ss"
  refine w_fL ha T.c_Book T.a_Book_own_text hz ?_
  walk_at "ss"
  refine w_fL ha T.c_Book T.a_Book_own_text hz ?_
  walk_at "ss"
  rw [decide_eq_true rfl]
  exact k H Ext.rfl'
end
/-! ## a lambda, called from deeper -/
section
variable {X : Cx} {pins : List (Addr × Obj)} {σ : L2.St} {H : Hp} {s : Shared}
theorem pe_act2 {Ny : List Str} {qy : Str} {sy : Scope} {y f c' : Addr} {cdy pm ctv : Value} {A2 : Around} {stk : List Env} {s2 : Shared} {H2 : Hp} {params : Arguments} {body : Expr} {scope : Scope} {k i : Nat} {a : Str} {pn : List (Addr × Obj)} {xe : Value → Shared → Prop} {W : WX} {E : XK} {tb : TE} {p1 p2 : Pos}
    (I : Inv X pins σ H s) (L : LamS X.env.scope scope) (hf : s.heap.get? f = some (PySem.W.kla_obj "<lambda>" (X.env.qual ++ "<lambda>") params body scope (cloFrom X.env.cells scope.names []) pm c' ctv)) (hfn : H f = none) (hfr : f ∉ frs X.stack)
    (hbind : bindArgs (PySem.W.kla_fn "<lambda>" (X.env.qual ++ "<lambda>") params body scope (cloFrom X.env.cells scope.names []) pm (.ref c') ctv) ⟨[], []⟩ = pure [])
    (hun : ∀ (pinsY : List (Addr × Obj)) (σY : L2.St) (HY : Hp) (sY : Shared), Inv ((cxOf CX0 X.prog X.w X.K X.mg X.base Ny qy sy y cdy A2 stk s2 H2 E0).tr pn xe) pinsY σY HY sY → Un (frs X.stack) [] H HY s.heap sY.heap)
    (tk : Takes ((cxOf CX0 X.prog X.w X.K X.mg X.base Ny qy sy y cdy A2 stk s2 H2 E0).tr pn xe) W) (hW : ∀ cls d σ' H', E cls d H' → W cls d σ' H') (hr : Room (k + 1) (A2.deeper (envOfC qy sy s2.heap.objs.size y cdy)))
    (hbody : ∀ (A : Around) (outer : List Env) (s : Shared) (H : Hp), Room k (A.deeper (lamEnv X scope s.heap.objs.size f c')) → PE (lamCx X A outer s H E scope f c') body tb)
    (hN : Ny[i]? = some a) (hv : Vis sy a) (hd : (a == ("__debug__" : Str)) = false := by decide) (hcd : (a == ("__classdict__" : Str)) = false := by decide) :
    PE ((cxOf CX0 X.prog X.w X.K X.mg X.base Ny qy sy y cdy A2 stk s2 H2 E0).tr pn xe) (.Call (.Name a p1) [] [] p2)
      (fun σY HY Q => σY[i]? = some (some (.ref f)) ∧ HY c' = some (CodeO c' (X.env.qual ++ "<lambda>")) ∧ tb σ HY Q) := by
  refine ⟨fun pinsY sY σY HY Q IY h => ?_⟩
  obtain ⟨hs, hc, ht⟩ := h
  refine wpAny_Call_Name_kw (thn ((pe_var (pos := p1) (i := i) hN hv hd hcd).run pinsY sY σY HY (fun v H1 => v = .ref f ∧ H1 = HY) IY ⟨.ref f, hs, rfl, rfl⟩) fun u s1 ⟨v, H1, I1, r1, q1⟩ => ?_)
  obtain ⟨rfl, rfl⟩ := q1
  obtain rfl : u = Value.ref f := r1
  have un := hun _ _ _ _ I1
  have at1 := un.keep f _ hf hfn hfr (fun z => nomatch z)
  refine PySem.W.callWith_F0 ⟨_, _, _, _, at1⟩ ?_
  obtain ⟨⟨oc, vs, t, hoc, hdc, hvc⟩, _, _⟩ := I1.hok c' _ hc
  have e0 := I1.env0
  have rc : codeAny (model X.prog X.w) (A2.deeper (envOfC qy sy s2.heap.objs.size y cdy)) (.call (.ref f) ⟨[], []⟩) (CR (L2.CX X.prog X.w) (envOfC qy sy s2.heap.objs.size y cdy :: stk) X.prog X.w H1 s1 Q E) s1 := by
    refine PySem.W.kla_callFunE hr.depth at1 rfl L.co L.gen rfl ⟨c', oc, vs, t, rfl, hoc, hdc, hvc⟩ ?_
    rw [hbind]
    refine wpAny_pure (wpAny_newFunctionEnv (fun y hy => (L.own y hy).2) (fun y hy => absurd hy (by simp)) (fun h₁ hns hsb => ⟨I1.nolimit.fresh _ hsb, ?_⟩) L.kind)
    have kp : ∀ b o, s1.heap.get? b = some o → h₁.get? b = some o := fun b o e => hsb.extBut b o (Nat.ne_of_lt (Heap.lt_size e)) (Heap.get?_push_of_some _ e)
    have J : Inv (lamCx X (A2.deeper (envOfC qy sy s2.heap.objs.size y cdy)) (envOfC qy sy s2.heap.objs.size y cdy :: stk) s1 H1 E scope f c') [] σ H1 { s1 with heap := h₁, toks := s1.toks + ([] : List (Str × Value)).length } :=
      lam_start2 I L e0 hr.hd un hns kp
    refine PySem.W.kla_codeExpr (wpAny_mono ((hbody _ _ s1 H1 (hr.deeper _)).run [] _ _ H1 Q J ht) (fun v s' hq => ?_) fun e s' hq => hq)
    obtain ⟨w', H', J', rv, q⟩ := hq
    exact ⟨w', H', J'.os, J'.bare, J'.base, J'.hok, rv, q⟩
  have hx := passes_call (E := E) tk hW
  refine wpAny_call (codeAny_mono rc fun r s3 hq => ?_)
  cases r with
  | error e => exact hx pinsY σY H1 s1 e s3 I1 hq
  | ok fl =>
    cases fl with
    | ret u => exact I1.after hq
    | next => exact False.elim hq
    | brk => exact False.elim hq
    | cont => exact False.elim hq
end
end K22
end

/-! # K25e -/
section
set_option Elab.async false
set_option linter.all false
set_option autoImplicit false
set_option maxRecDepth 100000
set_option maxHeartbeats 4000000
namespace K22
open PySem PySem.Spec PyProof.Rows L2
open He (ga ma fAd)
open Evl (Ex ex_l ex_t sq_of st_of fresh_back)
open LamX (LamS lamEnv lamCx CodeO lam_start2 Tabs ExtN TabB lam_make2 run_ofS)
/-! ## _law_met -/
def EQ (Q : VK) (C : Addr) : XK := fun cls d H' => cls = .ref C ∧ ∀ a T, H' a = none → H' T = none → T ≠ a → Q (.ref T) (upd (upd H' T (.tup [.str "raised", .ref a])) a (exE a (.ref C) d))
def tMet (t : XK → TE) (i : Nat) (f c' : Addr) (q : Str) (σ : L2.St) (C : Addr) : TE := fun σZ HZ Q => σZ[i]? = some (some (.ref f)) ∧ HZ c' = some (CodeO c' q) ∧ ∀ Q', t (EQ Q C) σ HZ Q'
theorem ld_var {X : Cx} {pins : List (Addr × Obj)} {σ : L2.St} {H : Hp} {s : Shared} {E : Value → Shared → Prop} {Q : Value → Shared → Prop} {i : Nat} {x : Str} {v : V} {pos : Pos} (I : Inv X pins σ H s) (hN : X.N[i]? = some x) (hv : Vis X.env.scope x) (e : σ[i]? = some (some v)) (h : ∀ u, RelV v u → Q u s)
    (hd : (x == ("__debug__" : Str)) = false := by decide) (hcd : (x == ("__classdict__" : Str)) = false := by decide) : wpAny (model X.prog X.w) X.A (eval (.Name x pos) X.env) Q E s := by
  obtain ⟨m, hn, hl⟩ := I.loc
  obtain ⟨u, r, l⟩ := hl i x v hN e hv
  rcases l with ⟨hk, hm⟩ | ⟨hk | hk, c, hc, hcell⟩
  · exact wpAny_Name (wpAny_loadName_local I.ok.kind hk hn hm (h u r)) hd
  · exact wpAny_Name (wpAny_loadName_cell I.ok.kind hk hc hcell (h u r)) hd
  · exact wpAny_Name (wpAny_loadName_free I.ok.kind hk hc hcell (h u r) hcd) hd
section
variable {X : Cx} {pins : List (Addr × Obj)} {σ : L2.St} {H : Hp} {s : Shared}
theorem pe_met {Nz : List Str} {qz : Str} {sz : Scope} {z f c' C : Addr} {cdz pm ctv : Value} {params : Arguments} {body : Expr} {scope : Scope} {k i : Nat} {a : Str} {t : XK → TE} {p1 p2 pos : Pos}
    (T : Tx X.K X.mg) (te : PySem.W.exmOne X.K (.ref C) (.ref (ga X.K "TuneError")) = some true)
    (I : Inv X pins σ H s) (L : LamS X.env.scope scope) (hf : s.heap.get? f = some (PySem.W.kla_obj "<lambda>" (X.env.qual ++ "<lambda>") params body scope (cloFrom X.env.cells scope.names []) pm c' ctv)) (hfn : H f = none) (hfr : f ∉ frs X.stack)
    (hbind : bindArgs (PySem.W.kla_fn "<lambda>" (X.env.qual ++ "<lambda>") params body scope (cloFrom X.env.cells scope.names []) pm (.ref c') ctv) ⟨[], []⟩ = pure [])
    (hr : Room (k + 2) (X.A.deeper (envOfC qz sz s.heap.objs.size z cdz)))
    (hbody : ∀ (A : Around) (outer : List Env) (s : Shared) (H : Hp) (E : XK) (f c' : Addr), Room k (A.deeper (lamEnv X scope s.heap.objs.size f c')) → PE (lamCx X A outer s H E scope f c') body (t E))
    (hN : Nz[i]? = some a) (hv : Vis sz a) (hg : Gl (cxOf CX0 X.prog X.w X.K X.mg X.base Nz qz sz z cdz X.A X.stack s H E0).nox "_law_met" := by rfl) (hd : (a == ("__debug__" : Str)) = false := by decide) (hcd : (a == ("__classdict__" : Str)) = false := by decide) :
    PE (cxOf CX0 X.prog X.w X.K X.mg X.base Nz qz sz z cdz X.A X.stack s H E0).nox (.Call (.Name "_law_met" p1) [.Name a p2] [] pos) (tMet t i f c' (X.env.qual ++ "<lambda>") σ C) := by
  refine ⟨fun pinsZ sZ σZ HZ Q IZ h => ?_⟩
  obtain ⟨h0, hc, ht⟩ := h
  obtain ⟨fd, F⟩ := T.f__law_met
  have hb := F.bindsN (ps := ["_law_ask"]) (fun _ _ _ _ _ _ us hl => match us, hl with | [_], _ => rfl)
  obtain ⟨oc, od, dV, kV, doc, pm', an, cdv, ct, osl, rfl, lk, hcd', _, _⟩ := F.ex
  refine wpAny_Call_Name_kw (ld_glob IZ hg T.m__law_met ?_)
  refine PySem.W.callWith_K (h₀ := X.base) IZ.ok.mod.kin T.kp__law_met (thn ((pa_cons (pe_var hN hv hd hcd) pa_nil).run pos pinsZ sZ σZ HZ (fun vs H1 => vs = [.ref f] ∧ H1 = HZ) IZ ⟨.ref f, h0, rfl, rfl⟩) fun us s1 hh => ?_) rfl rfl
  obtain ⟨vs, H1, I1, r1, rfl, rfl⟩ := hh
  refine ⟨I1.kIn, ?_⟩
  cases r1 with
  | cons rv rn =>
    rename_i v' us'
    cases rn
    cases rv
    have rc : codeAny (model X.prog X.w) (X.A.deeper (envOfC qz sz s.heap.objs.size z cdz)) (.call (.ref (ga X.K "_law_met")) ⟨[.ref f], []⟩) (CR CX0 (envOfC qz sz s.heap.objs.size z cdz :: X.stack) X.prog X.w H1 s1 Q E0) s1 := by
      refine run_ofS (N := n__law_met) (ps := ["_law_ask"]) (us := [.ref f]) (vs := [.ref f]) lk hcd' sc__law_met hr I1.env0 (by have q := hb s1 [.ref f] I1.kIn rfl; rw [List.append_nil] at q; exact q) (.cons rfl .nil) rfl fun hr' => ?_
      refine ⟨_, PSs.nox (pss_one (ps_try_ret (X := (cxOf CX0 X.prog X.w X.K X.mg X.base n__law_met "_law_met" (defScope s__law_met) (ga X.K "_law_met") cdv (X.A.deeper (envOfC qz sz s.heap.objs.size z cdz)) (envOfC qz sz s.heap.objs.size z cdz :: X.stack) s1 H1 E0).nox) (c := .ref (ga X.K "TuneError")) (i := 1)
        (tb := fun W D σY HY => ∃ Ech : XK, (∀ cls d σ' H', Ech cls d H' → W cls d σ' H') ∧ σY[0]? = some (some (.ref f)) ∧ HY c' = some (CodeO c' (X.env.qual ++ "<lambda>")) ∧ ∀ Q', t Ech σ HY Q')
        (ts := fun _ _ _ => tRet (tTup (tCons (tC (.str "raised")) (tCons (tVar 1) tNil)))) (Wout := fun _ _ _ _ => False) rfl rfl rfl sc__law_met.nd rfl rfl ⟨rfl, by decide, .inl T.m_TuneError⟩ takesF (fun W pn xe tk => ?_) (fun a oe cls d pn => pss_one (ps_ret (pe_tup (pa_cons pe_str (pa_cons (pv 1) pa_nil))))))), ?_⟩
      · refine ⟨fun pinsY sY σY HY D IY h' => ?_⟩
        obtain ⟨Ech, hW, h1, h2, h3⟩ := h'
        have hp := pe_act2 (i := 0) (p1 := ⟨556, 24, 556, 32⟩) (p2 := ⟨556, 24, 556, 34⟩) I L hf hfn hfr hbind (fun pinsY σY HY sY IY => (I1.call' (s' := sY) (ch := []) IY.os IY.base IY.hok IY.bare (fun b z => nomatch z)).base) tk hW hr' (fun A outer s H hr2 => hbody A outer s H Ech f c' hr2) rfl (.inl rfl)
        exact (pss_one (ps_ret (pe_tup (pa_cons pe_str (pa_cons hp pa_nil))))).run pinsY sY σY HY D IY ⟨h1, h2, h3 _⟩
      · refine ⟨EQ Q C, fun cls d σ' H' hE => ?_, rfl, hc, ht⟩
        obtain ⟨rfl, hE⟩ := hE
        refine ⟨true, te, fun _ hl a ha => ?_, fun z => nomatch z⟩
        have hl2 : σ'.length = 2 := hl
        refine ⟨.ref a, by rw [List.getElem?_set_self (by omega)], Evl.sz_of (Nat.le_of_ble_eq_true rfl), fun p hp hpa => ?_⟩
        have hne : p ≠ a := fun z => by rw [z, upd_same] at hpa; cases hpa
        exact hE a p ha hp hne
    refine wpAny_call (codeAny_mono rc fun r s2 hq => ?_)
    cases r with
    | error e => exact (show False from hq).elim
    | ok fl =>
      cases fl with
      | ret u => exact I1.after hq
      | next => exact False.elim hq
      | brk => exact False.elim hq
      | cont => exact False.elim hq
end
end K22
end

/-! # K25f -/
section
set_option Elab.async false
set_option linter.all false
set_option autoImplicit false
set_option maxRecDepth 100000
set_option maxHeartbeats 4000000
namespace K22
open PySem PySem.Spec PyProof.Rows L2
open He (ga ma fAd)
open Evl (Ex ex_l ex_t sq_of st_of fresh_back)
open LamX (LamS lamEnv lamCx CodeO lam_start2 Tabs ExtN TabB lam_make2 run_ofS)
/-! ## _law_is_clash(lambda: .., book) -/
def Bk0 (K : PySem.W.Frag) (H : Hp) (k : Addr) : Prop := ∃ dx fs z, H k = some (.ins (ga K "Book") dx fs) ∧ fs.lookup ("own_text" : Str) = some (.str z)
def EK (K : PySem.W.Frag) (k : Addr) (Q : VK) : XK := fun cls d H' => cls = .ref (ga K "Clash") ∧ ∃ dd, d = some dd ∧ H' dd = some (.xd [("value", .ref k)]) ∧ Bk0 K H' k ∧ ∀ H'', Ex H' H'' → Q (.bl true) H''
def tIsC (K : PySem.W.Frag) (T : List (Addr × Str)) (t : XK → TE) (j : Nat) : TE := fun σ H Q => Tabs T H ∧ ∃ k, σ[j]? = some (some (.ref k)) ∧ ∀ H1, ExtN H H1 → Tabs T H1 → ∀ (E : XK) Q', (∀ cls d H', EK K k Q cls d H' → E cls d H') → t E σ H1 Q'
/-- what the text says of the errors -/
structure ErT (P : Program) (K : PySem.W.Frag) (mg : Str → Option Value) (base : Heap) : Prop where
  cl : ClK P K mg base (ga K "Clash")
  te : PySem.W.exmOne K (.ref (ga K "Clash")) (.ref (ga K "TuneError")) = some true
theorem rEqG_same {K : PySem.W.Frag} {H : Hp} {Q : VK} {k : Addr} (hb : Bk0 K H k) (h : ∀ H', Ex H H' → Q (.bl true) H') : rEqG (DIns (ga K "Book") (RB K)) (.ref k) (.ref k) H Q := by
  obtain ⟨dx, fs, z, e, l⟩ := hb
  exact ⟨⟨k, k, dx, dx, fs, fs, rfl, rfl, e, e, rfl, dx, fs, z, e, l⟩, h⟩
local macro_rules | `(tactic| walk_at "fx") => `(tactic| first
  | assumption
  | ((with_reducible apply TieAt.ex); (focus assumption); walk_at "fx")
  | ((with_reducible apply LinkAt.ex); (focus assumption); walk_at "fx")
  | ((with_reducible apply ex_l); (focus assumption); walk_at "fx")
  | ((with_reducible apply ex_t); (focus assumption); walk_at "fx")
  | ((with_reducible apply sq_of); walk_at "fx")
  | ((with_reducible apply st_of); walk_at "fx")
  | ((with_reducible apply ex_at); (focus assumption); walk_at "fx"))
local macro_rules | `(tactic| walk_at "s") => `(tactic| first
  | with_reducible refine w_seq ?_
  | ((with_reducible apply w_var); focus (exact rfl))
  | with_reducible refine w_c ?_
  | with_reducible refine w_op ?_
  | with_reducible refine w_cons ?_
  | with_reducible refine w_nil ?_
  | with_reducible refine w_asg ?_
  | with_reducible refine w_name ?_
  | with_reducible refine w_ret ?_
  | with_reducible refine w_retN ?_
  | with_reducible refine w_ifS ?_
  | with_reducible refine w_isB ?_
  | with_reducible refine w_test ?_
  | with_reducible refine w_tB ?_
  | with_reducible refine w_and ?_
  | with_reducible refine w_or ?_
  | with_reducible refine w_not ?_
  | with_reducible refine w_andV ?_
  | with_reducible refine w_orV ?_
  | with_reducible refine w_notV ?_
  | with_reducible refine w_if ?_
  | with_reducible refine w_iteT ?_
  | with_reducible refine w_iteF ?_
  | with_reducible refine w_iteNT ?_
  | with_reducible refine w_iteNF ?_
  | with_reducible refine w_un ?_
  | with_reducible refine w_call ?_
  | with_reducible refine w_cb ?_
  | with_reducible refine w_next ?_
  | with_reducible refine w_drop ?_
  | with_reducible refine w_for ?_
  | with_reducible refine w_dget0 ?_
  | with_reducible refine w_prsC ?_
  | with_reducible refine w_prsN ?_
  | with_reducible refine w_iZA ?_
  | with_reducible refine w_gSub ?_
  | with_reducible refine w_iR1 ?_
  | with_reducible refine w_p8 ?_
  | with_reducible refine w_p60 ?_
  | with_reducible refine w_p5 ?_
  | with_reducible refine w_p18 ?_
  | with_reducible refine w_p9 ?_
  | with_reducible refine w_p19 ?_
  | with_reducible refine w_p29 ?_
  | with_reducible refine w_m1 ?_
  | with_reducible refine w_kM1 ?_
  | with_reducible refine w_iStr ?_
  | with_reducible refine w_kStr ?_
  | with_reducible refine w_inS ?_
  | with_reducible refine w_sta ?_
  | with_reducible refine w_iEnumT ?_
  | with_reducible refine w_thn ?_
  | with_reducible refine w_chain ?_
  | with_reducible refine w_gAttr ?_
  | with_reducible refine w_isNr ?_
  | with_reducible refine w_iEnum ?_
  | ((with_reducible apply w_kEnum); focus (walk_at "fx"))
  | with_reducible refine w_sl3 ?_
  | with_reducible refine w_noPart ?_
  | with_reducible refine w_part ?_
  | with_reducible refine w_kPt ?_
  | with_reducible refine w_bm ?_
  | with_reducible refine w_ckw ?_
  | with_reducible refine w_tst ?_
  | with_reducible refine w_mk ?_
  | ((with_reducible apply w_psl); (focus (walk_at "fx")))
  | ((with_reducible apply w_mT); (focus (walk_at "fx")); (focus (exact rfl)))
  | ((with_reducible apply w_partner); (focus (walk_at "fx")))
  | ((with_reducible apply w_led); (focus (walk_at "fx")))
  | ((with_reducible apply w_spT); (focus (walk_at "fx")))
  | with_reducible refine w_lc ?_
  | with_reducible refine w_yes ?_
  | with_reducible refine w_gCons ?_
  | with_reducible refine w_gNil ?_
  | ((with_reducible apply w_gTup); (focus (walk_at "fx")); focus (exact rfl))
  | ((with_reducible apply w_minL2); focus (walk_at "fx"))
  | ((with_reducible apply w_slT); (focus assumption); (focus (walk_at "fx")))
  | ((with_reducible apply w_kIT); focus (walk_at "fx"))
  | ((with_reducible apply w_kIL); focus (walk_at "fx"))
  | with_reducible refine w_neg ?_
  | with_reducible refine w_tie ?_
  | with_reducible refine w_iT ?_
  | with_reducible refine w_iL ?_
  | with_reducible refine w_sFld ?_
  | with_reducible refine w_sSl ?_
  | with_reducible refine w_propSl ?_
  | with_reducible refine w_par ?_
  | with_reducible refine w_kPar ?_
  | with_reducible refine w_tup ?_
  | with_reducible refine w_lst ?_
  | with_reducible refine w_I0 ?_
  | with_reducible refine w_U ?_
  | with_reducible refine w_eqI ?_
  | with_reducible refine w_neI ?_
  | with_reducible refine w_eqS ?_
  | with_reducible refine w_neS ?_
  | with_reducible refine w_eqB ?_
  | with_reducible refine w_neB ?_
  | with_reducible refine w_isNn ?_
  | with_reducible refine w_isNr ?_
  | with_reducible refine w_isNi ?_
  | with_reducible refine w_notNn ?_
  | with_reducible refine w_notNr ?_
  | with_reducible refine w_notNi ?_
  | with_reducible refine w_xisN ?_
  | with_reducible refine w_fld ?_
  | with_reducible refine w_prop ?_
  | with_reducible refine w_meth ?_
  | ((with_reducible apply w_mod); focus assumption)
  | ((with_reducible apply w_mulW); (focus assumption); focus assumption)
  | ((with_reducible apply w_divW); (focus assumption); focus assumption)
  | with_reducible refine w_int1 ?_
  | with_reducible refine w_intB ?_
  | with_reducible refine w_min2 ?_
  | with_reducible refine w_max2 ?_
  | with_reducible refine w_abs ?_
  | with_reducible refine w_isiI ?_
  | with_reducible refine w_isiNB ?_
  | with_reducible refine w_isiB ?_
  | with_reducible refine w_isiS ?_
  | ((with_reducible apply w_isiT); (focus assumption); focus (walk_at "fx"))
  | ((with_reducible apply w_fTd); (focus assumption); focus (walk_at "fx"))
  | ((with_reducible apply w_fTb); (focus assumption); focus (walk_at "fx"))
  | ((with_reducible apply w_fTf); (focus assumption); focus (walk_at "fx"))
  | ((with_reducible apply w_fTs); (focus assumption); focus (walk_at "fx"))
  | ((with_reducible apply w_fTl); (focus assumption); focus (walk_at "fx"))
  | ((with_reducible apply w_fTa); (focus assumption); focus (walk_at "fx"))
  | ((with_reducible apply w_pT); focus (walk_at "fx"))
  | with_reducible refine w_sl ?_
  | ((with_reducible apply w_len); focus (walk_at "fx"))
  | ((with_reducible apply w_kT); focus (exact Nat.le_of_ble_eq_true rfl)))
local macro_rules | `(tactic| walk_at "ss") => `(tactic| repeat (walk_at "s"))
local macro_rules | `(tactic| walk_at "go") => `(tactic| ((try dsimp only [cxOf, Cx.nox, Cx.wish]); walk_at "ss"))
local macro_rules | `(tactic| walk_at "len") => `(tactic| (intro vs H Q E h; (repeat (obtain ⟨_, h⟩ := h)); all_goals (subst_vars; rfl)))
section
variable {X : Cx}
theorem pe_isclash {Tb : List (Addr × Str)} {c P0 : Addr} {k j : Nat} {b : Str} {params : Arguments} {body : Expr} {scope : Scope} {t : XK → TE} {p p2 lpos pos : Pos}
    (T : Tx X.K X.mg) (ET : ErT X.prog X.K X.mg X.base) (hg : Gl X "_law_is_clash") (TB : TabB X.base X.mg c P0) (hcode : X.env.code = .ref c) (hmT : (P0, X.env.qual ++ "<lambda>") ∈ Tb) (hu : ∀ p ∈ Tb, p.1 = P0 → p.2 = X.env.qual ++ "<lambda>")
    (hr : Room (k + 3) X.A) (L : LamS X.env.scope scope) (hdef : defaultsOf params X.env = ([], []))
    (hbind : ∀ (q : Str) (cl : List (Str × Addr)) (pm cv ctv : Value), bindArgs (PySem.W.kla_fn "<lambda>" q params body scope cl pm cv ctv) ⟨[], []⟩ = pure [])
    (hbody : ∀ (A : Around) (outer : List Env) (s : Shared) (H : Hp) (E : XK) (f c' : Addr), Room k (A.deeper (lamEnv X scope s.heap.objs.size f c')) → PE (lamCx X A outer s H E scope f c') body (t E))
    (hN : X.N[j]? = some b) (hv : Vis X.env.scope b) (hd : (b == ("__debug__" : Str)) = false := by decide) (hcd : (b == ("__classdict__" : Str)) = false := by decide) :
    PE X (.Call (.Name "_law_is_clash" p) [.Lambda params body scope lpos, .Name b p2] [] pos) (tIsC X.K Tb t j) := by
  refine ⟨fun pins s σ H Q I h => ?_⟩
  obtain ⟨hT, kb, hj, h⟩ := h
  obtain ⟨fd, F⟩ := T.f__law_is_clash
  have hb := F.bindsN (ps := ["_law_ask", "_law_book"]) (fun _ _ _ _ _ _ us hl => match us, hl with | [_, _], _ => rfl)
  obtain ⟨oc, od, dV, kV, doc, pm', an, cdv, ct, osl, rfl, lk, hcd', _, _⟩ := F.ex
  obtain ⟨file, D, fI, CT, hpf, htop⟩ := ET.cl.ex
  obtain ⟨fe, ds, Fe, ve, be⟩ := ok_Book___eq__ (P := X.prog) (w := X.w) (base := X.base) T
  cases ve
  refine wpAny_Call_Name_kw (ld_glob I hg T.m__law_is_clash ?_)
  refine PySem.W.callWith_K (h₀ := X.base) I.ok.mod.kin T.kp__law_is_clash ?_ (by rfl) (by rfl)
  show wpAny _ _ (spliced ((false, eval (.Lambda params body scope lpos) X.env) :: (false, eval (.Name b p2) X.env) :: backTo pos (starEach [] X.env))) _ _ s
  refine Calls.spliced_cons (lam_make2 I TB hcode hmT hu hT hdef (L.has I.ok) fun f c' pm' ctv H1 s' I1 eN T1 hf hfn hfr hco => ?_)
  refine Calls.spliced_cons (ld_var I1 hN hv hj (fun u ru => ?_) hd hcd)
  obtain rfl : u = Value.ref kb := ru
  refine Calls.spliced_nil ⟨I1.kIn, ?_⟩
  have rc : codeAny (model X.prog X.w) X.A (.call (.ref (ga X.K "_law_is_clash")) ⟨[.ref f, .ref kb], []⟩) (CR CX0 X.stack X.prog X.w H1 s' Q E0) s' := by
    refine run_ofS (N := n__law_is_clash) (ps := ["_law_ask", "_law_book"]) (us := [.ref f, .ref kb]) (vs := [.ref f, .ref kb]) lk hcd' sc__law_is_clash hr I1.env0 (by have q := hb s' [.ref f, .ref kb] I1.kIn rfl; rw [List.append_nil] at q; exact q) (.cons rfl (.cons rfl .nil)) rfl fun hr' => ?_
    refine ⟨_, PSs.nox (pss_cons (ps_asg (pe_met (C := ga X.K "Clash") (i := 0) (t := t) T ET.te I1 L hf hfn hfr (hbind _ _ _ _ _) hr' hbody rfl (.inl rfl)) (pg_tup (n := 2) (by rfl) (pgs_cons (pg_name (i := 2) sc__law_is_clash.nd rfl (Or.inl rfl)) (pgs_cons (pg_name (i := 3) sc__law_is_clash.nd rfl (Or.inl rfl)) pgs_nil))))
      (pss_one (ps_ret (pe_and (pe_cmpR op_eq (pv 2) pe_str (nomark _)) (pe_and (pe_callB call_isX (by rfl) T.b_isinstance (by decide +kernel) (pa_cons (pv 3) (pa_cons (g_ref T.m_Clash) pa_nil)))
        (pe_one (pe_cmpR (op_eqG (rcG_ins (E := E0) (Fe.mono (show 1 ≤ k + 2 by omega)) T.h_Book___eq__.at_ T.h_Book___eq__.fn be pass0) hr') (pe_val CT.ga CT.gg CT.exC CT.hdC CT.noN (pv 3)) (pv 1) (nomark _)))))))), ?_⟩
    dsimp only [cxOf, Cx.nox, Cx.wish]
    walk_at "ss"
    refine ⟨rfl, hco, fun Q' => h H1 eN T1 _ Q' fun cls d H2 hE => ?_⟩
    obtain ⟨rfl, dd, rfl, hxd, hbk, hq⟩ := hE
    refine ⟨rfl, fun a T0 ha hT0 hne => ?_⟩
    have e2 : Ex H2 (upd (upd H2 T0 (.tup [.str "raised", .ref a])) a (exE a (.ref (ga X.K "Clash")) (some dd))) := (Ex.new hT0).trans (Ex.new (by rw [upd_ne (Ne.symm hne)]; exact ha))
    have hTt : upd (upd H2 T0 (.tup [.str "raised", .ref a])) a (exE a (.ref (ga X.K "Clash")) (some dd)) T0 = some (.tup [.str "raised", .ref a]) := by rw [upd_ne hne, upd_same]
    have hEx : upd (upd H2 T0 (.tup [.str "raised", .ref a])) a (exE a (.ref (ga X.K "Clash")) (some dd)) a = some (exE a (.ref (ga X.K "Clash")) (some dd)) := upd_same
    generalize upd (upd H2 T0 (.tup [.str "raised", .ref a])) a (exE a (.ref (ga X.K "Clash")) (some dd)) = H3 at *
    refine w_gTup (st_of hTt) rfl ?_
    walk_at "ss"
    rw [decide_eq_true rfl]
    walk_at "ss"
    refine ⟨a, _, _, rfl, hEx, ?_⟩
    walk_at "ss"
    have hbk3 : Bk0 X.K H3 kb := by
      obtain ⟨dx, fs, z, q1, q2⟩ := hbk
      exact ⟨dx, fs, z, e2 _ _ q1, q2⟩
    show tVar 3 _ _ _
    walk_at "ss"
    refine ⟨a, dd, _, .ref kb, rfl, hEx, e2 _ _ hxd, rfl, ?_⟩
    walk_at "ss"
    exact rEqG_same hbk3 fun H4 e4 => hq H4 (e2.trans e4)
  refine wpAny_call (codeAny_mono rc fun r s2 hq => ?_)
  cases r with
  | error e => exact (show False from hq).elim
  | ok fl =>
    cases fl with
    | ret u => exact I1.after hq
    | next => exact False.elim hq
    | brk => exact False.elim hq
    | cont => exact False.elim hq
end
end K22
end

/-! # K25g -/
section
set_option Elab.async false
set_option linter.all false
set_option autoImplicit false
set_option maxRecDepth 100000
set_option maxHeartbeats 4000000
namespace K22
open PySem PySem.Spec PyProof.Rows L2
open He (ga ma fAd)
open Evl (Ex ex_l ex_t sq_of st_of fresh_back)
open SX (S)
/-! ## repr of the answers -/
def rRepr (K : PySem.W.Frag) : List V → Hp → VK → Prop := fun xs H Q => ∃ a d, xs = [.ref a] ∧ Dp K H (.ref a) d ∧ d.showable = true ∧ d.hasDict = false ∧ d.depth ≤ 10 ∧ d.shown.length ≤ sizeLine ∧ Q (.str d.shown) H
theorem call_reprD {X : Cx} (hG : X.A.guards = some []) (hu : X.A.units + 64 < cLine) : CallR X (.builtin "repr") (rRepr X.K) := by
  intro pins s σ H xs us Q I r h
  obtain ⟨a, d, rfl, hd, h1, h2, h3, h4, q⟩ := h
  cases r with
  | cons rx rr =>
    cases rr
    have rx' := rx
    cases rx
    obtain ⟨as, hr⟩ := Dp.reads I d _ _ hd rx'
    refine repr_of_reads' hr h1 (fun z => by rw [h2] at z; cases z) hG (by omega) (fun _ _ e => e) (fun h' u tk hk => ?_) h4
    exact ⟨.str d.shown, H, I.kept hk, ⟨_, rfl⟩, q⟩
section
variable {K : PySem.W.Frag} {H : Hp} {Q : VK}
theorem log_of {i : Int} (h : i.natAbs < 10 ^ 100) : i.natAbs.log2 < 1920 := by
  by_cases h0 : i.natAbs = 0
  · rw [h0]; decide
  · exact (Nat.log2_lt h0).mpr (Nat.lt_trans h (by decide +kernel))
theorem len_of {i : Int} (h : i.natAbs < 10 ^ 100) : (Str.ofString (toString i)).length ≤ 101 := by
  rw [str_intL, SX.S_len]; exact intL_len h
theorem w_reprI {i : Int} (h : i.natAbs < 10 ^ 100) (k : Q (.str (Str.ofString (toString i))) H) : (fun xs H Q => ∃ i, xs = [V.int i] ∧ i.natAbs.log2 < 1920 ∧ Q (V.str (toString i)) H : List V → Hp → VK → Prop) [.int i] H Q := ⟨i, rfl, log_of h, k⟩
def dPair (g : Int) : PyData := .tuple [.tuple [.int 0, .int g]]
theorem w_reprP {p t : Addr} {g : Int} (h1 : SqT K H p [.ref t]) (h2 : SqT K H t [.int 0, .int g]) (h : g.natAbs < 10 ^ 100) (k : Q (.str (dPair g).shown) H) : rRepr K [.ref p] H Q := by
  refine ⟨p, dPair g, rfl, .tup h1 (.cons (.tup h2 (.cons (.int _) (.cons (.int _) .nil))) .nil), ?_, rfl, ?_, ?_, k⟩
  · simp [dPair, PyData.showable, PyData.showableAll, log_of h, show Nat.log2 0 < 1920 by decide]
  · simp [dPair, PyData.depth, PyData.depthAll]
  · have l := len_of h
    have l0 : (Str.ofString (toString (0 : Int))).length ≤ 101 := len_of (by decide)
    have a1 := tupleText_len_le [Str.ofString (toString (0 : Int)), Str.ofString (toString g)]
    have a2 := tupleText_len_le [tupleText [Str.ofString (toString (0 : Int)), Str.ofString (toString g)]]
    simp only [List.map_cons, List.map_nil, List.sum_cons, List.sum_nil, List.length_cons, List.length_nil] at a1 a2
    show (tupleText [tupleText [Str.ofString (toString (0 : Int)), Str.ofString (toString g)]]).length ≤ sizeLine
    rw [sizeLine_eq]; omega
def dTri (x y : Int) : PyData := .tuple [.str "up", .int x, .int y]
theorem w_reprT {p : Addr} {x y : Int} (h1 : SqT K H p [.str "up", .int x, .int y]) (hx : x.natAbs < 10 ^ 100) (hy : y.natAbs < 10 ^ 100) (k : Q (.str (dTri x y).shown) H) : rRepr K [.ref p] H Q := by
  refine ⟨p, dTri x y, rfl, .tup h1 (.cons (.str _) (.cons (.int _) (.cons (.int _) .nil))), ?_, rfl, ?_, ?_, k⟩
  · simp [dTri, PyData.showable, PyData.showableAll, log_of hx, log_of hy]
  · simp [dTri, PyData.depth, PyData.depthAll]
  · have l1 := len_of hx
    have l2 := len_of hy
    have l0 : (reprText "up").length ≤ 100 := by decide +kernel
    have a1 := tupleText_len_le [reprText "up", Str.ofString (toString x), Str.ofString (toString y)]
    simp only [List.map_cons, List.map_nil, List.sum_cons, List.sum_nil, List.length_cons, List.length_nil] at a1
    show (tupleText [reprText "up", Str.ofString (toString x), Str.ofString (toString y)]).length ≤ sizeLine
    rw [sizeLine_eq]; omega
end
end K22
end

/-! # K26a -/
section
set_option Elab.async false
set_option linter.all false
set_option autoImplicit false
set_option maxRecDepth 100000
set_option maxHeartbeats 4000000
namespace K22
open PySem PySem.Spec PyProof.Rows L2
open He (ga ma fAd)
open Evl (Ex ex_l ex_t sq_of st_of fresh_back)
open LamX (Tabs TabS ExtN CodeO)
/-! ## what the law keeps between its steps -/
/-- all but the pot at p and the tables stays -/
def ExP (p : Addr) (H H' : Hp) : Prop := ∀ b o, b ≠ p → H b = some o → (∀ ps, o ≠ .tbl ps) → H' b = some o
theorem codeO_lst {c : Addr} {q : Str} {xs : List V} : CodeO c q ≠ .lst xs := fun z => by unfold CodeO at z; cases z
theorem codeO_ins {c C dx : Addr} {q : Str} {fs : List (Str × V)} : CodeO c q ≠ .ins C dx fs := fun z => by unfold CodeO at z; cases z
theorem tabs_exB {T : List (Addr × Str)} {H H' : Hp} {a : Addr} {o : HO} (t : Tabs T H) (e : ExB a H H') (ha : H a = some o) (n1 : ∀ ps, o ≠ .tbl ps) (n2 : ∀ c q, CodeO c q ≠ o) : Tabs T H' := fun p hp => by
  obtain ⟨ps, h1, h2, h3⟩ := t p hp
  refine ⟨ps, e _ _ (fun z => by rw [z, ha] at h1; exact n1 ps (Option.some.inj h1)) h1, h2, fun pos cv hc => ?_⟩
  obtain ⟨c, e1, e2⟩ := h3 pos cv hc
  exact ⟨c, e1, e _ _ (fun z => by rw [z, ha] at e2; exact n2 _ _ (Option.some.inj e2).symm) e2⟩
theorem Pot.ex {H H' : Hp} {p : Addr} {n : Nat} (e : Ex H H') (h : Pot H p n) : Pot H' p n := by
  obtain ⟨a, b, c, h1, h2⟩ := h
  exact ⟨a, b, c, e _ _ h1, h2⟩
theorem Pot.mono {H : Hp} {p : Addr} {n m : Nat} (h : Pot H p n) (l : n ≤ m) : Pot H p m := by
  obtain ⟨a, b, c, h1, h2, h3, h4, h5, h6⟩ := h
  exact ⟨a, b, c, h1, h2, h3, h4, h5, by omega⟩
structure Rs (T : List (Addr × Str)) (H : Hp) (p : Addr) (Hc : Hp) (n : Nat) : Prop where
  ep : ExP p H Hc
  pot : Pot Hc p n
  tabs : Tabs T Hc
section
variable {T : List (Addr × Str)} {H Hc H' : Hp} {p : Addr} {n m : Nat}
theorem Rs.ex (r : Rs T H p Hc n) (e : Ex Hc H') : Rs T H p H' n := ⟨fun b o nb h ht => e _ _ (r.ep b o nb h ht), r.pot.ex e, r.tabs.ext e⟩
theorem Rs.exB (r : Rs T H p Hc n) (e : ExB p Hc H') (hp : Pot H' p m) : Rs T H p H' m := by
  obtain ⟨a, b, c, h1, _⟩ := r.pot
  exact ⟨fun b o nb h ht => e _ _ nb (r.ep b o nb h ht), hp, tabs_exB r.tabs e h1 (fun _ z => by cases z) fun _ _ => codeO_lst⟩
/-- k is new since H -/
def Nw (H : Hp) (k : Addr) : Prop := ∀ o, H k = some o → ∃ ps, o = .tbl ps
theorem Rs.exK {k C dx : Addr} {fs : List (Str × V)} (r : Rs T H p Hc n) (e : ExB k Hc H') (hk : Nw H k) (hi : Hc k = some (.ins C dx fs)) : Rs T H p H' n := by
  have hp := r.pot
  obtain ⟨a, b, c, h1, h2⟩ := hp
  refine ⟨fun b o nb h ht => e _ _ (fun z => ?_) (r.ep b o nb h ht), ⟨a, b, c, e _ _ (fun z => by rw [z, hi] at h1; cases h1) h1, h2⟩, tabs_exB r.tabs e hi (fun _ z => by cases z) fun _ _ => codeO_ins⟩
  rw [z] at h
  obtain ⟨ps, q⟩ := hk o h
  exact ht ps q
theorem Rs.exL {D : Addr} {xs : List V} (r : Rs T H p Hc n) (e : ExB D Hc H') (hk : Nw H D) (hD : D ≠ p) (hi : Hc D = some (.lst xs)) : Rs T H p H' n := by
  have hp := r.pot
  obtain ⟨a, b, c, h1, h2⟩ := hp
  refine ⟨fun b o nb h ht => e _ _ (fun z => ?_) (r.ep b o nb h ht), ⟨a, b, c, e _ _ (Ne.symm hD) h1, h2⟩, tabs_exB r.tabs e hi (fun _ z => by cases z) fun _ _ => codeO_lst⟩
  rw [z] at h
  obtain ⟨ps, q⟩ := hk o h
  exact ht ps q
theorem Rs.up {D : Addr} {xs ys : List V} (r : Rs T H p Hc n) (hk : Nw H D) (hD : D ≠ p) (hi : Hc D = some (.lst xs)) : Rs T H p (upd Hc D (.lst ys)) n :=
  r.exL (fun x o nx h => by rw [upd_ne nx]; exact h) hk hD hi
theorem Rs.ne (r : Rs T H p Hc n) {k : Addr} (hk : Hc k = none) : k ≠ p := fun z => by
  obtain ⟨a, b, c, h1, _⟩ := r.pot
  rw [z, h1] at hk; cases hk
theorem Rs.exN (r : Rs T H p Hc n) (e : ExtN Hc H') (t : Tabs T H') : Rs T H p H' n := by
  have hp := r.pot
  obtain ⟨a, b, c, h1, h2⟩ := hp
  exact ⟨fun b o nb h ht => e _ _ (r.ep b o nb h ht) ht, ⟨a, b, c, e _ _ h1 (fun _ z => by cases z), h2⟩, t⟩
theorem Rs.fresh (r : Rs T H p Hc n) {k : Addr} (hk : Hc k = none) : Nw H k := fun o h => by
  have hkp : k ≠ p := fun z => by
    obtain ⟨a, b, c, h1, _⟩ := r.pot
    rw [z, h1] at hk; cases hk
  cases o with
  | tbl ps => exact ⟨ps, rfl⟩
  | _ =>
    have z := r.ep k _ hkp h (fun ps z => by cases z)
    rw [hk] at z; cases z
end
section
variable {K : PySem.W.Frag}
theorem LadAt.pot {H : Hp} {l p : Addr} {rows : List Rw} {parts : List (Int × Int)} {b : Bool} {x y z : Int} {l' : List V} (h : LadAt K H l rows parts b) (hp : H p = some (.lst [.int x, .int y, .int z])) : LadAt K (upd H p (.lst l')) l rows parts b := by
  obtain ⟨dx, C, Pp, bv, cs, ys, h1, h2, h3, h4, h5, h6⟩ := h
  refine ⟨dx, C, Pp, bv, cs, ys, by rw [upd_ne (fun z => by rw [z, hp] at h1; cases h1)]; exact h1, ?_, (paired_mo (mo_row K) _ _).up _ _ _ _ hp h3, ?_, (paired_mo mo_part _ _).up _ _ _ _ hp h5, h6⟩
  · refine (upd_ne fun q => ?_).trans h2
    rw [q, hp] at h2
    cases h2
    cases h3 with
    | cons a _ => obtain ⟨_, _, e, _⟩ := a; cases e
  · refine (upd_ne fun q => ?_).trans h4
    rw [q, hp] at h4
    cases h4
    cases h5 with
    | cons a _ => obtain ⟨_, e, _⟩ := a; cases e
theorem BkAt.pot {H : Hp} {k p : Addr} {n : Int} {s : Str} {ts : List Ti} {lad : V} {x y z : Int} {l' : List V} (h : BkAt K H k n s ts lad) (hp : H p = some (.lst [.int x, .int y, .int z])) : BkAt K (upd H p (.lst l')) k n s ts lad := by
  obtain ⟨dx, tp, np, ls, h1, h2, h3, h4, h5⟩ := h
  exact ⟨dx, tp, np, ls, by rw [upd_ne (fun z => by rw [z, hp] at h1; cases h1)]; exact h1, by rw [upd_ne (fun z => by rw [z, hp] at h2; cases h2)]; exact h2, h3, fun q hq => (mo_tie q.1 q.2).up _ _ _ _ hp (h4 q hq), by rw [upd_ne (fun z => by rw [z, hp] at h5; cases h5)]; exact h5⟩
theorem BkSt.pot {H H' : Hp} {k p : Addr} {n : Int} {s : Str} {ts : List Ti} {rows : List Rw} {parts : List (Int × Int)} {b : Bool} {m m' : Nat} (h : BkSt K H k n s ts rows parts b) (hp : Pot H p m) (e : ExB p H H') (hp' : Pot H' p m') : BkSt K H' k n s ts rows parts b := by
  obtain ⟨x, y, z, h1, _⟩ := hp
  obtain ⟨x', y', z', h1', _⟩ := hp'
  have e2 : Ex H (upd H' p (.lst [.int x, .int y, .int z])) := fun a o ha => by
    by_cases hap : a = p
    · rw [hap, h1] at ha
      rw [hap, upd_same]; exact ha
    · rw [upd_ne hap]; exact e a o hap ha
  have h2 := h.ex e2
  have e3 : H' = upd (upd H' p (.lst [.int x, .int y, .int z])) p (.lst [.int x', .int y', .int z']) := by
    rw [upd_upd]
    funext a
    by_cases hap : a = p
    · rw [hap, upd_same]; exact h1'
    · rw [upd_ne hap]
  rw [e3]
  obtain ⟨lad, hb, hl⟩ := h2
  refine ⟨lad, hb.pot upd_same, ?_⟩
  rcases hl with hl | ⟨l, h3, h4⟩
  · exact .inl hl
  · exact .inr ⟨l, h3, h4.pot upd_same⟩
theorem BkSt.ins {H : Hp} {k : Addr} {n : Int} {s : Str} {ts : List Ti} {rows : List Rw} {parts : List (Int × Int)} {b : Bool} (h : BkSt K H k n s ts rows parts b) : ∃ dx fs, H k = some (.ins (ga K "Book") dx fs) := by
  obtain ⟨lad, ⟨dx, tp, np, ls, h1, _⟩, _⟩ := h
  exact ⟨dx, _, h1⟩
theorem BkSt.bk0 {H : Hp} {k : Addr} {n : Int} {s : Str} {ts : List Ti} {rows : List Rw} {parts : List (Int × Int)} {b : Bool} (h : BkSt K H k n s ts rows parts b) : Bk0 K H k := by
  obtain ⟨lad, ⟨dx, tp, np, ls, h1, _⟩, _⟩ := h
  exact ⟨dx, _, s, h1, rfl⟩
end
/-- a comprehension over a range -/
theorem lcR {σ : L2.St} {H : Hp} {Q : VK} {te : TE} {vs : List Nat} {lo : Int} {n j : Nat} (I : Nat → List V → Hp → Prop) (h0 : ∀ D, H D = none → I 0 [] (upd H D (.lst []))) (hw : ∀ x, wipe ((wipe σ vs).set j (some x)) vs = wipe σ vs)
    (hs : ∀ D i H1 acc, H D = none → i < n → H1 D = some (.lst acc) → I i acc H1 → te ((wipe σ vs).set j (some (.int (lo + (i : Nat))))) H1 fun y H4 => ∃ acc', H4 D = some (.lst acc') ∧ acc'.length < sizeLine ∧ I (i + 1) (acc' ++ [y]) (upd H4 D (.lst (acc' ++ [y]))))
    (hd : ∀ D ys H', H D = none → H' D = some (.lst ys) → I n ys H' → Q (.ref D) H') : kLc (gName j) tYes te vs σ Q (Itr lo n) H := by
  intro D hD
  refine lc_it walk_range (fun i H' => ∃ acc, H' D = some (.lst acc) ∧ I i acc H') ⟨[], upd_same, h0 D hD⟩ (fun _ _ _ _ => trivial) (fun i x H1 H2 hi p hy => ?_) fun H' p => ?_
  · obtain ⟨acc, ha, hI⟩ := p
    obtain ⟨rfl, rfl⟩ := hy
    refine ⟨hw _, ?_⟩
    refine w_yes (w_iteT ?_)
    have q := hs D i _ acc hD hi ha hI
    refine cast ?_ q
    congr 1
    funext y H4
    apply propext
    constructor
    · rintro ⟨acc', h1, h2, h3⟩
      exact ⟨acc', h1, h2, _, upd_same, h3⟩
    · rintro ⟨acc', h1, h2, acc2, h3, h4⟩
      rw [upd_same] at h3
      cases h3
      exact ⟨acc', h1, h2, h4⟩
  · obtain ⟨ys, ha, hI⟩ := p
    exact hd D ys H' hD ha hI
section
variable {K : PySem.W.Frag}
theorem BkAt.insK {H H' : Hp} {k ks : Addr} {n : Int} {s : Str} {ts : List Ti} {C dx : Addr} {fs : List (Str × V)} {o' : HO} (h : BkAt K H k n s ts .non) (hk : H ks = some (.ins C dx fs)) (hf : fs.length = 5) (hne : k ≠ ks) (e : ExB ks H H') (hk' : H' ks = some o') : BkAt K H' k n s ts .non := by
  have e2 : Ex H (upd H' ks (.ins C dx fs)) := fun a o ha => by
    by_cases hap : a = ks
    · rw [hap, hk] at ha
      rw [hap, upd_same]; exact ha
    · rw [upd_ne hap]; exact e a o hap ha
  have h2 := h.ex e2
  have e3 : H' = upd (upd H' ks (.ins C dx fs)) ks o' := by
    rw [upd_upd]
    funext a
    by_cases hap : a = ks
    · rw [hap, upd_same]; exact hk'
    · rw [upd_ne hap]
  rw [e3]
  have hs : upd H' ks (.ins C dx fs) ks = some (.ins C dx fs) := upd_same
  generalize upd H' ks (.ins C dx fs) = G at *
  obtain ⟨d, tp, np, ls, h1, h3, h4, h5, h6⟩ := h2
  exact ⟨d, tp, np, ls, by rw [upd_ne hne]; exact h1, upd_in hs h3 (fun z => nomatch z), h4, fun q hq => (mo_tie q.1 q.2).ins _ _ _ _ _ _ hs (.inr hf) (h5 q hq), upd_in hs h6 (fun z => nomatch z)⟩
end
section
variable {K : PySem.W.Frag} {H H' : Hp}
theorem TieAt.exN {a : Addr} {t : Ti} (e : ExtN H H') (h : TieAt K H a t) : TieAt K H' a t := by
  obtain ⟨dx, h⟩ := h
  exact ⟨dx, e _ _ h (fun _ z => nomatch z)⟩
theorem LinkAt.exN {a : Addr} {t : Ti} (e : ExtN H H') (h : LinkAt K H a t) : LinkAt K H' a t := by
  obtain ⟨dx, vs, b, h1, h2, h3⟩ := h
  refine ⟨dx, vs, b, ?_, h2, h3.exN e⟩
  rcases h1 with ⟨h1, h4⟩ | ⟨h1, h4⟩
  · exact .inl ⟨e _ _ h1 (fun _ z => nomatch z), h4⟩
  · exact .inr ⟨e _ _ h1 (fun _ z => by unfold SlX.SlO at z; cases z), e _ _ h4 (fun _ z => nomatch z)⟩
theorem LadAt.exN {l : Addr} {rows : List Rw} {parts : List (Int × Int)} {b : Bool} (e : ExtN H H') (h : LadAt K H l rows parts b) : LadAt K H' l rows parts b := by
  obtain ⟨dx, C, Pp, bv, cs, ys, h1, h2, h3, h4, h5, h6⟩ := h
  refine ⟨dx, C, Pp, bv, cs, ys, e _ _ h1 (fun _ z => nomatch z), e _ _ h2 (fun _ z => nomatch z), L2.Paired.mapP h3 fun x r q => ?_, e _ _ h4 (fun _ z => nomatch z), L2.Paired.mapP h5 fun x r q => ?_, h6⟩
  · obtain ⟨a, ca, q1, q2, q3⟩ := q
    exact ⟨a, ca, q1, e _ _ q2 (fun _ z => nomatch z), q3.exN e⟩
  · obtain ⟨a, q1, q2⟩ := q
    exact ⟨a, q1, e _ _ q2 (fun _ z => nomatch z)⟩
theorem BkSt.exN {k : Addr} {n : Int} {s : Str} {ts : List Ti} {rows : List Rw} {parts : List (Int × Int)} {b : Bool} (e : ExtN H H') (h : BkSt K H k n s ts rows parts b) : BkSt K H' k n s ts rows parts b := by
  obtain ⟨lad, ⟨dx, tp, np, ls, h1, h2, h3, h4, h5⟩, hl⟩ := h
  refine ⟨lad, ⟨dx, tp, np, ls, e _ _ h1 (fun _ z => nomatch z), e _ _ h2 (fun _ z => nomatch z), h3, fun q hq => (h4 q hq).exN e, e _ _ h5 (fun _ z => nomatch z)⟩, ?_⟩
  rcases hl with hl | ⟨l, q1, q2⟩
  · exact .inl hl
  · exact .inr ⟨l, q1, q2.exN e⟩
end
end K22
end

/-! # K26b -/
section
set_option Elab.async false
set_option linter.all false
set_option autoImplicit false
set_option maxRecDepth 100000
set_option maxHeartbeats 4000000
namespace K22
open PySem PySem.Spec PyProof.Rows L2
open He (ga ma fAd)
open Evl (Ex ex_l ex_t sq_of st_of fresh_back)
open LamX (Tabs TabS ExtN CodeO TabB)
def lamQ : Str := (("_law_right" : Str) ++ ".<locals>.") ++ "<lambda>"
theorem w_ofL {Tb : List (Addr × Str)} {H0 H1 H : Hp} {Q : VK} {E : XK} {p L : Addr} {n : Nat} (xs : List Int) (r : Rs Tb H0 p H1 n) (hn : n ≤ 90000) (hL : H1 L = none) (e : Ex H1 H) (hH : H L = some (.lst (xs.map V.int))) (hne : xs ≠ []) (hlen : xs.length ≤ 100)
    (k : ∀ x H', x ∈ xs → ExB p H H' → Rs Tb H0 p H' (n + 1) → Q (.int x) H') : spOf ([.ref p, .ref L] ++ []) H Q E := by
  have r2 := r.ex e
  have hLp : L ≠ p := fun z => by
    obtain ⟨a, b, c, h, _⟩ := r.pot
    rw [← z, hL] at h; cases h
  exact ⟨p, n, L, xs, rfl, r2.pot, hn, hLp, hH, hne, hlen, fun x H' hx e3 hp => k x H' hx e3 (r2.exB e3 hp)⟩
theorem w_farL {Tb : List (Addr × Str)} {H0 H : Hp} {Q : VK} {E : XK} {p : Addr} {n : Nat} {up : Int} (r : Rs Tb H0 p H n) (hn : n ≤ 90000) (hup : 0 < up)
    (k : ∀ x H', 0 ≤ x → x < up → ExB p H H' → Rs Tb H0 p H' (n + 5) → Q (.int x) H') : spFar ([.ref p, .int up] ++ []) H Q E :=
  ⟨p, n, up, rfl, r.pot, hn, hup, fun x H' h1 h2 e3 hp => k x H' h1 h2 e3 (r.exB e3 hp)⟩
theorem pq_ok {r1 r2 sc bound sb : Int} (h1 : bound ≤ 10 ^ 19) (h2 : sb ≤ 10 ^ 9) (a0 : 0 ≤ sc) (a1 : sc < sb) (b0 : 0 ≤ r1) (b1 : r1 < bound) (c0 : 0 ≤ r2) (c1 : r2 < bound) :
    ∃ pn qn : Nat, (1 + r1) * (1 + sc) = pn ∧ (1 + r2 + if decide (1 + r1 = 1 + r2) = true then 1 else 0) * (1 + sc) = qn ∧ 0 < pn ∧ 0 < qn ∧ pn ≠ qn ∧ (pn : Int) ≤ 2 * 10 ^ 28 ∧ (qn : Int) ≤ 2 * 10 ^ 28 := by
  have hi : (0 : Int) ≤ (if decide (1 + r1 = 1 + r2) = true then 1 else 0) ∧ (if decide (1 + r1 = 1 + r2) = true then (1 : Int) else 0) ≤ 1 ∧ 1 + r1 ≠ 1 + r2 + (if decide (1 + r1 = 1 + r2) = true then (1 : Int) else 0) := by
    by_cases hc : 1 + r1 = 1 + r2
    · rw [decide_eq_true hc, if_pos rfl]; omega
    · rw [decide_eq_false hc, if_neg Bool.false_ne_true]; omega
  generalize (if decide (1 + r1 = 1 + r2) = true then (1 : Int) else 0) = z at *
  have g1 : (1 + r1) * (1 + sc) ≤ 10 ^ 19 * 10 ^ 9 := Int.mul_le_mul (by omega) (by omega) (by omega) (by decide)
  have g2 : (1 + r2 + z) * (1 + sc) ≤ (10 ^ 19 + 1) * 10 ^ 9 := Int.mul_le_mul (by omega) (by omega) (by omega) (by decide)
  have g3 : 0 < (1 + r1) * (1 + sc) := Int.mul_pos (by omega) (by omega)
  have g4 : 0 < (1 + r2 + z) * (1 + sc) := Int.mul_pos (by omega) (by omega)
  have g5 : (1 + r1) * (1 + sc) ≠ (1 + r2 + z) * (1 + sc) := fun e => hi.2.2 (Int.eq_of_mul_eq_mul_right (by omega) e)
  refine ⟨((1 + r1) * (1 + sc)).toNat, ((1 + r2 + z) * (1 + sc)).toNat, ?_, ?_, ?_, ?_, ?_, ?_, ?_⟩ <;> omega
theorem am_ok {pn : Nat} {wd : Int} (h1 : (pn : Int) ≤ 2 * 10 ^ 28) (h2 : wd.natAbs ≤ 10 ^ 9) : ((pn : Int) * wd).natAbs ≤ 2 * 10 ^ 37 := by
  rw [Int.natAbs_mul]
  have : (pn : Int).natAbs * wd.natAbs ≤ (2 * 10 ^ 28) * 10 ^ 9 := Nat.mul_le_mul (by omega) h2
  omega
theorem lt100 {x : Int} {m : Nat} (h : x.natAbs ≤ m) (hm : m < 10 ^ 100) : x.natAbs < 10 ^ 100 := Nat.lt_of_le_of_lt h hm
theorem emod_le_self {x g : Int} (hx : 0 ≤ x) (hg : 0 < g) : x % g ≤ x := by
  have h1 := Int.mul_nonneg (show 0 ≤ g by omega) (Int.ediv_nonneg hx (show 0 ≤ g by omega))
  have h2 := Int.emod_add_mul_ediv x g
  generalize g * (x / g) = z at *
  omega
local macro_rules | `(tactic| walk_at "fx") => `(tactic| first
  | assumption
  | ((with_reducible apply TieAt.ex); (focus assumption); walk_at "fx")
  | ((with_reducible apply LinkAt.ex); (focus assumption); walk_at "fx")
  | ((with_reducible apply ex_l); (focus assumption); walk_at "fx")
  | ((with_reducible apply ex_t); (focus assumption); walk_at "fx")
  | ((with_reducible apply sq_of); walk_at "fx")
  | ((with_reducible apply st_of); walk_at "fx")
  | ((with_reducible apply ex_at); (focus assumption); walk_at "fx"))
local macro_rules | `(tactic| walk_at "s") => `(tactic| first
  | with_reducible refine w_seq ?_
  | ((with_reducible apply w_var); focus (exact rfl))
  | with_reducible refine w_c ?_
  | with_reducible refine w_op ?_
  | with_reducible refine w_cons ?_
  | with_reducible refine w_nil ?_
  | with_reducible refine w_asg ?_
  | with_reducible refine w_name ?_
  | with_reducible refine w_ret ?_
  | with_reducible refine w_retN ?_
  | with_reducible refine w_ifS ?_
  | with_reducible refine w_isB ?_
  | with_reducible refine w_test ?_
  | with_reducible refine w_tB ?_
  | with_reducible refine w_and ?_
  | with_reducible refine w_or ?_
  | with_reducible refine w_not ?_
  | with_reducible refine w_andV ?_
  | with_reducible refine w_orV ?_
  | with_reducible refine w_notV ?_
  | with_reducible refine w_if ?_
  | with_reducible refine w_iteT ?_
  | with_reducible refine w_iteF ?_
  | with_reducible refine w_iteNT ?_
  | with_reducible refine w_iteNF ?_
  | with_reducible refine w_un ?_
  | with_reducible refine w_call ?_
  | with_reducible refine w_cb ?_
  | with_reducible refine w_next ?_
  | with_reducible refine w_drop ?_
  | with_reducible refine w_for ?_
  | with_reducible refine w_dget0 ?_
  | with_reducible refine w_prsC ?_
  | with_reducible refine w_prsN ?_
  | with_reducible refine w_iZA ?_
  | with_reducible refine w_gSub ?_
  | with_reducible refine w_iR1 ?_
  | with_reducible refine w_p8 ?_
  | with_reducible refine w_p60 ?_
  | with_reducible refine w_p5 ?_
  | with_reducible refine w_p18 ?_
  | with_reducible refine w_p9 ?_
  | with_reducible refine w_p19 ?_
  | with_reducible refine w_p29 ?_
  | with_reducible refine w_m1 ?_
  | with_reducible refine w_kM1 ?_
  | with_reducible refine w_iStr ?_
  | with_reducible refine w_kStr ?_
  | with_reducible refine w_inS ?_
  | with_reducible refine w_sta ?_
  | with_reducible refine w_iEnumT ?_
  | with_reducible refine w_thn ?_
  | with_reducible refine w_chain ?_
  | with_reducible refine w_gAttr ?_
  | with_reducible refine w_isNr ?_
  | with_reducible refine w_iEnum ?_
  | ((with_reducible apply w_kEnum); focus (walk_at "fx"))
  | with_reducible refine w_sl3 ?_
  | with_reducible refine w_noPart ?_
  | with_reducible refine w_part ?_
  | with_reducible refine w_kPt ?_
  | with_reducible refine w_bm ?_
  | with_reducible refine w_ckw ?_
  | with_reducible refine w_tst ?_
  | with_reducible refine w_mk ?_
  | ((with_reducible apply w_psl); (focus (walk_at "fx")))
  | ((with_reducible apply w_mT); (focus (walk_at "fx")); (focus (exact rfl)))
  | ((with_reducible apply w_partner); (focus (walk_at "fx")))
  | ((with_reducible apply w_led); (focus (walk_at "fx")))
  | ((with_reducible apply w_spT); (focus (walk_at "fx")))
  | with_reducible refine w_lc ?_
  | with_reducible refine w_yes ?_
  | with_reducible refine w_gCons ?_
  | with_reducible refine w_gNil ?_
  | ((with_reducible apply w_gTup); (focus (walk_at "fx")); focus (exact rfl))
  | ((with_reducible apply w_minL2); focus (walk_at "fx"))
  | ((with_reducible apply w_slT); (focus assumption); (focus (walk_at "fx")))
  | ((with_reducible apply w_kIT); focus (walk_at "fx"))
  | ((with_reducible apply w_kIL); focus (walk_at "fx"))
  | with_reducible refine w_neg ?_
  | with_reducible refine w_tie ?_
  | with_reducible refine w_iT ?_
  | with_reducible refine w_iL ?_
  | with_reducible refine w_sFld ?_
  | with_reducible refine w_sSl ?_
  | with_reducible refine w_propSl ?_
  | with_reducible refine w_par ?_
  | with_reducible refine w_kPar ?_
  | with_reducible refine w_tup ?_
  | with_reducible refine w_lst ?_
  | with_reducible refine w_I0 ?_
  | with_reducible refine w_U ?_
  | with_reducible refine w_eqI ?_
  | with_reducible refine w_neI ?_
  | with_reducible refine w_eqS ?_
  | with_reducible refine w_neS ?_
  | with_reducible refine w_eqB ?_
  | with_reducible refine w_neB ?_
  | with_reducible refine w_isNn ?_
  | with_reducible refine w_isNr ?_
  | with_reducible refine w_isNi ?_
  | with_reducible refine w_notNn ?_
  | with_reducible refine w_notNr ?_
  | with_reducible refine w_notNi ?_
  | with_reducible refine w_xisN ?_
  | with_reducible refine w_fld ?_
  | with_reducible refine w_prop ?_
  | with_reducible refine w_meth ?_
  | ((with_reducible apply w_mod); focus assumption)
  | ((with_reducible apply w_mulW); (focus assumption); focus assumption)
  | ((with_reducible apply w_divW); (focus assumption); focus assumption)
  | with_reducible refine w_int1 ?_
  | with_reducible refine w_intB ?_
  | with_reducible refine w_min2 ?_
  | with_reducible refine w_max2 ?_
  | with_reducible refine w_abs ?_
  | with_reducible refine w_isiI ?_
  | with_reducible refine w_isiNB ?_
  | with_reducible refine w_isiB ?_
  | with_reducible refine w_isiS ?_
  | ((with_reducible apply w_isiT); (focus assumption); focus (walk_at "fx"))
  | ((with_reducible apply w_fTd); (focus assumption); focus (walk_at "fx"))
  | ((with_reducible apply w_fTb); (focus assumption); focus (walk_at "fx"))
  | ((with_reducible apply w_fTf); (focus assumption); focus (walk_at "fx"))
  | ((with_reducible apply w_fTs); (focus assumption); focus (walk_at "fx"))
  | ((with_reducible apply w_fTl); (focus assumption); focus (walk_at "fx"))
  | ((with_reducible apply w_fTa); (focus assumption); focus (walk_at "fx"))
  | ((with_reducible apply w_pT); focus (walk_at "fx"))
  | with_reducible refine w_sl ?_
  | ((with_reducible apply w_len); focus (walk_at "fx"))
  | ((with_reducible apply w_kT); focus (exact Nat.le_of_ble_eq_true rfl)))
local macro_rules | `(tactic| walk_at "ss") => `(tactic| repeat (walk_at "s"))
local macro_rules | `(tactic| walk_at "go") => `(tactic| ((try dsimp only [cxOf, Cx.nox, Cx.wish]); walk_at "ss"))
local macro_rules | `(tactic| walk_at "len") => `(tactic| (intro vs H Q E h; (repeat (obtain ⟨_, h⟩ := h)); all_goals (subst_vars; rfl)))
section
variable {P : Program} {w : World} {K : PySem.W.Frag} {mg : Str → Option Value} {base : Heap}
theorem right_body (T : Tx K mg) (ET : ErT P K mg base) {c P0 : Addr} (TB : TabB base mg c P0) {A : Around} {outer : List Env} {s : Shared} {H : Hp} {p : Addr} {n : Nat} {Q : VK} (hA : A.guards = some []) (hr : Room 20 (A.deeper (envOfC "_law_right" (defScope s__law_right) s.heap.objs.size (ga K "_law_right") (.ref c))))
    (hp : Pot H p n) (hn : n ≤ 80000) (hT : Tabs [(P0, lamQ)] H) (k : ∀ H', ExP p H H' → Pot H' p (n + 100) → Tabs [(P0, lamQ)] H' → Q (.bl true) H') :
    ∃ t, PSs (cxOf CX0 P w K mg base n__law_right "_law_right" (defScope s__law_right) (ga K "_law_right") (.ref c) A outer s H E0).nox (defBody s__law_right) t ∧ t { nx := fun _ H' => Q .non H', rt := Q } (L2.start n__law_right [.ref p]) H := by
  let Tb : List (Addr × Str) := [(P0, lamQ)]
  have hG : (cxOf CX0 P w K mg base n__law_right "_law_right" (defScope s__law_right) (ga K "_law_right") (.ref c) A outer s H E0).nox.A.guards = some [] := hA
  refine ⟨_, (pss_cons (ps_par (i := 1) (j := 2) (by rfl) sc__law_right.nd rfl rfl (by decide) rfl rfl (pa_cons (c_fn (ok__law_of T) (hr.mono (by decide)) T.m__law_of T.kp__law_of pass0 (pa_cons (pv 0) (pa_cons (pe_lst (pa_cons pe_int (pa_cons pe_int (pa_cons (pe_op op_powW pe_int pe_int) (pa_cons (pe_op op_powW pe_int pe_int) pa_nil))))) pa_nil))) (pa_cons (pe_op op_add pe_int (c_fn (ok__law_far T) (hr.mono (by decide)) T.m__law_far T.kp__law_far pass0 (pa_cons (pv 0) (pa_cons (c_fn (ok__law_of T) (hr.mono (by decide)) T.m__law_of T.kp__law_of pass0 (pa_cons (pv 0) (pa_cons (pe_lst (pa_cons pe_int (pa_cons pe_int (pa_cons (pe_op op_powW pe_int pe_int) pa_nil)))) pa_nil))) pa_nil)))) pa_nil)) (by rfl))
      (pss_cons (ps_par (i := 3) (j := 4) (by rfl) sc__law_right.nd rfl rfl (by decide) rfl rfl (pa_cons (pe_op op_add pe_int (c_fn (ok__law_far T) (hr.mono (by decide)) T.m__law_far T.kp__law_far pass0 (pa_cons (pv 0) (pa_cons (pv 1) pa_nil)))) (pa_cons (pe_op op_add pe_int (c_fn (ok__law_far T) (hr.mono (by decide)) T.m__law_far T.kp__law_far pass0 (pa_cons (pv 0) (pa_cons (pv 1) pa_nil)))) pa_nil)) (by rfl))
      (pss_cons (ps_par (i := 3) (j := 4) (by rfl) sc__law_right.nd rfl rfl (by decide) rfl rfl (pa_cons (pe_op op_mulW (pv 3) (pv 2)) (pa_cons (pe_op op_mulW (pe_op op_add (pv 4) (pe_callTy cl_int1 (by rfl) T.b_int (by decide +kernel) (pa_cons (pe_cmpR op_eq (pv 3) (pv 4) (nomark _)) pa_nil))) (pv 2)) pa_nil)) (by rfl))
      (pss_cons (ps_par (i := 5) (j := 6) (by rfl) sc__law_right.nd rfl rfl (by decide) rfl rfl (pa_cons (c_fn (ok__law_divisor T) (hr.mono (by decide)) T.m__law_divisor T.kp__law_divisor pass0 (pa_cons (pv 3) (pa_cons (pv 4) pa_nil))) (pa_cons (c_fn (ok__law_of T) (hr.mono (by decide)) T.m__law_of T.kp__law_of pass0 (pa_cons (pv 0) (pa_cons (pe_lst (pa_cons pe_int (pa_cons pe_int (pa_cons (pe_un un_neg pe_int) (pa_cons pe_int (pa_cons (pe_un un_neg pe_int) (pa_cons (pe_op op_powW pe_int pe_int) pa_nil))))))) pa_nil))) pa_nil)) (by rfl))
      (pss_cons (ps_set (i := 7) sc__law_right.nd rfl (Or.inl rfl) (pe_callB (cl_max2 rfl) (by rfl) T.b_max (by decide +kernel) (pa_cons (pe_op op_sub (pe_op op_add (pv 3) (pv 4)) (pv 5)) (pa_cons (pe_op op_add (pe_callB (cl_max2 rfl) (by rfl) T.b_max (by decide +kernel) (pa_cons (pe_callTy cl_int1 (by rfl) T.b_int (by decide +kernel) (pa_cons (pv 3) pa_nil)) (pa_cons (pe_callTy cl_int1 (by rfl) T.b_int (by decide +kernel) (pa_cons (pv 4) pa_nil)) pa_nil))) pe_int) pa_nil))))
      (pss_cons (ps_set (i := 8) sc__law_right.nd rfl (Or.inr rfl) (pe_op op_add (pv 7) (c_fn (ok__law_far T) (hr.mono (by decide)) T.m__law_far T.kp__law_far pass0 (pa_cons (pv 0) (pa_cons (c_fn (ok__law_of T) (hr.mono (by decide)) T.m__law_of T.kp__law_of pass0 (pa_cons (pv 0) (pa_cons (pe_lst (pa_cons pe_int (pa_cons pe_int (pa_cons (pe_op op_add (pv 3) (pv 4)) (pa_cons (pe_op op_powW pe_int pe_int) pa_nil))))) pa_nil))) pa_nil)))))
      (pss_cons (ps_set (i := 9) sc__law_right.nd rfl (Or.inl rfl) (c_fn (ok__law_book_of T) (hr.mono (by decide)) T.m__law_book_of T.kp__law_book_of pass0 (pa_cons (pv 8) (pa_cons (pe_tup (pa_cons (pv 3) (pa_cons (pv 4) pa_nil))) (pa_cons (pe_tup (pa_cons (pe_op op_mulW (pv 3) (pv 6)) (pa_cons (pe_op op_mulW (pv 4) (pv 6)) pa_nil))) pa_nil)))))
      (pss_cons (ps_if (PW.pt (pw_or (pt_cmpR op_ne (pe_callB SkE.call_repr_int (by rfl) T.b_repr (by decide +kernel) (pa_cons (c_fn (ok_free T) (hr.mono (by decide)) T.m_free T.kp_free pass0 (pa_cons (pv 9) pa_nil)) pa_nil)) (pe_callB SkE.call_repr_int (by rfl) T.b_repr (by decide +kernel) (pa_cons (pv 5) pa_nil)) (nomark _)) (pw_or1 (pt_cmpR op_ne (pe_callB (call_reprD hG hr.units) (by rfl) T.b_repr (by decide +kernel) (pa_cons (c_fn (ok_free_parts T) (hr.mono (by decide)) T.m_free_parts T.kp_free_parts pass0 (pa_cons (pv 9) pa_nil)) pa_nil)) (pe_callB (call_reprD hG hr.units) (by rfl) T.b_repr (by decide +kernel) (pa_cons (pe_tup (pa_cons (pe_tup (pa_cons pe_int (pa_cons (pv 5) pa_nil))) pa_nil)) pa_nil)) (nomark _))))) (pss_one (ps_ret pe_bl)) pss_nil)
      (pss_cons (ps_for PassesOwn.never rfl (pi_list (pe_op op_cat (pe_lst (pa_cons pe_int (pa_cons (pe_op op_sub (pv 8) pe_int) (pa_cons (pv 5) (pa_cons (pe_op op_sub (pv 7) pe_int) pa_nil))))) (pe_lc (own := [("_law_lap", 15)]) (g := (gName 15)) rfl sc__law_right.nd (pi_range1 (by rfl) T.b_range (pa_cons pe_int pa_nil)) (blkOk_by (N := n__law_right) (sc := defScope s__law_right) (by decide +kernel)) (fun _ _ _ _ _ => (pg_name (i := 15) sc__law_right.nd rfl (Or.inl rfl))) (fun _ _ _ _ _ => pts_nil) (fun _ _ _ _ _ => (c_fn (ok__law_far T) (hr.mono (by decide)) T.m__law_far T.kp__law_far pass0 (pa_cons (pv 0) (pa_cons (pv 8) pa_nil))))))) (pg_name (i := 10) sc__law_right.nd rfl (Or.inl rfl)) (pss_cons (ps_set (i := 11) sc__law_right.nd rfl (Or.inl rfl) (pe_op op_mod (pe_callTy cl_int1 (by rfl) T.b_int (by decide +kernel) (pa_cons (pv 10) pa_nil)) (pv 5)))
      (pss_one (ps_if (pt_cmpR op_ne (pe_callB (call_reprD hG hr.units) (by rfl) T.b_repr (by decide +kernel) (pa_cons (c_fn (ok_hangs T) (hr.mono (by decide)) T.m_hangs T.kp_hangs pass0 (pa_cons (pv 9) (pa_cons (pv 10) pa_nil))) pa_nil)) (pe_callB (call_reprD hG hr.units) (by rfl) T.b_repr (by decide +kernel) (pa_cons (pe_tup (pa_cons pe_str (pa_cons (pv 11) (pa_cons (pe_op op_mulW (pv 6) (pe_op op_sub (pv 10) (pv 11))) pa_nil)))) pa_nil)) (nomark _)) (pss_one (ps_ret pe_bl)) pss_nil))))
      (pss_cons (ps_set (i := 12) sc__law_right.nd rfl (Or.inl rfl) (pe_op op_add pe_int (c_fn (ok__law_take T) (hr.mono (by decide)) T.m__law_take T.kp__law_take pass0 (pa_cons (pv 0) (pa_cons pe_int pa_nil)))))
      (pss_cons (ps_set (i := 13) sc__law_right.nd rfl (Or.inr rfl) (c_fn (ok__law_book_of T) (hr.mono (by decide)) T.m__law_book_of T.kp__law_book_of pass0 (pa_cons (pe_op op_add (pv 7) pe_int) (pa_cons (pe_tup (pa_cons (pv 3) (pa_cons (pv 4) pa_nil))) (pa_cons (pe_tup (pa_cons (pe_op op_mulW (pv 3) (pv 6)) (pa_cons (pe_op op_add (pe_op op_mulW (pv 4) (pv 6)) (pv 12)) pa_nil))) pa_nil)))))
      (pss_cons (ps_if (pt_cmpR op_eq (pe_op op_sub (pe_op op_add (pv 3) (pv 4)) (pv 5)) (pv 7) (nomark _)) (pss_cons (ps_set (i := 14) sc__law_right.nd rfl (Or.inl rfl) (c_fn (ok__law_book_of T) (hr.mono (by decide)) T.m__law_book_of T.kp__law_book_of pass0 (pa_cons (pv 7) (pa_cons (pe_tup (pa_cons (pv 3) (pa_cons (pv 4) pa_nil))) (pa_cons (pe_tup (pa_cons (pe_op op_mulW (pv 3) (pv 6)) (pa_cons (pe_op op_add (pe_op op_mulW (pv 4) (pv 6)) (pv 12)) pa_nil))) pa_nil)))))
      (pss_cons (ps_if (pt_cmpR op_ne (pe_callB SkE.call_repr_int (by rfl) T.b_repr (by decide +kernel) (pa_cons (c_fn (ok_free T) (hr.mono (by decide)) T.m_free T.kp_free pass0 (pa_cons (pv 14) pa_nil)) pa_nil)) (pe_callB SkE.call_repr_int (by rfl) T.b_repr (by decide +kernel) (pa_cons (pv 5) pa_nil)) (nomark _)) (pss_one (ps_ret pe_bl)) pss_nil)
      (pss_cons (ps_if (pt_not (pt_val (pe_isclash (Tb := Tb) (c := c) (P0 := P0) (k := 16) (j := 13) (t := fun E => tCall (spKeptX K (ga K "Clash")) [] E (tCons (tVar 13) tNil)) T ET rfl TB rfl (List.mem_singleton.mpr rfl) (fun p hp _ => by rw [List.mem_singleton.mp hp]; rfl) (hr.mono (by decide)) (LamX.lamS_by rfl) rfl (fun _ _ _ _ _ => rfl) (fun A outer s H E f c' hr => c_fn (okx_free T ET.cl) (hr.mono (by decide)) T.m_free T.kp_free (passX (takes_of rfl rfl rfl rfl)) (pa_cons (pe_var (i := 13) rfl (.inr (.inr rfl))) pa_nil)) rfl (.inr (.inl rfl))))) (pss_one (ps_ret pe_bl)) pss_nil)
      (pss_one (ps_ret (pe_isclash (Tb := Tb) (c := c) (P0 := P0) (k := 16) (j := 13) (t := fun E => tCall (spHangsX K (ga K "Clash")) [] E (tCons (tVar 13) (tCons (tC (.int 0)) tNil))) T ET rfl TB rfl (List.mem_singleton.mpr rfl) (fun p hp _ => by rw [List.mem_singleton.mp hp]; rfl) (hr.mono (by decide)) (LamX.lamS_by rfl) rfl (fun _ _ _ _ _ => rfl) (fun A outer s H E f c' hr => c_fn (okx_hangs T ET.cl) (hr.mono (by decide)) T.m_hangs T.kp_hangs (passX (takes_of rfl rfl rfl rfl)) (pa_cons (pe_var (i := 13) rfl (.inr (.inr rfl))) (pa_cons pe_int pa_nil))) rfl (.inr (.inl rfl)))))))) pss_nil)
      (pss_one (ps_ret pe_bl)))))))))))))), ?_⟩
  have R0 : Rs Tb H p H n := ⟨fun _ _ _ h _ => h, hp, hT⟩
  walk_at "go"
  refine w_kL (by decide) fun L1 H1 hL1 e1 h1 => ?_
  walk_at "ss"
  refine w_ofL [6, 24, 10 ^ 9, 10 ^ 19] R0 (by omega) hL1 e1 h1 (by decide) (by decide) fun bound H2 hb e2 R2 => ?_
  walk_at "ss"
  refine w_kL (by decide) fun L3 H3 hL3 e3 h3 => ?_
  walk_at "ss"
  refine w_ofL [1, 5, 10 ^ 9] R2 (by omega) hL3 e3 h3 (by decide) (by decide) fun sb H4 hsb e4 R4 => ?_
  walk_at "ss"
  have hb' : 1 ≤ bound ∧ bound ≤ 10 ^ 19 := by simp only [List.mem_cons, List.not_mem_nil, or_false] at hb; omega
  have hsb' : 1 ≤ sb ∧ sb ≤ 10 ^ 9 := by simp only [List.mem_cons, List.not_mem_nil, or_false] at hsb; omega
  refine w_farL R4 (by omega) (by omega) fun sc H5 hsc0 hsc1 e5 R5 => ?_
  walk_at "ss"
  refine w_farL R5 (by omega) (by omega) fun r1 H6 hr10 hr11 e6 R6 => ?_
  walk_at "ss"
  refine w_farL R6 (by omega) (by omega) fun r2 H7 hr20 hr21 e7 R7 => ?_
  walk_at "ss"
  refine w_mulW (sm_of (by omega) (by omega)) (sm_of (by omega) (by omega)) ?_
  walk_at "ss"
  obtain ⟨pn, qn, ep, eq, hp0, hq0, hpq, hpm, hqm⟩ := pq_ok hb'.2 hsb'.2 hsc0 hsc1 hr10 hr11 hr20 hr21
  have hite : (0 : Int) ≤ (if decide (1 + r1 = 1 + r2) = true then 1 else 0) ∧ (if decide (1 + r1 = 1 + r2) = true then (1 : Int) else 0) ≤ 1 := by split <;> omega
  refine w_mulW (sm_of (by omega) (by omega)) (sm_of (by omega) (by omega)) ?_
  walk_at "ss"
  rw [ep, eq]
  clear ep eq hite hr10 hr11 hr20 hr21 hsc0 hsc1 hb hb' hsb hsb' R0 R2 R4 R5 R6 e1 e2 e3 e4 e5 e6 e7 h1 h3 hL1 hL3
  refine ⟨pn, qn, rfl, ?_⟩
  walk_at "ss"
  refine w_kL (by decide) fun L8 H8 hL8 e8 h8 => ?_
  walk_at "ss"
  refine w_ofL [0, 1, -1, 3, -7, 10 ^ 9] R7 (by omega) hL8 e8 h8 (by decide) (by decide) fun wd H9 hwd e9 R9 => ?_
  have hwd' : -7 ≤ wd ∧ wd ≤ 10 ^ 9 := by simp only [List.mem_cons, List.not_mem_nil, or_false] at hwd; omega
  have hwa : wd.natAbs ≤ 10 ^ 9 := by omega
  walk_at "ss"
  have hgp : (Nat.gcd pn qn) ≤ pn := Nat.gcd_le_left qn hp0
  have hgq : (Nat.gcd pn qn) ≤ qn := Nat.gcd_le_right pn hq0
  have hg0 : 0 < Nat.gcd pn qn := Nat.gcd_pos_of_pos_left qn hp0
  have hedge : ∃ ed : Int, max ((pn : Int) + qn - (Nat.gcd pn qn : Nat)) (max (pn : Int) qn + 1) = ed ∧ (pn : Int) + 1 ≤ ed ∧ (qn : Int) + 1 ≤ ed ∧ (pn : Int) + qn - (Nat.gcd pn qn : Nat) ≤ ed ∧ ed ≤ 5 * 10 ^ 28 ∧ ((Nat.gcd pn qn : Nat) : Int) + 1 ≤ ed := ⟨_, rfl, by omega, by omega, by omega, by omega, by omega⟩
  obtain ⟨ed, hed, he1, he2, he3, he4, he5⟩ := hedge
  rw [hed]
  generalize hgc : Nat.gcd pn qn = g at *
  refine w_kL (Nat.le_of_ble_eq_true rfl) fun L10 H10 hL10 e10 h10 => ?_
  walk_at "ss"
  refine w_ofL [1, 3, (pn : Int) + qn, 10 ^ 29] R9 (by omega) hL10 e10 h10 (by simp) (by simp) fun ub H11 hub e11 R11 => ?_
  have hub' : 1 ≤ ub ∧ ub ≤ 10 ^ 29 := by simp only [List.mem_cons, List.not_mem_nil, or_false] at hub; omega
  walk_at "ss"
  refine w_farL R11 (by omega) (by omega) fun fr H12 hf0 hf1 e12 R12 => ?_
  walk_at "ss"
  obtain ⟨sz, hsz, hs1, hs2⟩ : ∃ sz : Int, ed + fr = sz ∧ ed ≤ sz ∧ sz ≤ 10 ^ 30 := ⟨_, rfl, by omega, by omega⟩
  rw [hsz]
  have hSt : Stp pn qn sz := ⟨hp0, hq0, hpq, by omega, by omega, by rw [hgc]; omega, hs2⟩
  obtain ⟨rows, hRun, hRok, hRl, hch⟩ := hSt.like hwa
  rw [hgc] at hRun hch
  have am1 := lt100 (am_ok hpm hwa) (by decide +kernel)
  have am2 := lt100 (am_ok hqm hwa) (by decide +kernel)
  intro S1 H13 hS1 e13 hS13
  walk_at "ss"
  refine w_mulW (sm_le (by omega) (by omega)) (sm_of (by omega) (by omega)) ?_
  walk_at "ss"
  refine w_mulW (sm_le (by omega) (by omega)) (sm_of (by omega) (by omega)) ?_
  walk_at "ss"
  intro A1 H14 hA1 e14 hA14
  walk_at "ss"
  have R14 := (R12.ex e13).ex e14
  refine ⟨sz, pn, qn, _, _, S1, A1, rfl, st_of (e14 _ _ hS13), st_of hA14, hSt.book am1 am2, fun kb H15 hkb e15 hB15 => ?_⟩
  have hNw := R14.fresh (fresh_back (Ex.refl _) hkb)
  have R15 := R14.ex e15
  have B15 : BkSt K H15 kb sz _ _ rows [(0, (g : Int))] false := ⟨_, hB15, .inl rfl⟩
  walk_at "ss"
  refine ⟨kb, sz, _, _, rows, g, 202, rfl, B15, hRun, fun H16 e16 B16 => ?_⟩
  obtain ⟨dx15, fs15, hi15⟩ := B15.ins
  have R16 := R15.exK e16 hNw hi15
  have hgl : ((g : Int)).natAbs < 10 ^ 100 := lt100 (m := 2 * 10 ^ 28) (by omega) (by decide +kernel)
  walk_at "ss"
  refine ⟨(g : Int), rfl, log_of hgl, ?_⟩
  walk_at "ss"
  refine ⟨(g : Int), rfl, log_of hgl, ?_⟩
  walk_at "ss"
  rw [decide_eq_true rfl]
  walk_at "ss"
  refine ⟨kb, sz, _, _, rows, g, 202, rfl, B16, hRun, fun q1 t1 H17 e17 B17 hq1 ht1 => ?_⟩
  obtain ⟨dx16, fs16, hi16⟩ := B16.ins
  have R17 := R16.exK e17 hNw hi16
  walk_at "ss"
  refine w_reprP (st_of hq1) (st_of ht1) hgl ?_
  walk_at "ss"
  intro t2 H18 ht2 e18 hT18
  walk_at "ss"
  intro q2 H19 hq2 e19 hQ19
  walk_at "ss"
  refine w_reprP (st_of hQ19) (st_of (e19 _ _ hT18)) hgl ?_
  generalize (dPair (g : Int)).shown = zz
  walk_at "ss"
  rw [decide_eq_true rfl]
  walk_at "ss"
  have B19 := (B17.ex e18).ex e19
  have R19 := (R17.ex e18).ex e19
  refine w_kL (Nat.le_of_ble_eq_true rfl) fun L20 H20 hL20 e20 h20 => ?_
  have hL20p := R19.ne hL20
  have B20 := B19.ex e20
  have R20 := R19.ex e20
  walk_at "ss"
  refine w_kR1 (by decide) (by decide) ?_
  refine lcR (fun i acc H' => ExB p H20 H' ∧ Rs Tb H p H' (n + 40 + 5 * i) ∧ ∃ xs : List Int, acc = xs.map V.int ∧ xs.length = i ∧ ∀ x ∈ xs, 0 ≤ x ∧ x < sz) (fun D hD => ?_) (fun x => rfl) (fun D i H1 acc hD hi hA hI => ?_) fun D ys H21 hD hys hI => ?_
  · refine ⟨ExB.of (Ex.new hD), ?_, [], rfl, rfl, fun x hx => (by cases hx)⟩
    have r := R20.ex (Ex.new (o := .lst []) hD)
    exact ⟨r.ep, r.pot.mono (by omega), r.tabs⟩
  · obtain ⟨hE, hR, xs, rfl, hxl, hxs⟩ := hI
    have hi' : i < 10 := hi
    walk_at "ss"
    refine w_farL hR (by omega) (by omega) fun x H2 hx0 hx1 e2 R2 => ?_
    have hDp := R20.ne hD
    refine ⟨xs.map V.int, e2 _ _ hDp hA, Evl.sz_lt (by simp; omega), fun a o ha h => ?_, ?_, xs ++ [x], by simp, by simp [hxl], fun y hy => ?_⟩
    · rw [upd_ne (ne_of_none h hD)]; exact e2 _ _ ha (hE _ _ ha h)
    · have r := R2.up (ys := xs.map V.int ++ [V.int x]) (R20.fresh hD) hDp (e2 _ _ hDp hA)
      exact ⟨r.ep, r.pot.mono (by omega), r.tabs⟩
    · rcases List.mem_append.mp hy with h | h
      · exact hxs y h
      · obtain rfl := List.mem_singleton.mp h
        exact ⟨hx0, hx1⟩
  obtain ⟨e21, R21, xs, rfl, hxl, hxs⟩ := hI
  have B21 := B20.pot R20.pot e21 R21.pot
  walk_at "ss"
  have hxl' : xs.length = 10 := hxl
  have hL20' := e21 _ _ hL20p h20
  refine w_cat hL20' hys (by simp only [List.length_map, hxl', List.length_cons, List.length_nil]; omega) fun p22 H22 hp22 e22 h22 => ?_
  have hz : ([V.int 0, V.int (sz - 1), V.int (g : Int), V.int (ed - 1)] ++ xs.map V.int) = ([0, sz - 1, (g : Int), ed - 1] ++ xs).map V.int := rfl
  have B22 := B21.ex e22
  have R22 := R21.ex e22
  rw [show (n + 40 + 5 * Int.toNat 10) = n + 90 from rfl] at R22
  have h22' : H22 p22 = some (.lst (([0, sz - 1, (g : Int), ed - 1] ++ xs).map V.int)) := by rw [← hz]; exact h22
  have hzs : ∀ x ∈ ([0, sz - 1, (g : Int), ed - 1] ++ xs), 0 ≤ x ∧ x < sz := fun x hx => by
    rcases List.mem_append.mp hx with h | h
    · simp only [List.mem_cons, List.not_mem_nil, or_false] at h
      omega
    · exact hxs x h
  clear hys hL20' h20 B15 B16 B17 B19 B20 B21 R7 R9 R11 R12 R14 R15 R16 R17 R19 R20 R21 e8 e9 e10 e11 e12 e13 e14 e15 e16 e17 e18 e19 e20 e21 hxs hz h8 h10 hL8 hL10
  generalize ([0, sz - 1, (g : Int), ed - 1] ++ xs) = zs at *
  clear h22
  have hg0' : (0 : Int) < g := by omega
  refine w_kIL (sq_of h22') ?_
  refine w_kFor (walk_list (xs := zs.map V.int)) (fun i σ' H' => ∃ a b, σ' = [some (.ref p), some (.int bound), some (.int (1 + sc)), some (.int pn), some (.int qn), some (.int g), some (.int wd), some (.int ed), some (.int sz), some (.ref kb), a, b, none, none, none, none] ∧ Rs Tb H p H' (n + 90) ∧ BkSt K H' kb sz _ _ rows [(0, (g : Int))] false ∧ H' p22 = some (.lst (zs.map V.int))) ⟨none, none, rfl, R22, B22, h22'⟩ (fun i σ' H' _ q => ?_) (fun i v σ' H1 H2 hi q hy => ?_) (fun σ' H' q => ?_)
  · obtain ⟨a, b, rfl, r, bk, h⟩ := q
    exact sq_of h
  · obtain ⟨a, b, rfl, r, bk, h⟩ := q
    obtain ⟨rfl, hy⟩ := hy
    obtain ⟨x, hx, rfl⟩ : ∃ x ∈ zs, v = .int x := by
      obtain ⟨x, hx, e⟩ := List.mem_map.mp (List.mem_of_getElem? hy)
      exact ⟨x, hx, e.symm⟩
    obtain ⟨hx0, hx1⟩ := hzs x hx
    obtain ⟨w1, w2, w3, w4⟩ := chain_walk hg0 hch x hx0 hx1
    have hm0 := Int.emod_nonneg x (show (g : Int) ≠ 0 by omega)
    have hm1 := Int.emod_lt_of_pos x hg0'
    have hmx := emod_le_self hx0 hg0'
    have hy1 : (wd * (x - x % (g : Int))).natAbs < 10 ^ 100 := by
      rw [Int.natAbs_mul]
      have : wd.natAbs * (x - x % (g : Int)).natAbs ≤ 10 ^ 9 * 10 ^ 30 := Nat.mul_le_mul hwa (by omega)
      exact Nat.lt_of_le_of_lt this (by decide +kernel)
    have hx2 : (x % (g : Int)).natAbs < 10 ^ 100 := lt100 (m := 2 * 10 ^ 28) (by omega) (by decide +kernel)
    obtain ⟨dxb, fsb, hib⟩ := bk.ins
    walk_at "ss"
    refine ⟨kb, x, sz, _, _, rows, [(0, (g : Int))], 202, rfl, bk, hRun, hx0, by omega, hRok, by omega, w3, by omega, fun q3 H3 e3 B3 hq3 => ?_⟩
    rw [w1, w2] at hq3
    have R3 := r.exK e3 hNw hib
    have h3 := e3 p22 _ (fun z => by rw [z, hib] at h; cases h) h
    walk_at "ss"
    refine w_reprT (st_of hq3) hx2 hy1 ?_
    walk_at "ss"
    refine w_mulW (sm_of (by omega) (by omega)) (sm_of (by omega) (by omega)) ?_
    walk_at "ss"
    intro t4 H4 ht4 e4 hT4
    walk_at "ss"
    refine w_reprT (st_of hT4) hx2 hy1 ?_
    generalize (dTri (x % (g : Int)) (wd * (x - x % (g : Int)))).shown = zz2
    walk_at "ss"
    rw [decide_eq_true rfl]
    walk_at "ss"
    exact ⟨some (.int x), some (.int (x % (g : Int))), rfl, R3.ex e4, B3.ex e4, e4 _ _ h3⟩
  obtain ⟨a, b, rfl, R23, B23, _⟩ := q
  clear B22 R22 h22' hzs B23
  walk_at "ss"
  refine ⟨p, n + 90, 9, rfl, R23.pot, by omega, by decide, sm_le (by decide) (by decide), fun mr H24 hm0 hm1 e24 hp24 => ?_⟩
  have R24 := R23.exB e24 hp24
  walk_at "ss"
  obtain ⟨mo, hmo, hmo1, hmo2⟩ : ∃ mo : Int, 1 + mr = mo ∧ 1 ≤ mo ∧ mo ≤ 9 := ⟨_, rfl, by omega, by omega⟩
  rw [hmo]
  clear hmo hm0 hm1
  have am3 : ((qn : Int) * wd + mo).natAbs < 10 ^ 100 := by
    have h1 := am_ok hqm hwa
    refine lt100 (m := 2 * 10 ^ 37 + 9) ?_ (by decide +kernel)
    generalize (qn : Int) * wd = z at *
    omega
  have hStL : Stp pn qn (ed + 1) := ⟨hp0, hq0, hpq, by omega, by omega, by rw [hgc]; omega, by omega⟩
  have hStS : Stp pn qn ed := ⟨hp0, hq0, hpq, by omega, by omega, by rw [hgc]; omega, by omega⟩
  have sp : Sm (pn : Int) := sm_le (by omega) (by omega)
  have sq : Sm (qn : Int) := sm_le (by omega) (by omega)
  have sw : Sm wd := sm_of (by omega) (by omega)
  intro S2 H25 hS2 e25 hS25
  walk_at "ss"
  intro A2 H26 hA2 e26 hA26
  walk_at "ss"
  have R26 := (R24.ex e25).ex e26
  refine ⟨ed + 1, pn, qn, _, _, S2, A2, rfl, st_of (e26 _ _ hS25), st_of hA26, hStL.book am1 am3, fun kl H27 hkl e27 hB27 => ?_⟩
  have hNl := R26.fresh hkl
  have R27 := R26.ex e27
  walk_at "ss"
  refine w_iteD (fun hc => ?_) fun hc => ?_
  · walk_at "ss"
    obtain ⟨rowsS, hRunS⟩ := hStS.short hwa hmo1 hmo2 (by rw [hgc]; omega)
    obtain ⟨rowsL, partsL, hRunL⟩ := hStL.long hwa hmo1 hmo2 (by rw [hgc]; omega)
    rw [hgc] at hRunS
    intro S3 H28 hS3 e28 hS28
    walk_at "ss"
    intro A3 H29 hA3 e29 hA29
    walk_at "ss"
    have R29 := (R27.ex e28).ex e29
    have BL29 := (hB27.ex e28).ex e29
    refine ⟨ed, pn, qn, _, _, S3, A3, rfl, st_of (e29 _ _ hS28), st_of hA29, hStS.book am1 am3, fun ks H30 hks e30 hB30 => ?_⟩
    have hNs := R29.fresh hks
    have R30 := R29.ex e30
    have BL30 := BL29.ex e30
    have hne : kl ≠ ks := fun z => by
      obtain ⟨_, _, _, _, h, _⟩ := BL29
      rw [z, hks] at h; cases h
    obtain ⟨dxs, tps, nps, lss, hks30, _⟩ := id hB30
    walk_at "ss"
    refine ⟨ks, ed, _, _, rowsS, g, 202, rfl, ⟨_, hB30, .inl rfl⟩, hRunS, fun H31 e31 B31 => ?_⟩
    have R31 := R30.exK e31 hNs hks30
    obtain ⟨dx31, fs31, hks31⟩ := B31.ins
    have BL31 : BkSt K H31 kl (ed + 1) _ _ rowsL partsL true := ⟨_, BL30.insK hks30 rfl hne e31 hks31, .inl rfl⟩
    walk_at "ss"
    refine ⟨(g : Int), rfl, log_of hgl, ?_⟩
    walk_at "ss"
    refine ⟨(g : Int), rfl, log_of hgl, ?_⟩
    generalize (toString (g : Int)) = zz3
    walk_at "ss"
    rw [decide_eq_true rfl]
    walk_at "ss"
    refine ⟨R31.tabs, kl, rfl, fun H32 eN T32 E Q' hE => ?_⟩
    have R32 := R31.exN eN T32
    have BL32 := BL31.exN eN
    obtain ⟨dx32, fs32, hi32⟩ := BL32.ins
    walk_at "ss"
    refine ⟨kl, _, _, _, rowsL, partsL, 202, rfl, BL32, hRunL, fun d H33 e33 B33 hd33 => hE _ _ _ ⟨rfl, d, rfl, hd33, B33.bk0, fun H34 e34 => ?_⟩⟩
    have R34 := (R32.exK e33 hNl hi32).ex e34
    have BL34 := B33.ex e34
    walk_at "ss"
    refine ⟨R34.tabs, kl, rfl, fun H35 eN2 T35 E2 Q2 hE2 => ?_⟩
    have R35 := R34.exN eN2 T35
    have BL35 := BL34.exN eN2
    obtain ⟨dx35, fs35, hi35⟩ := BL35.ins
    walk_at "ss"
    refine ⟨kl, 0, _, _, _, rowsL, partsL, 202, rfl, by omega, by omega, BL35, hRunL, fun d2 H36 e36 B36 hd36 => hE2 _ _ _ ⟨rfl, d2, rfl, hd36, B36.bk0, fun H37 e37 => ?_⟩⟩
    have R37 := (R35.exK e36 hNl hi35).ex e37
    exact k H37 R37.ep (R37.pot.mono (by omega)) R37.tabs
  · walk_at "ss"
    exact k H27 R27.ep (R27.pot.mono (by omega)) R27.tabs
end
end K22
end

/-! # K26c -/
section
set_option Elab.async false
set_option linter.all false
set_option autoImplicit false
set_option maxRecDepth 100000
set_option maxHeartbeats 4000000
namespace K22
open PySem PySem.Spec PyProof.Rows L2
open He (ga ma fAd)
open Evl (Ex ex_l ex_t sq_of st_of fresh_back)
open LamX (Tabs TabS ExtN CodeO TabB run_ofS)
def spRight (Tb : List (Addr × Str)) : Sp := fun vs H Q _ => ∃ p n, vs = [.ref p] ∧ Pot H p n ∧ n ≤ 80000 ∧ Tabs Tb H ∧ ∀ H', ExP p H H' → Pot H' p (n + 100) → Tabs Tb H' → Q (.bl true) H'
theorem pe_right {X : Cx} {e : Expr} {ta : TA} {c P0 : Addr} {pp pos : Pos} (T : Tx X.K X.mg) (ET : ErT X.prog X.K X.mg X.base) (hcd : codIn X.K (ga X.K "_law_right") = some c) (TB : TabB X.base X.mg c P0) (hG : X.A.guards = some []) (hr : Room 21 X.A) (ha : PA X [e] ta) (hg : Gl X "_law_right" := by rfl)
    (he : starEach (e :: []) X.env = (false, eval e X.env) :: starEach [] X.env := by rfl) (hpl : (backTo pos (starEach [] X.env)).any (·.1) = false := by rfl) :
    PE X (.Call (.Name "_law_right" pp) [e] [] pos) (tCall (spRight [(P0, lamQ)]) [] E0 ta) := by
  refine ⟨fun pins s σ H Q I h => ?_⟩
  obtain ⟨fd, F⟩ := T.f__law_right
  have hb := F.bindsN (ps := ["_law_pot_here"]) (fun _ _ _ _ _ _ us hl => match us, hl with | [_], _ => rfl)
  obtain ⟨oc, od, dV, kV, doc, pm', an, cdv, ct, osl, rfl, lk, hcd', _, _⟩ := F.ex
  have hcc : cdv = .ref c := by
    unfold codIn at hcd
    rw [lk] at hcd
    cases cdv <;> simp_all
  subst hcc
  refine wpAny_Call_Name_kw (ld_glob I hg T.m__law_right ?_)
  refine PySem.W.callWith_K (h₀ := X.base) I.ok.mod.kin T.kp__law_right (thn (ha.run pos pins s σ H _ I h) fun us s1 hh => ?_) he hpl
  obtain ⟨vs, H1, I1, r1, p, n, ev, hp, hn, hT, k⟩ := hh
  rw [List.append_nil] at ev
  subst ev
  refine ⟨I1.kIn, ?_⟩
  cases r1 with
  | cons rv rn =>
    cases rn
    cases rv
    have rc : codeAny (model X.prog X.w) X.A (.call (.ref (ga X.K "_law_right")) ⟨[.ref p], []⟩) (CR CX0 X.stack X.prog X.w H1 s1 Q E0) s1 := by
      refine run_ofS (N := n__law_right) (ps := ["_law_pot_here"]) (us := [.ref p]) (vs := [.ref p]) lk hcd' sc__law_right hr I1.env0 (by have q := hb s1 [.ref p] I1.kIn rfl; rw [List.append_nil] at q; exact q) (.cons rfl .nil) rfl fun hr' => ?_
      obtain ⟨t, h1, h2⟩ := right_body (P := X.prog) (w := X.w) (base := X.base) (outer := X.stack) (s := s1) T ET TB hG hr' hp hn hT k
      exact ⟨t, PSs.nox h1, h2⟩
    refine wpAny_call (codeAny_mono rc fun r s2 hq => ?_)
    cases r with
    | error e => exact (show False from hq).elim
    | ok fl =>
      cases fl with
      | ret u => exact I1.after hq
      | next => exact False.elim hq
      | brk => exact False.elim hq
      | cont => exact False.elim hq
end K22
end

/-! # K26d -/
section
set_option Elab.async false
set_option linter.all false
set_option autoImplicit false
set_option maxRecDepth 100000
set_option maxHeartbeats 4000000
namespace K22
open PySem PySem.Spec PyProof.Rows L2
open He (ga ma fAd)
open Evl (Ex ex_l ex_t sq_of st_of fresh_back)
open LamX (Tabs TabS ExtN CodeO TabB run_ofS)
theorem sqL_exP {K : PySem.W.Frag} {H0 H H' : Hp} {p a : Addr} {xs : List V} (h : SqL K H0 a xs) (hp : H0 p = none) (e0 : Ex H0 H) (e : ExP p H H') : SqL K H' a xs := by
  rcases h with (h | ⟨o, h⟩) | h
  · exact .inl (.inl (e _ _ (ne_of_none h hp) (e0 _ _ h) fun _ z => nomatch z))
  · exact .inl (.inr ⟨o, e _ _ (ne_of_none h hp) (e0 _ _ h) fun _ z => nomatch z⟩)
  · exact .inr h
local macro_rules | `(tactic| walk_at "fx") => `(tactic| first
  | assumption
  | ((with_reducible apply TieAt.ex); (focus assumption); walk_at "fx")
  | ((with_reducible apply LinkAt.ex); (focus assumption); walk_at "fx")
  | ((with_reducible apply ex_l); (focus assumption); walk_at "fx")
  | ((with_reducible apply ex_t); (focus assumption); walk_at "fx")
  | ((with_reducible apply sq_of); walk_at "fx")
  | ((with_reducible apply st_of); walk_at "fx")
  | ((with_reducible apply ex_at); (focus assumption); walk_at "fx"))
local macro_rules | `(tactic| walk_at "s") => `(tactic| first
  | with_reducible refine w_seq ?_
  | ((with_reducible apply w_var); focus (exact rfl))
  | with_reducible refine w_c ?_
  | with_reducible refine w_op ?_
  | with_reducible refine w_cons ?_
  | with_reducible refine w_nil ?_
  | with_reducible refine w_asg ?_
  | with_reducible refine w_name ?_
  | with_reducible refine w_ret ?_
  | with_reducible refine w_retN ?_
  | with_reducible refine w_ifS ?_
  | with_reducible refine w_isB ?_
  | with_reducible refine w_test ?_
  | with_reducible refine w_tB ?_
  | with_reducible refine w_and ?_
  | with_reducible refine w_or ?_
  | with_reducible refine w_not ?_
  | with_reducible refine w_andV ?_
  | with_reducible refine w_orV ?_
  | with_reducible refine w_notV ?_
  | with_reducible refine w_if ?_
  | with_reducible refine w_iteT ?_
  | with_reducible refine w_iteF ?_
  | with_reducible refine w_iteNT ?_
  | with_reducible refine w_iteNF ?_
  | with_reducible refine w_un ?_
  | with_reducible refine w_call ?_
  | with_reducible refine w_cb ?_
  | with_reducible refine w_next ?_
  | with_reducible refine w_drop ?_
  | with_reducible refine w_for ?_
  | with_reducible refine w_dget0 ?_
  | with_reducible refine w_prsC ?_
  | with_reducible refine w_prsN ?_
  | with_reducible refine w_iZA ?_
  | with_reducible refine w_gSub ?_
  | with_reducible refine w_iR1 ?_
  | with_reducible refine w_p8 ?_
  | with_reducible refine w_p60 ?_
  | with_reducible refine w_p5 ?_
  | with_reducible refine w_p18 ?_
  | with_reducible refine w_p9 ?_
  | with_reducible refine w_p19 ?_
  | with_reducible refine w_p29 ?_
  | with_reducible refine w_m1 ?_
  | with_reducible refine w_kM1 ?_
  | with_reducible refine w_iStr ?_
  | with_reducible refine w_kStr ?_
  | with_reducible refine w_inS ?_
  | with_reducible refine w_sta ?_
  | with_reducible refine w_iEnumT ?_
  | with_reducible refine w_thn ?_
  | with_reducible refine w_chain ?_
  | with_reducible refine w_gAttr ?_
  | with_reducible refine w_isNr ?_
  | with_reducible refine w_iEnum ?_
  | ((with_reducible apply w_kEnum); focus (walk_at "fx"))
  | with_reducible refine w_sl3 ?_
  | with_reducible refine w_noPart ?_
  | with_reducible refine w_part ?_
  | with_reducible refine w_kPt ?_
  | with_reducible refine w_bm ?_
  | with_reducible refine w_ckw ?_
  | with_reducible refine w_tst ?_
  | with_reducible refine w_mk ?_
  | ((with_reducible apply w_psl); (focus (walk_at "fx")))
  | ((with_reducible apply w_mT); (focus (walk_at "fx")); (focus (exact rfl)))
  | ((with_reducible apply w_partner); (focus (walk_at "fx")))
  | ((with_reducible apply w_led); (focus (walk_at "fx")))
  | ((with_reducible apply w_spT); (focus (walk_at "fx")))
  | with_reducible refine w_lc ?_
  | with_reducible refine w_yes ?_
  | with_reducible refine w_gCons ?_
  | with_reducible refine w_gNil ?_
  | ((with_reducible apply w_gTup); (focus (walk_at "fx")); focus (exact rfl))
  | ((with_reducible apply w_minL2); focus (walk_at "fx"))
  | ((with_reducible apply w_slT); (focus assumption); (focus (walk_at "fx")))
  | ((with_reducible apply w_kIT); focus (walk_at "fx"))
  | ((with_reducible apply w_kIL); focus (walk_at "fx"))
  | with_reducible refine w_neg ?_
  | with_reducible refine w_tie ?_
  | with_reducible refine w_iT ?_
  | with_reducible refine w_iL ?_
  | with_reducible refine w_sFld ?_
  | with_reducible refine w_sSl ?_
  | with_reducible refine w_propSl ?_
  | with_reducible refine w_par ?_
  | with_reducible refine w_kPar ?_
  | with_reducible refine w_tup ?_
  | with_reducible refine w_lst ?_
  | with_reducible refine w_I0 ?_
  | with_reducible refine w_U ?_
  | with_reducible refine w_eqI ?_
  | with_reducible refine w_neI ?_
  | with_reducible refine w_eqS ?_
  | with_reducible refine w_neS ?_
  | with_reducible refine w_eqB ?_
  | with_reducible refine w_neB ?_
  | with_reducible refine w_isNn ?_
  | with_reducible refine w_isNr ?_
  | with_reducible refine w_isNi ?_
  | with_reducible refine w_notNn ?_
  | with_reducible refine w_notNr ?_
  | with_reducible refine w_notNi ?_
  | with_reducible refine w_xisN ?_
  | with_reducible refine w_fld ?_
  | with_reducible refine w_prop ?_
  | with_reducible refine w_meth ?_
  | ((with_reducible apply w_mod); focus assumption)
  | ((with_reducible apply w_mulW); (focus assumption); focus assumption)
  | ((with_reducible apply w_divW); (focus assumption); focus assumption)
  | with_reducible refine w_int1 ?_
  | with_reducible refine w_intB ?_
  | with_reducible refine w_min2 ?_
  | with_reducible refine w_max2 ?_
  | with_reducible refine w_abs ?_
  | with_reducible refine w_isiI ?_
  | with_reducible refine w_isiNB ?_
  | with_reducible refine w_isiB ?_
  | with_reducible refine w_isiS ?_
  | ((with_reducible apply w_isiT); (focus assumption); focus (walk_at "fx"))
  | ((with_reducible apply w_fTd); (focus assumption); focus (walk_at "fx"))
  | ((with_reducible apply w_fTb); (focus assumption); focus (walk_at "fx"))
  | ((with_reducible apply w_fTf); (focus assumption); focus (walk_at "fx"))
  | ((with_reducible apply w_fTs); (focus assumption); focus (walk_at "fx"))
  | ((with_reducible apply w_fTl); (focus assumption); focus (walk_at "fx"))
  | ((with_reducible apply w_fTa); (focus assumption); focus (walk_at "fx"))
  | ((with_reducible apply w_pT); focus (walk_at "fx"))
  | with_reducible refine w_sl ?_
  | ((with_reducible apply w_len); focus (walk_at "fx"))
  | ((with_reducible apply w_kT); focus (exact Nat.le_of_ble_eq_true rfl)))
local macro_rules | `(tactic| walk_at "ss") => `(tactic| repeat (walk_at "s"))
local macro_rules | `(tactic| walk_at "go") => `(tactic| ((try dsimp only [cxOf, Cx.nox, Cx.wish]); walk_at "ss"))
local macro_rules | `(tactic| walk_at "len") => `(tactic| (intro vs H Q E h; (repeat (obtain ⟨_, h⟩ := h)); all_goals (subst_vars; rfl)))
section
variable {P : Program} {w : World} {K : PySem.W.Frag} {mg : Str → Option Value} {base : Heap}
theorem law_body (T : Tx K mg) (ET : ErT P K mg base) {c P0 : Addr} (hcd : codIn K (ga K "_law_right") = some c) (TB : TabB base mg c P0) {A : Around} {outer : List Env} {s : Shared} {H : Hp} {a : Addr} {ns : List Int} {cdv : Value} {Q : VK} (hA : A.guards = some [])
    (hr : Room 22 (A.deeper (envOfC "law" (defScope s_law) s.heap.objs.size (ga K "law") cdv)))
    (ha : SqL K H a (ns.map V.int)) (hT : Tabs [(P0, lamQ)] H) (k : ∀ H', Q (.bl true) H') :
    ∃ t, PSs (cxOf CX0 P w K mg base n_law "law" (defScope s_law) (ga K "law") cdv A outer s H E0).nox (defBody s_law) t ∧ t { nx := fun _ H' => Q .non H', rt := Q } (L2.start n_law [.ref a]) H := by
  have hG : (cxOf CX0 P w K mg base n_law "law" (defScope s_law) (ga K "law") cdv A outer s H E0).nox.A.guards = some [] := hA
  refine ⟨_, (pss_cons (ps_for PassesOwn.never rfl (pi_list (c_fn (ok__law_cells T) (hr.mono (by decide)) T.m__law_cells T.kp__law_cells pass0 (pa_cons (pv 0) (pa_cons pe_int pa_nil)))) (pg_name (i := 1) sc_law.nd rfl (Or.inl rfl)) (pss_cons (ps_set (i := 2) sc_law.nd rfl (Or.inr rfl) (c_fn (ok__law_pot T) (hr.mono (by decide)) T.m__law_pot T.kp__law_pot pass0 (pa_cons (pv 0) (pa_cons (pv 1) pa_nil))))
      (pss_one (ps_if (pt_not (pt_val (pe_callB (cr_all rfl) (by rfl) T.b_all (by decide +kernel) (pa_cons (pe_lc (own := [("_law_lap", 3)]) (g := (gName 3)) rfl sc_law.nd (pi_range1 (by rfl) T.b_range (pa_cons pe_int pa_nil)) (blkOk_by (N := n_law) (sc := defScope s_law) (by decide +kernel)) (fun _ _ _ _ _ => (pg_name (i := 3) sc_law.nd rfl (Or.inl rfl))) (fun _ _ _ _ _ => pts_nil) (fun _ _ _ _ _ => (pe_right (c := c) (P0 := P0) T ET hcd TB hG (hr.mono (by decide)) (pa_cons (pv 2) pa_nil)))) pa_nil)))) (pss_one (ps_ret pe_bl)) pss_nil))))
      (pss_one (ps_ret pe_bl))), ?_⟩
  walk_at "go"
  refine ⟨a, _, rfl, ha, fun L H1 e1 hL => ?_⟩
  have ha1 : SqL K H1 a (ns.map V.int) := ex_l e1 ha
  have hT1 : Tabs [(P0, lamQ)] H1 := hT.ext e1
  have hmm : (max 1 (min 3 ((ns.map V.int).length : Int))) ≤ 3 := by omega
  generalize (max 1 (min 3 ((ns.map V.int).length : Int))) = mm at *
  refine w_kIL (sq_of hL) ?_
  refine w_kFor (walk_list (xs := rgV 0 mm)) (fun i σ' H' => ∃ b c d, σ' = [some (.ref a), b, c, d] ∧ SqL K H' a (ns.map V.int) ∧ Tabs [(P0, lamQ)] H' ∧ H' L = some (.lst (rgV 0 mm))) ⟨none, none, none, rfl, ha1, hT1, hL⟩ (fun i σ' H' _ q => ?_) (fun i v σ' H2 H2' hi q hy => ?_) (fun σ' H' q => ?_)
  · obtain ⟨b, c', d, rfl, h1, h2, h3⟩ := q
    exact sq_of h3
  · obtain ⟨b, c', d, rfl, h1, h2, h3⟩ := q
    obtain ⟨rfl, hy⟩ := hy
    obtain ⟨j, hj, rfl⟩ : ∃ j : Nat, j ≤ 10 ∧ v = .int (j : Nat) := by
      have hm := List.mem_of_getElem? hy
      unfold rgV at hm
      obtain ⟨j, hj, e⟩ := List.mem_map.mp hm
      have hj' := List.mem_range.mp hj
      refine ⟨j, by omega, ?_⟩
      rw [← e]
      congr 1
      omega
    walk_at "ss"
    refine ⟨a, ns, j, rfl, h1, hj, fun p H3 hp e3 hPot => ?_⟩
    have h13 : SqL K H3 a (ns.map V.int) := ex_l e3 h1
    have hLp : L ≠ p := fun z => by rw [← z, h3] at hp; cases hp
    walk_at "ss"
    refine w_kR1 (by decide) (by decide) ?_
    refine lcR (fun i acc H' => Rs [(P0, lamQ)] H3 p H' (100 * i) ∧ acc = (List.replicate i true).map V.bl) (fun D hD => ?_) (fun x => rfl) (fun D i H4 acc hD hi hAcc hI => ?_) fun D ys H5 hD hys hI => ?_
    · have r : Rs [(P0, lamQ)] H3 p H3 0 := ⟨fun _ _ _ h _ => h, hPot, h2.ext e3⟩
      exact ⟨r.ex (Ex.new hD), rfl⟩
    · obtain ⟨r, rfl⟩ := hI
      have hi' : i < 3 := hi
      have hDp : D ≠ p := fun z => by
        obtain ⟨_, _, _, q, _⟩ := hPot
        rw [z, q] at hD; cases hD
      have hNw : Nw H3 D := fun o q => by rw [hD] at q; cases q
      walk_at "ss"
      refine ⟨p, 100 * i, rfl, r.pot, by omega, r.tabs, fun H6 ep pot tabs => ?_⟩
      have hA6 := ep D _ hDp hAcc fun _ z => nomatch z
      have r6 : Rs [(P0, lamQ)] H3 p H6 (100 * (i + 1)) := ⟨fun b o nb h ht => ep b o nb (r.ep b o nb h ht) ht, pot.mono (by omega), tabs⟩
      refine ⟨_, hA6, Evl.sz_lt (by simp; omega), r6.up hNw hDp hA6, ?_⟩
      rw [List.replicate_succ']; simp
    · obtain ⟨r, rfl⟩ := hI
      refine w_all (bs := List.replicate 3 true) (sq_of hys) ?_
      walk_at "ss"
      exact ⟨_, _, _, rfl, sqL_exP h1 hp e3 r.ep, r.tabs, r.ep L _ hLp (e3 _ _ h3) fun _ z => nomatch z⟩
  · obtain ⟨b, c', d, rfl, h1, h2, h3⟩ := q
    walk_at "ss"
    exact k _
end
end K22
end

/-! # K27a -/
section
set_option Elab.async false
set_option linter.all false
set_option autoImplicit false
set_option maxRecDepth 100000
set_option maxHeartbeats 4000000
namespace K22
open PySem PySem.Spec PyProof.Rows L2
open He (ga ma fAd)
open LamX (Tabs TabS ExtN CodeO TabB run_ofS)
/-! ## the end: law called with the script -/
/-- what is told at the start: the table of the lambdas, the script where it is no part of the text -/
def Hst (K : PySem.W.Frag) (P0 a : Addr) (vs : List Value) (ns : List Int) : Hp := fun b =>
  if b = P0 then some (.tbl #[]) else if b = a ∧ K.lookup a = none then some (.frz { cls := .type "list", data := .seq vs.toArray } (.lst (ns.map V.int))) else none
section
variable {P : Program} {w : World} {K : PySem.W.Frag} {mg mb : Str → Option Value} {a c P0 : Addr} {s1 : Shared} {vs : List Value} {ns : List Int}
theorem hst_some {b : Addr} {u : HO} (h : Hst K P0 a vs ns b = some u) : (b = P0 ∧ u = .tbl #[]) ∨ (b = a ∧ b ≠ P0 ∧ K.lookup a = none ∧ u = .frz { cls := .type "list", data := .seq vs.toArray } (.lst (ns.map V.int))) := by
  unfold Hst at h
  by_cases h1 : b = P0
  · rw [if_pos h1] at h; cases h; exact .inl ⟨h1, rfl⟩
  · rw [if_neg h1] at h
    by_cases h2 : b = a ∧ K.lookup a = none
    · rw [if_pos h2] at h; cases h; exact .inr ⟨h2.1, h1, h2.2, rfl⟩
    · rw [if_neg h2] at h; cases h
theorem hst_none {b : Addr} {o : Obj} (ha : s1.heap.get? a = some { cls := .type "list", data := .seq vs.toArray }) (hT : s1.heap.get? P0 = some { cls := .none, data := .fields #[] }) (e : s1.heap.get? b = some o)
    (h1 : o.data ≠ .fields #[]) (h2 : ∀ xs n, o.data ≠ .seq xs n) : Hst K P0 a vs ns b = none := by
  cases q : Hst K P0 a vs ns b with
  | none => rfl
  | some u =>
    rcases hst_some q with ⟨rfl, _⟩ | ⟨rfl, _⟩
    · rw [hT] at e; cases e; exact absurd rfl h1
    · rw [ha] at e; cases e; exact absurd rfl (h2 _ _)
theorem law_callG (T : Tx K mg) (ET : ∀ base, (∃ K2 : PySem.W.Frag, K2.In base ∧ PySem.W.nsIn K2 cStatics "thirdparty.any" = some none) → ErT P K mg base) {K2 : PySem.W.Frag} (XO : K2.In s1.heap) (ho2 : PySem.W.nsIn K2 cStatics "thirdparty.any" = some none) (nK2 : ∀ b o, K2.lookup b = some o → o.data ≠ .fields #[] ∧ ∀ xs n, o.data ≠ .seq xs n) (hcd : codIn K (ga K "_law_right") = some c) (KX : K.In s1.heap) (hns : s1.heap.Ns mainGlobals mg) (hb : s1.heap.Ns builtinsNs mb) (hbb : ∀ x : Str, x ≠ "__name__" → mb x = bootBuiltins x) (hlim : s1.heap.NoLimit) (hg : s1.gens = #[])
    (hT : s1.heap.get? P0 = some { cls := .none, data := .fields #[] }) (nT : K.lookup P0 = none) (C : PySem.W.CodeHd s1.heap c P0)
    (hbm : ∃ (bm : Addr) (ob : Obj), mg "__builtins__" = some (.ref bm) ∧ bm ≠ builtinsNs ∧ s1.heap.get? bm = some ob ∧ ob.cls = .type "module" ∧ ob.dict = some builtinsNs ∧ ob.data = .plain)
    (ha : s1.heap.get? a = some { cls := .type "list", data := .seq vs.toArray }) (hi : IntsAre vs ns) (hl : ns.length ≤ sizeLine) (hr : Room 23 callerA) :
    codeAny (model P w) callerA (.call (.ref (ga K "law")) ⟨[.ref a], []⟩) (fun r s' => r = .ok (.ret (.bool true)) ∧ OldK s1.heap s'.heap ∧ s'.os = s1.os ∧ AllBare s'.gens) s1 := by
  have rv := vals_ints hi
  have lv := hi.length
  have haT : a ≠ P0 := fun z => by rw [z, hT] at ha; cases ha
  have nn : ∀ {b : Addr} {o : Obj}, s1.heap.get? b = some o → o.data ≠ .fields #[] → (∀ xs n, o.data ≠ .seq xs n) → Hst K P0 a vs ns b = none := fun e h1 h2 => hst_none ha hT e h1 h2
  have low : ∀ {b : Addr} {o : Obj}, s1.heap.get? b = some o → Hst K P0 a vs ns b = none → (hidT s1.heap (Hst K P0 a vs ns)).get? b = some o := fun e n => hidT_get e n
  have lowN : ∀ {b : Addr} {m : Str → Option Value}, s1.heap.Ns b m → (hidT s1.heap (Hst K P0 a vs ns)).Ns b m := fun {b m} ⟨o, es, ep, e, d, r⟩ =>
    ⟨o, es, ep, low e (nn e (by rw [d]; exact fun z => nomatch z) fun _ _ => by rw [d]; exact fun z => nomatch z), d, r⟩
  have lowK : K.In (hidT s1.heap (Hst K P0 a vs ns)) := fun b o e => low (KX b o e) (by
    cases q : Hst K P0 a vs ns b with
    | none => rfl
    | some u =>
      rcases hst_some q with ⟨rfl, _⟩ | ⟨rfl, _, z, _⟩
      · rw [nT] at e; cases e
      · rw [z] at e; cases e)
  have hM : L2.Mod K mg (hidT s1.heap (Hst K P0 a vs ns)) := ⟨lowK, lowN hns, ⟨mb, lowN hb, hbb⟩, let ⟨mc, h1, h2⟩ := hlim; ⟨mc, lowN h1, h2⟩⟩
  have TB : TabB (hidT s1.heap (Hst K P0 a vs ns)) mg c P0 := by
    refine ⟨?_, ?_, fun z => ?_⟩
    · obtain ⟨o, us, file, tf, flags, tg, inF, text, tt, e1, r1, r2, r3, rest⟩ := C
      refine ⟨o, us, file, tf, flags, tg, inF, text, tt, low e1 (nn e1 (fun z => ?_) fun _ _ z => ?_), r1, r2, r3, rest⟩
      · rw [r2] at z
        cases z
        simp at r3
      · rw [r2] at z; cases z
    · obtain ⟨bm, ob, b1, b2, b3, b4, b5, b6⟩ := hbm
      refine ⟨bm, ob, b1, b2, fun z => ?_, fun z => ?_, low b3 (nn b3 (by rw [b6]; exact fun z => nomatch z) fun _ _ => by rw [b6]; exact fun z => nomatch z), b4, b5, b6⟩
      · obtain ⟨o, es, ep, e, hd, _⟩ := hns
        rw [z, e] at b3
        cases b3
        rw [hd] at b6; cases b6
      · rw [z, hT] at b3
        cases b3; cases b6
    · obtain ⟨o, es, ep, e, hd, _⟩ := hns
      rw [z, hT] at e
      cases e; cases hd
  have hok : HOk P w (Hst K P0 a vs ns) s1.heap := fun b u q => by
    rcases hst_some q with ⟨rfl, rfl⟩ | ⟨rfl, _, _, rfl⟩
    · exact hT
    · exact ⟨ha, by rw [List.length_map]; exact hl, vs, _, rv, ha⟩
  have e0 : Env0 P w K mg (hidT s1.heap (Hst K P0 a vs ns)) callerA [] s1 (Hst K P0 a vs ns) :=
    ⟨rfl, hM, fun b o e => of_hidT e, Nat.le_of_eq (hidT_size _ _), trivial, fun b z => absurd (show b ∈ ([] : List Addr) from z) (by simp), hok, .of_eq hg⟩
  have hP0 : Hst K P0 a vs ns P0 = some (.tbl #[]) := if_pos rfl
  have hTs : Tabs [(P0, lamQ)] (Hst K P0 a vs ns) := fun p hp => by
    rw [List.mem_singleton.mp hp]
    exact LamX.TabS.nil hP0
  have hS : SqL K (Hst K P0 a vs ns) a (ns.map V.int) := by
    cases hk : K.lookup a with
    | none => exact .inl (.inr ⟨_, (if_neg haT).trans (if_pos ⟨rfl, hk⟩)⟩)
    | some o =>
      have e := KX a o hk
      rw [ha] at e
      cases e
      exact .inr ⟨_, vs.toArray, _, hk, rfl, rfl, rfl, by rw [List.size_toArray, lv]; exact hl, by simpa using rv⟩
  obtain ⟨fd, F⟩ := T.f_law
  have hbi := F.bindsN (ps := ["_law_script"]) (fun _ _ _ _ _ _ us hl => match us, hl with | [_], _ => rfl)
  obtain ⟨oc, od, dV, kV, doc, pm', an, cdv, ct, osl, rfl, lk, hcd', _, _⟩ := F.ex
  have rc : codeAny (model P w) callerA (.call (.ref (ga K "law")) ⟨[.ref a], []⟩) (CR CX0 [] P w (Hst K P0 a vs ns) s1 (fun v _ => v = .bl true) E0) s1 := by
    refine run_ofS (N := n_law) (ps := ["_law_script"]) (us := [.ref a]) (vs := [.ref a]) lk hcd' sc_law hr e0 (by have q := hbi s1 [.ref a] KX rfl; rw [List.append_nil] at q; exact q) (.cons rfl .nil) rfl fun hr' => ?_
    obtain ⟨t, h1, h2⟩ := law_body (P := P) (w := w) (outer := []) (s := s1) (Q := fun v _ => v = .bl true) T (ET _ ⟨K2, fun b o e => low (XO b o e) (nn (XO b o e) (nK2 b o e).1 (nK2 b o e).2), ho2⟩) hcd TB rfl hr' hS hTs fun _ => rfl
    exact ⟨t, PSs.nox h1, h2⟩
  refine codeAny_mono rc fun r s2 h => ?_
  cases r with
  | error e => exact (show False from h).elim
  | ok fl =>
    cases fl with
    | next => exact False.elim h
    | brk => exact False.elim h
    | cont => exact False.elim h
    | ret u =>
      obtain ⟨v, H', os, bare, un, hok', r', rfl⟩ := h
      obtain rfl : u = Value.bool true := r'
      have key : ∀ b o, b ≠ P0 → s1.heap.get? b = some o → s2.heap.get? b = some o := fun b o nb e => by
        cases q : Hst K P0 a vs ns b with
        | none => exact un.keep b o e q (fun z => absurd (show b ∈ ([] : List Addr) from z) (by simp)) (by simp)
        | some u =>
          rcases hst_some q with ⟨z, _⟩ | ⟨rfl, _, _, rfl⟩
          · exact absurd z nb
          · obtain ⟨e1, _⟩ := hok b _ q
            obtain ⟨e2, _⟩ := hok' b _ (un.frzs b _ _ q)
            rw [e] at e1; cases e1
            exact e2
      obtain ⟨more, z⟩ := un.tbls P0 #[] hP0
      have hm : s2.heap.get? P0 = some { cls := .none, data := .fields (#[] ++ more) } := hok' P0 _ z
      refine ⟨rfl, ⟨fun b o e => ?_, fun b o e => ?_⟩, os, bare⟩
      · by_cases hb : b = P0
        · subst hb
          rw [hT] at e
          cases e
          exact .inr (.inl ⟨(C.tab hT).isCodeTable, rfl, #[], more, rfl, hm⟩)
        · exact .inl (key b o hb e)
      · by_cases hb : b = P0
        · rw [hb]; exact ⟨_, hm⟩
        · exact ⟨o, key b o hb e⟩
end
end K22
end

/-! # K28c -/
section
set_option Elab.async false
set_option linter.all false
set_option autoImplicit false
set_option maxRecDepth 100000
set_option maxHeartbeats 4000000
namespace K22
open PySem PySem.Spec PyProof.Rows L2
open He (ga ma fAd)
section
variable {K : PySem.W.Frag} {h : Heap} {mg : Str → Option Value} {w : World}
theorem SaysY.ex (c : SaysY w h K) : exB K = true ∧ (∀ (i : Nat) (b : PySem.W.Frag → Bool), clL[i]? = some b → b K = true) ∧ teC K pfile = true := by
  obtain ⟨h1, h2⟩ := Bool.and_eq_true_iff.mp (show (exB K && ((clL.all fun b => b K) && teC K pfile)) = true from c.x.more)
  obtain ⟨h3, h4⟩ := Bool.and_eq_true_iff.mp h2
  exact ⟨h1, fun i b hb => List.all_eq_true.mp h3 b (List.mem_of_getElem? hb), h4⟩
theorem SaysY.tx (c : SaysY w h K) (X : K.In h) (G : h.Ns mainGlobals mg) : Tx K mg := by
  have cd := c.x.t.d
  obtain ⟨e1, e2⟩ := Bool.and_eq_true_iff.mp (show ((exL.all fun b => b K) && gs.all fun d => okG K d) = true from c.ex.1)
  refine ⟨fun i d hd => cd.def_ i hd, fun i d hd => ?_, fun i x hx => cd.fact i hx, fun i b hb => List.all_eq_true.mp e1 b (List.mem_of_getElem? hb), fun x => He.glo_ok X G, fun x => He.free_ok X G, fun x i => He.int_ok X G, fun x z => He.str_ok X G⟩
  have e3 : (gs.map fun d => fnG K d.at_)[i]? = (gs.map fun d => d.val)[i]? := by rw [c.g]
  rw [List.getElem?_map, List.getElem?_map, hd] at e3
  exact funG (Option.some.inj e3) (List.all_eq_true.mp e2 d (List.mem_of_getElem? hd))
theorem excB_ok {C : Addr} (q : excB K C = true) : ∃ nm q N bs bm sn sub ab col dd k0 k1 k2 k3 k5, K.lookup C = some (excClassObj nm q C N bs bm true sn sub ab col dd k0 k1 k2 k3 k5 "ValueError.__new__") ∧ HandSPX.refsVE bm = true := by
  unfold excB at q
  split at q
  · rename_i dd cd sl ho
    split at q
    · rename_i C' bm k0 k1 k2 k3 n k5 hm hs
      simp only [Bool.and_eq_true, decide_eq_true_eq, Bool.not_eq_true'] at q
      obtain ⟨⟨⟨⟨q1, q2⟩, q3⟩, q4⟩, q5⟩ := q
      subst q1 q2
      obtain ⟨nm, bs, mro, ns, qn, hd, sn, sb, ab, col, del⟩ := cd
      obtain ⟨sl⟩ := sl
      dsimp only at hm hs q3 q4
      subst hm hs q3 q4
      exact ⟨nm, qn, ns, bs, bm, sn, sb, ab, col, dd, k0, k1, k2, k3, k5, ho, q5⟩
    · cases q
  · cases q
theorem SaysY.fn (c : SaysY w h K) : ∃ (oc : Value) (od : Option Addr) (doc pm : Value) (an : Option Addr) (cda cc : Addr) (ct : Value) (osl : Array (Option Value)) (p1 p2 : Pos) (ccl cl : Value) (cdd cld : Option Addr) (ccs csl : Array (Option Value)) (vs : Array Value) (tf : Tok),
    K.lookup (iniA K) = some ⟨oc, od, .func (PySem.W.ksFn "__init__" "TuneError.__init__" (teA p1 p2) teB teS .none .none doc pm an (.ref cda) ct cc), osl⟩ ∧ PySem.W.codeIn K (.ref cda) "TuneError.__init__" = true ∧
    K.lookup cda = some ⟨ccl, cdd, .fields vs, ccs⟩ ∧ vs[2]? = some (.str pfile tf) ∧ K.lookup cc = some ⟨cl, cld, .cell (some (.ref (ga K "TuneError"))), csl⟩ := by
  have hv := c.te
  have hc := c.ex.2.2
  unfold teV at hv
  unfold teC at hc
  split at hv
  · rename_i oc od fd osl ho
    rw [ho] at hc
    obtain ⟨m1, m2, m3, m4, m5, m6, m7, m8, m9, m10, m11, m12, m13, m14, m15⟩ := fd
    unfold teVal at hv
    injection hv with hv
    injection hv with a1 hv
    injection hv with a2 hv
    injection hv with a3 hv
    injection hv with a4 hv
    injection hv with a5 hv
    injection hv with a6 a7
    dsimp only at hc a1 a2 a3 a4 a5 a6 a7
    subst a1 a2 a3 a4 a5 a6 a7
    simp only [Bool.and_eq_true, decide_eq_true_eq] at hc
    obtain ⟨⟨d1, d2⟩, hc⟩ := hc
    subst d1 d2
    split at hc
    · rename_i cda x cc
      simp only [Bool.and_eq_true, decide_eq_true_eq] at hc
      obtain ⟨⟨⟨d3, d4⟩, d5⟩, d6⟩ := hc
      subst d3
      split at d5
      · rename_i ccl cdd vs ccs hcda
        split at d5
        · rename_i f tk hf
          have d5 := of_decide_eq_true d5
          subst d5
          split at d6
          · rename_i cl cld D csl hcc
            have d6 := of_decide_eq_true d6
            subst d6
            exact ⟨oc, od, _, _, _, cda, cc, _, osl, _, _, ccl, cl, cdd, cld, ccs, csl, vs, tk, ho, d4, hcda, hf, hcc⟩
          · cases d6
        · cases d5
      · cases d5
    · cases hc
  · cases hv
theorem SaysY.er {P : Program} {base : Heap} (c : SaysY w h K) (hop : ∃ K2 : PySem.W.Frag, K2.In base ∧ PySem.W.nsIn K2 cStatics "thirdparty.any" = some none) (X : K.In h) (G : h.Ns mainGlobals mg) (hf : ((P.main.file : Str) == pfile) = true) (hs : (P.main.scope.names.lookup ("super" : Str)).isSome = false) : ErT P K mg base := by
  have T := c.tx X G
  have q := c.ex.2.1
  refine ⟨⟨hop, ⟨pfile, ga K "TuneError", iniA K, ⟨T.m_Clash, T.b_super, excB_ok (q 0 _ rfl), ?_, of_decide_eq_true (q 2 _ rfl), of_decide_eq_true (q 3 _ rfl), of_decide_eq_true (q 4 _ rfl), of_decide_eq_true (q 5 _ rfl), of_decide_eq_true (q 6 _ rfl), of_decide_eq_true (q 7 _ rfl), q 8 _ rfl,
    of_decide_eq_true (q 9 _ rfl), of_decide_eq_true (q 10 _ rfl), of_decide_eq_true (q 11 _ rfl), q 12 _ rfl, of_decide_eq_true (q 13 _ rfl), of_decide_eq_true (q 14 _ rfl), c.fn⟩, hf, hs⟩⟩, of_decide_eq_true (q 15 _ rfl)⟩
  exact Option.isSome_iff_exists.mp (q 1 _ rfl)
theorem SaysY.st2 (c : SaysY w h K) : ∃ K2 : PySem.W.Frag, K2.In h ∧ PySem.W.nsIn K2 cStatics "thirdparty.any" = some none ∧ ∀ b o, K2.lookup b = some o → o.data ≠ .fields #[] ∧ ∀ xs n, o.data ≠ .seq xs n := by
  obtain ⟨K2, X2, q⟩ := c.st
  obtain ⟨q1, q2⟩ := Bool.and_eq_true_iff.mp q
  refine ⟨K2, X2, of_decide_eq_true q1, fun b o e => ?_⟩
  have z := List.all_eq_true.mp q2 _ (PySem.W.mem_of_lookupK e)
  dsimp only at z
  split at z
  · rename_i es n hd
    rw [hd]
    exact ⟨(fun z => nomatch z), fun _ _ z => nomatch z⟩
  · cases z
end
end K22
end

set_option Elab.async false
set_option linter.all false
set_option autoImplicit false
set_option maxRecDepth 100000
set_option maxHeartbeats 0
open PySem PySem.W PySem.Calls PyProof.Rows
theorem PySem.Challenge.cw_turnedtunes_k22_whole_two_climbs_as_one_holds : PySem.Challenge.rw_turnedtunes_k22_whole_two_climbs_as_one.Holds := by
  w_on; o_law
  refine HandSHeadRun.head_any (r := OpenLaw.row PySem.Challenge.rw_turnedtunes_k22_whole_two_climbs_as_one) (q := view (OpenLaw.row PySem.Challenge.rw_turnedtunes_k22_whole_two_climbs_as_one).prog [101]) (H := K22.hookY) (ob := K22.ob) (M := 60000) (loose := K22.loose)
    (d := HandSHeadRun.topDef (OpenLaw.row PySem.Challenge.rw_turnedtunes_k22_whole_two_climbs_as_one).prog 101) (kwd := []) K22.ob_eq
    (by kernel_rfl) (fun s => by kernel_rfl) K22.run (by kernel_rfl) (by kernel_rfl) (by kernel_rfl) (by rfl) (by first | assumption | decide +kernel) (by decide +kernel) ⟨rfl, rfl, rfl, rfl, rfl, by decide +kernel⟩ ?hw ?hc
  case hw => w_witness2
  case hc =>
    refine Att.attach_callB (n := 63) rfl (by kernel_rfl) fun w s0 s1 mg mb f o pm cd doc a vs ns G Y ho hd hcd hmg hobj hints hlen hbits hg => ?_
    obtain ⟨K, KX, c⟩ := Y
    have T := c.tx KX G.T.g
    have hm : mg ("law" : PySem.Str) = some (.ref f) := by
      have e : (HandSHeadRun.topDef (OpenLaw.row PySem.Challenge.rw_turnedtunes_k22_whole_two_climbs_as_one).prog 101).name = ("law" : PySem.Str) := by kernel_rfl
      rw [← e]
      exact hmg
    obtain rfl : f = He.ga K "law" := by
      have e := hm.symm.trans T.m_law
      cases e
      rfl
    have hp : (("_law_right", none) : He.Defn) ∈ K22.tf := List.mem_singleton.mpr rfl
    obtain ⟨K2, X2, ho2, nK2⟩ := c.st2
    exact K22.law_callG T (fun base hop => c.er hop KX G.T.g (by decide +kernel) (by decide +kernel)) X2 ho2 nK2 (of_decide_eq_true (c.ex.2.1 16 _ rfl)) KX G.T.g G.T.b G.T.builtins G.T.nolimit hg (c.x.empty _ hp) (c.x.out _ hp) (codeHd_of_K KX (c.x.hd _ hp)) G.T.bmain hobj hints (Nat.le_trans hlen (by decide)) ⟨rfl, by decide, by decide⟩
